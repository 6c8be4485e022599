import PyProof.Rows.All
import Wide.All
import OpenK.AllK
import Wide.FinOn
import HandS.ForMost
import HandS.TupAny
import HandS.Zip
import KE.SortData
import KE.DataMinMax
import KE.DataEq
import KE.DataFind
import HandS.Style
import HandS.Dict
import HandS.Deep
import PySem.Challenge.RW_firescore_k75_packs_by_all_counts
set_option Elab.async false
set_option linter.all false
set_option autoImplicit false
set_option maxRecDepth 100000
set_option maxHeartbeats 4000000
/-! Pu: the hand layer's readings over pure data: slots hold data, own lists, a state; no addresses. -/
namespace Pu
open PySem L2

abbrev D := PyData
mutual
/-- the value v reads as the datum d in the frozen part F of the heap -/
inductive Rp (F : Hp) : V → D → Prop
  | non : Rp F .non .none
  | bl (b : Bool) : Rp F (.bl b) (.bool b)
  | int (i : Int) : Rp F (.int i) (.int i)
  | str (x : Str) : Rp F (.str x) (.str x)
  | lst {a : Addr} {xs : List V} {ds : List D} : Rd F a (.lst xs) → RpA F xs ds → Rp F (.ref a) (.list ds)
  | tup {a : Addr} {xs : List V} {ds : List D} : F a = some (.tup xs) → RpA F xs ds → Rp F (.ref a) (.tuple ds)
inductive RpA (F : Hp) : List V → List D → Prop
  | nil : RpA F [] []
  | cons {v : V} {vs : List V} {d : D} {ds : List D} : Rp F v d → RpA F vs ds → RpA F (v :: vs) (d :: ds)
end
theorem rd_mono {F G : Hp} {a : Addr} {u : HO} (e : Same F G) (h : Rd F a u) : Rd G a u := by
  rcases h with h | ⟨o, h⟩
  · exact .inl (e _ _ h)
  · exact .inr ⟨o, e _ _ h⟩
mutual
theorem Rp.mono {F G : Hp} (e : Same F G) : ∀ (d : D) {v : V}, Rp F v d → Rp G v d
  | .none, _, h => by cases h; exact .non
  | .bool b, _, h => by cases h; exact .bl b
  | .int i, _, h => by cases h; exact .int i
  | .str x, _, h => by cases h; exact .str x
  | .list ds, _, h => by
    cases h with
    | lst h1 h2 => exact .lst (rd_mono e h1) (RpA.mono e ds h2)
  | .tuple ds, _, h => by
    cases h with
    | tup h1 h2 => exact .tup (e _ _ h1) (RpA.mono e ds h2)
  | .dict _, _, h => by cases h
theorem RpA.mono {F G : Hp} (e : Same F G) : ∀ (ds : List D) {vs : List V}, RpA F vs ds → RpA G vs ds
  | [], _, h => by cases h; exact .nil
  | d :: ds, _, h => by
    cases h with
    | cons h1 h2 => exact .cons (Rp.mono e d h1) (RpA.mono e ds h2)
end
theorem Rp.up {F G : Hp} {d : D} {v : V} (h : Rp F v d) (e : Same F G) : Rp G v d := Rp.mono e d h
theorem RpA.up {F G : Hp} {ds : List D} {vs : List V} (h : RpA F vs ds) (e : Same F G) : RpA G vs ds := RpA.mono e ds h
theorem sqL_rd {K : PySem.W.Frag} {F H : Hp} {a : Addr} {xs : List V} (h : Rd F a (.lst xs)) (e : Same F H) : SqL K H a xs := .inl (rd_mono e h)
theorem sqT_rd {K : PySem.W.Frag} {F H : Hp} {a : Addr} {xs : List V} (h : F a = some (.tup xs)) (e : Same F H) : SqT K H a xs := .inl (.inl (e _ _ h))
mutual
theorem Rp.dp {K : PySem.W.Frag} {F H : Hp} (e : Same F H) : ∀ (d : D) {v : V}, Rp F v d → Dp K H v d
  | .none, _, h => by cases h; exact .non
  | .bool b, _, h => by cases h; exact .bl b
  | .int i, _, h => by cases h; exact .int i
  | .str x, _, h => by cases h; exact .str x
  | .list ds, _, h => by
    cases h with
    | lst h1 h2 => exact .lst (sqL_rd h1 e) (RpA.dp e ds h2)
  | .tuple ds, _, h => by
    cases h with
    | tup h1 h2 => exact .tup (sqT_rd h1 e) (RpA.dp e ds h2)
  | .dict _, _, h => by cases h
theorem RpA.dp {K : PySem.W.Frag} {F H : Hp} (e : Same F H) : ∀ (ds : List D) {vs : List V}, RpA F vs ds → DpAll K H vs ds
  | [], _, h => by cases h; exact .nil
  | d :: ds, _, h => by
    cases h with
    | cons h1 h2 => exact .cons (Rp.dp e d h1) (RpA.dp e ds h2)
end
section
variable {F : Hp}
theorem Rp.int_inv {v : V} {i : Int} (h : Rp F v (.int i)) : v = .int i := by cases h; rfl
theorem Rp.bl_inv {v : V} {b : Bool} (h : Rp F v (.bool b)) : v = .bl b := by cases h; rfl
theorem Rp.str_inv {v : V} {x : Str} (h : Rp F v (.str x)) : v = .str x := by cases h; rfl
theorem Rp.non_inv {v : V} (h : Rp F v .none) : v = .non := by cases h; rfl
theorem Rp.lst_inv {v : V} {ds : List D} (h : Rp F v (.list ds)) : ∃ a xs, v = .ref a ∧ Rd F a (.lst xs) ∧ RpA F xs ds := by
  cases h with
  | lst h1 h2 => exact ⟨_, _, rfl, h1, h2⟩
theorem Rp.tup_inv {v : V} {ds : List D} (h : Rp F v (.tuple ds)) : ∃ a xs, v = .ref a ∧ F a = some (.tup xs) ∧ RpA F xs ds := by
  cases h with
  | tup h1 h2 => exact ⟨_, _, rfl, h1, h2⟩
theorem RpA.len : ∀ {vs : List V} {ds : List D}, RpA F vs ds → vs.length = ds.length
  | _, [], h => by cases h; rfl
  | _, d :: ds, h => by
    cases h with
    | cons h1 h2 => simp [RpA.len h2]
theorem RpA.get : ∀ {vs : List V} {ds : List D} {k : Nat} {d : D}, RpA F vs ds → ds[k]? = some d → ∃ v, vs[k]? = some v ∧ Rp F v d
  | _, [], k, d, h, e => by simp at e
  | _, a :: ds, 0, d, h, e => by
    cases h with
    | cons h1 h2 =>
      simp at e
      subst e
      exact ⟨_, rfl, h1⟩
  | _, a :: ds, k + 1, d, h, e => by
    cases h with
    | cons h1 h2 =>
      obtain ⟨v, e1, e2⟩ := RpA.get (k := k) h2 (by simpa using e)
      exact ⟨v, by simpa using e1, e2⟩
theorem RpA.get' : ∀ {vs : List V} {ds : List D} {k : Nat} {v : V}, RpA F vs ds → vs[k]? = some v → ∃ d, ds[k]? = some d ∧ Rp F v d := fun {vs ds k v} h e => by
  have hk : k < ds.length := by rw [← h.len]; exact (List.getElem?_eq_some_iff.mp e).1
  obtain ⟨w, e1, e2⟩ := h.get (List.getElem?_eq_getElem hk)
  rw [e] at e1
  cases e1
  exact ⟨_, List.getElem?_eq_getElem hk, e2⟩
theorem RpA.app : ∀ {vs ws : List V} {ds es : List D}, RpA F vs ds → RpA F ws es → RpA F (vs ++ ws) (ds ++ es)
  | _, _, [], es, h, g => by cases h; exact g
  | _, _, d :: ds, es, h, g => by
    cases h with
    | cons h1 h2 => exact .cons h1 (RpA.app h2 g)
theorem RpA.take : ∀ {vs : List V} {ds : List D} (n : Nat), RpA F vs ds → RpA F (vs.take n) (ds.take n)
  | _, _, 0, h => by simp; exact .nil
  | _, [], n + 1, h => by cases h; exact .nil
  | _, d :: ds, n + 1, h => by
    cases h with
    | cons h1 h2 => exact .cons h1 (RpA.take n h2)
theorem RpA.drop : ∀ {vs : List V} {ds : List D} (n : Nat), RpA F vs ds → RpA F (vs.drop n) (ds.drop n)
  | _, _, 0, h => by simpa using h
  | _, [], n + 1, h => by cases h; exact .nil
  | _, d :: ds, n + 1, h => by
    cases h with
    | cons h1 h2 => exact RpA.drop n h2
theorem RpA.set : ∀ {vs : List V} {ds : List D} {v : V} {d : D} (n : Nat), RpA F vs ds → Rp F v d → RpA F (vs.set n v) (ds.set n d)
  | _, [], _, _, n, h, g => by cases h; exact .nil
  | _, e :: ds, _, _, 0, h, g => by
    cases h with
    | cons h1 h2 => exact .cons g h2
  | _, e :: ds, _, _, n + 1, h, g => by
    cases h with
    | cons h1 h2 => exact .cons h1 (RpA.set n h2 g)
theorem RpA.ints : ∀ (ns : List Int), RpA F (ns.map V.int) (ns.map PyData.int)
  | [] => .nil
  | n :: ns => .cons (.int n) (RpA.ints ns)
theorem RpA.ints_inv : ∀ {ns : List Int} {vs : List V}, RpA F vs (ns.map PyData.int) → vs = ns.map V.int
  | [], _, h => by cases h; rfl
  | n :: ns, _, h => by
    cases h with
    | cons h1 h2 =>
      rw [h1.int_inv, RpA.ints_inv h2]
      rfl
theorem RpA.rev {vs : List V} {ds : List D} (h : RpA F vs ds) : RpA F vs.reverse ds.reverse := by
  induction ds generalizing vs with
  | nil => cases h; exact .nil
  | cons d ds ih =>
    cases h with
    | cons h1 h2 =>
      rw [List.reverse_cons, List.reverse_cons]
      exact (ih h2).app (.cons h1 .nil)
end

/-! ### state, slots, the world -/
inductive Stt where
  | two (a b : Int)
  | cel (a : Int) (cs : List Int)
  | dct (kvs : List (Int × Int))
def StAt (H : Hp) : Stt → Addr → List Addr → Prop
  | .two a b, s, as => as = [s] ∧ H s = some (.lst [.int a, .int b])
  | .cel a cs, s, as => ∃ c, as = [s, c] ∧ s ≠ c ∧ H s = some (.lst [.int a, .ref c]) ∧ H c = some (.lst (cs.map V.int))
  | .dct kvs, s, as => as = [s] ∧ H s = some (.dK (kvs.map fun p => ((.inl p.1 : Key), V.int p.2)))
inductive Slot where
  | emp
  | val (d : D)
  | own (ds : List D)
  | st (S : Stt)
abbrev Env := List Slot
structure Base where
  F0 : Hp
  H0 : Hp
  M : Addr → Prop
  pin : Option (Addr × List Addr) := none
/-- from (F, H) to (F', H'): all is kept but what M has -/
structure Gr (M : Addr → Prop) (F H F' H' : Hp) : Prop where
  ff : Same F F'
  fh : Same F' H'
  kp : ∀ a o, H a = some o → ¬ M a → H' a = some o
  al : ∀ a, H a ≠ none → H' a ≠ none
  fr : ∀ a, H a ≠ none → F a = none → F' a = none
theorem Gr.refl {M : Addr → Prop} {F H : Hp} (e : Same F H) : Gr M F H F H := ⟨Same.refl F, e, fun _ _ h _ => h, fun _ h => h, fun _ _ h => h⟩
theorem Gr.trans {M M1 M2 : Addr → Prop} {F H F1 H1 F2 H2 : Hp} (a : Gr M1 F H F1 H1) (b : Gr M2 F1 H1 F2 H2) (i1 : ∀ x, H x ≠ none → M1 x → M x) (i2 : ∀ x, H x ≠ none → M2 x → M x) : Gr M F H F2 H2 :=
  ⟨a.ff.trans b.ff, b.fh, fun x o h m => b.kp x o (a.kp x o h fun z => m (i1 x (by rw [h]; intro q; cases q) z)) fun z => m (i2 x (by rw [h]; intro q; cases q) z), fun x h => b.al x (a.al x h), fun x h e => b.fr x (a.al x h) (a.fr x h e)⟩
/-- nothing changes -/
abbrev Non : Addr → Prop := fun _ => False

def SlotOk (B : Base) (F H : Hp) : Slot → Option (Option V) → List Addr → Prop
  | .emp, _, as => as = []
  | .val d, x, as => as = [] ∧ ∃ v, x = some (some v) ∧ Rp F v d
  | .own ds, x, as => ∃ p vs, as = [p] ∧ B.H0 p = none ∧ x = some (some (.ref p)) ∧ H p = some (.lst vs) ∧ RpA F vs ds
  | .st S, x, as => ∃ s, x = some (some (.ref s)) ∧ StAt H S s as
/-- a state that came as the first argument stays where it is -/
def PinOk (B : Base) (ad : Nat → List Addr) (ρ : Env) (σ : St) : Prop := ∀ s as, B.pin = some (s, as) → ∀ S, ρ[0]? = some (Slot.st S) → σ[0]? = some (some (.ref s)) ∧ ad 0 = as
theorem PinOk.to {B : Base} {ad ad' : Nat → List Addr} {ρ ρ' : Env} {σ σ' : St} (h : PinOk B ad ρ σ) (k : ∀ S, ρ'[0]? = some (Slot.st S) → (∃ S', ρ[0]? = some (Slot.st S')) ∧ σ'[0]? = σ[0]? ∧ ad' 0 = ad 0) : PinOk B ad' ρ' σ' := fun s as e S q => by
  obtain ⟨⟨S', e1⟩, e2, e3⟩ := k S q
  rw [e2, e3]
  exact h s as e S' e1
structure WA (B : Base) (ad : Nat → List Addr) (ρ : Env) (σ : St) (F H : Hp) : Prop where
  gr : Gr B.M B.F0 B.H0 F H
  len : σ.length = ρ.length
  sl : ∀ i s, ρ[i]? = some s → SlotOk B F H s σ[i]? (ad i)
  fz : ∀ i p, p ∈ ad i → F p = none ∧ (B.H0 p = none ∨ B.M p)
  dj : ∀ i j p, p ∈ ad i → p ∈ ad j → i = j
  out : ∀ i, ρ[i]? = none → ad i = []
  pin : PinOk B ad ρ σ
def W (B : Base) (ρ : Env) (σ : St) (F H : Hp) : Prop := ∃ ad, WA B ad ρ σ F H
/-- the addresses of the states -/
def MS (ad : Nat → List Addr) (ρ : Env) (a : Addr) : Prop := ∃ (i : Nat) (S : Stt), ρ[i]? = some (Slot.st S) ∧ a ∈ ad i
/-- behind an expression -/
structure Post (B : Base) (ad : Nat → List Addr) (σ : St) (ρ : Env) (F H : Hp) (ρ' : Env) (F' H' : Hp) : Prop where
  wa : WA B ad ρ' σ F' H'
  gr : Gr (MS ad ρ) F H F' H'
  sh : ∀ (i : Nat) (S' : Stt), ρ'[i]? = some (Slot.st S') → ∃ S, ρ[i]? = some (Slot.st S)
section
variable {B : Base} {ad : Nat → List Addr} {ρ ρ' ρ1 ρ2 : Env} {σ : St} {F H F' H' F1 H1 F2 H2 : Hp}
theorem Post.refl (w : WA B ad ρ σ F H) : Post B ad σ ρ F H ρ F H := ⟨w, Gr.refl w.gr.fh, fun i S h => ⟨S, h⟩⟩
theorem Post.trans (a : Post B ad σ ρ F H ρ1 F1 H1) (b : Post B ad σ ρ1 F1 H1 ρ2 F2 H2) : Post B ad σ ρ F H ρ2 F2 H2 :=
  ⟨b.wa, a.gr.trans b.gr (fun _ _ h => h) fun x _ ⟨i, S, h, m⟩ => let ⟨S', h'⟩ := a.sh i S h; ⟨i, S', h', m⟩, fun i S h => let ⟨S1, h1⟩ := b.sh i S h; a.sh i S1 h1⟩
theorem WA.lv (w : WA B ad ρ σ F H) {i : Nat} {p : Addr} (h : p ∈ ad i) : H p ≠ none := by
  cases e : ρ[i]? with
  | none => rw [w.out i e] at h; cases h
  | some s =>
    have k := w.sl i s e
    cases s with
    | emp => have k : ad i = [] := k; rw [k] at h; cases h
    | val d => have k : ad i = [] := k.1; rw [k] at h; cases h
    | own ds =>
      obtain ⟨q, vs, k, _, _, k2, _⟩ := k
      rw [k] at h
      have e : p = q := by simpa using h
      rw [e, k2]
      intro z; cases z
    | st S =>
      obtain ⟨s, _, k⟩ := k
      cases S with
      | two a b =>
        obtain ⟨k, k2⟩ := k
        rw [k] at h
        have e : p = s := by simpa using h
        rw [e, k2]
        intro z; cases z
      | dct kvs =>
        obtain ⟨k, k2⟩ := k
        rw [k] at h
        have e : p = s := by simpa using h
        rw [e, k2]
        intro z; cases z
      | cel a cs =>
        obtain ⟨c, k, _, k2, k3⟩ := k
        rw [k] at h
        have e : p = s ∨ p = c := by simpa using h
        rcases e with e | e
        · rw [e, k2]
          intro z; cases z
        · rw [e, k3]
          intro z; cases z
/-- nothing tracked changes, F grows -/
theorem WA.grow (w : WA B ad ρ σ F H) (g : Gr Non F H F' H') : WA B ad ρ σ F' H' where
  gr := w.gr.trans g (fun _ _ h => h) fun _ _ h => h.elim
  len := w.len
  sl := fun i s h => by
    have k := w.sl i s h
    cases s with
    | emp => exact k
    | val d =>
      obtain ⟨k, v, e, r⟩ := k
      exact ⟨k, v, e, r.up g.ff⟩
    | own ds =>
      obtain ⟨p, vs, k, k0, k1, k2, r⟩ := k
      exact ⟨p, vs, k, k0, k1, g.kp _ _ k2 id, r.up g.ff⟩
    | st S =>
      obtain ⟨s, k1, k⟩ := k
      refine ⟨s, k1, ?_⟩
      cases S with
      | two a b => exact ⟨k.1, g.kp _ _ k.2 id⟩
      | dct kvs => exact ⟨k.1, g.kp _ _ k.2 id⟩
      | cel a cs =>
        obtain ⟨c, k, kn, k2, k3⟩ := k
        exact ⟨c, k, kn, g.kp _ _ k2 id, g.kp _ _ k3 id⟩
  fz := fun i p h => ⟨g.fr p (w.lv h) (w.fz i p h).1, (w.fz i p h).2⟩
  dj := w.dj
  out := w.out
  pin := w.pin
theorem Post.of (w : WA B ad ρ σ F H) (g : Gr Non F H F' H') : Post B ad σ ρ F H ρ F' H' := ⟨w.grow g, ⟨g.ff, g.fh, fun a o h _ => g.kp a o h id, g.al, g.fr⟩, fun i S h => ⟨S, h⟩⟩
theorem Gr.heap (e : Same F H) (g : Same H H') : Gr Non F H F H' where
  ff := Same.refl F
  fh := e.trans g
  kp := fun a o h _ => g a o h
  al := fun a h => by
    cases q : H a with
    | none => exact absurd q h
    | some o =>
      rw [g a o q]
      intro z
      cases z
  fr := fun _ _ h => h
theorem same_upd {p : Addr} {o : HO} (h : H p = none) : Same H (upd H p o) := fun b u q => by rw [upd_ne (ne_of_none q h)]; exact q
/-- a new object is laid and frozen -/
theorem Gr.new {p : Addr} {o : HO} (e : Same F H) (h : H p = none) : Gr Non F H (upd F p o) (upd H p o) where
  ff := same_upd (by
    cases q : F p with
    | none => rfl
    | some u => rw [e p u q] at h; cases h)
  fh := fun a u q => by
    by_cases ha : a = p
    · subst ha; rw [upd_same] at q ⊢; exact q
    · rw [upd_ne ha] at q ⊢; exact e a u q
  kp := fun a u q _ => by rw [upd_ne (ne_of_none q h)]; exact q
  al := fun a q => by
    by_cases ha : a = p
    · subst ha; rw [upd_same]; intro z; cases z
    · rw [upd_ne ha]; exact q
  fr := fun a q z => by
    have ha : a ≠ p := fun z => q (z ▸ h)
    rw [upd_ne ha]
    exact z
end

/-! ### expressions over pure data -/
def EX (te : TE) (ρ : Env) (Q : D → Env → Prop) : Prop := ∀ B ad σ F H, WA B ad ρ σ F H → ∀ Z : VK, (∀ d ρ' v F' H', Q d ρ' → Post B ad σ ρ F H ρ' F' H' → Rp F' v d → Z v H') → te σ H Z
def EA (ta : TA) (ρ : Env) (Q : List D → Env → Prop) : Prop := ∀ B ad σ F H, WA B ad ρ σ F H → ∀ Z : List V → Hp → Prop, (∀ ds ρ' vs F' H', Q ds ρ' → Post B ad σ ρ F H ρ' F' H' → RpA F' vs ds → Z vs H') → ta σ H Z
def ET (tt : TT) (ρ : Env) (Q : Bool → Env → Prop) : Prop := ∀ B ad σ F H, WA B ad ρ σ F H → ∀ Z : Bool → Hp → Prop, (∀ b ρ' F' H', Q b ρ' → Post B ad σ ρ F H ρ' F' H' → Z b H') → tt σ H Z
/-- a new list, not yet frozen -/
def EO (te : TE) (ρ : Env) (Q : List D → Env → Prop) : Prop := ∀ B ad σ F H, WA B ad ρ σ F H → ∀ Z : VK,
  (∀ ds ρ' p vs F' H', Q ds ρ' → Post B ad σ ρ F H ρ' F' H' → F' p = none → H p = none → H' p = some (.lst vs) → RpA F' vs ds → Z (.ref p) H') → te σ H Z
def EPt (to : TO) (ρ : Env) (Q : Option Int → Env → Prop) : Prop := ∀ B ad σ F H, WA B ad ρ σ F H → ∀ Z : Option Int → Hp → Prop, (∀ o ρ' F' H', Q o ρ' → Post B ad σ ρ F H ρ' F' H' → Z o H') → to σ H Z
/-- operations by data -/
def OpD (r : R2) (d1 d2 : D) (K : D → Prop) : Prop := ∀ F H x y, Same F H → Rp F x d1 → Rp F y d2 → ∀ Z : VK, (∀ d v F' H', K d → Gr Non F H F' H' → Rp F' v d → Z v H') → r x y H Z
def OpO (r : R2) (d1 d2 : D) (K : List D → Prop) : Prop := ∀ F H x y, Same F H → Rp F x d1 → Rp F y d2 → ∀ Z : VK, (∀ ds p vs H', K ds → Same H H' → H p = none → H' p = some (.lst vs) → RpA F vs ds → Z (.ref p) H') → r x y H Z
def UnD (r : V → Hp → VK → Prop) (d1 : D) (K : D → Prop) : Prop := ∀ F H x, Same F H → Rp F x d1 → ∀ Z : VK, (∀ d v F' H', K d → Gr Non F H F' H' → Rp F' v d → Z v H') → r x H Z
def CbD (r : List V → Hp → VK → Prop) (ds : List D) (K : D → Prop) : Prop := ∀ F H vs, Same F H → RpA F vs ds → ∀ Z : VK, (∀ d v F' H', K d → Gr Non F H F' H' → Rp F' v d → Z v H') → r vs H Z
def CbO (r : List V → Hp → VK → Prop) (ds : List D) (K : List D → Prop) : Prop := ∀ F H vs, Same F H → RpA F vs ds → ∀ Z : VK, (∀ es p ws H', K es → Same H H' → H p = none → H' p = some (.lst ws) → RpA F ws es → Z (.ref p) H') → r vs H Z
def SlD (r : V → Option Int → Option Int → Hp → VK → Prop) (d1 : D) (lo hi : Option Int) (K : D → Prop) : Prop := ∀ F H x, Same F H → Rp F x d1 → ∀ Z : VK, (∀ d v F' H', K d → Gr Non F H F' H' → Rp F' v d → Z v H') → r x lo hi H Z
def SlO (r : V → Option Int → Option Int → Hp → VK → Prop) (d1 : D) (lo hi : Option Int) (K : List D → Prop) : Prop := ∀ F H x, Same F H → Rp F x d1 → ∀ Z : VK, (∀ ds p vs H', K ds → Same H H' → H p = none → H' p = some (.lst vs) → RpA F vs ds → Z (.ref p) H') → r x lo hi H Z

section
variable {B : Base} {ad : Nat → List Addr} {ρ ρ' ρ1 ρ2 : Env} {σ : St} {F H F' H' F1 H1 F2 H2 : Hp} {te ta tb tc : TE} {tt tu : TT} {t : TA} {Q Q' : D → Env → Prop}
theorem WA.newp (w : WA B ad ρ σ F H) {p : Addr} (h : H p = none) : F p = none ∧ B.H0 p = none ∧ ∀ i, p ∉ ad i := by
  refine ⟨w.gr.fh.free h, ?_, fun i m => w.lv m h⟩
  cases q : B.H0 p with
  | none => rfl
  | some o => exact absurd h (w.gr.al p (by rw [q]; intro z; cases z))
/-- a list that nobody owns is frozen -/
theorem WA.freeze (w : WA B ad ρ σ F H) {p : Addr} {vs : List V} (hF : F p = none) (h0 : B.H0 p = none) (hn : ∀ i, p ∉ ad i) (hp : H p = some (.lst vs)) : WA B ad ρ σ (upd F p (.lst vs)) H where
  gr := ⟨w.gr.ff.trans (same_upd hF), fun a o e => by
    by_cases ha : a = p
    · subst ha; rw [upd_same] at e; rw [hp]; exact e
    · rw [upd_ne ha] at e; exact w.gr.fh a o e, w.gr.kp, w.gr.al, fun a e z => by
    have ha : a ≠ p := fun q => e (by rw [q]; exact h0)
    rw [upd_ne ha]
    exact w.gr.fr a e z⟩
  len := w.len
  sl := fun i s e => by
    have k := w.sl i s e
    have up := same_upd (o := .lst vs) hF
    cases s with
    | emp => exact k
    | val d =>
      obtain ⟨k, v, e, r⟩ := k
      exact ⟨k, v, e, r.up up⟩
    | own ds =>
      obtain ⟨q, ws, k, k0, k1, k2, r⟩ := k
      exact ⟨q, ws, k, k0, k1, k2, r.up up⟩
    | st S => exact k
  fz := fun i q m => by
    have ne : q ≠ p := fun z => hn i (z ▸ m)
    rw [upd_ne ne]
    exact w.fz i q m
  dj := w.dj
  out := w.out
  pin := w.pin
theorem Post.freeze (w : Post B ad σ ρ F H ρ' F' H') (w0 : WA B ad ρ σ F H) {p : Addr} {vs : List V} (hF : F' p = none) (hH : H p = none) (hp : H' p = some (.lst vs)) : Post B ad σ ρ F H ρ' (upd F' p (.lst vs)) H' :=
  have n := w0.newp hH
  have f := w.wa.freeze hF n.2.1 n.2.2 hp
  ⟨f, ⟨w.gr.ff.trans (same_upd hF), f.gr.fh, w.gr.kp, w.gr.al, fun a e z => by
    have ha : a ≠ p := fun q => e (by rw [q]; exact hH)
    rw [upd_ne ha]
    exact w.gr.fr a e z⟩, w.sh⟩

/-! #### the rules -/
theorem EX.imp (h : EX te ρ Q) (k : ∀ d ρ', Q d ρ' → Q' d ρ') : EX te ρ Q' := fun B ad σ F H w Z z => h B ad σ F H w Z fun d ρ' v F' H' q p r => z d ρ' v F' H' (k d ρ' q) p r
theorem ex_of {Q : D → Env → Prop} (h : EO te ρ fun ds ρ' => Q (.list ds) ρ') : EX te ρ Q := fun B ad σ F H w Z z => h B ad σ F H w Z fun ds ρ' p vs F' H' q P hF hH hp r =>
  z _ ρ' _ (upd F' p (.lst vs)) H' q (P.freeze w hF hH hp) (.lst (.inl upd_same) (r.up (same_upd hF)))
theorem ex_var {i : Nat} {d : D} (h : ρ[i]? = some (.val d)) (q : Q d ρ) : EX (tVar i) ρ Q := fun B ad σ F H w Z z => by
  obtain ⟨_, v, e, r⟩ := w.sl i _ h
  exact ⟨v, e, z d ρ v F H q (Post.refl w) r⟩
theorem ex_c {v : V} {d : D} (r : ∀ F, Rp F v d) (q : Q d ρ) : EX (tC v) ρ Q := fun B ad σ F H w Z z => z d ρ v F H q (Post.refl w) (r F)
theorem ex_int {i : Int} (q : Q (.int i) ρ) : EX (tC (.int i)) ρ Q := ex_c (fun _ => .int i) q
theorem ex_str {x : Str} (q : Q (.str x) ρ) : EX (tC (.str x)) ρ Q := ex_c (fun _ => .str x) q
theorem ex_bl {b : Bool} (q : Q (.bool b) ρ) : EX (tC (.bl b)) ρ Q := ex_c (fun _ => .bl b) q
theorem ex_non (q : Q .none ρ) : EX (tC .non) ρ Q := ex_c (fun _ => .non) q
theorem ex_op {r : R2} (h : EX ta ρ fun d1 ρ1 => EX tb ρ1 fun d2 ρ2 => OpD r d1 d2 fun d => Q d ρ2) : EX (tOp r ta tb) ρ Q := fun B ad σ F H w Z z =>
  h B ad σ F H w _ fun d1 ρ1 x F1 H1 q1 p1 r1 => q1 B ad σ F1 H1 p1.wa _ fun d2 ρ2 y F2 H2 q2 p2 r2 =>
    q2 F2 H2 x y p2.wa.gr.fh (r1.up p2.gr.ff) r2 Z fun d v F' H' kd g rv => z d ρ2 v F' H' kd ((p1.trans p2).trans (Post.of p2.wa g)) rv
theorem eo_op {r : R2} {Q : List D → Env → Prop} (h : EX ta ρ fun d1 ρ1 => EX tb ρ1 fun d2 ρ2 => OpO r d1 d2 fun d => Q d ρ2) : EO (tOp r ta tb) ρ Q := fun B ad σ F H w Z z =>
  h B ad σ F H w _ fun d1 ρ1 x F1 H1 q1 p1 r1 => q1 B ad σ F1 H1 p1.wa _ fun d2 ρ2 y F2 H2 q2 p2 r2 =>
    q2 F2 H2 x y p2.wa.gr.fh (r1.up p2.gr.ff) r2 Z fun ds p vs H' kd e hn hp rv => z ds ρ2 p vs F2 H' kd ((p1.trans p2).trans (Post.of p2.wa (Gr.heap p2.wa.gr.fh e))) (p2.wa.newp hn).1 (by
      cases q : H p with
      | none => rfl
      | some o => exact absurd hn (p2.gr.al p (p1.gr.al p (by rw [q]; intro z; cases z)))) hp rv
theorem ex_un {r : V → Hp → VK → Prop} (h : EX ta ρ fun d1 ρ1 => UnD r d1 fun d => Q d ρ1) : EX (tUn r ta) ρ Q := fun B ad σ F H w Z z =>
  h B ad σ F H w _ fun d1 ρ1 x F1 H1 q1 p1 r1 => q1 F1 H1 x p1.wa.gr.fh r1 Z fun d v F' H' kd g rv => z d ρ1 v F' H' kd (p1.trans (Post.of p1.wa g)) rv
theorem ea_nil {Q : List D → Env → Prop} (q : Q [] ρ) : EA tNil ρ Q := fun B ad σ F H w Z z => z [] ρ [] F H q (Post.refl w) .nil
theorem ea_cons {Q : List D → Env → Prop} (h : EX te ρ fun d ρ1 => EA t ρ1 fun ds ρ2 => Q (d :: ds) ρ2) : EA (tCons te t) ρ Q := fun B ad σ F H w Z z =>
  h B ad σ F H w _ fun d ρ1 v F1 H1 q1 p1 r1 => q1 B ad σ F1 H1 p1.wa _ fun ds ρ2 vs F2 H2 q2 p2 r2 => z (d :: ds) ρ2 (v :: vs) F2 H2 q2 (p1.trans p2) (.cons (r1.up p2.gr.ff) r2)
theorem ex_cb {r : List V → Hp → VK → Prop} (h : EA t ρ fun ds ρ1 => CbD r ds fun d => Q d ρ1) : EX (tCB r t) ρ Q := fun B ad σ F H w Z z =>
  h B ad σ F H w _ fun ds ρ1 vs F1 H1 q1 p1 r1 => q1 F1 H1 vs p1.wa.gr.fh r1 Z fun d v F' H' kd g rv => z d ρ1 v F' H' kd (p1.trans (Post.of p1.wa g)) rv
theorem eo_cb {r : List V → Hp → VK → Prop} {Q : List D → Env → Prop} (h : EA t ρ fun ds ρ1 => CbO r ds fun d => Q d ρ1) : EO (tCB r t) ρ Q := fun B ad σ F H w Z z =>
  h B ad σ F H w _ fun ds ρ1 vs F1 H1 q1 p1 r1 => q1 F1 H1 vs p1.wa.gr.fh r1 Z fun es p ws H' kd e hn hp rv => z es ρ1 p ws F1 H' kd (p1.trans (Post.of p1.wa (Gr.heap p1.wa.gr.fh e))) (p1.wa.newp hn).1 (by
      cases q : H p with
      | none => rfl
      | some o => exact absurd hn (p1.gr.al p (by rw [q]; intro z; cases z))) hp rv
theorem ex_tup (h : EA t ρ fun ds ρ1 => ds.length ≤ 100000 ∧ Q (.tuple ds) ρ1) : EX (tTup t) ρ Q := fun B ad σ F H w Z z =>
  h B ad σ F H w _ fun ds ρ1 vs F1 H1 q1 p1 r1 => ⟨Nat.le_trans (by rw [r1.len]; exact q1.1) (by decide), fun p hp =>
    z _ ρ1 _ (upd F1 p (.tup vs)) _ q1.2 (p1.trans (Post.of p1.wa (Gr.new p1.wa.gr.fh hp))) (.tup upd_same (r1.up (Gr.new p1.wa.gr.fh hp).ff))⟩
theorem eo_lst {Q : List D → Env → Prop} (h : EA t ρ fun ds ρ1 => ds.length ≤ 100000 ∧ Q ds ρ1) : EO (tLst t) ρ Q := fun B ad σ F H w Z z =>
  h B ad σ F H w _ fun ds ρ1 vs F1 H1 q1 p1 r1 => ⟨Nat.le_trans (by rw [r1.len]; exact q1.1) (by decide), fun p hp =>
    z _ ρ1 p vs F1 _ q1.2 (p1.trans (Post.of p1.wa (Gr.heap p1.wa.gr.fh (same_upd hp)))) (p1.wa.newp hp).1 (by
      cases q : H p with
      | none => rfl
      | some o => exact absurd hp (p1.gr.al p (by rw [q]; intro z; cases z))) upd_same r1⟩
/-! slices -/
theorem ep_no {Q : Option Int → Env → Prop} (q : Q none ρ) : EPt tNoPart ρ Q := fun B ad σ F H w Z z => z none ρ F H q (Post.refl w)
theorem ep_some {Q : Option Int → Env → Prop} (h : EX te ρ fun d ρ1 => ∃ i, d = .int i ∧ Q (some i) ρ1) : EPt (tPart te) ρ Q := fun B ad σ F H w Z z =>
  h B ad σ F H w _ fun d ρ1 v F1 H1 q1 p1 r1 => by
    obtain ⟨i, rfl, q⟩ := q1
    exact ⟨i, r1.int_inv, z _ ρ1 F1 H1 q p1⟩
theorem ex_sl {r : V → Option Int → Option Int → Hp → VK → Prop} {tl th : TO} (h : EX te ρ fun d1 ρ1 => EPt tl ρ1 fun lo ρ2 => EPt th ρ2 fun hi ρ3 => SlD r d1 lo hi fun d => Q d ρ3) : EX (tSl r te tl th) ρ Q := fun B ad σ F H w Z z =>
  h B ad σ F H w _ fun d1 ρ1 x F1 H1 q1 p1 r1 => q1 B ad σ F1 H1 p1.wa _ fun lo ρ2 F2 H2 q2 p2 => q2 B ad σ F2 H2 p2.wa _ fun hi ρ3 F3 H3 q3 p3 =>
    q3 F3 H3 x p3.wa.gr.fh ((r1.up p2.gr.ff).up p3.gr.ff) Z fun d v F' H' kd g rv => z d ρ3 v F' H' kd (((p1.trans p2).trans p3).trans (Post.of p3.wa g)) rv
theorem eo_sl {r : V → Option Int → Option Int → Hp → VK → Prop} {tl th : TO} {Q : List D → Env → Prop} (h : EX te ρ fun d1 ρ1 => EPt tl ρ1 fun lo ρ2 => EPt th ρ2 fun hi ρ3 => SlO r d1 lo hi fun d => Q d ρ3) : EO (tSl r te tl th) ρ Q := fun B ad σ F H w Z z =>
  h B ad σ F H w _ fun d1 ρ1 x F1 H1 q1 p1 r1 => q1 B ad σ F1 H1 p1.wa _ fun lo ρ2 F2 H2 q2 p2 => q2 B ad σ F2 H2 p2.wa _ fun hi ρ3 F3 H3 q3 p3 =>
    q3 F3 H3 x p3.wa.gr.fh ((r1.up p2.gr.ff).up p3.gr.ff) Z fun ds p vs H' kd e hn hp rv => z ds ρ3 p vs F3 H' kd (((p1.trans p2).trans p3).trans (Post.of p3.wa (Gr.heap p3.wa.gr.fh e))) (p3.wa.newp hn).1 (by
      cases q : H p with
      | none => rfl
      | some o => exact absurd hn (p3.gr.al p (p2.gr.al p (p1.gr.al p (by rw [q]; intro z; cases z))))) hp rv
/-! tests -/
theorem et_imp {Q Q' : Bool → Env → Prop} (h : ET tt ρ Q) (k : ∀ b ρ', Q b ρ' → Q' b ρ') : ET tt ρ Q' := fun B ad σ F H w Z z => h B ad σ F H w Z fun b ρ' F' H' q p => z b ρ' F' H' (k b ρ' q) p
theorem et_test {Q : Bool → Env → Prop} (h : EX te ρ fun d ρ1 => ∃ b, d = .bool b ∧ Q b ρ1) : ET (tTest te) ρ Q := fun B ad σ F H w Z z =>
  h B ad σ F H w _ fun d ρ1 v F1 H1 q1 p1 r1 => by
    obtain ⟨b, rfl, q⟩ := q1
    exact ⟨b, r1.bl_inv, z b ρ1 F1 H1 q p1⟩
theorem et_B {Q : Bool → Env → Prop} (h : EX te ρ fun d ρ1 => ∃ b, d = .bool b ∧ Q b ρ1) : ET (tB te) ρ Q := et_test h
theorem et_and {Q : Bool → Env → Prop} (h : ET tt ρ fun b ρ1 => (b = true → ET tu ρ1 Q) ∧ (b = false → Q false ρ1)) : ET (tAnd tt tu) ρ Q := fun B ad σ F H w Z z =>
  h B ad σ F H w _ fun b ρ1 F1 H1 q1 p1 => by
    cases b with
    | true =>
      show tu σ H1 Z
      exact q1.1 rfl B ad σ F1 H1 p1.wa Z fun b ρ' F' H' q p => z b ρ' F' H' q (p1.trans p)
    | false =>
      show Z false H1
      exact z false ρ1 F1 H1 (q1.2 rfl) p1
theorem et_or {Q : Bool → Env → Prop} (h : ET tt ρ fun b ρ1 => (b = true → Q true ρ1) ∧ (b = false → ET tu ρ1 Q)) : ET (tOr tt tu) ρ Q := fun B ad σ F H w Z z =>
  h B ad σ F H w _ fun b ρ1 F1 H1 q1 p1 => by
    cases b with
    | true =>
      show Z true H1
      exact z true ρ1 F1 H1 (q1.1 rfl) p1
    | false =>
      show tu σ H1 Z
      exact q1.2 rfl B ad σ F1 H1 p1.wa Z fun b ρ' F' H' q p => z b ρ' F' H' q (p1.trans p)
theorem et_not {Q : Bool → Env → Prop} (h : ET tt ρ fun b ρ1 => Q (!b) ρ1) : ET (tNot tt) ρ Q := fun B ad σ F H w Z z => h B ad σ F H w _ fun b ρ1 F1 H1 q p => z (!b) ρ1 F1 H1 q p
theorem ex_andV (h : EX ta ρ fun d ρ1 => ∃ b, d = .bool b ∧ (b = true → EX tb ρ1 Q) ∧ (b = false → Q (.bool false) ρ1)) : EX (tAndV ta tb) ρ Q := fun B ad σ F H w Z z =>
  h B ad σ F H w _ fun d ρ1 v F1 H1 q1 p1 r1 => by
    obtain ⟨b, rfl, k1, k2⟩ := q1
    refine ⟨b, r1.bl_inv, ?_⟩
    cases b with
    | true =>
      show tb σ H1 Z
      exact k1 rfl B ad σ F1 H1 p1.wa Z fun d ρ' v F' H' q p r => z d ρ' v F' H' q (p1.trans p) r
    | false =>
      show Z (.bl false) H1
      exact z _ ρ1 _ F1 H1 (k2 rfl) p1 (.bl false)
theorem ex_orV (h : EX ta ρ fun d ρ1 => ∃ b, d = .bool b ∧ (b = true → Q (.bool true) ρ1) ∧ (b = false → EX tb ρ1 Q)) : EX (tOrV ta tb) ρ Q := fun B ad σ F H w Z z =>
  h B ad σ F H w _ fun d ρ1 v F1 H1 q1 p1 r1 => by
    obtain ⟨b, rfl, k1, k2⟩ := q1
    refine ⟨b, r1.bl_inv, ?_⟩
    cases b with
    | true =>
      show Z (.bl true) H1
      exact z _ ρ1 _ F1 H1 (k1 rfl) p1 (.bl true)
    | false =>
      show tb σ H1 Z
      exact k2 rfl B ad σ F1 H1 p1.wa Z fun d ρ' v F' H' q p r => z d ρ' v F' H' q (p1.trans p) r
theorem ex_notV (h : EX ta ρ fun d ρ1 => ∃ b, d = .bool b ∧ Q (.bool !b) ρ1) : EX (tNotV ta) ρ Q := fun B ad σ F H w Z z =>
  h B ad σ F H w _ fun d ρ1 v F1 H1 q1 p1 r1 => by
    obtain ⟨b, rfl, k⟩ := q1
    exact ⟨b, r1.bl_inv, z _ ρ1 _ F1 H1 k p1 (.bl _)⟩
theorem ex_if (h : ET tt ρ fun b ρ1 => (b = true → EX ta ρ1 Q) ∧ (b = false → EX tb ρ1 Q)) : EX (tIf tt ta tb) ρ Q := fun B ad σ F H w Z z =>
  h B ad σ F H w _ fun b ρ1 F1 H1 q1 p1 => by
    cases b with
    | true =>
      show ta σ H1 Z
      exact q1.1 rfl B ad σ F1 H1 p1.wa Z fun d ρ' v F' H' q p r => z d ρ' v F' H' q (p1.trans p) r
    | false =>
      show tb σ H1 Z
      exact q1.2 rfl B ad σ F1 H1 p1.wa Z fun d ρ' v F' H' q p r => z d ρ' v F' H' q (p1.trans p) r
theorem ex_chain {r r' : R2} (h : EX ta ρ fun d1 ρ1 => EX tb ρ1 fun d2 ρ2 => OpD r d1 d2 fun d => ∃ b, d = .bool b ∧ (b = true → EX tc ρ2 fun d3 ρ3 => OpD r' d2 d3 fun d => Q d ρ3) ∧ (b = false → Q (.bool false) ρ2)) : EX (tChain r r' ta tb tc) ρ Q := fun B ad σ F H w Z z =>
  h B ad σ F H w _ fun d1 ρ1 x F1 H1 q1 p1 r1 => q1 B ad σ F1 H1 p1.wa _ fun d2 ρ2 y F2 H2 q2 p2 r2 =>
    q2 F2 H2 x y p2.wa.gr.fh (r1.up p2.gr.ff) r2 _ fun d v F3 H3 kd g rv => by
      obtain ⟨b, rfl, k1, k2⟩ := kd
      refine ⟨b, rv.bl_inv, ?_⟩
      have p3 := (p1.trans p2).trans (Post.of p2.wa g)
      cases b with
      | true =>
        show tc σ H3 fun w' H4 => r' y w' H4 Z
        exact k1 rfl B ad σ F3 H3 p3.wa _ fun d3 ρ3 u F4 H4 q4 p4 r4 => q4 F4 H4 y u p4.wa.gr.fh ((r2.up g.ff).up p4.gr.ff) r4 Z fun d v F' H' kd g rv => z d ρ3 v F' H' kd ((p3.trans p4).trans (Post.of p4.wa g)) rv
      | false =>
        show Z (.bl false) H3
        exact z _ ρ2 _ F3 H3 (k2 rfl) p3 (.bl false)
end
/-! ### operations -/
section
variable {K : PySem.W.Frag} {Q : D → Prop} {i j : Int} {d d1 d2 : D} {ds es : List D}
theorem opd_I0 {g : Int → Int → Int} (k : Q (.int (g i j))) : OpD (rI0 fun i j => .int (g i j)) (.int i) (.int j) Q := fun F H x y e rx ry Z z => ⟨i, j, rx.int_inv, ry.int_inv, z _ _ F H k (Gr.refl e) (.int _)⟩
theorem opd_B0 {g : Int → Int → Bool} (k : Q (.bool (g i j))) : OpD (rI0 fun i j => .bl (g i j)) (.int i) (.int j) Q := fun F H x y e rx ry Z z => ⟨i, j, rx.int_inv, ry.int_inv, z _ _ F H k (Gr.refl e) (.bl _)⟩
theorem opd_I {C : Int → Int → Prop} {g : Int → Int → Int} (c : C i j) (k : Q (.int (g i j))) : OpD (rI C fun i j => .int (g i j)) (.int i) (.int j) Q := fun F H x y e rx ry Z z => ⟨i, j, rx.int_inv, ry.int_inv, c, z _ _ F H k (Gr.refl e) (.int _)⟩
theorem und_neg (k : Q (.int (-i))) : UnD (rU fun i => .int (-i)) (.int i) Q := fun F H x e rx Z z => ⟨i, rx.int_inv, z _ _ F H k (Gr.refl e) (.int _)⟩
theorem opd_eq (s1 : SeqAt.shaped d1 = true) (s2 : SeqAt.shaped d2 = true) (k : Q (.bool (PyData.eqv d1 d2))) : OpD (rEqD K) d1 d2 Q := fun F H x y e rx ry Z z => ⟨d1, d2, rx.dp e, ry.dp e, s1, s2, z _ _ F H k (Gr.refl e) (.bl _)⟩
theorem opd_ne (s1 : SeqAt.shaped d1 = true) (s2 : SeqAt.shaped d2 = true) (k : Q (.bool (!PyData.eqv d1 d2))) : OpD (rNeD K) d1 d2 Q := fun F H x y e rx ry Z z => ⟨d1, d2, rx.dp e, ry.dp e, s1, s2, z _ _ F H k (Gr.refl e) (.bl _)⟩
def isN : D → Bool
  | .none => true
  | _ => false
theorem isN_of {F : Hp} {x : V} (r : Rp F x d) : decide (x = .non) = isN d := by cases r <;> rfl
def rIs : R2 := fun x y H Q => y = .non ∧ Q (.bl (decide (x = .non))) H
def rIsnt : R2 := fun x y H Q => y = .non ∧ Q (.bl (!decide (x = .non))) H
theorem op_is {X : Cx} : OpR X (compareOp .Is) rIs := op_isN
theorem op_isnt {X : Cx} : OpR X (compareOp .IsNot) rIsnt := op_notN
theorem opd_is (k : Q (.bool (isN d))) : OpD rIs d .none Q := fun F H x y e rx ry Z z => ⟨ry.non_inv, by rw [isN_of rx]; exact z _ _ F H k (Gr.refl e) (.bl _)⟩
theorem opd_isnt (k : Q (.bool (!isN d))) : OpD rIsnt d .none Q := fun F H x y e rx ry Z z => ⟨ry.non_inv, by rw [isN_of rx]; exact z _ _ F H k (Gr.refl e) (.bl _)⟩
/-! an item -/
theorem RpA.at_ {F : Hp} {vs : List V} (r : RpA F vs ds) (h : atI ds i = some d) : ∃ v, atI vs i = some v ∧ Rp F v d := by
  unfold atI at h ⊢
  rw [r.len]
  cases e : ixN ds.length i with
  | none => rw [e] at h; cases h
  | some k =>
    rw [e] at h
    exact r.get (k := k) h
def rIxA (K : PySem.W.Frag) : R2 := fun x y H Q => rIxL K x y H Q ∨ rIxT K x y H Q
theorem ix_any {X : Cx} : IxR X (rIxA X.K) := IxR.or ix_list ix_tup
theorem opd_ixL (h : atI ds i = some d) (k : Q d) : OpD (rIxA K) (.list ds) (.int i) Q := fun F H x y e rx ry Z z => by
  obtain ⟨a, xs, rfl, h1, h2⟩ := rx.lst_inv
  obtain ⟨v, hv, rv⟩ := h2.at_ h
  exact .inl ⟨a, xs, i, v, rfl, ry.int_inv, sqL_rd h1 e, hv, z _ _ F H k (Gr.refl e) rv⟩
theorem opd_ixT (h : atI ds i = some d) (k : Q d) : OpD (rIxA K) (.tuple ds) (.int i) Q := fun F H x y e rx ry Z z => by
  obtain ⟨a, xs, rfl, h1, h2⟩ := rx.tup_inv
  obtain ⟨v, hv, rv⟩ := h2.at_ h
  exact .inr ⟨a, xs, i, v, rfl, ry.int_inv, sqT_rd h1 e, hv, z _ _ F H k (Gr.refl e) rv⟩
/-! + -/
def rCatR : R2 := fun x y H Q => ∃ l b xs zs, x = .ref l ∧ y = .ref b ∧ Rd H l (.lst xs) ∧ Rd H b (.lst zs) ∧ xs.length + zs.length ≤ sizeLine ∧ ∀ p, H p = none → Q (.ref p) (upd H p (.lst (xs ++ zs)))
theorem op_catR {X : Cx} : OpR X (binaryOp .Add) rCatR := by
  intro pins s σ H x y v u Q I rx ry h
  obtain ⟨l, b, xs, zs, rfl, rfl, hH, hB, hz, q⟩ := h
  cases rx
  cases ry
  obtain ⟨z, its, n, r, e⟩ := hH.ok I.hok
  obtain ⟨z2, its2, n2, r2, e2⟩ := hB.ok I.hok
  have hl := r.length
  have hl2 := r2.length
  refine PySem.P.add_list e e2 ?_ (by rw [List.size_toArray, List.size_toArray]; omega)
  have ea : its.toArray ++ its2.toArray = (its ++ its2).toArray := by simp
  rw [ea]
  exact ⟨.ref _, _, I.lnew (t' := s.toks) (r.append r2) (by rw [List.length_append]; omega), rfl, q _ I.fresh⟩
def rPlus (K : PySem.W.Frag) : R2 := fun x y H Q => (fun x y H Q => rI0 (fun i j => .int (i + j)) x y H Q ∨ rCatR x y H Q) x y H Q ∨ rCatA K x y H Q
theorem op_plus {X : Cx} : OpR X (binaryOp .Add) (rPlus X.K) := OpR.or (OpR.or op_add op_catR) op_catA
theorem opd_plusI (k : Q (.int (i + j))) : OpD (rPlus K) (.int i) (.int j) Q := fun F H x y e rx ry Z z => .inl (.inl (opd_I0 k F H x y e rx ry Z z))
theorem opo_plusL {Q : List D → Prop} (hz : ds.length + es.length ≤ 1000000) (k : Q (ds ++ es)) : OpO (rPlus K) (.list ds) (.list es) Q := fun F H x y e rx ry Z z => by
  obtain ⟨a, xs, rfl, h1, h2⟩ := rx.lst_inv
  obtain ⟨b, ys, rfl, g1, g2⟩ := ry.lst_inv
  exact .inl (.inr ⟨a, b, xs, ys, rfl, rfl, rd_mono e h1, rd_mono e g1, Nat.le_trans (by rw [h2.len, g2.len]; exact hz) (by decide), fun p hp => z _ p _ _ k (same_upd hp) hp upd_same (h2.app g2)⟩)
theorem opd_plusT (hz : ds.length + es.length ≤ 1000000) (k : Q (.tuple (ds ++ es))) : OpD (rPlus K) (.tuple ds) (.tuple es) Q := fun F H x y e rx ry Z z => by
  obtain ⟨a, xs, rfl, h1, h2⟩ := rx.tup_inv
  obtain ⟨b, ys, rfl, g1, g2⟩ := ry.tup_inv
  refine .inr ⟨a, b, xs, ys, rfl, rfl, sqT_rd h1 e, sqT_rd g1 e, Nat.le_trans (by rw [h2.len, g2.len]; exact hz) (by decide), fun q => ?_, fun _ q => ?_, fun _ _ p hp => ?_⟩
  · subst q
    cases h2
    exact z _ _ F H k (Gr.refl e) ry
  · subst q
    cases g2
    rw [List.append_nil] at k
    exact z _ _ F H k (Gr.refl e) rx
  · exact z _ _ _ _ k (Gr.new e hp) (.tup upd_same ((h2.app g2).up (Gr.new e hp).ff))
/-! slices -/
def rSl (K : PySem.W.Frag) : V → Option Int → Option Int → Hp → VK → Prop := fun x lo hi H Q => rSlL K x lo hi H Q ∨ rSlA K x lo hi H Q
theorem sl_any {X : Cx} : SlR X (rSl X.K) := SlR.or sl_list sl_tupA
def cutD (xs : List D) (lo hi : Option Int) : List D := (xs.drop (HT.sIx xs.length 0 lo)).take (HT.sIx xs.length xs.length hi - HT.sIx xs.length 0 lo)
theorem RpA.cut {F : Hp} {vs : List V} (r : RpA F vs ds) (lo hi : Option Int) : RpA F (cutV vs lo hi) (cutD ds lo hi) := by
  unfold cutV cutD
  rw [r.len]
  exact (r.drop _).take _
theorem slo_L {Q : List D → Prop} {lo hi : Option Int} (k : Q (cutD ds lo hi)) : SlO (rSl K) (.list ds) lo hi Q := fun F H x e rx Z z => by
  obtain ⟨a, xs, rfl, h1, h2⟩ := rx.lst_inv
  exact .inl ⟨a, xs, rfl, sqL_rd h1 e, fun p hp => z _ p _ _ k (same_upd hp) hp upd_same (h2.cut lo hi)⟩
theorem sld_T {lo hi : Option Int} (k : Q (.tuple (cutD ds lo hi))) : SlD (rSl K) (.tuple ds) lo hi Q := fun F H x e rx Z z => by
  obtain ⟨a, xs, rfl, h1, h2⟩ := rx.tup_inv
  refine .inr ⟨a, xs, rfl, sqT_rd h1 e, fun w => ?_, fun w p hp => z _ _ _ _ k (Gr.new e hp) (.tup upd_same ((h2.cut lo hi).up (Gr.new e hp).ff))⟩
  have ec : cutD ds lo hi = ds := by
    rw [h2.len] at w
    unfold cutD
    rw [w.1, w.2, List.drop_zero, Nat.sub_zero, List.take_length]
  rw [ec] at k
  exact z _ _ F H k (Gr.refl e) rx
/-! built-ins -/
def rLen (K : PySem.W.Frag) : List V → Hp → VK → Prop := fun xs H Q => ∃ x n, xs = [x] ∧ LenV K x H n ∧ Q (.int (n : Int)) H
theorem cb_len {X : Cx} : CallR X (.builtin "len") (rLen X.K) := call_len
theorem RpA.one {F : Hp} {vs : List V} (h : RpA F vs [d]) : ∃ v, vs = [v] ∧ Rp F v d := by
  cases h with
  | cons h1 h2 => cases h2; exact ⟨_, rfl, h1⟩
theorem RpA.two {F : Hp} {vs : List V} (h : RpA F vs [d1, d2]) : ∃ v u, vs = [v, u] ∧ Rp F v d1 ∧ Rp F u d2 := by
  cases h with
  | cons h1 h2 => obtain ⟨u, rfl, r⟩ := h2.one; exact ⟨_, _, rfl, h1, r⟩
theorem cbd_lenL (k : Q (.int (ds.length : Int))) : CbD (rLen K) [.list ds] Q := fun F H vs e r Z z => by
  obtain ⟨v, rfl, rv⟩ := r.one
  obtain ⟨a, xs, rfl, h1, h2⟩ := rv.lst_inv
  exact ⟨_, ds.length, rfl, .inl ⟨xs, sqL_rd h1 e, h2.len.symm⟩, z _ _ F H k (Gr.refl e) (.int _)⟩
theorem cbd_lenT (k : Q (.int (ds.length : Int))) : CbD (rLen K) [.tuple ds] Q := fun F H vs e r Z z => by
  obtain ⟨v, rfl, rv⟩ := r.one
  obtain ⟨a, xs, rfl, h1, h2⟩ := rv.tup_inv
  exact ⟨_, ds.length, rfl, .inr ⟨xs, sqT_rd h1 e, h2.len.symm⟩, z _ _ F H k (Gr.refl e) (.int _)⟩
def rAbs : List V → Hp → VK → Prop := fun xs H Q => ∃ i, xs = [.int i] ∧ Q (.int (if i < 0 then -i else i)) H
theorem cb_abs {X : Cx} : CallR X (.builtin "abs") rAbs := call_abs
theorem cbd_abs (k : Q (.int (i.natAbs : Int))) : CbD rAbs [.int i] Q := fun F H vs e r Z z => by
  obtain ⟨v, rfl, rv⟩ := r.one
  refine ⟨i, by rw [rv.int_inv], ?_⟩
  have e2 : (if i < 0 then -i else i) = (i.natAbs : Int) := by
    by_cases h : i < 0
    · rw [if_pos h]; omega
    · rw [if_neg h]; omega
  rw [e2]
  exact z _ _ F H k (Gr.refl e) (.int _)
def rMx2 : List V → Hp → VK → Prop := fun xs H Q => ∃ i j, xs = [.int i, .int j] ∧ Q (.int (if j > i then j else i)) H
def rMn2 : List V → Hp → VK → Prop := fun xs H Q => ∃ i j, xs = [.int i, .int j] ∧ Q (.int (if j < i then j else i)) H
theorem cb_max2 {X : Cx} (hc : X.calm = true) : CallR X (.builtin "max") rMx2 := call_max2 hc
theorem cb_min2 {X : Cx} (hc : X.calm = true) : CallR X (.builtin "min") rMn2 := call_min2 hc
theorem cbd_max2 (k : Q (.int (max i j))) : CbD rMx2 [.int i, .int j] Q := fun F H vs e r Z z => by
  obtain ⟨v, u, rfl, rv, ru⟩ := r.two
  refine ⟨i, j, by rw [rv.int_inv, ru.int_inv], ?_⟩
  have e2 : (if j > i then j else i) = max i j := by
    by_cases h : j > i
    · rw [if_pos h]; omega
    · rw [if_neg h]; omega
  rw [e2]
  exact z _ _ F H k (Gr.refl e) (.int _)
theorem cbd_min2 (k : Q (.int (min i j))) : CbD rMn2 [.int i, .int j] Q := fun F H vs e r Z z => by
  obtain ⟨v, u, rfl, rv, ru⟩ := r.two
  refine ⟨i, j, by rw [rv.int_inv, ru.int_inv], ?_⟩
  have e2 : (if j < i then j else i) = min i j := by
    by_cases h : j < i
    · rw [if_pos h]; omega
    · rw [if_neg h]; omega
  rw [e2]
  exact z _ _ F H k (Gr.refl e) (.int _)
def rInt : List V → Hp → VK → Prop := fun xs H Q => (∃ i, xs = [.int i] ∧ Q (.int i) H) ∨ ∃ k, xs = [.bl k] ∧ Q (.int (if k then 1 else 0)) H
theorem cb_int {X : Cx} : CallR X (.type "int") rInt := call_int1
theorem cbd_int (k : Q (.int i)) : CbD rInt [.int i] Q := fun F H vs e r Z z => by
  obtain ⟨v, rfl, rv⟩ := r.one
  exact .inl ⟨i, by rw [rv.int_inv], z _ _ F H k (Gr.refl e) (.int _)⟩
def rList (K : PySem.W.Frag) : List V → Hp → VK → Prop := fun xs H Q => ∃ p ys, xs = [.ref p] ∧ (SqL K H p ys ∨ SqT K H p ys) ∧ ∀ l, H l = none → Q (.ref l) (upd H l (.lst ys))
theorem cb_list {X : Cx} : CallR X (.type "list") (rList X.K) := call_list_of
theorem cbo_listL {Q : List D → Prop} (k : Q ds) : CbO (rList K) [.list ds] Q := fun F H vs e r Z z => by
  obtain ⟨v, rfl, rv⟩ := r.one
  obtain ⟨a, xs, rfl, h1, h2⟩ := rv.lst_inv
  exact ⟨a, xs, rfl, .inl (sqL_rd h1 e), fun p hp => z _ p _ _ k (same_upd hp) hp upd_same h2⟩
theorem cbo_listT {Q : List D → Prop} (k : Q ds) : CbO (rList K) [.tuple ds] Q := fun F H vs e r Z z => by
  obtain ⟨v, rfl, rv⟩ := r.one
  obtain ⟨a, xs, rfl, h1, h2⟩ := rv.tup_inv
  exact ⟨a, xs, rfl, .inr (sqT_rd h1 e), fun p hp => z _ p _ _ k (same_upd hp) hp upd_same h2⟩
def rTup (K : PySem.W.Frag) : List V → Hp → VK → Prop := fun xs H Q => ∃ p ys, xs = [.ref p] ∧ ((SqL K H p ys ∧ ∀ l, H l = none → Q (.ref l) (upd H l (.tup ys))) ∨ (SqT K H p ys ∧ Q (.ref p) H))
theorem cb_tuple {X : Cx} : CallR X (.type "tuple") (rTup X.K) := call_tuple_of
theorem cbd_tupL (k : Q (.tuple ds)) : CbD (rTup K) [.list ds] Q := fun F H vs e r Z z => by
  obtain ⟨v, rfl, rv⟩ := r.one
  obtain ⟨a, xs, rfl, h1, h2⟩ := rv.lst_inv
  exact ⟨a, xs, rfl, .inl ⟨sqL_rd h1 e, fun p hp => z _ _ _ _ k (Gr.new e hp) (.tup upd_same (h2.up (Gr.new e hp).ff))⟩⟩
theorem cbd_sum {ns : List Int} (k : Q (.int ns.sum)) : CbD (rSum K) [.list (ns.map .int)] Q := fun F H vs e r Z z => by
  obtain ⟨v, rfl, rv⟩ := r.one
  obtain ⟨a, xs, rfl, h1, h2⟩ := rv.lst_inv
  exact ⟨a, ns, rfl, by rw [← h2.ints_inv]; exact sqL_rd h1 e, z _ _ F H k (Gr.refl e) (.int _)⟩
/-- isinstance(x, tuple) -/
theorem ex_isT {te : TE} {ρ : Env} {Q : D → Env → Prop} (h : EX te ρ fun d ρ1 => ∃ ds, d = .tuple ds ∧ Q (.bool true) ρ1) : EX (tCB RZ.rIsTy (tCons te (tCons (tC (.ty "tuple")) tNil))) ρ Q := fun B ad σ F H w Z z =>
  h B ad σ F H w _ fun d ρ1 v F1 H1 q1 p1 r1 => by
    obtain ⟨ds, rfl, q⟩ := q1
    obtain ⟨a, xs, rfl, h1, h2⟩ := r1.tup_inv
    exact ⟨.ref a, "tuple", rfl, .tup (p1.wa.gr.fh _ _ h1), z _ ρ1 _ F1 H1 q p1 (.bl true)⟩
end

/-! ### own lists -/
section
variable {B : Base} {ad : Nat → List Addr} {ρ ρ' : Env} {σ : St} {F H F' H' : Hp} {te tb : TE} {Q : D → Env → Prop}
theorem get_set {α : Type} {l : List α} {i j : Nat} {x y : α} (h : (l.set i x)[j]? = some y) : (j = i ∧ y = x) ∨ (j ≠ i ∧ l[j]? = some y) := by
  by_cases e : j = i
  · subst e
    by_cases hl : j < l.length
    · rw [List.getElem?_set_self hl] at h
      exact .inl ⟨rfl, (Option.some.inj h).symm⟩
    · rw [List.getElem?_eq_none (by simpa using hl)] at h
      cases h
  · rw [List.getElem?_set_ne (Ne.symm e)] at h
    exact .inr ⟨e, h⟩
theorem get_set' {α : Type} {l : List α} {i j : Nat} {x : α} (h : (l.set i x)[j]? = none) : l[j]? = none := by
  rw [List.getElem?_eq_none_iff] at h ⊢
  simpa using h
/-- slot i's own list is frozen where it stands -/
theorem WA.lend (w : WA B ad ρ σ F H) {i : Nat} {ds : List D} (h : ρ[i]? = some (.own ds)) : ∃ p vs, ad i = [p] ∧ F p = none ∧ H p = some (.lst vs) ∧ RpA F vs ds ∧ B.H0 p = none ∧ σ[i]? = some (some (.ref p)) ∧
    WA B (fun k => if k = i then [] else ad k) (ρ.set i (.val (.list ds))) σ (upd F p (.lst vs)) H := by
  obtain ⟨p, vs, k, k0, k1, k2, r⟩ := w.sl i _ h
  have hF : F p = none := (w.fz i p (by rw [k]; simp)).1
  have up := same_upd (o := .lst vs) hF
  refine ⟨p, vs, k, hF, k2, r, k0, k1, ?_⟩
  have hn : ∀ j, j ≠ i → p ∉ ad j := fun j hj m => hj (w.dj j i p m (by rw [k]; simp))
  refine ⟨⟨w.gr.ff.trans up, fun a o e => ?_, w.gr.kp, w.gr.al, fun a e z => ?_⟩, by rw [List.length_set]; exact w.len, fun j s e => ?_, fun j q m => ?_, fun j1 j2 q m1 m2 => ?_, fun j e => ?_, w.pin.to fun S e => by
    rcases get_set e with ⟨_, q⟩ | ⟨hj, e⟩
    · cases q
    · exact ⟨⟨S, e⟩, rfl, if_neg hj⟩⟩
  · by_cases ha : a = p
    · subst ha; rw [upd_same] at e; rw [k2]; exact e
    · rw [upd_ne ha] at e; exact w.gr.fh a o e
  · have ha : a ≠ p := fun q => e (by rw [q]; exact k0)
    rw [upd_ne ha]
    exact w.gr.fr a e z
  · rcases get_set e with ⟨rfl, rfl⟩ | ⟨hj, e⟩
    · exact ⟨if_pos rfl, _, k1, .lst (.inl upd_same) (r.up up)⟩
    · have q := w.sl j s e
      rw [if_neg hj]
      cases s with
      | emp => exact q
      | val d =>
        obtain ⟨k, v, e, r⟩ := q
        exact ⟨k, v, e, r.up up⟩
      | own es =>
        obtain ⟨q, ws, k, k0, k1, k2, r⟩ := q
        exact ⟨q, ws, k, k0, k1, k2, r.up up⟩
      | st S => exact q
  · by_cases hj : j = i
    · simp [hj] at m
    · simp only [if_neg hj] at m
      have ne : q ≠ p := fun z => hn j hj (z ▸ m)
      rw [upd_ne ne]
      exact w.fz j q m
  · by_cases h1 : j1 = i
    · simp [h1] at m1
    · by_cases h2 : j2 = i
      · simp [h2] at m2
      · simp only [if_neg h1] at m1
        simp only [if_neg h2] at m2
        exact w.dj j1 j2 q m1 m2
  · by_cases hj : j = i
    · show (if j = i then [] else ad j) = []
      rw [if_pos hj]
    · show (if j = i then [] else ad j) = []
      rw [if_neg hj]
      exact w.out j (get_set' e)
def scalD : D → Bool
  | .none => true
  | .bool _ => true
  | .int _ => true
  | .str _ => true
  | _ => false
theorem scal_any {d : D} {v : V} (h : scalD d = true) (r : Rp F v d) : Rp F' v d := by
  cases r with
  | non => exact .non
  | bl b => exact .bl b
  | int i => exact .int i
  | str x => exact .str x
  | lst _ _ => cases h
  | tup _ _ => cases h
/-- behind a loan, with nothing changed but the heap's new objects -/
theorem WA.back (w : WA B ad ρ σ F H) {i : Nat} {ds : List D} (h : ρ[i]? = some (.own ds)) {F1 : Hp} {ad1 : Nat → List Addr} {ρ1 : Env} (e1 : ρ1 = ρ.set i (.val (.list ds))) (ea : ad1 = fun k => if k = i then [] else ad k)
    (hF1 : Same F F1) (p : Post B ad1 σ ρ1 F1 H ρ1 F' H') : Post B ad σ ρ F H ρ F H' := by
  subst e1 ea
  have hi : i < ρ.length := (List.getElem?_eq_some_iff.mp h).1
  have ms : ∀ a, MS (fun k => if k = i then [] else ad k) (ρ.set i (.val (.list ds))) a → MS ad ρ a := fun a ⟨j, S, e, m⟩ => by
    rcases get_set e with ⟨_, q⟩ | ⟨hj, e⟩
    · cases q
    · simp only [if_neg hj] at m
      exact ⟨j, S, e, m⟩
  have fh : Same F H' := (hF1.trans p.gr.ff).trans p.gr.fh
  have nms : ∀ j q, q ∈ ad j → (∀ S, ρ[j]? ≠ some (Slot.st S)) → ¬ MS ad ρ q := fun j q m hj ⟨j', S, e, m'⟩ => by
    have := w.dj j j' q m m'
    subst this
    exact hj S e
  refine ⟨⟨⟨w.gr.ff, fh, p.wa.gr.kp, p.wa.gr.al, w.gr.fr⟩, w.len, fun j s e => ?_, w.fz, w.dj, w.out, w.pin⟩, ⟨Same.refl F, fh, fun a o e m => p.gr.kp a o e fun z => m (ms a z), p.gr.al, fun _ _ z => z⟩, fun j S e => ⟨S, e⟩⟩
  have k := w.sl j s e
  cases s with
  | emp => exact k
  | val d => exact k
  | own es =>
    obtain ⟨q, ws, k, k0, k1, k2, r⟩ := k
    refine ⟨q, ws, k, k0, k1, p.gr.kp q _ k2 fun z => nms j q (by rw [k]; simp) (fun S z => by rw [e] at z; cases z) (ms q z), r⟩
  | st S =>
    have hj : j ≠ i := fun z => by subst z; rw [h] at e; cases e
    have k' := p.wa.sl j (.st S) (by rw [List.getElem?_set_ne (Ne.symm hj)]; exact e)
    simp only [if_neg hj] at k'
    exact k'
theorem ex_lend (i : Nat) {ds : List D} (h : ρ[i]? = some (.own ds)) (k : EX te (ρ.set i (.val (.list ds))) fun d ρ' => ρ' = ρ.set i (.val (.list ds)) ∧ scalD d = true ∧ Q d ρ) : EX te ρ Q := fun B ad σ F H w Z z => by
  obtain ⟨p, vs, k1, k2, k3, k4, k5, k6, w2⟩ := w.lend h
  refine k B _ σ _ H w2 Z fun d ρ' v F' H' q P r => ?_
  obtain ⟨rfl, sc, q⟩ := q
  exact z d ρ v F H' q (w.back h rfl rfl (same_upd k2) P) (scal_any sc r)
theorem et_lend (i : Nat) {tt : TT} {Q : Bool → Env → Prop} {ds : List D} (h : ρ[i]? = some (.own ds)) (k : ET tt (ρ.set i (.val (.list ds))) fun b ρ' => ρ' = ρ.set i (.val (.list ds)) ∧ Q b ρ) : ET tt ρ Q := fun B ad σ F H w Z z => by
  obtain ⟨p, vs, k1, k2, k3, k4, k5, k6, w2⟩ := w.lend h
  refine k B _ σ _ H w2 Z fun d ρ' F' H' q P => ?_
  obtain ⟨rfl, q⟩ := q
  exact z d ρ F H' q (w.back h rfl rfl (same_upd k2) P)
/-- x[k], x an own list -/
theorem ex_ixO {K : PySem.W.Frag} {i : Nat} {es : List D} (h : ρ[i]? = some (.own es)) (k : EX tb ρ fun d ρ2 => ∃ ds j e, ρ2[i]? = some (.own ds) ∧ d = .int j ∧ atI ds j = some e ∧ Q e ρ2) : EX (tOp (rIxA K) (tVar i) tb) ρ Q := fun B ad σ F H w Z z => by
  obtain ⟨p0, _, _, _, k1, _⟩ := w.sl i _ h
  refine ⟨_, k1, k B ad σ F H w _ fun d ρ2 y F2 H2 q2 p2 r2 => ?_⟩
  obtain ⟨ds, j, e, h2, rfl, hj, q⟩ := q2
  obtain ⟨p, vs, _, _, k2, k3, rr⟩ := p2.wa.sl i _ h2
  rw [k1] at k2
  cases k2
  obtain ⟨v, hv, rv⟩ := rr.at_ hj
  exact .inl ⟨_, vs, j, v, rfl, r2.int_inv, .inl (.inl k3), hv, z e ρ2 v F2 H2 q p2 rv⟩
theorem ex_lenO {K : PySem.W.Frag} {i : Nat} {ds : List D} (h : ρ[i]? = some (.own ds)) (q : Q (.int (ds.length : Int)) ρ) : EX (tCB (rLen K) (tCons (tVar i) tNil)) ρ Q := fun B ad σ F H w Z z => by
  obtain ⟨p, vs, _, _, k1, k3, rr⟩ := w.sl i _ h
  exact ⟨_, k1, _, ds.length, rfl, .inl ⟨vs, .inl (.inl k3), rr.len.symm⟩, z _ ρ _ F H q (Post.refl w) (.int _)⟩
end

/-! ### statements -/
structure Po where
  nx : Env → Prop
  rt : D → Env → Prop
  bk : Env → Prop := fun _ => False
  ct : Env → Prop := fun _ => False
def SX (ts : TS) (ρ : Env) (P : Po) : Prop := ∀ B σ F H, W B ρ σ F H → ∀ Dn : Ends, (∀ ρ' σ' F' H', P.nx ρ' → W B ρ' σ' F' H' → Dn.nx σ' H') → (∀ d ρ' σ' v F' H', P.rt d ρ' → W B ρ' σ' F' H' → Rp F' v d → Dn.rt v H') →
  (∀ ρ' σ' F' H', P.bk ρ' → W B ρ' σ' F' H' → Dn.bk σ' H') → (∀ ρ' σ' F' H', P.ct ρ' → W B ρ' σ' F' H' → Dn.ct σ' H') → ts Dn σ H
/-- ρ' knows no more than ρ -/
inductive LeE : Env → Env → Prop
  | nil : LeE [] []
  | emp {s : Slot} {ρ' ρ : Env} : LeE ρ' ρ → LeE (.emp :: ρ') (s :: ρ)
  | eq {s s' : Slot} {ρ' ρ : Env} : s = s' → LeE ρ' ρ → LeE (s :: ρ') (s' :: ρ)
theorem LeE.refl : ∀ ρ, LeE ρ ρ
  | [] => .nil
  | _ :: ρ => .eq rfl (LeE.refl ρ)
theorem LeE.len {ρ' ρ : Env} (h : LeE ρ' ρ) : ρ'.length = ρ.length := by
  induction h with
  | nil => rfl
  | emp _ ih => simp [ih]
  | eq _ _ ih => simp [ih]
theorem LeE.get {ρ' ρ : Env} (h : LeE ρ' ρ) : ∀ {i : Nat} {s : Slot}, ρ'[i]? = some s → s = .emp ∨ ρ[i]? = some s := by
  induction h with
  | nil => intro i s e; simp at e
  | emp _ ih =>
    intro i s e
    cases i with
    | zero => simp at e; exact .inl e.symm
    | succ i => exact ih (by simpa using e)
  | eq q _ ih =>
    intro i s e
    cases i with
    | zero => simp at e; subst e; subst q; exact .inr rfl
    | succ i => exact ih (by simpa using e)
theorem WA.weak {B : Base} {ad : Nat → List Addr} {ρ ρ' : Env} {σ : St} {F H : Hp} (w : WA B ad ρ σ F H) (l : LeE ρ' ρ) : W B ρ' σ F H := by
  refine ⟨fun i => match ρ'[i]? with | some .emp => [] | _ => ad i, w.gr, by rw [l.len]; exact w.len, fun i s e => ?_, fun i p m => ?_, fun i j p m1 m2 => ?_, fun i e => ?_, w.pin.to fun S e => by
    rcases l.get e with h | h
    · cases h
    · exact ⟨⟨S, h⟩, rfl, by
        show (match ρ'[0]? with | some .emp => [] | _ => ad 0) = ad 0
        rw [e]⟩⟩
  · rcases l.get e with h | h
    · subst h
      show (match ρ'[i]? with | some .emp => [] | _ => ad i) = []
      rw [e]
    · have k := w.sl i s h
      show SlotOk B F H s σ[i]? (match ρ'[i]? with | some .emp => [] | _ => ad i)
      rw [e]
      cases s with
      | emp => rfl
      | _ => exact k
  · exact w.fz i p (by
      revert m
      show p ∈ (match ρ'[i]? with | some .emp => [] | _ => ad i) → p ∈ ad i
      split <;> simp)
  · have g : ∀ i, p ∈ (match ρ'[i]? with | some .emp => [] | _ => ad i) → p ∈ ad i := fun i => by split <;> simp
    exact w.dj i j p (g i m1) (g j m2)
  · show (match ρ'[i]? with | some .emp => [] | _ => ad i) = []
    rw [e]
    exact w.out i (by
      rw [List.getElem?_eq_none_iff] at e ⊢
      rw [← l.len]; exact e)
theorem W.weak {B : Base} {ρ ρ' : Env} {σ : St} {F H : Hp} (w : W B ρ σ F H) (l : LeE ρ' ρ) : W B ρ' σ F H := let ⟨_, w⟩ := w; w.weak l
/-- a slot is stored -/
theorem WA.setVal {B : Base} {ad : Nat → List Addr} {ρ : Env} {σ : St} {F H : Hp} (w : WA B ad ρ σ F H) (i : Nat) {d : D} {v : V} (r : Rp F v d) : W B (ρ.set i (.val d)) (σ.set i (some v)) F H := by
  refine ⟨fun k => if k = i then [] else ad k, w.gr, by rw [List.length_set, List.length_set]; exact w.len, fun j s e => ?_, fun j p m => ?_, fun j1 j2 q m1 m2 => ?_, fun j e => ?_, w.pin.to fun S e => by
    rcases get_set e with ⟨_, q⟩ | ⟨hj, e⟩
    · cases q
    · exact ⟨⟨S, e⟩, List.getElem?_set_ne (Ne.symm hj), if_neg hj⟩⟩
  · rcases get_set e with ⟨rfl, rfl⟩ | ⟨hj, e'⟩
    · have hi : j < σ.length := by
        have := (List.getElem?_eq_some_iff.mp e).1
        rw [List.length_set] at this
        rw [w.len]; exact this
      exact ⟨if_pos rfl, v, List.getElem?_set_self hi, r⟩
    · rw [if_neg hj, List.getElem?_set_ne (Ne.symm hj)]
      exact w.sl j s e'
  · by_cases hj : j = i
    · simp [hj] at m
    · simp only [if_neg hj] at m
      exact w.fz j p m
  · by_cases h1 : j1 = i
    · simp [h1] at m1
    · by_cases h2 : j2 = i
      · simp [h2] at m2
      · simp only [if_neg h1] at m1
        simp only [if_neg h2] at m2
        exact w.dj j1 j2 q m1 m2
  · show (if j = i then [] else ad j) = []
    by_cases hj : j = i
    · rw [if_pos hj]
    · rw [if_neg hj]
      exact w.out j (get_set' e)
theorem WA.setOwn {B : Base} {ad : Nat → List Addr} {ρ : Env} {σ : St} {F H : Hp} (w : WA B ad ρ σ F H) (i : Nat) {ds : List D} {p : Addr} {vs : List V} (hF : F p = none) (h0 : B.H0 p = none) (hn : ∀ i, p ∉ ad i) (hp : H p = some (.lst vs)) (r : RpA F vs ds) :
    W B (ρ.set i (.own ds)) (σ.set i (some (.ref p))) F H := by
  refine ⟨fun k => if k = i then (if i < ρ.length then [p] else []) else ad k, w.gr, by rw [List.length_set, List.length_set]; exact w.len, fun j s e => ?_, fun j q m => ?_, fun j1 j2 q m1 m2 => ?_, fun j e => ?_, w.pin.to fun S e => by
    rcases get_set e with ⟨_, q⟩ | ⟨hj, e⟩
    · cases q
    · exact ⟨⟨S, e⟩, List.getElem?_set_ne (Ne.symm hj), if_neg hj⟩⟩
  · rcases get_set e with ⟨rfl, rfl⟩ | ⟨hj, e'⟩
    · have hi : j < ρ.length := by
        have := (List.getElem?_eq_some_iff.mp e).1
        rwa [List.length_set] at this
      exact ⟨p, vs, by rw [if_pos rfl, if_pos hi], h0, List.getElem?_set_self (by rw [w.len]; exact hi), hp, r⟩
    · rw [if_neg hj, List.getElem?_set_ne (Ne.symm hj)]
      exact w.sl j s e'
  · by_cases hj : j = i
    · simp only [if_pos hj] at m
      by_cases hi : i < ρ.length
      · simp only [if_pos hi, List.mem_singleton] at m
        subst m
        exact ⟨hF, .inl h0⟩
      · simp [if_neg hi] at m
    · simp only [if_neg hj] at m
      exact w.fz j q m
  · have g : ∀ j, q ∈ (if j = i then (if i < ρ.length then [p] else []) else ad j) → (j = i ∧ q = p) ∨ (j ≠ i ∧ q ∈ ad j) := fun j m => by
      by_cases hj : j = i
      · simp only [if_pos hj] at m
        by_cases hi : i < ρ.length
        · simp only [if_pos hi, List.mem_singleton] at m
          exact .inl ⟨hj, m⟩
        · simp [if_neg hi] at m
      · simp only [if_neg hj] at m
        exact .inr ⟨hj, m⟩
    rcases g j1 m1 with ⟨a1, b1⟩ | ⟨a1, b1⟩ <;> rcases g j2 m2 with ⟨a2, b2⟩ | ⟨a2, b2⟩
    · rw [a1, a2]
    · exact absurd (b1 ▸ b2) (hn j2)
    · exact absurd (b2 ▸ b1) (hn j1)
    · exact w.dj j1 j2 q b1 b2
  · show (if j = i then (if i < ρ.length then [p] else []) else ad j) = []
    have e' := get_set' e
    by_cases hj : j = i
    · subst hj
      rw [if_pos rfl, if_neg (by rw [List.getElem?_eq_none_iff] at e'; omega)]
    · rw [if_neg hj]
      exact w.out j e'
/-- an own list is changed in place -/
theorem WA.mut {B : Base} {ad : Nat → List Addr} {ρ : Env} {σ : St} {F H : Hp} (w : WA B ad ρ σ F H) {i : Nat} {ds es : List D} {p : Addr} {ws : List V} (h : ρ[i]? = some (.own ds)) (hp : σ[i]? = some (some (.ref p))) (r : RpA F ws es) :
    W B (ρ.set i (.own es)) σ F (upd H p (.lst ws)) := by
  obtain ⟨p', vs, k, k0, k1, k2, _⟩ := w.sl i _ h
  rw [hp] at k1
  cases k1
  have hF : F p = none := (w.fz i p (by rw [k]; simp)).1
  have hn : ∀ j, j ≠ i → p ∉ ad j := fun j hj m => hj (w.dj j i p m (by rw [k]; simp))
  have ne0 : ∀ a o, B.H0 a = some o → a ≠ p := fun a o e z => by rw [z, k0] at e; cases e
  refine ⟨ad, ⟨w.gr.ff, fun a o e => ?_, fun a o e m => ?_, fun a e => ?_, w.gr.fr⟩, by rw [List.length_set]; exact w.len, fun j s e => ?_, w.fz, w.dj, fun j e => w.out j (get_set' e), w.pin.to fun S e => by
    rcases get_set e with ⟨_, q⟩ | ⟨hj, e⟩
    · cases q
    · exact ⟨⟨S, e⟩, rfl, rfl⟩⟩
  · rw [upd_ne (fun z => by rw [z, hF] at e; cases e)]
    exact w.gr.fh a o e
  · rw [upd_ne (ne0 a o e)]
    exact w.gr.kp a o e m
  · by_cases ha : a = p
    · rw [ha, upd_same]; intro z; cases z
    · rw [upd_ne ha]; exact w.gr.al a e
  · rcases get_set e with ⟨rfl, rfl⟩ | ⟨hj, e⟩
    · exact ⟨p, ws, k, k0, hp, upd_same, r⟩
    · have q := w.sl j s e
      cases s with
      | emp => exact q
      | val d => exact q
      | own es =>
        obtain ⟨q, vs, k1, k2, k3, k4, k5⟩ := q
        refine ⟨q, vs, k1, k2, k3, ?_, k5⟩
        rw [upd_ne (fun z => hn j hj (by rw [k1, z]; simp))]
        exact k4
      | st S =>
        obtain ⟨s, k1, q⟩ := q
        refine ⟨s, k1, ?_⟩
        cases S with
        | two a b =>
          refine ⟨q.1, ?_⟩
          rw [upd_ne (fun z => hn j hj (by rw [q.1, z]; simp))]
          exact q.2
        | dct kvs =>
          refine ⟨q.1, ?_⟩
          rw [upd_ne (fun z => hn j hj (by rw [q.1, z]; simp))]
          exact q.2
        | cel a cs =>
          obtain ⟨c, q1, q2, q3, q4⟩ := q
          refine ⟨c, q1, q2, ?_, ?_⟩
          · rw [upd_ne (fun z => hn j hj (by rw [q1, z]; simp))]
            exact q3
          · rw [upd_ne (fun z => hn j hj (by rw [q1, z]; simp))]
            exact q4

/-! #### the rules for statements -/
section
variable {ρ ρ' : Env} {P : Po} {te ta tb : TE} {tt : TT} {t u : TS}
/-- what follows, perhaps with less known -/
def NX (P : Po) (ρ : Env) : Prop := ∃ ρ', LeE ρ' ρ ∧ P.nx ρ'
theorem nx_same (h : P.nx ρ) : NX P ρ := ⟨ρ, LeE.refl ρ, h⟩
theorem nx_le (l : LeE ρ' ρ) (h : P.nx ρ') : NX P ρ := ⟨ρ', l, h⟩
def CTn (P : Po) (ρ : Env) : Prop := ∃ ρ', LeE ρ' ρ ∧ P.ct ρ'
theorem sx_weak (l : LeE ρ' ρ) (h : SX t ρ' P) : SX t ρ P := fun B σ F H w => h B σ F H (w.weak l)
/-- then u -/
def Po.seq (P : Po) (u : TS) : Po := { P with nx := fun ρ' => SX u ρ' P }
theorem nx_seq (h : SX u ρ P) : NX (P.seq u) ρ := nx_same h
theorem nx_seqw (l : LeE ρ' ρ) (h : SX u ρ' P) : NX (P.seq u) ρ := nx_le l h
theorem sx_seq (h : SX t ρ (P.seq u)) : SX (tSeq t u) ρ P := fun B σ F H w Dn n r b c =>
  h B σ F H w { Dn with nx := u Dn } (fun ρ' σ' F' H' q w' => q B σ' F' H' w' Dn n r b c) r b c
theorem sx_next (h : NX P ρ) : SX tNext ρ P := fun B σ F H w Dn n r b c => let ⟨ρ', l, q⟩ := h; n ρ' σ F H q (w.weak l)
theorem sx_asg {i : Nat} (h : EX te ρ fun d ρ1 => NX P (ρ1.set i (.val d))) : SX (tAsg te (gName i)) ρ P := fun B σ F H w Dn n r b c => by
  obtain ⟨ad, w⟩ := w
  exact h B ad σ F H w _ fun d ρ1 v F1 H1 q p rv => let ⟨ρ', l, q⟩ := q; n ρ' _ F1 H1 q ((p.wa.setVal i rv).weak l)
theorem sx_asgO {i : Nat} (h : EO te ρ fun ds ρ1 => NX P (ρ1.set i (.own ds))) : SX (tAsg te (gName i)) ρ P := fun B σ F H w Dn n r b c => by
  obtain ⟨ad, w⟩ := w
  refine h B ad σ F H w _ fun ds ρ1 p vs F1 H1 q P hF hH hp rv => ?_
  obtain ⟨ρ', l, q⟩ := q
  have k := w.newp hH
  exact n ρ' _ F1 H1 q ((P.wa.setOwn i hF k.2.1 k.2.2 hp rv).weak l)
theorem sx_if (h : ET tt ρ fun b ρ1 => (b = true → SX t ρ1 P) ∧ (b = false → SX u ρ1 P)) : SX (tIfS tt t u) ρ P := fun B σ F H w Dn n r bk c => by
  obtain ⟨ad, w⟩ := w
  refine h B ad σ F H w _ fun b ρ1 F1 H1 q p => ?_
  cases b with
  | true =>
    show t Dn σ H1
    exact q.1 rfl B σ F1 H1 ⟨ad, p.wa⟩ Dn n r bk c
  | false =>
    show u Dn σ H1
    exact q.2 rfl B σ F1 H1 ⟨ad, p.wa⟩ Dn n r bk c
theorem sx_ret (h : EX te ρ fun d ρ1 => P.rt d ρ1) : SX (tRet te) ρ P := fun B σ F H w Dn n r b c => by
  obtain ⟨ad, w⟩ := w
  exact h B ad σ F H w _ fun d ρ1 v F1 H1 q p rv => r d ρ1 σ v F1 H1 q ⟨ad, p.wa⟩ rv
theorem sx_retN (h : P.rt .none ρ) : SX tRetN ρ P := fun B σ F H w Dn n r b c => r .none ρ σ .non F H h w .non
theorem sx_brk (h : P.bk ρ) : SX tBreak ρ P := fun B σ F H w Dn n r b c => b ρ σ F H h w
theorem sx_cont (h : CTn P ρ) : SX tCont ρ P := fun B σ F H w Dn n r b c => let ⟨ρ', l, q⟩ := h; c ρ' σ F H q (w.weak l)
theorem sx_drop (h : EX te ρ fun _ ρ1 => NX P ρ1) : SX (tDrop te) ρ P := fun B σ F H w Dn n r b c => by
  obtain ⟨ad, w⟩ := w
  exact h B ad σ F H w _ fun d ρ1 v F1 H1 q p rv => let ⟨ρ', l, q⟩ := q; n ρ' σ F1 H1 q (p.wa.weak l)
theorem W.freeze {B : Base} {σ : St} {F H : Hp} (w : W B ρ σ F H) {i : Nat} {ds : List D} (h : ρ[i]? = some (.own ds)) : ∃ F', W B (ρ.set i (.val (.list ds))) σ F' H := by
  obtain ⟨ad, w⟩ := w
  obtain ⟨p, vs, _, _, _, _, _, _, w2⟩ := w.lend h
  exact ⟨_, _, w2⟩
theorem sx_freeze (i : Nat) {ds : List D} (h : ρ[i]? = some (.own ds)) (k : SX t (ρ.set i (.val (.list ds))) P) : SX t ρ P := fun B σ F H w => by
  obtain ⟨F', w2⟩ := w.freeze h
  exact k B σ F' H w2
/-- x.append(e), x an own list -/
theorem sx_app {K : PySem.W.Frag} {i : Nat} {es : List D} (h : ρ[i]? = some (.own es)) (k : EX te ρ fun d ρ1 => ∃ ds, ρ1[i]? = some (.own ds) ∧ ds.length < 1000000 ∧ NX P (ρ1.set i (.own (ds ++ [d])))) : SX (tDrop (tBM K "list" rAppend (tVar i) (tCons te tNil))) ρ P := fun B σ F H w Dn n r b c => by
  obtain ⟨ad, w⟩ := w
  obtain ⟨p0, vs0, _, _, k1, k0, _⟩ := w.sl i _ h
  refine ⟨_, k1, .inl ⟨rfl, _, .inl (.inl k0)⟩, k B ad σ F H w _ fun d ρ1 v F1 H1 q1 p1 r1 => ?_⟩
  obtain ⟨ds, h1, hz, ρ', l, q⟩ := q1
  obtain ⟨p, vs, _, _, k2, k3, rr⟩ := p1.wa.sl i _ h1
  have e := k1.symm.trans k2
  cases e
  exact ⟨_, vs, v, rfl, rfl, k3, Nat.lt_of_lt_of_le (by rw [rr.len]; exact hz) (by decide), n ρ' σ F1 _ q ((p1.wa.mut h1 k2 (rr.app (.cons r1 .nil))).weak l)⟩
/-- x[j] = e, x an own list -/
theorem sx_setO {i : Nat} {es : List D} (h : EX te ρ fun d ρ1 => ρ1[i]? = some (.own es) ∧ EX tb ρ1 fun j ρ2 => ∃ ds k m, ρ2[i]? = some (.own ds) ∧ j = .int k ∧ ixN ds.length k = some m ∧ NX P (ρ2.set i (.own (ds.set m d)))) : SX (tAsg te (gSub (tVar i) tb rSetL)) ρ P := fun B σ F H w Dn n r b c => by
  obtain ⟨ad, w⟩ := w
  refine h B ad σ F H w _ fun d ρ1 v F1 H1 q1 p1 r1 => ?_
  obtain ⟨h1, q1⟩ := q1
  obtain ⟨p0, vs0, _, _, k1, k0, _⟩ := p1.wa.sl i _ h1
  refine ⟨_, k1, q1 B ad σ F1 H1 p1.wa _ fun j ρ2 y F2 H2 q2 p2 r2 => ?_⟩
  obtain ⟨ds, k, m, h2, rfl, hm, ρ', l, q⟩ := q2
  obtain ⟨p, vs, _, _, k2, k3, rr⟩ := p2.wa.sl i _ h2
  have e := k1.symm.trans k2
  cases e
  exact ⟨_, vs, k, m, rfl, r2.int_inv, k3, by rw [rr.len]; exact hm, n ρ' σ F2 _ q ((p2.wa.mut h2 k2 (rr.set m (r1.up p2.gr.ff))).weak l)⟩
/-- a, b = e, f -/
theorem sx_par {i j : Nat} {t : TA} (h : EA t ρ fun ds ρ1 => ∃ d e, ds = [d, e] ∧ NX P ((ρ1.set i (.val d)).set j (.val e))) : SX (tPar i j t) ρ P := fun B σ F H w Dn n r b c => by
  obtain ⟨ad, w⟩ := w
  refine h B ad σ F H w _ fun ds ρ1 vs F1 H1 q p rv => ?_
  obtain ⟨d, e, rfl, ρ', l, q⟩ := q
  obtain ⟨v, u, rfl, r1, r2⟩ := rv.two
  obtain ⟨ad2, w2⟩ := p.wa.setVal i r1
  exact ⟨v, u, rfl, n ρ' _ F1 H1 q ((w2.setVal j r2).weak l)⟩
/-! targets -/
def SG (J : List Nat) (g : TG) (d : D) (ρ : Env) (Qn : Env → Prop) : Prop := ∀ B ad σ F H v, WA B ad ρ σ F H → (∀ j ∈ J, ad j = []) → Rp F v d → ∀ Z : St → Hp → Prop, (∀ ρ' σ', Qn ρ' → WA B ad ρ' σ' F H → wipe σ' J = wipe σ J → (∀ i, i ∉ J → ρ'[i]? = ρ[i]?) → Z σ' H) → g v σ H Z
def SGs (J : List Nat) (g : TGs) (ds : List D) (ρ : Env) (Qn : Env → Prop) : Prop := ∀ B ad σ F H vs, WA B ad ρ σ F H → (∀ j ∈ J, ad j = []) → RpA F vs ds → ∀ Z : St → Hp → Prop, (∀ ρ' σ', Qn ρ' → WA B ad ρ' σ' F H → wipe σ' J = wipe σ J → (∀ i, i ∉ J → ρ'[i]? = ρ[i]?) → Z σ' H) → g vs σ H Z
theorem wipe_get {σ : St} {i : Nat} : ∀ {vs : List Nat}, (wipe σ vs)[i]? = if i ∈ vs ∧ i < σ.length then some none else σ[i]?
  | [] => by simp [wipe]
  | v :: vs => by
    unfold wipe
    by_cases h : i = v
    · subst h
      by_cases hl : i < σ.length
      · rw [List.getElem?_set_self (by rw [wipe_length]; exact hl)]
        simp [hl]
      · rw [List.getElem?_eq_none (by rw [List.length_set, wipe_length]; omega)]
        simp [hl]
    · rw [List.getElem?_set_ne (Ne.symm h), wipe_get]
      simp [h]
theorem wipe_set {σ : St} {i : Nat} {x : Option V} {J : List Nat} (h : i ∈ J) : wipe (σ.set i x) J = wipe σ J := by
  apply List.ext_getElem?
  intro k
  rw [wipe_get, wipe_get, List.length_set]
  by_cases hk : k ∈ J ∧ k < σ.length
  · rw [if_pos hk, if_pos hk]
  · rw [if_neg hk, if_neg hk]
    by_cases e : k = i
    · subst e
      have : ¬ k < σ.length := fun z => hk ⟨h, z⟩
      rw [List.getElem?_eq_none (by rw [List.length_set]; omega), List.getElem?_eq_none (by omega)]
    · rw [List.getElem?_set_ne (Ne.symm e)]
theorem WA.setVal' {B : Base} {ad : Nat → List Addr} {σ : St} {F H : Hp} (w : WA B ad ρ σ F H) (i : Nat) (hi : ad i = []) {d : D} {v : V} (r : Rp F v d) : WA B ad (ρ.set i (.val d)) (σ.set i (some v)) F H := by
  refine ⟨w.gr, by rw [List.length_set, List.length_set]; exact w.len, fun j s e => ?_, w.fz, w.dj, fun j e => w.out j (get_set' e), w.pin.to fun S e => by
    rcases get_set e with ⟨_, q⟩ | ⟨hj, e⟩
    · cases q
    · exact ⟨⟨S, e⟩, List.getElem?_set_ne (Ne.symm hj), rfl⟩⟩
  rcases get_set e with ⟨rfl, rfl⟩ | ⟨hj, e'⟩
  · have hl : j < σ.length := by
      have := (List.getElem?_eq_some_iff.mp e).1
      rw [List.length_set] at this
      rw [w.len]; exact this
    exact ⟨hi, v, List.getElem?_set_self hl, r⟩
  · rw [List.getElem?_set_ne (Ne.symm hj)]
    exact w.sl j s e'
theorem sg_name {J : List Nat} {i : Nat} {d : D} {Qn : Env → Prop} (hj : i ∈ J) (q : Qn (ρ.set i (.val d))) : SG J (gName i) d ρ Qn := fun B ad σ F H v w hJ r Z z => z _ _ q (w.setVal' i (hJ i hj) r) (wipe_set hj) fun k hk => List.getElem?_set_ne fun e => hk (by rw [← e]; exact hj)
theorem sgs_nil {J : List Nat} {Qn : Env → Prop} (q : Qn ρ) : SGs J gNil [] ρ Qn := fun B ad σ F H vs w hJ r Z z => by
  cases r
  exact ⟨rfl, z ρ σ q w rfl fun _ _ => rfl⟩
theorem sgs_cons {J : List Nat} {g : TG} {gs : TGs} {d : D} {ds : List D} {Qn : Env → Prop} (h : SG J g d ρ fun ρ1 => SGs J gs ds ρ1 Qn) : SGs J (gCons g gs) (d :: ds) ρ Qn := fun B ad σ F H vs w hJ r Z z => by
  cases r with
  | cons r1 r2 =>
    exact ⟨_, _, rfl, h B ad σ F H _ w hJ r1 _ fun ρ1 σ1 q w1 e1 f1 => q B ad σ1 F H _ w1 hJ r2 Z fun ρ2 σ2 q w2 e2 f2 => z ρ2 σ2 q w2 (e2.trans e1) fun i hi => (f2 i hi).trans (f1 i hi)⟩
theorem sg_tup {K : PySem.W.Frag} {J : List Nat} {n : Nat} {gs : TGs} {ds : List D} {Qn : Env → Prop} (hn : ds.length = n) (h : SGs J gs ds ρ Qn) : SG J (gTup K n gs) (.tuple ds) ρ Qn := fun B ad σ F H v w hJ r Z z => by
  obtain ⟨a, xs, rfl, h1, h2⟩ := r.tup_inv
  exact ⟨a, xs, rfl, sqT_rd h1 w.gr.fh, h2.len.trans hn, h B ad σ F H xs w hJ h2 Z z⟩
/-- the slots at vs forgotten -/
def wipeE (ρ : Env) (vs : List Nat) : Env := vs.foldl (fun r v => r.set v .emp) ρ
theorem wipeE_len (ρ : Env) (vs : List Nat) : (wipeE ρ vs).length = ρ.length := by
  unfold wipeE
  induction vs generalizing ρ with
  | nil => rfl
  | cons v vs ih => rw [List.foldl_cons, ih, List.length_set]
theorem wipeE_get : ∀ {vs : List Nat} {ρ : Env} {i : Nat}, (wipeE ρ vs)[i]? = if i ∈ vs ∧ i < ρ.length then some .emp else ρ[i]?
  | [], ρ, i => by simp [wipeE]
  | v :: vs, ρ, i => by
    have e : wipeE ρ (v :: vs) = wipeE (ρ.set v .emp) vs := rfl
    rw [e, wipeE_get, List.length_set]
    by_cases h : i ∈ vs ∧ i < ρ.length
    · rw [if_pos h, if_pos ⟨List.mem_cons_of_mem _ h.1, h.2⟩]
    · rw [if_neg h]
      by_cases hv : i = v
      · subst hv
        by_cases hl : i < ρ.length
        · rw [List.getElem?_set_self hl, if_pos ⟨by simp, hl⟩]
        · rw [List.getElem?_eq_none (by rw [List.length_set]; omega), if_neg (fun z => hl z.2), List.getElem?_eq_none (by omega)]
      · rw [List.getElem?_set_ne (Ne.symm hv)]
        rw [if_neg (fun z => h ⟨(List.mem_cons.mp z.1).resolve_left hv, z.2⟩)]
theorem WA.weakJ {B : Base} {ad : Nat → List Addr} {σ : St} {F H : Hp} (w : WA B ad ρ σ F H) (J : List Nat) : WA B (fun k => if k ∈ J then [] else ad k) (wipeE ρ J) σ F H := by
  have g : ∀ i p, p ∈ (if i ∈ J then [] else ad i) → p ∈ ad i := fun i p m => by
    by_cases h : i ∈ J
    · rw [if_pos h] at m; cases m
    · rw [if_neg h] at m; exact m
  refine ⟨w.gr, by rw [wipeE_len]; exact w.len, fun i s e => ?_, fun i p m => w.fz i p (g i p m), fun i j p m1 m2 => w.dj i j p (g i p m1) (g j p m2), fun i e => ?_, w.pin.to fun S e => by
    rw [wipeE_get] at e
    by_cases h : 0 ∈ J ∧ 0 < ρ.length
    · rw [if_pos h] at e; cases e
    · rw [if_neg h] at e
      have hi : 0 < ρ.length := (List.getElem?_eq_some_iff.mp e).1
      exact ⟨⟨S, e⟩, rfl, if_neg fun z => h ⟨z, hi⟩⟩⟩
  · rw [wipeE_get] at e
    by_cases h : i ∈ J ∧ i < ρ.length
    · rw [if_pos h] at e
      cases e
      exact if_pos h.1
    · rw [if_neg h] at e
      have hi : i < ρ.length := (List.getElem?_eq_some_iff.mp e).1
      have hJ : i ∉ J := fun z => h ⟨z, hi⟩
      simp only [if_neg hJ]
      exact w.sl i s e
  · rw [wipeE_get] at e
    by_cases hJ : i ∈ J
    · exact if_pos hJ
    · show (if i ∈ J then [] else ad i) = []
      rw [if_neg hJ]
      rw [if_neg (fun z => hJ z.1)] at e
      exact w.out i e
theorem sg_go {B : Base} {ad : Nat → List Addr} {σ : St} {F H : Hp} {J : List Nat} {g : TG} {d : D} {v : V} {Qn : Env → Prop} (h : SG J g d (wipeE ρ J) Qn) (w : WA B ad ρ σ F H) (r : Rp F v d) (Z : St → Hp → Prop) (z : ∀ ρ' σ', Qn ρ' → W B ρ' σ' F H → Z σ' H) : g v σ H Z :=
  h B _ σ F H v (w.weakJ J) (fun j hj => if_pos hj) r Z fun ρ' σ' q w' _ _ => z ρ' σ' q ⟨_, w'⟩
/-- (a, b) = e by a target -/
theorem sx_asgT {J : List Nat} {g : TG} (h : EX te ρ fun d ρ1 => SG J g d (wipeE ρ1 J) fun ρ2 => NX P ρ2) : SX (tAsg te g) ρ P := fun B σ F H w Dn n r b c => by
  obtain ⟨ad, w⟩ := w
  exact h B ad σ F H w _ fun d ρ1 v F1 H1 q p rv => sg_go q p.wa rv _ fun ρ2 σ2 q w2 => let ⟨ρ', l, q⟩ := q; n ρ' σ2 F1 H1 q (w2.weak l)
/-! loops -/
structure ItD (J : It) (F : Hp) (ds : List D) : Prop where
  go : ∀ i H, Same F H → i < ds.length → J.go i H
  stop : ∀ i H, Same F H → ds.length ≤ i → J.stop i H
  yld : ∀ i H x H' F1, Same F F1 → Same F1 H → J.yld i H x H' → i < ds.length → ∃ d F2, ds[i]? = some d ∧ Gr Non F1 H F2 H' ∧ Rp F2 x d
/-- what is walked -/
def EI (wi : TI) (ρ : Env) (Q : List D → Env → Prop) : Prop := ∀ B ad σ F H, WA B ad ρ σ F H → ∀ R : It → Hp → Prop, (∀ ds ρ' J F' H', Q ds ρ' → Post B ad σ ρ F H ρ' F' H' → ItD J F' ds → R J H') → wi σ H R
theorem W.rebase {B : Base} {σ : St} {F H : Hp} (w : W B ρ σ F H) : W { F0 := F, H0 := B.H0, M := B.M, pin := B.pin } ρ σ F H := by
  obtain ⟨ad, w⟩ := w
  refine ⟨ad, ⟨Same.refl F, w.gr.fh, w.gr.kp, w.gr.al, fun _ _ z => z⟩, w.len, fun i s e => ?_, w.fz, w.dj, w.out, w.pin⟩
  have k := w.sl i s e
  cases s <;> exact k
theorem W.unbase {B : Base} {σ σ' : St} {F H F' H' : Hp} (w : W B ρ σ F H) (w' : W { F0 := F, H0 := B.H0, M := B.M, pin := B.pin } ρ' σ' F' H') : W B ρ' σ' F' H' ∧ Same F F' := by
  obtain ⟨ad, w⟩ := w
  obtain ⟨ad', w'⟩ := w'
  refine ⟨⟨ad', ⟨w.gr.ff.trans w'.gr.ff, w'.gr.fh, w'.gr.kp, w'.gr.al, fun a e z => w'.gr.fr a e (w.gr.fr a e z)⟩, w'.len, fun i s e => ?_, w'.fz, w'.dj, w'.out, w'.pin⟩, w'.gr.ff⟩
  have k := w'.sl i s e
  cases s <;> exact k
theorem sx_for {wi : TI} {J : List Nat} {g : TG} (h : EI wi ρ fun ds ρ1 => ∃ I : Nat → Env → Prop, I 0 ρ1 ∧ (∀ k d ρ', ds[k]? = some d → I k ρ' → SG J g d (wipeE ρ' J) fun ρ2 => SX t ρ2 { nx := I (k + 1), ct := I (k + 1), bk := NX P, rt := P.rt }) ∧ ∀ ρ', I ds.length ρ' → NX P ρ') :
    SX (tFor wi g t) ρ P := fun B σ F H w Dn n r b c => by
  obtain ⟨ad, w⟩ := w
  refine h B ad σ F H w _ fun ds ρ1 J F1 H1 q1 p1 it => ?_
  obtain ⟨I, i0, turn, done⟩ := q1
  refine ⟨fun i m σ' H' => m = ds.length - i ∧ i ≤ ds.length ∧ ∃ ρ' F', I i ρ' ∧ W B ρ' σ' F' H' ∧ Same F1 F', ⟨_, rfl, Nat.zero_le _, ρ1, F1, i0, ⟨ad, p1.wa⟩, Same.refl _⟩, ?_⟩
  rintro i m σ' H' ⟨rfl, hi, ρ', F', iv, ⟨ad', w'⟩, sf⟩
  by_cases hlt : i < ds.length
  · refine .inr ⟨it.go i H' (sf.trans w'.gr.fh) hlt, fun σ2 H2 => ∃ ρ2 F2, I (i + 1) ρ2 ∧ W B ρ2 σ2 F2 H2 ∧ Same F1 F2, fun σ2 H2 ⟨ρ2, F2, a, b, c⟩ => ⟨ds.length - (i + 1), by omega, rfl, hlt, ρ2, F2, a, b, c⟩, fun x H2 y => ?_⟩
    obtain ⟨d, F2, e, gr, rx⟩ := it.yld i H' x H2 F' sf w'.gr.fh y hlt
    refine sg_go (turn i d ρ' e iv) (w'.grow gr) rx _ fun ρ2 σ2 q w2 => ?_
    exact q _ σ2 F2 H2 w2.rebase _ (fun ρ3 σ3 F3 H3 q3 w3 => let k := w2.unbase w3; ⟨ρ3, F3, q3, k.1, (sf.trans gr.ff).trans k.2⟩) (fun d ρ3 σ3 v F3 H3 q3 w3 rv => r d ρ3 σ3 v F3 H3 q3 (w2.unbase w3).1 rv) (fun ρ3 σ3 F3 H3 q3 w3 => let ⟨ρ4, l, q4⟩ := q3; n ρ4 σ3 F3 H3 q4 ((w2.unbase w3).1.weak l)) (fun ρ3 σ3 F3 H3 q3 w3 => let k := w2.unbase w3; ⟨ρ3, F3, q3, k.1, (sf.trans gr.ff).trans k.2⟩)
  · have e : i = ds.length := by omega
    subst e
    obtain ⟨ρ2, l, q⟩ := done ρ' iv
    exact .inl ⟨it.stop _ H' (sf.trans w'.gr.fh) (Nat.le_refl _), n ρ2 σ' F' H' q (w'.weak l)⟩
theorem sx_while (I : Nat → Env → Prop) (m0 : Nat) (i0 : I m0 ρ) (h : ∀ m ρ', I m ρ' → ET tt ρ' fun b ρ1 => (b = true → SX t ρ1 { nx := fun ρ2 => ∃ m', m' < m ∧ I m' ρ2, ct := fun ρ2 => ∃ m', m' < m ∧ I m' ρ2, bk := NX P, rt := P.rt }) ∧ (b = false → NX P ρ1)) : SX (tWhile tt t) ρ P := fun B σ F H w Dn n r b c => by
  refine ⟨fun m σ' H' => ∃ ρ' F', I m ρ' ∧ W B ρ' σ' F' H', ⟨m0, ρ, F, i0, w⟩, ?_⟩
  rintro m σ' H' ⟨ρ', F', iv, ⟨ad, w'⟩⟩
  refine h m ρ' iv B ad σ' F' H' w' _ fun b1 ρ1 F1 H1 q p => ?_
  cases b1 with
  | true =>
    refine ⟨fun σ2 H2 => ∃ m' ρ2 F2, m' < m ∧ I m' ρ2 ∧ W B ρ2 σ2 F2 H2, fun σ2 H2 ⟨m', ρ2, F2, a, b, c⟩ => ⟨m', a, ρ2, F2, b, c⟩, ?_⟩
    exact q.1 rfl B σ' F1 H1 ⟨ad, p.wa⟩ _ (fun ρ3 σ3 F3 H3 q3 w3 => let ⟨m', a, b⟩ := q3; ⟨m', ρ3, F3, a, b, w3⟩) r (fun ρ3 σ3 F3 H3 q3 w3 => let ⟨ρ4, l, q4⟩ := q3; n ρ4 σ3 F3 H3 q4 (w3.weak l)) (fun ρ3 σ3 F3 H3 q3 w3 => let ⟨m', a, b⟩ := q3; ⟨m', ρ3, F3, a, b, w3⟩)
  | false =>
    show Dn.nx σ' H1
    obtain ⟨ρ2, l, q2⟩ := q.2 rfl
    exact n ρ2 σ' F1 H1 q2 (W.weak ⟨ad, p.wa⟩ l)
/-! what is walked -/
theorem ei_list {K : PySem.W.Frag} {Q : List D → Env → Prop} (h : EX te ρ fun d ρ1 => ∃ ds, d = .list ds ∧ Q ds ρ1) : EI (iList K te) ρ Q := fun B ad σ F H w R z =>
  h B ad σ F H w _ fun d ρ1 v F1 H1 q p r => by
    obtain ⟨ds, rfl, q⟩ := q
    obtain ⟨a, xs, rfl, h1, h2⟩ := r.lst_inv
    refine ⟨a, rfl, ⟨xs, sqL_rd h1 p.wa.gr.fh⟩, z ds ρ1 _ F1 H1 q p ⟨fun i H' e hi => ⟨xs, xs[i]'(by rw [h2.len]; exact hi), sqL_rd h1 e, by simp⟩, fun i H' e hi => ⟨xs, sqL_rd h1 e, by rw [h2.len]; exact hi⟩, fun i H' x H2 F2 e1 e2 y hi => ?_⟩⟩
    obtain ⟨rfl, y⟩ := y
    obtain ⟨d, hd, rd⟩ := h2.get' (y xs (sqL_rd h1 (e1.trans e2)))
    exact ⟨d, F2, hd, Gr.refl e2, rd.up e1⟩
theorem ei_tup {K : PySem.W.Frag} {Q : List D → Env → Prop} (h : EX te ρ fun d ρ1 => ∃ ds, d = .tuple ds ∧ Q ds ρ1) : EI (iTup K te) ρ Q := fun B ad σ F H w R z =>
  h B ad σ F H w _ fun d ρ1 v F1 H1 q p r => by
    obtain ⟨ds, rfl, q⟩ := q
    obtain ⟨a, xs, rfl, h1, h2⟩ := r.tup_inv
    refine ⟨a, rfl, ⟨xs, sqT_rd h1 p.wa.gr.fh⟩, z ds ρ1 _ F1 H1 q p ⟨fun i H' e hi => ⟨xs, xs[i]'(by rw [h2.len]; exact hi), sqT_rd h1 e, by simp⟩, fun i H' e hi => ⟨xs, sqT_rd h1 e, by rw [h2.len]; exact hi⟩, fun i H' x H2 F2 e1 e2 y hi => ?_⟩⟩
    obtain ⟨rfl, y⟩ := y
    obtain ⟨d, hd, rd⟩ := h2.get' (y xs (sqT_rd h1 (e1.trans e2)))
    exact ⟨d, F2, hd, Gr.refl e2, rd.up e1⟩
/-- lo, lo + 1, .., n of them -/
def rngI (lo : Int) (n : Nat) : List Int := (List.range n).map fun k : Nat => lo + (k : Int)
theorem rngI_len (lo : Int) (n : Nat) : (rngI lo n).length = n := by simp [rngI]
theorem rngI_get {lo : Int} {n k : Nat} (h : k < n) : (rngI lo n)[k]? = some (lo + (k : Int)) := by simp [rngI, h]
theorem rngI_mem {lo x : Int} {n : Nat} : x ∈ rngI lo n ↔ lo ≤ x ∧ x < lo + (n : Int) := by
  unfold rngI
  rw [List.mem_map]
  constructor
  · rintro ⟨k, hk, rfl⟩
    rw [List.mem_range] at hk
    omega
  · intro h
    exact ⟨(x - lo).toNat, by rw [List.mem_range]; omega, by omega⟩
theorem itd_rng {F : Hp} (lo : Int) (n : Nat) : ItD (Itr lo n) F ((rngI lo n).map .int) where
  go := fun i H _ h => by rw [List.length_map, rngI_len] at h; exact h
  stop := fun i H _ h => by rw [List.length_map, rngI_len] at h; exact h
  yld := fun i H x H' F1 _ e2 y h => by
    rw [List.length_map, rngI_len] at h
    obtain ⟨rfl, rfl⟩ := y
    exact ⟨.int (lo + (i : Int)), F1, by rw [List.getElem?_map, rngI_get h]; rfl, Gr.refl e2, .int _⟩
theorem ei_rng1 {t : TA} {Q : List D → Env → Prop} (h : EA t ρ fun ds ρ1 => ∃ n, ds = [.int n] ∧ (-1000000000000 ≤ n ∧ n ≤ 1000000000000) ∧ Q ((rngI 0 n.toNat).map .int) ρ1) : EI (iRng1 t) ρ Q := fun B ad σ F H w R z =>
  h B ad σ F H w _ fun ds ρ1 vs F1 H1 q p r => by
    obtain ⟨n, rfl, ⟨hn1, hn2⟩, q⟩ := q
    obtain ⟨v, rfl, rv⟩ := r.one
    exact ⟨n, by rw [rv.int_inv], by omega, by omega, z _ ρ1 _ F1 H1 q p (itd_rng 0 _)⟩
theorem ei_rng2 {t : TA} {Q : List D → Env → Prop} (h : EA t ρ fun ds ρ1 => ∃ l n, ds = [.int l, .int n] ∧ (-1000000000000 ≤ l ∧ l ≤ 1000000000000 ∧ -1000000000000 ≤ n ∧ n ≤ 1000000000000) ∧ Q ((rngI l (n - l).toNat).map .int) ρ1) : EI (iRng2 t) ρ Q := fun B ad σ F H w R z =>
  h B ad σ F H w _ fun ds ρ1 vs F1 H1 q p r => by
    obtain ⟨l, n, rfl, ⟨hl1, hl2, hn1, hn2⟩, q⟩ := q
    obtain ⟨v, u, rfl, rv, ru⟩ := r.two
    exact ⟨l, n, by rw [rv.int_inv, ru.int_inv], ⟨by omega, by omega, by omega, by omega⟩, z _ ρ1 _ F1 H1 q p (itd_rng l _)⟩
/-- enumerate: pairs (index, item) -/
def enumD (k : Nat) : List D → List D
  | [] => []
  | d :: ds => .tuple [.int (k : Int), d] :: enumD (k + 1) ds
theorem enumD_len : ∀ (ds : List D) (k : Nat), (enumD k ds).length = ds.length
  | [], _ => rfl
  | d :: ds, k => by simp [enumD, enumD_len ds]
theorem enumD_get : ∀ (ds : List D) (k i : Nat) {d : D}, ds[i]? = some d → (enumD k ds)[i]? = some (.tuple [.int ((k + i : Nat) : Int), d])
  | [], _, i, _, h => by simp at h
  | e :: ds, k, 0, d, h => by simp at h; subst h; rfl
  | e :: ds, k, i + 1, d, h => by
    have q := enumD_get ds (k + 1) i (by simpa using h)
    show (enumD (k + 1) ds)[i]? = _
    rw [q, show k + 1 + i = k + (i + 1) by omega]
theorem ei_enum {K : PySem.W.Frag} {t : TA} {Q : List D → Env → Prop} (h : EA t ρ fun es ρ1 => ∃ ds, es = [.list ds] ∧ Q (enumD 0 ds) ρ1) : EI (iEnum K t) ρ Q := fun B ad σ F H w R z =>
  h B ad σ F H w _ fun es ρ1 vs F1 H1 q p r => by
    obtain ⟨ds, rfl, q⟩ := q
    obtain ⟨v, rfl, rv⟩ := r.one
    obtain ⟨a, xs, rfl, h1, h2⟩ := rv.lst_inv
    refine ⟨a, xs, rfl, sqL_rd h1 p.wa.gr.fh, z _ ρ1 _ F1 H1 q p ⟨fun i H' e hi => ?_, fun i H' e hi => ?_, fun i H' x H2 F2 e1 e2 y hi => ?_⟩⟩
    · rw [enumD_len] at hi
      exact ⟨xs, xs[i]'(by rw [h2.len]; exact hi), sqL_rd h1 e, by simp⟩
    · rw [enumD_len] at hi
      exact ⟨xs, sqL_rd h1 e, by rw [h2.len]; exact hi⟩
    · obtain ⟨T, x, rfl, hT, rfl, y⟩ := y
      obtain ⟨d, hd, rd⟩ := h2.get' (y xs (sqL_rd h1 (e1.trans e2)))
      have g := Gr.new (o := .tup [.int (i : Nat), x]) e2 hT
      refine ⟨_, upd F2 T (.tup [.int (i : Nat), x]), enumD_get ds 0 i hd, g, .tup upd_same (.cons ?_ (.cons ((rd.up e1).up g.ff) .nil))⟩
      rw [Nat.zero_add]
      exact .int _
theorem ei_zip {K : PySem.W.Frag} {t : TA} {Q : List D → Env → Prop} (h : EA t ρ fun es ρ1 => ∃ ds fs, es = [.list ds, .list fs] ∧ Q (List.zipWith (fun d f => PyData.tuple [d, f]) ds fs) ρ1) : EI (iZip K t) ρ Q := fun B ad σ F H w R z =>
  h B ad σ F H w _ fun es ρ1 vs F1 H1 q p r => by
    obtain ⟨ds, fs, rfl, q⟩ := q
    obtain ⟨v, u, rfl, rv, ru⟩ := r.two
    obtain ⟨a, xs, rfl, h1, h2⟩ := rv.lst_inv
    obtain ⟨b, ys, rfl, g1, g2⟩ := ru.lst_inv
    refine ⟨a, b, xs, ys, rfl, sqL_rd h1 p.wa.gr.fh, sqL_rd g1 p.wa.gr.fh, z _ ρ1 _ F1 H1 q p ⟨fun i H' e hi => ?_, fun i H' e hi => ?_, fun i H' x H2 F2 e1 e2 y hi => ?_⟩⟩
    · rw [List.length_zipWith] at hi
      exact ⟨xs, ys, xs[i]'(by rw [h2.len]; omega), ys[i]'(by rw [g2.len]; omega), sqL_rd h1 e, sqL_rd g1 e, by simp, by simp⟩
    · rw [List.length_zipWith] at hi
      exact ⟨xs, ys, sqL_rd h1 e, sqL_rd g1 e, by rw [h2.len, g2.len]; omega⟩
    · obtain ⟨T, x, y', rfl, hT, rfl, y1, y2⟩ := y
      obtain ⟨d, hd, rd⟩ := h2.get' (y1 xs (sqL_rd h1 (e1.trans e2)))
      obtain ⟨f, hf, rf⟩ := g2.get' (y2 ys (sqL_rd g1 (e1.trans e2)))
      have g := Gr.new (o := .tup [x, y']) e2 hT
      exact ⟨_, upd F2 T (.tup [x, y']), by rw [List.getElem?_zipWith, hd, hf], g, .tup upd_same (.cons ((rd.up e1).up g.ff) (.cons ((rf.up e1).up g.ff) .nil))⟩
end

/-! ### comprehensions -/
section
variable {ρ ρ' : Env} {te : TE} {tt : TT} {wi : TI} {g : TG}
/-- vs's slots as in the first, the others as in the second -/
def unwA : Nat → List Nat → Env → Env → Env
  | k, vs, a :: ρ, b :: ρ' => (if vs.contains k = true then a else b) :: unwA (k + 1) vs ρ ρ'
  | _, _, _, _ => []
abbrev unw (vs : List Nat) (ρ ρ' : Env) : Env := unwA 0 vs ρ ρ'
theorem unwA_len : ∀ {k : Nat} {vs : List Nat} {ρ ρ' : Env}, ρ'.length = ρ.length → (unwA k vs ρ ρ').length = ρ.length
  | _, _, [], [], _ => rfl
  | _, _, [], _ :: _, h => by simp at h
  | _, _, _ :: _, [], h => by simp at h
  | k, vs, a :: ρ, b :: ρ', h => by
    show (unwA (k + 1) vs ρ ρ').length + 1 = ρ.length + 1
    rw [unwA_len (by simpa using h)]
theorem unwA_get : ∀ {k : Nat} {vs : List Nat} {ρ ρ' : Env} {i : Nat}, ρ'.length = ρ.length → (unwA k vs ρ ρ')[i]? = if k + i ∈ vs then ρ[i]? else ρ'[i]?
  | _, _, [], [], i, _ => by simp [unwA]
  | _, _, [], _ :: _, _, h => by simp at h
  | _, _, _ :: _, [], _, h => by simp at h
  | k, vs, a :: ρ, b :: ρ', 0, h => by
    show some (if vs.contains k = true then a else b) = if k + 0 ∈ vs then some a else some b
    by_cases hk : k ∈ vs
    · rw [if_pos (by simpa using hk), if_pos (by simpa using hk)]
    · rw [if_neg (by simpa using hk), if_neg (by simpa using hk)]
  | k, vs, a :: ρ, b :: ρ', i + 1, h => by
    show (unwA (k + 1) vs ρ ρ')[i]? = if k + (i + 1) ∈ vs then ρ[i]? else ρ'[i]?
    rw [unwA_get (by simpa using h), show k + 1 + i = k + (i + 1) by omega]
/-- the slots at vs hold nothing that is owned -/
def isPl : Option Slot → Bool
  | some (.own _) => false
  | some (.st _) => false
  | _ => true
def Plain (ρ : Env) (vs : List Nat) : Prop := ∀ i ∈ vs, isPl ρ[i]? = true
theorem Plain.ad {B : Base} {ad : Nat → List Addr} {σ : St} {F H : Hp} {vs : List Nat} (w : WA B ad ρ σ F H) (pl : Plain ρ vs) : ∀ j ∈ vs, ad j = [] := fun j hj => by
  have k := pl j hj
  cases e : ρ[j]? with
  | none => exact w.out j e
  | some s =>
    have q := w.sl j s e
    rw [e] at k
    cases s with
    | emp => exact q
    | val d => exact q.1
    | own _ => cases k
    | st _ => cases k
theorem WA.wiped {B : Base} {ad : Nat → List Addr} {σ : St} {F H : Hp} {vs : List Nat} (w : WA B ad ρ σ F H) (pl : Plain ρ vs) : WA B ad (wipeE ρ vs) (wipe σ vs) F H where
  gr := w.gr
  len := by rw [wipe_length, wipeE_len]; exact w.len
  sl := fun i s e => by
    rw [wipeE_get] at e
    rw [wipe_get]
    by_cases h : i ∈ vs ∧ i < ρ.length
    · rw [if_pos h] at e
      cases e
      exact pl.ad w i h.1
    · rw [if_neg h] at e
      rw [if_neg (by rw [w.len]; exact h)]
      exact w.sl i s e
  fz := w.fz
  dj := w.dj
  out := fun i e => by
    rw [wipeE_get] at e
    by_cases h : i ∈ vs ∧ i < ρ.length
    · rw [if_pos h] at e; cases e
    · rw [if_neg h] at e; exact w.out i e
  pin := w.pin.to fun S e => by
    rw [wipeE_get] at e
    by_cases h : 0 ∈ vs ∧ 0 < ρ.length
    · rw [if_pos h] at e; cases e
    · rw [if_neg h] at e
      exact ⟨⟨S, e⟩, by rw [wipe_get, if_neg (by rw [w.len]; exact h)], rfl⟩
theorem wipe_eq {σ σ' : St} {vs : List Nat} (h : wipe σ' vs = wipe σ vs) {i : Nat} (hi : i ∉ vs) : σ'[i]? = σ[i]? := by
  have e := congrArg (fun l => l[i]?) h
  simp only [wipe_get] at e
  rwa [if_neg (fun z => hi z.1), if_neg (fun z => hi z.1)] at e
/-- behind the block's turn: the outer slots again -/
theorem Post.unwiped {B : Base} {ad : Nat → List Addr} {σ σ2 : St} {F H F' H' : Hp} {vs : List Nat} {ρ1 ρ2 : Env} (w : WA B ad ρ1 σ F H) (pl : Plain ρ1 vs)
    (hσ : wipe σ2 vs = wipe σ vs) (fr : ∀ i, i ∉ vs → ρ2[i]? = (wipeE ρ1 vs)[i]?) (w2 : WA B ad ρ2 σ2 F H) (p : Post B ad σ2 ρ2 F H ρ' F' H') : Post B ad σ ρ1 F H (unw vs ρ1 ρ') F' H' := by
  have hl : ρ'.length = ρ1.length := by
    have l1 := p.wa.len
    have l2 := congrArg List.length hσ
    rw [wipe_length, wipe_length] at l2
    rw [← l1, l2, w.len]
  have pa := pl.ad w
  have ms : ∀ a, MS ad ρ2 a → MS ad ρ1 a := fun a ⟨i, S, e, m⟩ => by
    have hi : i ∉ vs := fun z => by rw [pa i z] at m; cases m
    rw [fr i hi, wipeE_get, if_neg (fun z => hi z.1)] at e
    exact ⟨i, S, e, m⟩
  refine ⟨⟨p.wa.gr, by rw [unwA_len hl]; exact w.len, fun i s e => ?_, p.wa.fz, p.wa.dj, fun i e => ?_, fun s as hp S e => ?_⟩, ⟨p.gr.ff, p.gr.fh, fun a o e m => p.gr.kp a o e fun z => m (ms a z), p.gr.al, p.gr.fr⟩, fun i S e => ?_⟩
  · rw [unwA_get hl, Nat.zero_add] at e
    by_cases hi : i ∈ vs
    · rw [if_pos hi] at e
      have k := w.sl i s e
      have q := pl i hi
      rw [e] at q
      cases s with
      | emp => exact k
      | val d =>
        obtain ⟨k, v, e, r⟩ := k
        exact ⟨k, v, e, r.up p.gr.ff⟩
      | own _ => cases q
      | st _ => cases q
    · rw [if_neg hi] at e
      rw [← wipe_eq hσ hi]
      exact p.wa.sl i s e
  · rw [List.getElem?_eq_none_iff, unwA_len hl, ← hl, ← List.getElem?_eq_none_iff] at e
    exact p.wa.out i e
  · rw [unwA_get hl, Nat.zero_add] at e
    by_cases hi : 0 ∈ vs
    · rw [if_pos hi] at e
      have q := pl 0 hi
      rw [e] at q
      cases q
    · rw [if_neg hi] at e
      rw [← wipe_eq hσ hi]
      exact p.wa.pin s as hp S e
  · rw [unwA_get hl, Nat.zero_add] at e
    by_cases hi : i ∈ vs
    · rw [if_pos hi] at e
      exact ⟨S, e⟩
    · rw [if_neg hi] at e
      obtain ⟨S', e'⟩ := p.sh i S e
      rw [fr i hi, wipeE_get, if_neg (fun z => hi z.1)] at e'
      exact ⟨S', e'⟩
/-- [e for target in ..], by an invariant over the turn, the items made, the slots -/
theorem eo_lc {vs : List Nat} {Q : List D → Env → Prop} (h : EI wi ρ fun ds ρ1 => ∃ I : Nat → List D → Env → Prop, I 0 [] ρ1 ∧
    (∀ k d acc ρ', ds[k]? = some d → I k acc ρ' → Plain ρ' vs ∧ acc.length < 1000000 ∧ SG vs g d (wipeE ρ' vs) fun ρ2 => ET tt ρ2 fun b ρ3 => (b = true → EX te ρ3 fun e ρ4 => I (k + 1) (acc ++ [e]) (unw vs ρ' ρ4)) ∧ (b = false → I (k + 1) acc (unw vs ρ' ρ3))) ∧
    ∀ acc ρ', I ds.length acc ρ' → Q acc ρ') : EO (tLc wi g tt te vs) ρ Q := fun B ad σ F H w Z z => by
  refine h B ad σ F H w _ fun ds ρ1 J F1 H1 q1 p1 it => ?_
  obtain ⟨I, i0, turn, done⟩ := q1
  intro Dl hD
  have hDH : H Dl = none := by
    cases q : H Dl with
    | none => rfl
    | some o => exact absurd hD (p1.gr.al Dl (by rw [q]; intro z; cases z))
  have nw := p1.wa.newp hD
  -- at each turn: the outer slots, over a heap in which Dl is not seen
  let Inv := fun (i : Nat) (H' : Hp) => ∃ acc ρ' F' vs', I i acc ρ' ∧ Post B ad σ ρ1 F1 H1 ρ' F' H' ∧ F' Dl = none ∧ H' Dl = some (.lst vs') ∧ RpA F' vs' acc
  refine ⟨fun i m H' => m = ds.length - i ∧ i ≤ ds.length ∧ Inv i H', ⟨_, rfl, Nat.zero_le _, [], ρ1, F1, [], i0, Post.of p1.wa (Gr.heap p1.wa.gr.fh (same_upd hD)), nw.1, upd_same, .nil⟩, ?_⟩
  rintro i m H' ⟨rfl, hi, acc, ρ', F', vs', iv, P, hF, hH, ra⟩
  by_cases hlt : i < ds.length
  · refine .inr ⟨it.go i H' (P.gr.ff.trans P.wa.gr.fh) hlt, fun H2 => Inv (i + 1) H2, fun H2 k => ⟨ds.length - (i + 1), by omega, rfl, hlt, k⟩, fun x H2 y => ?_⟩
    obtain ⟨d, F2, e, gr, rx⟩ := it.yld i H' x H2 F' P.gr.ff P.wa.gr.fh y hlt
    obtain ⟨pl, hz, k⟩ := turn i d acc ρ' e iv
    have P2 := P.trans (Post.of P.wa gr)
    have w2 := P.wa.grow gr
    have hF2 : F2 Dl = none := gr.fr Dl (by rw [hH]; intro z; cases z) hF
    have hH2 : H2 Dl = some (.lst vs') := gr.kp Dl _ hH id
    have nms : ∀ (ρ2 : Env), ¬ MS ad ρ2 Dl := fun ρ2 ⟨j, S, _, m⟩ => nw.2.2 j m
    refine k B ad (wipe σ vs) F2 H2 x (w2.wiped pl) (pl.ad w2) rx _ fun ρ2 σ2 q wb e2 fr => ?_
    have e2' : wipe σ2 vs = wipe σ vs := by
      rw [e2]
      apply List.ext_getElem?
      intro j
      rw [wipe_get, wipe_get, wipe_length]
      split
      · rfl
      · first | rfl | rw [wipe_get, if_neg (by assumption)]
    refine ⟨e2', q B ad σ2 F2 H2 wb _ fun b ρ3 F3 H3 q3 p3 => ?_⟩
    cases b with
    | true =>
      show te σ2 H3 _
      refine q3.1 rfl B ad σ2 F3 H3 p3.wa _ fun e ρ4 v F4 H4 q4 p4 rv => ?_
      have p34 := p3.trans p4
      have pu := Post.unwiped w2 pl e2' fr wb p34
      have hH4 : H4 Dl = some (.lst vs') := p34.gr.kp Dl _ hH2 (nms _)
      have hF4 : F4 Dl = none := p34.gr.fr Dl (by rw [hH2]; intro z; cases z) hF2
      have ra4 : RpA F4 (vs' ++ [v]) (acc ++ [e]) := (ra.up (gr.ff.trans p34.gr.ff)).app (.cons rv .nil)
      refine ⟨vs', hH4, Nat.lt_of_lt_of_le (by rw [ra.len]; exact hz) (by decide), acc ++ [e], _, F4, vs' ++ [v], q4, ?_, hF4, upd_same, ra4⟩
      -- Dl grows: nobody sees it
      have pt := P2.trans pu
      have ne1 : ∀ a o, H1 a = some o → a ≠ Dl := fun a o q z => by rw [z, hD] at q; cases q
      have neF : ∀ a o, F4 a = some o → a ≠ Dl := fun a o q z => by rw [z, hF4] at q; cases q
      refine ⟨⟨⟨pt.wa.gr.ff, fun a o q => by rw [upd_ne (neF a o q)]; exact pt.wa.gr.fh a o q, fun a o q m => ?_, fun a q => ?_, pt.wa.gr.fr⟩, pt.wa.len, fun j s q => ?_, pt.wa.fz, pt.wa.dj, pt.wa.out, pt.wa.pin⟩, ⟨pt.gr.ff, fun a o q => by rw [upd_ne (neF a o q)]; exact pt.gr.fh a o q, fun a o q m => by rw [upd_ne (ne1 a o q)]; exact pt.gr.kp a o q m, fun a q => ?_, pt.gr.fr⟩, pt.sh⟩
      · rw [upd_ne (fun z => by rw [z, nw.2.1] at q; cases q)]
        exact pt.wa.gr.kp a o q m
      · by_cases ha : a = Dl
        · rw [ha, upd_same]; intro z; cases z
        · rw [upd_ne ha]; exact pt.wa.gr.al a q
      · have k := pt.wa.sl j s q
        cases s with
        | emp => exact k
        | val d => exact k
        | own es =>
          obtain ⟨p, ws, a1, a2, a3, a4, a5⟩ := k
          refine ⟨p, ws, a1, a2, a3, ?_, a5⟩
          rw [upd_ne (fun z => nw.2.2 j (by rw [a1, z]; simp))]
          exact a4
        | st S =>
          obtain ⟨s, a1, a2⟩ := k
          refine ⟨s, a1, ?_⟩
          cases S with
          | two x y =>
            refine ⟨a2.1, ?_⟩
            rw [upd_ne (fun z => nw.2.2 j (by rw [a2.1, z]; simp))]
            exact a2.2
          | dct kvs =>
            refine ⟨a2.1, ?_⟩
            rw [upd_ne (fun z => nw.2.2 j (by rw [a2.1, z]; simp))]
            exact a2.2
          | cel x cs =>
            obtain ⟨c, b1, b2, b3, b4⟩ := a2
            refine ⟨c, b1, b2, ?_, ?_⟩
            · rw [upd_ne (fun z => nw.2.2 j (by rw [b1, z]; simp))]
              exact b3
            · rw [upd_ne (fun z => nw.2.2 j (by rw [b1, z]; simp))]
              exact b4
      · by_cases ha : a = Dl
        · rw [ha, upd_same]; intro z; cases z
        · rw [upd_ne ha]; exact pt.gr.al a q
    | false =>
      show Inv (i + 1) H3
      have pu := Post.unwiped w2 pl e2' fr wb p3
      exact ⟨acc, _, F3, vs', q3.2 rfl, P2.trans pu, p3.gr.fr Dl (by rw [hH2]; intro z; cases z) hF2, p3.gr.kp Dl _ hH2 (nms _), ra.up (gr.ff.trans p3.gr.ff)⟩
  · have e : i = ds.length := by omega
    subst e
    exact .inl ⟨it.stop _ H' (P.gr.ff.trans P.wa.gr.fh) (Nat.le_refl _), z acc ρ' Dl vs' F' H' (done acc ρ' iv) (p1.trans P) hF hDH hH ra⟩
theorem et_yes {Q : Bool → Env → Prop} (q : Q true ρ) : ET tYes ρ Q := fun B ad σ F H w Z z => z true ρ F H q (Post.refl w)
/-- items that read off a list of one's own; nothing changes: the filter and the map -/
theorem eo_lcP {α : Type} {vs : List Nat} {Q : List D → Env → Prop} (f : α → Bool) (gg : α → D) (h : EI wi ρ fun ds ρ1 => ∃ (xs : List α) (enc : α → D), ds = xs.map enc ∧ xs.length < 1000000 ∧ Plain ρ1 vs ∧
    (∀ x ∈ xs, SG vs g (enc x) (wipeE ρ1 vs) fun ρ2 => unw vs ρ1 ρ2 = ρ1 ∧ ET tt ρ2 fun b ρ3 => b = f x ∧ ρ3 = ρ2 ∧ (f x = true → EX te ρ2 fun e ρ4 => e = gg x ∧ ρ4 = ρ2)) ∧ Q ((xs.filter f).map gg) ρ1) : EO (tLc wi g tt te vs) ρ Q := by
  refine eo_lc fun B ad σ F H w R z => h B ad σ F H w R fun ds ρ1 J F' H' q p it => z ds ρ1 J F' H' ?_ p it
  obtain ⟨xs, enc, rfl, hz, pl, turn, q⟩ := q
  refine ⟨fun k acc ρ' => ρ' = ρ1 ∧ acc = ((xs.take k).filter f).map gg, ⟨rfl, by simp⟩, ?_, ?_⟩
  · rintro k d acc ρ' e ⟨rfl, rfl⟩
    rw [List.getElem?_map] at e
    obtain ⟨x, ex, rfl⟩ : ∃ x, xs[k]? = some x ∧ enc x = d := by
      cases hx : xs[k]? with
      | none => rw [hx] at e; cases e
      | some x => rw [hx] at e; exact ⟨x, rfl, Option.some.inj e⟩
    have hm : x ∈ xs := List.mem_of_getElem? ex
    have hk : k < xs.length := (List.getElem?_eq_some_iff.mp ex).1
    have et : xs.take (k + 1) = xs.take k ++ [x] := by
      rw [List.take_succ, ex]; rfl
    refine ⟨pl, ?_, fun B ad σ F H v w hJ r Z z => turn x hm B ad σ F H v w hJ r Z fun ρ2 σ2 q w2 a b => z ρ2 σ2 (fun B ad σ F H w Z z => q.2 B ad σ F H w Z fun b ρ3 F' H' q2 p => z b ρ3 F' H' ⟨fun hb => ?_, fun hb => ?_⟩ p) w2 a b⟩
    · rw [List.length_map]
      exact Nat.lt_of_le_of_lt (Nat.le_trans (List.length_filter_le _ _) (by rw [List.length_take]; exact Nat.min_le_right _ _)) hz
    · obtain ⟨rfl, rfl, q2⟩ := q2
      refine (q2 hb).imp fun e ρ4 q => ?_
      obtain ⟨rfl, rfl⟩ := q
      exact ⟨‹_ ∧ _›.1, by rw [et, List.filter_append, List.map_append, List.filter_cons, if_pos hb]; rfl⟩
    · obtain ⟨rfl, rfl, q2⟩ := q2
      exact ⟨‹_ ∧ _›.1, by rw [et, List.filter_append, List.filter_cons, if_neg (by rw [hb]; exact Bool.false_ne_true), List.filter_nil, List.append_nil]⟩
  · rintro acc ρ' ⟨rfl, rfl⟩
    rw [List.length_map, List.take_length]
    exact q
end

/-! ### calls -/
/-- what a def of data promises: R tells of the arguments and of what is wanted of the answer -/
def spP (R : List D → (D → Prop) → Prop) : Sp := fun vs H Q _ => ∃ F ds Z, Same F H ∧ RpA F vs ds ∧ R ds Z ∧ ∀ d v F' H', Z d → Gr Non F H F' H' → Rp F' v d → Q v H'
/-- the same with a state ahead of the arguments -/
def spS (R : Stt → List D → (D → Stt → Prop) → Prop) : Sp := fun vs H Q _ => ∃ F s as S us ds Z, vs = .ref s :: us ∧ Same F H ∧ StAt H S s as ∧ (∀ a ∈ as, F a = none) ∧ RpA F us ds ∧ R S ds Z ∧
  ∀ d S' v F' H', Z d S' → Gr (· ∈ as) F H F' H' → StAt H' S' s as → (∀ a ∈ as, F' a = none) → Rp F' v d → Q v H'
/-- a new state is handed back -/
def spN (R : List D → (Stt → Prop) → Prop) : Sp := fun vs H Q _ => ∃ F ds Z, Same F H ∧ RpA F vs ds ∧ R ds Z ∧ ∀ S s as F' H', Z S → Gr Non F H F' H' → StAt H' S s as → (∀ a ∈ as, F' a = none ∧ H a = none) → Q (.ref s) H'
section
variable {ρ ρ' : Env} {te : TE} {tt : TT} {t : TA} {E : XK}
theorem ex_call {R : List D → (D → Prop) → Prop} {Q : D → Env → Prop} (h : EA t ρ fun ds ρ1 => R ds fun d => Q d ρ1) : EX (tCall (spP R) [] E t) ρ Q := fun B ad σ F H w Z z =>
  h B ad σ F H w _ fun ds ρ1 vs F1 H1 q p r => by
    rw [List.append_nil]
    exact ⟨F1, ds, _, p.wa.gr.fh, r, q, fun d v F' H' zd g rv => z d ρ1 v F' H' zd (p.trans (Post.of p.wa g)) rv⟩
theorem StAt.mem {H : Hp} {S : Stt} {s : Addr} {as : List Addr} (h : StAt H S s as) : s ∈ as ∧ ∀ a ∈ as, H a ≠ none := by
  cases S with
  | two a b =>
    obtain ⟨rfl, h⟩ := h
    exact ⟨by simp, fun x hx => by
      have e : x = s := by simpa using hx
      rw [e, h]; intro z; cases z⟩
  | dct kvs =>
    obtain ⟨rfl, h⟩ := h
    exact ⟨by simp, fun x hx => by
      have e : x = s := by simpa using hx
      rw [e, h]; intro z; cases z⟩
  | cel a cs =>
    obtain ⟨c, rfl, _, h1, h2⟩ := h
    exact ⟨by simp, fun x hx => by
      have e : x = s ∨ x = c := by simpa using hx
      rcases e with e | e
      · rw [e, h1]; intro z; cases z
      · rw [e, h2]; intro z; cases z⟩
theorem StAt.keep {H H' : Hp} {S : Stt} {s : Addr} {as : List Addr} (h : StAt H S s as) (k : ∀ a ∈ as, ∀ o, H a = some o → H' a = some o) : StAt H' S s as := by
  cases S with
  | two a b =>
    obtain ⟨rfl, h⟩ := h
    exact ⟨rfl, k s (by simp) _ h⟩
  | dct kvs =>
    obtain ⟨rfl, h⟩ := h
    exact ⟨rfl, k s (by simp) _ h⟩
  | cel a cs =>
    obtain ⟨c, rfl, ne, h1, h2⟩ := h
    exact ⟨c, rfl, ne, k s (by simp) _ h1, k c (by simp) _ h2⟩
/-- f(state, ..) -/
theorem ex_callS {R : Stt → List D → (D → Stt → Prop) → Prop} {i : Nat} {S0 : Stt} {Q : D → Env → Prop} (h0 : ρ[i]? = some (.st S0)) (h : EA t ρ fun ds ρ1 => ∃ S, ρ1[i]? = some (.st S) ∧ R S ds fun d S' => Q d (ρ1.set i (.st S'))) :
    EX (tCall (spS R) [] E (tCons (tVar i) t)) ρ Q := fun B ad σ F H w Z z => by
  obtain ⟨s0, k0, _⟩ := w.sl i _ h0
  refine ⟨_, k0, h B ad σ F H w _ fun ds ρ1 vs F1 H1 q p r => ?_⟩
  obtain ⟨S, h1, q⟩ := q
  obtain ⟨s, k1, k2⟩ := p.wa.sl i _ h1
  rw [k0] at k1
  cases k1
  have hi : i < ρ1.length := (List.getElem?_eq_some_iff.mp h1).1
  rw [List.append_nil]
  refine ⟨F1, s0, ad i, S, vs, ds, _, rfl, p.wa.gr.fh, k2, fun a m => (p.wa.fz i a m).1, r, q, fun d S' v F' H' zd g st fn rv => ?_⟩
  have nm : ∀ j a, j ≠ i → a ∈ ad j → a ∉ ad i := fun j a hj m m' => hj (p.wa.dj j i a m m')
  refine z d _ v F' H' zd (p.trans ⟨⟨?_, ?_, fun j sl e => ?_, fun j a m => ?_, p.wa.dj, fun j e => p.wa.out j (get_set' e), p.wa.pin.to fun S2 e => by
    rcases get_set e with ⟨e0, _⟩ | ⟨hj, e⟩
    · exact ⟨⟨S, by rw [e0]; exact h1⟩, rfl, rfl⟩
    · exact ⟨⟨S2, e⟩, rfl, rfl⟩⟩, ⟨g.ff, g.fh, fun a o e m => g.kp a o e fun z => m ⟨i, S, h1, z⟩, g.al, g.fr⟩, fun j S'' e => ?_⟩) rv
  · refine ⟨p.wa.gr.ff.trans g.ff, g.fh, fun a o e m => g.kp a o (p.wa.gr.kp a o e m) fun z => ?_, fun a e => g.al a (p.wa.gr.al a e), fun a e z => g.fr a (p.wa.gr.al a e) (p.wa.gr.fr a e z)⟩
    rcases (p.wa.fz i a z).2 with q | q
    · rw [q] at e; cases e
    · exact m q
  · rw [List.length_set]; exact p.wa.len
  · rcases get_set e with ⟨rfl, rfl⟩ | ⟨hj, e⟩
    · exact ⟨s0, k0, st⟩
    · have k := p.wa.sl j sl e
      cases sl with
      | emp => exact k
      | val d =>
        obtain ⟨k, v, e, r⟩ := k
        exact ⟨k, v, e, r.up g.ff⟩
      | own es =>
        obtain ⟨q, ws, a1, a2, a3, a4, a5⟩ := k
        exact ⟨q, ws, a1, a2, a3, g.kp q _ a4 (nm j q hj (by rw [a1]; simp)), a5.up g.ff⟩
      | st S2 =>
        obtain ⟨s2, a1, a2⟩ := k
        exact ⟨s2, a1, a2.keep fun a m o e => g.kp a o e (nm j a hj m)⟩
  · refine ⟨?_, (p.wa.fz j a m).2⟩
    by_cases hj : j = i
    · subst hj; exact fn a m
    · exact g.fr a (p.wa.lv m) (p.wa.fz j a m).1
  · rcases get_set e with ⟨rfl, _⟩ | ⟨_, e⟩
    · exact ⟨S, h1⟩
    · exact ⟨S'', e⟩
/-- state = f(..) -/
theorem sx_asgN {R : List D → (Stt → Prop) → Prop} {i : Nat} {P : Po} (h00 : i ≠ 0) (h : EA t ρ fun ds ρ1 => R ds fun S => NX P (ρ1.set i (.st S))) : SX (tAsg (tCall (spN R) [] E t) (gName i)) ρ P := fun B σ F H w Dn n r b c => by
  obtain ⟨ad, w⟩ := w
  refine h B ad σ F H w _ fun ds ρ1 vs F1 H1 q p rv => ?_
  rw [List.append_nil]
  refine ⟨F1, ds, _, p.wa.gr.fh, rv, q, fun S s as F' H' zd g st fn => ?_⟩
  obtain ⟨ρ2, l, q⟩ := zd
  have w2 := p.wa.grow g
  have nw : ∀ a ∈ as, B.H0 a = none ∧ ∀ j, a ∉ ad j := fun a m => (p.wa.newp (fn a m).2).2
  refine n ρ2 _ F' H' q (W.weak ⟨fun k => if k = i then (if i < ρ1.length then as else []) else ad k, w2.gr, by rw [List.length_set, List.length_set]; exact w2.len, fun j sl e => ?_, fun j q m => ?_, fun j1 j2 q m1 m2 => ?_, fun j e => ?_, w2.pin.to fun S2 e => by
    rcases get_set e with ⟨e0, _⟩ | ⟨hj, e⟩
    · exact absurd e0.symm h00
    · exact ⟨⟨S2, e⟩, List.getElem?_set_ne (Ne.symm hj), if_neg hj⟩⟩ l)
  · rcases get_set e with ⟨rfl, rfl⟩ | ⟨hj, e'⟩
    · have hi : j < ρ1.length := by
        have := (List.getElem?_eq_some_iff.mp e).1
        rwa [List.length_set] at this
      exact ⟨s, List.getElem?_set_self (by rw [w2.len]; exact hi), by rw [if_pos rfl, if_pos hi]; exact st⟩
    · rw [if_neg hj, List.getElem?_set_ne (Ne.symm hj)]
      exact w2.sl j sl e'
  · by_cases hj : j = i
    · simp only [if_pos hj] at m
      by_cases hi : i < ρ1.length
      · simp only [if_pos hi] at m
        exact ⟨(fn q m).1, .inl (nw q m).1⟩
      · simp [if_neg hi] at m
    · simp only [if_neg hj] at m
      exact w2.fz j q m
  · have g : ∀ j, q ∈ (if j = i then (if i < ρ1.length then as else []) else ad j) → (j = i ∧ q ∈ as) ∨ (j ≠ i ∧ q ∈ ad j) := fun j m => by
      by_cases hj : j = i
      · simp only [if_pos hj] at m
        by_cases hi : i < ρ1.length
        · simp only [if_pos hi] at m
          exact .inl ⟨hj, m⟩
        · simp [if_neg hi] at m
      · simp only [if_neg hj] at m
        exact .inr ⟨hj, m⟩
    rcases g j1 m1 with ⟨a1, b1⟩ | ⟨a1, b1⟩ <;> rcases g j2 m2 with ⟨a2, b2⟩ | ⟨a2, b2⟩
    · rw [a1, a2]
    · exact absurd b2 ((nw q b1).2 j2)
    · exact absurd b1 ((nw q b2).2 j1)
    · exact w2.dj j1 j2 q b1 b2
  · show (if j = i then (if i < ρ1.length then as else []) else ad j) = []
    have e' := get_set' e
    by_cases hj : j = i
    · subst hj
      rw [if_pos rfl, if_neg (by rw [List.getElem?_eq_none_iff] at e'; omega)]
    · rw [if_neg hj]
      exact w2.out j e'
end

/-! ### defs -/
def startE (N : List Str) (ds : List D) : Env := ds.map .val ++ List.replicate (N.length - ds.length) .emp
section
variable {P : Program} {w : World} {K : PySem.W.Frag} {mg : Str → Option Value} {base : Heap} {x qual : Str} {st : Stmt} {f : Addr} {fd : FuncData} {N ps : List Str} {k : Nat}
theorem start_get {N : List Str} {us : List V} {i : Nat} {v : V} (h : us[i]? = some v) : (L2.start N us)[i]? = some (some v) := by
  unfold L2.start
  have hi := (List.getElem?_eq_some_iff.mp h).1
  rw [List.getElem?_append_left (by rw [List.length_map]; exact hi), List.getElem?_map, h]
  rfl
theorem startE_get {N : List Str} {ds : List D} {i : Nat} {s : Slot} (h : (startE N ds)[i]? = some s) : (∃ d, ds[i]? = some d ∧ s = .val d) ∨ s = .emp := by
  unfold startE at h
  by_cases hi : i < ds.length
  · rw [List.getElem?_append_left (by rw [List.length_map]; exact hi), List.getElem?_map] at h
    cases e : ds[i]? with
    | none => rw [e] at h; cases h
    | some d => rw [e] at h; exact .inl ⟨d, rfl, (Option.some.inj h).symm⟩
  · rw [List.getElem?_append_right (by rw [List.length_map]; omega)] at h
    exact .inr (List.eq_of_mem_replicate (List.mem_of_getElem? h))
theorem fn_pure {R : List D → (D → Prop) → Prop} (F : Fun K x qual st f fd) (S : FnScope N ps (defScope st)) (len : ∀ ds Z, R ds Z → ds.length = ps.length)
    (body : ∀ (cdv : Value) (A : Around) (outer : List PySem.Env) (s : Shared) (H : Hp) (E : XK), Room k (A.deeper (PyProof.Rows.envOfC qual (defScope st) s.heap.objs.size f cdv)) →
      ∃ t, PSs (cxOf CX0 P w K mg base N qual (defScope st) f cdv A outer s H E).nox (defBody st) t ∧ ∀ ds Z, R ds Z → SX t (startE N ds) { nx := fun _ => Z .none, rt := fun d _ => Z d }) :
    FnOk P w K mg base CX0 (k + 1) f fd ps (spP R) := by
  refine F.ok S (fun vs H Q E h => ?_) (fun cdv A outer s H vs Q E hr h => ?_)
  · obtain ⟨F, ds, Z, _, r, q, _⟩ := h
    rw [r.len]
    exact len ds Z q
  · obtain ⟨F0, ds, Z, fh, r, q, z⟩ := h
    obtain ⟨t, ht, hs⟩ := body cdv A outer s H E hr
    refine ⟨t, ht, hs ds Z q { F0 := F0, H0 := H, M := Non } (L2.start N vs) F0 H ⟨fun _ => [], Gr.refl fh, ?_, fun i s e => ?_, (fun i p m => by cases m), (fun i j p m => by cases m), fun _ _ => rfl, (fun s as e => by cases e)⟩ _ (fun ρ' σ' F' H' q w' => ?_) (fun d ρ' σ' v F' H' q w' rv => ?_) (fun _ _ _ _ q _ => q.elim) (fun _ _ _ _ q _ => q.elim)⟩
    · unfold L2.start startE
      rw [List.length_append, List.length_append, List.length_map, List.length_map, List.length_replicate, List.length_replicate, r.len]
    · rcases startE_get e with ⟨d, e2, rfl⟩ | rfl
      · obtain ⟨v, e1, rv⟩ := r.get e2
        exact ⟨rfl, v, start_get e1, rv⟩
      · rfl
    · obtain ⟨ad, w'⟩ := w'
      exact z .none .non F' H' q w'.gr .non
    · obtain ⟨ad, w'⟩ := w'
      exact z d v F' H' q w'.gr rv
/-- a def whose first parameter is a state -/
theorem fn_state {R : Stt → List D → (D → Stt → Prop) → Prop} (F : Fun K x qual st f fd) (S : FnScope N ps (defScope st)) (len : ∀ S ds Z, R S ds Z → ds.length + 1 = ps.length)
    (body : ∀ (cdv : Value) (A : Around) (outer : List PySem.Env) (s : Shared) (H : Hp) (E : XK), Room k (A.deeper (PyProof.Rows.envOfC qual (defScope st) s.heap.objs.size f cdv)) →
      ∃ t, PSs (cxOf CX0 P w K mg base N qual (defScope st) f cdv A outer s H E).nox (defBody st) t ∧ ∀ S ds Z, R S ds Z → SX t (.st S :: (ds.map .val ++ List.replicate (N.length - (ds.length + 1)) .emp)) { nx := fun ρ' => ∃ S', ρ'[0]? = some (.st S') ∧ Z .none S', rt := fun d ρ' => ∃ S', ρ'[0]? = some (.st S') ∧ Z d S' }) :
    FnOk P w K mg base CX0 (k + 1) f fd ps (spS R) := by
  refine F.ok S (fun vs H Q E h => ?_) (fun cdv A outer s H vs Q E hr h => ?_)
  · obtain ⟨F, s, as, S, us, ds, Z, rfl, _, _, _, r, q, _⟩ := h
    rw [List.length_cons, r.len]
    exact len S ds Z q
  · obtain ⟨F0, s0, as, S0, us, ds, Z, rfl, fh, sa, fn, r, q, z⟩ := h
    obtain ⟨t, ht, hs⟩ := body cdv A outer s H E hr
    have hm := sa.mem
    have hl : (L2.start N (.ref s0 :: us)).length = (Slot.st S0 :: (ds.map Slot.val ++ List.replicate (N.length - (ds.length + 1)) Slot.emp)).length := by
      unfold L2.start
      simp [r.len]
    have fin : ∀ (d : D) (ρ' : Env) (σ' : St) (v : V) (F' H' : Hp), (∃ S', ρ'[0]? = some (Slot.st S') ∧ Z d S') → W { F0 := F0, H0 := H, M := (· ∈ as), pin := some (s0, as) } ρ' σ' F' H' → Rp F' v d → Q v H' := fun d ρ' σ' v F' H' ⟨S', e, zd⟩ ⟨ad, w'⟩ rv => by
      obtain ⟨e1, e2⟩ := w'.pin s0 as rfl S' e
      obtain ⟨s1, k1, k2⟩ := w'.sl 0 _ e
      rw [e1] at k1
      cases k1
      rw [e2] at k2
      exact z d S' v F' H' zd w'.gr k2 (fun a m => (w'.fz 0 a (by rw [e2]; exact m)).1) rv
    refine ⟨t, ht, hs S0 ds Z q { F0 := F0, H0 := H, M := (· ∈ as), pin := some (s0, as) } (L2.start N (.ref s0 :: us)) F0 H ⟨fun i => if i = 0 then as else [], Gr.refl fh, hl, fun i sl e => ?_, fun i p m => ?_, fun i j p m1 m2 => ?_, fun i e => ?_, fun s as' e S _ => ?_⟩ _ (fun ρ' σ' F' H' q w' => fin .none ρ' σ' .non F' H' q w' .non) (fun d ρ' σ' v F' H' q w' rv => fin d ρ' σ' v F' H' q w' rv) (fun _ _ _ _ q _ => q.elim) (fun _ _ _ _ q _ => q.elim)⟩
    · cases i with
      | zero =>
        cases e
        exact ⟨s0, start_get (us := .ref s0 :: us) rfl, by rw [if_pos rfl]; exact sa⟩
      | succ i =>
        have e' : (startE (List.replicate (N.length - 1) "") ds)[i]? = some sl := by
          unfold startE
          rw [List.length_replicate, show N.length - 1 - ds.length = N.length - (ds.length + 1) by omega]
          exact e
        rw [if_neg (Nat.succ_ne_zero i)]
        rcases startE_get e' with ⟨d, e2, rfl⟩ | rfl
        · obtain ⟨v, e1, rv⟩ := r.get e2
          exact ⟨rfl, v, start_get (us := .ref s0 :: us) (by simpa using e1), rv⟩
        · rfl
    · by_cases hi : i = 0
      · rw [if_pos hi] at m
        exact ⟨fn p m, .inr m⟩
      · rw [if_neg hi] at m; cases m
    · by_cases hi : i = 0
      · by_cases hj : j = 0
        · rw [hi, hj]
        · rw [if_neg hj] at m2; cases m2
      · rw [if_neg hi] at m1; cases m1
    · by_cases hi : i = 0
      · subst hi; cases e
      · exact if_neg hi
    · cases e
      exact ⟨start_get (us := .ref s0 :: us) rfl, if_pos rfl⟩
end
end Pu
namespace Pu
open PySem L2

/-! ### what the defs call: built-ins, one another -/
/-- no name of a built-in is bound by the module -/
structure Bn (mg : Str → Option Value) : Prop where
  len_ : mg "len" = none
  range_ : mg "range" = none
  min_ : mg "min" = none
  max_ : mg "max" = none
  abs_ : mg "abs" = none
  sum_ : mg "sum" = none
  int_ : mg "int" = none
  list_ : mg "list" = none
  tuple_ : mg "tuple" = none
  sorted_ : mg "sorted" = none
  isinstance_ : mg "isinstance" = none
  enumerate_ : mg "enumerate" = none
  zip_ : mg "zip" = none
  set_ : mg "set" = none
  repr_ : mg "repr" = none
  all_ : mg "all" = none
  any_ : mg "any" = none
  dict_ : mg "dict" = none
  reversed_ : mg "reversed" = none
  str_ : mg "str" = none
/-- a def of the module that keeps a promise -/
inductive Cal (P : Program) (w : World) (K : PySem.W.Frag) (mg : Str → Option Value) (base : Heap) (x : Str) (ps : List Str) (sp : Sp) (k : Nat) : Prop
  | mk (f : Addr) (fd : FuncData) (ok : FnOk P w K mg base CX0 k f fd ps sp) (hm : mg x = some (.ref f)) (kp : PySem.W.keepIn K (.ref f) = true) (bd : Binds K fd ps []) : Cal P w K mg base x ps sp k
theorem pe_cal {X : Cx} {k : Nat} {ps : List Str} {sp : Sp} {x : Str} {p pos : Pos} {e : Expr} {es : List Expr} {t : TA} (C : Cal X.prog X.w X.K X.mg X.base x ps sp k) (hr : Room k X.A) (hg : Gl X x) (ha : PA X (e :: es) t)
    (hdb : (x == ("__debug__" : Str)) = false := by decide) (he : starEach (e :: es) X.env = (false, eval e X.env) :: starEach es X.env := by rfl) (hpl : (backTo pos (starEach es X.env)).any (·.1) = false := by rfl) :
    PE X (.Call (.Name x p) (e :: es) [] pos) (tCall sp [] E0 t) := by
  obtain ⟨f, fd, ok, hm, kp, bd⟩ := C
  exact pe_call ok hr hg hm kp bd .nil pass0 ha hdb he hpl
theorem Cal.imp {P : Program} {w : World} {K : PySem.W.Frag} {mg : Str → Option Value} {base : Heap} {x : Str} {ps : List Str} {sp sp' : Sp} {k : Nat} (C : Cal P w K mg base x ps sp k) (h : ∀ vs H Q E, sp' vs H Q E → sp vs H Q E) : Cal P w K mg base x ps sp' k := by
  obtain ⟨f, fd, ok, hm, kp, bd⟩ := C
  exact ⟨f, fd, ok.imp h, hm, kp, bd⟩
theorem Cal.mono {P : Program} {w : World} {K : PySem.W.Frag} {mg : Str → Option Value} {base : Heap} {x : Str} {ps : List Str} {sp : Sp} {j k : Nat} (C : Cal P w K mg base x ps sp j) (h : j ≤ k) : Cal P w K mg base x ps sp k := by
  obtain ⟨f, fd, ok, hm, kp, bd⟩ := C
  exact ⟨f, fd, ok.mono h, hm, kp, bd⟩

/-! ### reading data off the heap -/
section
variable {X : Cx} {pins : List (Addr × Obj)} {σ : St} {F H : Hp} {s : Shared} {d : D} {ds : List D} {v : V} {u : Value} {vs : List V} {us : List Value}
theorem rp_reads (I : Inv X pins σ H s) (e : Same F H) (r : Rp F v d) (ru : RelV v u) : ∃ as, Reads s.heap u d as := Dp.reads I d v u (r.dp e) ru
theorem rpa_reads (I : Inv X pins σ H s) (e : Same F H) (r : RpA F vs ds) (ru : Vals vs us) : ∃ as, ReadsAll s.heap us ds as := Dp.readsAll I ds vs us (r.dp e) ru
mutual
theorem Rp.plain : ∀ (d : D) {v : V}, Rp F v d → d.plain = true
  | .none, _, _ => by simp only [PyData.plain]
  | .bool _, _, _ => by simp only [PyData.plain]
  | .int _, _, _ => by simp only [PyData.plain]
  | .str _, _, _ => by simp only [PyData.plain]
  | .list ds, _, h => by
    cases h with
    | lst _ h => simp only [PyData.plain]; exact RpA.plain ds h
  | .tuple ds, _, h => by
    cases h with
    | tup _ h => simp only [PyData.plain]; exact RpA.plain ds h
  | .dict _, _, h => by cases h
theorem RpA.plain : ∀ (ds : List D) {vs : List V}, RpA F vs ds → PyData.plainAll ds = true
  | [], _, _ => by simp only [PyData.plainAll]
  | d :: ds, _, h => by
    cases h with
    | cons h1 h2 => simp only [PyData.plainAll, Bool.and_eq_true]; exact ⟨Rp.plain d h1, RpA.plain ds h2⟩
end
/-- at most so deep -/
def DpN (n : Nat) (d : D) : Prop := d.depth ≤ n
theorem dpn_int {n : Nat} {i : Int} : DpN n (.int i) := by simp [DpN, PyData.depth]
theorem dpn_bl {n : Nat} {b : Bool} : DpN n (.bool b) := by simp [DpN, PyData.depth]
theorem dpn_str {n : Nat} {x : Str} : DpN n (.str x) := by simp [DpN, PyData.depth]
theorem dpn_non {n : Nat} : DpN n .none := by simp [DpN, PyData.depth]
theorem depthAll_le {n : Nat} : ∀ {ds : List D}, (∀ d ∈ ds, DpN n d) → PyData.depthAll ds ≤ n
  | [], _ => by simp [PyData.depthAll]
  | d :: ds, h => by
    simp only [PyData.depthAll]
    exact Nat.max_le.mpr ⟨h d (by simp), depthAll_le fun e he => h e (by simp [he])⟩
theorem dpn_list {n : Nat} {ds : List D} (h : ∀ d ∈ ds, DpN n d) : DpN (n + 1) (.list ds) := by
  simp only [DpN, PyData.depth]
  exact Nat.succ_le_succ (depthAll_le h)
theorem dpn_tup {n : Nat} {ds : List D} (h : ∀ d ∈ ds, DpN n d) : DpN (n + 1) (.tuple ds) := by
  simp only [DpN, PyData.depth]
  exact Nat.succ_le_succ (depthAll_le h)
theorem dpn_map {α : Type} {n : Nat} {xs : List α} {f : α → D} (h : ∀ x ∈ xs, DpN n (f x)) : ∀ d ∈ xs.map f, DpN n d := fun d hd => by
  obtain ⟨x, hx, rfl⟩ := List.mem_map.mp hd
  exact h x hx
theorem dpn_nil {n : Nat} : ∀ d ∈ ([] : List D), DpN n d := fun d h => by cases h
theorem dpn_cons {n : Nat} {d : D} {ds : List D} (h : DpN n d) (hs : ∀ e ∈ ds, DpN n e) : ∀ e ∈ d :: ds, DpN n e := fun e he => by
  rcases List.mem_cons.mp he with rfl | he
  · exact h
  · exact hs e he
theorem DpN.up {n m : Nat} {d : D} (h : DpN n d) (k : n ≤ m) : DpN m d := Nat.le_trans h k
end

/-! ### ==, != of data at depth 64 -/
section
variable {X : Cx} {K : PySem.W.Frag} {d d1 d2 : D} {ds es : List D} {Q : D → Prop}
def rEqP (K : PySem.W.Frag) : R2 := fun x y H Q => ∃ d e, Dp K H x d ∧ Dp K H y e ∧ d.plain = true ∧ e.plain = true ∧ min d.depth e.depth ≤ 60 ∧ Q (.bl (PyData.eqv d e)) H
def rNeP (K : PySem.W.Frag) : R2 := fun x y H Q => ∃ d e, Dp K H x d ∧ Dp K H y e ∧ d.plain = true ∧ e.plain = true ∧ min d.depth e.depth ≤ 60 ∧ Q (.bl (!PyData.eqv d e)) H
theorem op_eqP (hu : X.A.units + 64 < cLine) : OpR X (compareOp .Eq) (rEqP X.K) := by
  rintro pins s σ H x y v u Q I rx ry ⟨d, e, hd, he, pd, pe, hz, q⟩
  obtain ⟨as, r1⟩ := Dp.reads I d x v hd rx
  obtain ⟨bs, r2⟩ := Dp.reads I e y u he ry
  exact PySem.SeqAt.eq_plain r1 r2 pd pe (by omega) ⟨.bl _, H, I, rfl, q⟩
theorem op_neP (hu : X.A.units + 64 < cLine) : OpR X (compareOp .NotEq) (rNeP X.K) := by
  rintro pins s σ H x y v u Q I rx ry ⟨d, e, hd, he, pd, pe, hz, q⟩
  obtain ⟨as, r1⟩ := Dp.reads I d x v hd rx
  obtain ⟨bs, r2⟩ := Dp.reads I e y u he ry
  exact PySem.SeqAt.ne_plain r1 r2 pd pe (by omega) ⟨.bl _, H, I, rfl, q⟩
theorem opd_eqP (h : min d1.depth d2.depth ≤ 60) (k : Q (.bool (PyData.eqv d1 d2))) : OpD (rEqP K) d1 d2 Q := fun F H x y e rx ry Z z => ⟨d1, d2, rx.dp e, ry.dp e, Rp.plain _ rx, Rp.plain _ ry, h, z _ _ F H k (Gr.refl e) (.bl _)⟩
theorem opd_neP (h : min d1.depth d2.depth ≤ 60) (k : Q (.bool (!PyData.eqv d1 d2))) : OpD (rNeP K) d1 d2 Q := fun F H x y e rx ry Z z => ⟨d1, d2, rx.dp e, ry.dp e, Rp.plain _ rx, Rp.plain _ ry, h, z _ _ F H k (Gr.refl e) (.bl _)⟩
theorem min_l {n m k : Nat} (h : n ≤ k) : min n m ≤ k := Nat.le_trans (Nat.min_le_left _ _) h
theorem min_r {n m k : Nat} (h : m ≤ k) : min n m ≤ k := Nat.le_trans (Nat.min_le_right _ _) h
/-! in, not in -/
def rInP (K : PySem.W.Frag) : R2 := fun x y H Q => ∃ d es, Dp K H x d ∧ (Dp K H y (.list es) ∨ Dp K H y (.tuple es)) ∧ d.plain = true ∧ PyData.plainAll es = true ∧ min (PyData.depthAll es) d.depth ≤ 60 ∧ Q (.bl (es.any fun y => PyData.eqv y d)) H
def rNinP (K : PySem.W.Frag) : R2 := fun x y H Q => ∃ d es, Dp K H x d ∧ (Dp K H y (.list es) ∨ Dp K H y (.tuple es)) ∧ d.plain = true ∧ PyData.plainAll es = true ∧ min (PyData.depthAll es) d.depth ≤ 60 ∧ Q (.bl (!es.any fun y => PyData.eqv y d)) H
theorem op_inP (hu : X.A.units + 64 < cLine) : OpR X (compareOp .In) (rInP X.K) := by
  rintro pins s σ H x y v u Q I rx ry ⟨d, es, hd, he, pd, pe, hz, q⟩
  obtain ⟨as, r1⟩ := Dp.reads I d x v hd rx
  rcases he with he | he
  · obtain ⟨bs, r2⟩ := Dp.reads I _ y u he ry
    exact PySem.SeqAt.in_list_data r2 r1 pe pd (by omega) ⟨.bl _, H, I, rfl, q⟩
  · obtain ⟨bs, r2⟩ := Dp.reads I _ y u he ry
    exact PySem.SeqAt.in_tuple_data r2 r1 pe pd (by omega) ⟨.bl _, H, I, rfl, q⟩
theorem op_ninP (hu : X.A.units + 64 < cLine) : OpR X (compareOp .NotIn) (rNinP X.K) := by
  rintro pins s σ H x y v u Q I rx ry ⟨d, es, hd, he, pd, pe, hz, q⟩
  obtain ⟨as, r1⟩ := Dp.reads I d x v hd rx
  rcases he with he | he
  · obtain ⟨bs, r2⟩ := Dp.reads I _ y u he ry
    exact PySem.SeqAt.notIn_list_data r2 r1 pe pd (by omega) ⟨.bl _, H, I, rfl, q⟩
  · obtain ⟨bs, r2⟩ := Dp.reads I _ y u he ry
    exact PySem.SeqAt.notIn_tuple_data r2 r1 pe pd (by omega) ⟨.bl _, H, I, rfl, q⟩
theorem opd_inL (h : min (PyData.depthAll es) d.depth ≤ 60) (k : Q (.bool (es.any fun y => PyData.eqv y d))) : OpD (rInP K) d (.list es) Q := fun F H x y e rx ry Z z =>
  ⟨d, es, rx.dp e, .inl (ry.dp e), Rp.plain _ rx, by have := Rp.plain _ ry; simpa only [PyData.plain] using this, h, z _ _ F H k (Gr.refl e) (.bl _)⟩
theorem opd_inT (h : min (PyData.depthAll es) d.depth ≤ 60) (k : Q (.bool (es.any fun y => PyData.eqv y d))) : OpD (rInP K) d (.tuple es) Q := fun F H x y e rx ry Z z =>
  ⟨d, es, rx.dp e, .inr (ry.dp e), Rp.plain _ rx, by have := Rp.plain _ ry; simpa only [PyData.plain] using this, h, z _ _ F H k (Gr.refl e) (.bl _)⟩
theorem opd_ninL (h : min (PyData.depthAll es) d.depth ≤ 60) (k : Q (.bool (!es.any fun y => PyData.eqv y d))) : OpD (rNinP K) d (.list es) Q := fun F H x y e rx ry Z z =>
  ⟨d, es, rx.dp e, .inl (ry.dp e), Rp.plain _ rx, by have := Rp.plain _ ry; simpa only [PyData.plain] using this, h, z _ _ F H k (Gr.refl e) (.bl _)⟩
theorem opd_ninT (h : min (PyData.depthAll es) d.depth ≤ 60) (k : Q (.bool (!es.any fun y => PyData.eqv y d))) : OpD (rNinP K) d (.tuple es) Q := fun F H x y e rx ry Z z =>
  ⟨d, es, rx.dp e, .inr (ry.dp e), Rp.plain _ rx, by have := Rp.plain _ ry; simpa only [PyData.plain] using this, h, z _ _ F H k (Gr.refl e) (.bl _)⟩
/-! min, max of a list of alike data -/
def rMnD (K : PySem.W.Frag) : List V → Hp → VK → Prop := fun vs H Q => ∃ (F : Hp) (a : Addr) (xs : List V) (d : D) (ds : List D), vs = [.ref a] ∧ Same F H ∧ Rd F a (.lst xs) ∧ RpA F xs (d :: ds) ∧ PySem.W.AlikeAll (d :: ds) ∧ PyData.depthAll (d :: ds) ≤ 60 ∧ ∀ v, Rp F v (PySem.W.minD d ds) → Q v H
def rMxD (K : PySem.W.Frag) : List V → Hp → VK → Prop := fun vs H Q => ∃ (F : Hp) (a : Addr) (xs : List V) (d : D) (ds : List D), vs = [.ref a] ∧ Same F H ∧ Rd F a (.lst xs) ∧ RpA F xs (d :: ds) ∧ PySem.W.AlikeAll (d :: ds) ∧ PyData.depthAll (d :: ds) ≤ 60 ∧ ∀ v, Rp F v (PySem.W.maxD d ds) → Q v H
theorem minD_mem (d : D) (ds : List D) : PySem.W.minD d ds ∈ d :: ds := by
  have : ∀ (es : List D) (a : D), es.foldl (fun a y => if PySem.W.dataLt y a then y else a) a ∈ a :: es := by
    intro es
    induction es with
    | nil => intro a; simp
    | cons e es ih =>
      intro a
      rw [List.foldl_cons]
      have q := ih (if PySem.W.dataLt e a then e else a)
      by_cases c : PySem.W.dataLt e a = true
      · rw [if_pos c] at q ⊢
        exact List.mem_cons_of_mem _ q
      · rw [if_neg c] at q ⊢
        rcases List.mem_cons.mp q with q | q
        · rw [q]; exact List.mem_cons_self
        · exact List.mem_cons_of_mem _ (List.mem_cons_of_mem _ q)
  exact this ds d
theorem maxD_mem (d : D) (ds : List D) : PySem.W.maxD d ds ∈ d :: ds := by
  have : ∀ (es : List D) (a : D), es.foldl (fun a y => if PySem.W.dataLt a y then y else a) a ∈ a :: es := by
    intro es
    induction es with
    | nil => intro a; simp
    | cons e es ih =>
      intro a
      rw [List.foldl_cons]
      have q := ih (if PySem.W.dataLt a e then e else a)
      by_cases c : PySem.W.dataLt a e = true
      · rw [if_pos c] at q ⊢
        exact List.mem_cons_of_mem _ q
      · rw [if_neg c] at q ⊢
        rcases List.mem_cons.mp q with q | q
        · rw [q]; exact List.mem_cons_self
        · exact List.mem_cons_of_mem _ (List.mem_cons_of_mem _ q)
  exact this ds d
theorem pick_rp {pins : List (Addr × Obj)} {σ : St} {F H : Hp} {s : Shared} {xs : List V} {its : List Value} {es : List D} {m : D} (I : Inv X pins σ H s) (e : Same F H) (ra : RpA F xs es) (rv : Vals xs its) (al : PySem.W.AlikeAll es) (hm : m ∈ es)
    {i : Nat} {v : Value} {h' : Heap} {bs : List Addr} (hi : its.toArray[i]? = some v) (rd : Reads h' v m bs) (hk : ∀ b o, s.heap.get? b = some o → h'.get? b = some o) : ∃ y, RelV y v ∧ Rp F y m := by
  have hi' : its[i]? = some v := by simpa using hi
  have hl : i < xs.length := by rw [rv.length]; exact (List.getElem?_eq_some_iff.mp hi').1
  obtain ⟨u, hu, ru⟩ := rv.get (List.getElem?_eq_getElem hl)
  rw [hi'] at hu
  cases hu
  obtain ⟨d, hd, rp⟩ := ra.get' (List.getElem?_eq_getElem hl)
  obtain ⟨as, r1⟩ := rp_reads I e rp ru
  have q : d = m := PySem.W.alike_unique d m v as bs (al.1 d (List.mem_of_getElem? hd) m hm) (PyProof.Rows.Reads.keeps hk r1) rd
  rw [q] at rp
  exact ⟨_, ru, rp⟩
theorem cb_minD (hc : X.calm = true) (hu : X.A.units + 64 < cLine) : CallR X (.builtin "min") (rMnD X.K) := by
  rintro pins s σ H vs us Q I r ⟨F, a, xs, d, ds, rfl, e, ha, ra, al, hz, q⟩
  obtain ⟨its, rv, hl, _⟩ := I.list (sqL_rd (K := X.K) ha e)
  obtain ⟨as, rr⟩ := rpa_reads I e ra rv
  rw [Vals.ref1 r]
  refine PySem.W.min_list_data (I.ok.hd hc) hl.isList (by simpa using rr) al (by omega) fun i v h' tk bs hi rd hk => ?_
  obtain ⟨y, ry, rp⟩ := pick_rp I e ra rv al (minD_mem d ds) hi rd hk
  exact ⟨y, H, I.kept hk, ry, q y rp⟩
theorem cb_maxD (hc : X.calm = true) (hu : X.A.units + 64 < cLine) : CallR X (.builtin "max") (rMxD X.K) := by
  rintro pins s σ H vs us Q I r ⟨F, a, xs, d, ds, rfl, e, ha, ra, al, hz, q⟩
  obtain ⟨its, rv, hl, _⟩ := I.list (sqL_rd (K := X.K) ha e)
  obtain ⟨as, rr⟩ := rpa_reads I e ra rv
  rw [Vals.ref1 r]
  refine PySem.W.max_list_data (I.ok.hd hc) hl.isList (by simpa using rr) al (by omega) fun i v h' tk bs hi rd hk => ?_
  obtain ⟨y, ry, rp⟩ := pick_rp I e ra rv al (maxD_mem d ds) hi rd hk
  exact ⟨y, H, I.kept hk, ry, q y rp⟩
theorem cbd_minD (al : PySem.W.AlikeAll (d :: ds)) (hz : PyData.depthAll (d :: ds) ≤ 60) (k : Q (PySem.W.minD d ds)) : CbD (rMnD K) [.list (d :: ds)] Q := fun F H vs e r Z z => by
  obtain ⟨v, rfl, rv⟩ := r.one
  obtain ⟨a, xs, rfl, h1, h2⟩ := rv.lst_inv
  exact ⟨F, a, xs, d, ds, rfl, e, h1, h2, al, hz, fun v rv => z _ _ F H k (Gr.refl e) rv⟩
theorem cbd_maxD (al : PySem.W.AlikeAll (d :: ds)) (hz : PyData.depthAll (d :: ds) ≤ 60) (k : Q (PySem.W.maxD d ds)) : CbD (rMxD K) [.list (d :: ds)] Q := fun F H vs e r Z z => by
  obtain ⟨v, rfl, rv⟩ := r.one
  obtain ⟨a, xs, rfl, h1, h2⟩ := rv.lst_inv
  exact ⟨F, a, xs, d, ds, rfl, e, h1, h2, al, hz, fun v rv => z _ _ F H k (Gr.refl e) rv⟩
theorem alike_ints (ns : List Int) : PySem.W.AlikeAll (ns.map PyData.int) := ⟨fun x hx y hy => by
  obtain ⟨a, _, rfl⟩ := List.mem_map.mp hx
  obtain ⟨b, _, rfl⟩ := List.mem_map.mp hy
  rfl, fun x hx => by
  obtain ⟨a, _, rfl⟩ := List.mem_map.mp hx
  intro z; cases z⟩
def foldMin : List Int → Int
  | [] => 0
  | n :: ns => ns.foldl min n
def foldMax : List Int → Int
  | [] => 0
  | n :: ns => ns.foldl max n
theorem cbd_minI {ns : List Int} (h : 0 < ns.length) (k : Q (.int (foldMin ns))) : CbD (rMnD K) [.list (ns.map .int)] Q := by
  cases ns with
  | nil => cases h
  | cons n ns =>
    refine cbd_minD (alike_ints (n :: ns)) ?_ ?_
    · exact depthAll_le (dpn_map (xs := n :: ns) fun x _ => dpn_int)
    · have e := PySem.W.minD_ints n ns
      show Q (PySem.W.minD (.int n) (ns.map .int))
      rw [e]
      exact k
theorem cbd_maxI {ns : List Int} (h : 0 < ns.length) (k : Q (.int (foldMax ns))) : CbD (rMxD K) [.list (ns.map .int)] Q := by
  cases ns with
  | nil => cases h
  | cons n ns =>
    refine cbd_maxD (alike_ints (n :: ns)) ?_ ?_
    · exact depthAll_le (dpn_map (xs := n :: ns) fun x _ => dpn_int)
    · have e := PySem.W.maxD_ints n ns
      show Q (PySem.W.maxD (.int n) (ns.map .int))
      rw [e]
      exact k
/-! sorted -/
abbrev sortD (ds : List D) : List D := ds.mergeSort (PySem.W.dataLe false id)
def rSrD (K : PySem.W.Frag) : List V → Hp → VK → Prop := fun vs H Q => ∃ (F : Hp) (a : Addr) (xs : List V) (ds : List D), vs = [.ref a] ∧ Same F H ∧ Rd F a (.lst xs) ∧ RpA F xs ds ∧ PySem.W.AllAlike ds ∧ PySem.W.Sortable ds ∧ PyData.depthAll ds ≤ 60 ∧
  ∀ p ys, H p = none → RpA F ys (sortD ds) → Q (.ref p) (upd H p (.lst ys))
theorem rpa_zip {F : Hp} : ∀ {xs : List V} {ds : List D}, RpA F xs ds → ∀ p ∈ xs.zip ds, Rp F p.1 p.2
  | _, [], h, p, hp => by cases h; cases hp
  | _, d :: ds, h, p, hp => by
    cases h with
    | cons h1 h2 =>
      rcases List.mem_cons.mp hp with rfl | hp
      · exact h1
      · exact rpa_zip h2 p hp
theorem rpa_of {F : Hp} : ∀ {zs : List (V × D)}, (∀ p ∈ zs, Rp F p.1 p.2) → RpA F (zs.map Prod.fst) (zs.map Prod.snd)
  | [], _ => .nil
  | z :: zs, h => .cons (h z (by simp)) (rpa_of fun p hp => h p (by simp [hp]))
theorem each_zip {F : Hp} : ∀ {xs : List V} {ds : List D} {its : List Value}, RpA F xs ds → Vals xs its → PySem.W.EachIs (fun v (b : V × D) => RelV b.1 v) its (xs.zip ds)
  | _, [], _, h, r => by cases h; cases r; exact .nil
  | _, d :: ds, _, h, r => by
    cases h with
    | cons h1 h2 =>
      cases r with
      | cons r1 r2 => exact .cons r1 (each_zip h2 r2)
theorem vals_each : ∀ {zs : List (V × D)} {out : List Value}, PySem.W.EachIs (fun v (b : V × D) => RelV b.1 v) out zs → Vals (zs.map Prod.fst) out
  | _, _, .nil => .nil
  | _, _, .cons h t => .cons h (vals_each t)
theorem each_reads {h : Heap} : ∀ {xs : List V} {ds : List D} {its : List Value} {as : List Addr}, xs.length = ds.length → ReadsAll h its ds as → PySem.W.EachIs (fun v (b : V × D) => ∃ as, Reads h v b.2 as) its (xs.zip ds)
  | [], [], _, _, _, r => by cases r; exact .nil
  | x :: xs, d :: ds, _, _, l, r => by
    cases r with
    | cons r1 r2 => exact .cons ⟨_, r1⟩ (each_reads (by simpa using l) r2)
  | [], _ :: _, _, _, l, _ => by simp at l
  | _ :: _, [], _, _, l, _ => by simp at l
theorem depth_mem : ∀ {ds : List D} {d : D}, d ∈ ds → d.depth ≤ PyData.depthAll ds
  | [], _, h => by cases h
  | e :: ds, d, h => by
    simp only [PyData.depthAll]
    rcases List.mem_cons.mp h with rfl | h
    · exact Nat.le_max_left _ _
    · exact Nat.le_trans (depth_mem h) (Nat.le_max_right _ _)
theorem cb_sortD (hu : X.A.units + 64 < cLine) : CallR X (.builtin "sorted") (rSrD X.K) := by
  rintro pins s σ H vs us Q I r ⟨F, a, xs, ds, rfl, e, ha, ra, al, so, hz, q⟩
  obtain ⟨its, rv, hl, hzl⟩ := I.list (sqL_rd (K := X.K) ha e)
  obtain ⟨as, rr⟩ := rpa_reads I e ra rv
  rw [Vals.ref1 r]
  have hmap : (xs.zip ds).map Prod.snd = ds := List.map_snd_zip (by rw [ra.len]; exact Nat.le_refl _)
  have hlen : (xs.zip ds).length = xs.length := by rw [List.length_zip, ra.len, Nat.min_self]
  refine PySem.W.sorted_data (bs := xs.zip ds) (enc := Prod.snd) hl.isList (each_zip ra rv) (each_reads ra.len rr) (by rw [hmap]; exact al) (by rw [hmap]; exact so) (by rw [hlen]; exact hzl)
    (fun b hb => ?_) fun out ho he => ?_
  · have hd : b.2 ∈ ds := by rw [← hmap]; exact List.mem_map_of_mem hb
    have := depth_mem hd
    omega
  · obtain ⟨ep, he'⟩ := PyProof.Rows.sortedAll_at s.heap its out.toArray
    have hv := vals_each he
    have hd : (List.mergeSort (xs.zip ds) (PySem.W.dataLe false Prod.snd)).map Prod.snd = sortD ds := by
      have q := PySem.W.sort_maps (r := PySem.W.dataLe false Prod.snd) (s := PySem.W.dataLe false id) (Prod.snd : V × D → D) (l := xs.zip ds) (fun a _ b _ => rfl)
      rw [q, hmap]
    have hr := rpa_of (F := F) (zs := List.mergeSort (xs.zip ds) (PySem.W.dataLe false Prod.snd)) fun p hp => rpa_zip ra p (List.mem_mergeSort.mp hp)
    rw [hd] at hr
    refine ⟨.ref _, upd H (s.heap.objs.size + 1) (.lst ((List.mergeSort (xs.zip ds) (PySem.W.dataLe false Prod.snd)).map Prod.fst)), I.laid (t' := s.toks) (fun _ _ => PyProof.Rows.sortedAll_old) (Nat.le_succ _) ⟨?_, out, ep, hv, he'⟩, rfl, q _ _ (I.hok.fresh (Nat.le_succ _)) hr⟩
    rw [List.length_map, List.length_mergeSort, hlen]
    exact hzl
theorem cbo_sortD {Q : List D → Prop} (al : PySem.W.AllAlike ds) (so : PySem.W.Sortable ds) (hz : PyData.depthAll ds ≤ 60) (k : Q (sortD ds)) : CbO (rSrD K) [.list ds] Q := fun F H vs e r Z z => by
  obtain ⟨v, rfl, rv⟩ := r.one
  obtain ⟨a, xs, rfl, h1, h2⟩ := rv.lst_inv
  exact ⟨F, a, xs, ds, rfl, e, h1, h2, al, so, hz, fun p ys hp rp => z _ p _ _ k (same_upd hp) hp upd_same rp⟩
/-! x.extend(ys) -/
def rExtR : V → List V → Hp → VK → Prop := fun x vs H Q => ∃ l b xs zs, x = .ref l ∧ vs = [.ref b] ∧ H l = some (.lst xs) ∧ Rd H b (.lst zs) ∧ xs.length + zs.length ≤ sizeLine ∧ Q .non (upd H l (.lst (xs ++ zs)))
theorem mt_extR : MtM X "list.extend" rExtR := by
  intro pins s σ H x vs v us Q I rx rv h
  obtain ⟨l, b, xs, zs, rfl, rfl, hH, hB, hz, q⟩ := h
  cases rx
  obtain ⟨u, rfl, ru⟩ := rv.one
  cases ru
  obtain ⟨z, its, n, r, hl, e⟩ := I.lstM hH
  obtain ⟨z2, its2, n2, r2, e2⟩ := hB.ok I.hok
  have hl2 := r2.length
  have k1 : its.toArray.size + its2.toArray.size ≤ sizeLine := by rw [List.size_toArray, List.size_toArray]; omega
  have k2 : ¬ (!its.toArray.isEmpty && Builtin.List.listTooLong (its.toArray.size + its2.toArray.size)) = true := by rw [notLongL k1, Bool.and_false]; exact Bool.false_ne_true
  refine call_meets F.slot_list_extend ⟨_, e, rfl⟩ F.entry_list_extend (F.args_list_extend_2 _ _) (AutoSeq1.list_extend_list_list_0 l its.toArray n b its2.toArray n2 k2 (by rw [List.size_toArray]; omega) (by omega)) ⟨e, e2, ?_⟩
  refine ⟨.non, _, I.lset (its' := its ++ its2) hH e (by simp) (r.append r2) ?_, rfl, q⟩
  rw [List.length_append]; omega
theorem sx_ext {ρ : Env} {P : Po} {te : TE} {i : Nat} {fs : List D} (h : ρ[i]? = some (.own fs)) (k : EX te ρ fun d ρ1 => ∃ ds es, d = .list es ∧ ρ1[i]? = some (.own ds) ∧ ds.length + es.length ≤ 1000000 ∧ NX P (ρ1.set i (.own (ds ++ es)))) : SX (tDrop (tBM K "list" rExtR (tVar i) (tCons te tNil))) ρ P := fun B σ F H w Dn n r b c => by
  obtain ⟨ad, w⟩ := w
  obtain ⟨p0, vs0, _, _, k1, k0, _⟩ := w.sl i _ h
  refine ⟨_, k1, .inl ⟨rfl, _, .inl (.inl k0)⟩, k B ad σ F H w _ fun d ρ1 v F1 H1 q1 p1 r1 => ?_⟩
  obtain ⟨ds, es, rfl, h1, hz, ρ', l, q⟩ := q1
  obtain ⟨p, vs, _, _, k2, k3, rr⟩ := p1.wa.sl i _ h1
  have e := k1.symm.trans k2
  cases e
  obtain ⟨a, ws, rfl, g1, g2⟩ := r1.lst_inv
  exact ⟨_, a, vs, ws, rfl, rfl, k3, rd_mono p1.wa.gr.fh g1, Nat.le_trans (by rw [rr.len, g2.len]; exact hz) (by decide), n ρ' σ F1 _ q ((p1.wa.mut h1 k2 (rr.app g2)).weak l)⟩
end

/-! ### short forms for a run -/
section
variable {K : PySem.W.Frag} {Q : D → Prop} {i j : Int} {d d1 d2 : D} {ds es : List D}
theorem Gr.frz {F H H' : Hp} {p : Addr} {vs : List V} (e : Same F H) (g : Same H H') (hn : H p = none) (hp : H' p = some (.lst vs)) : Gr Non F H (upd F p (.lst vs)) H' where
  ff := same_upd (e.free hn)
  fh := fun a u q => by
    by_cases ha : a = p
    · subst ha; rw [upd_same] at q; rw [hp]; exact q
    · rw [upd_ne ha] at q; exact g a u (e a u q)
  kp := fun a u q _ => g a u q
  al := fun a q => by
    cases z : H a with
    | none => exact absurd z q
    | some o => rw [g a o z]; intro z; cases z
  fr := fun a q z => by
    have ha : a ≠ p := fun z => q (z ▸ hn)
    rw [upd_ne ha]; exact z
theorem opd_ofO {r : R2} (h : OpO r d1 d2 fun ds => Q (.list ds)) : OpD r d1 d2 Q := fun F H x y e rx ry Z z => h F H x y e rx ry Z fun ds p vs H' q g hn hp rv =>
  z _ _ (upd F p (.lst vs)) H' q (Gr.frz e g hn hp) (.lst (.inl upd_same) (rv.up (Gr.frz e g hn hp).ff))
theorem cbd_ofO {r : List V → Hp → VK → Prop} (h : CbO r ds fun ds => Q (.list ds)) : CbD r ds Q := fun F H vs e rv Z z => h F H vs e rv Z fun ds p vs H' q g hn hp rv =>
  z _ _ (upd F p (.lst vs)) H' q (Gr.frz e g hn hp) (.lst (.inl upd_same) (rv.up (Gr.frz e g hn hp).ff))
theorem sld_ofO {r : V → Option Int → Option Int → Hp → VK → Prop} {lo hi : Option Int} (h : SlO r d lo hi fun ds => Q (.list ds)) : SlD r d lo hi Q := fun F H x e rx Z z => h F H x e rx Z fun ds p vs H' q g hn hp rv =>
  z _ _ (upd F p (.lst vs)) H' q (Gr.frz e g hn hp) (.lst (.inl upd_same) (rv.up (Gr.frz e g hn hp).ff))
theorem opd_plusL (hz : ds.length + es.length ≤ 1000000) (k : Q (.list (ds ++ es))) : OpD (rPlus K) (.list ds) (.list es) Q := opd_ofO (opo_plusL hz k)
theorem sld_L {lo hi : Option Int} (k : Q (.list (cutD ds lo hi))) : SlD (rSl K) (.list ds) lo hi Q := sld_ofO (slo_L k)
theorem cbd_listL (k : Q (.list ds)) : CbD (rList K) [.list ds] Q := cbd_ofO (cbo_listL k)
theorem cbd_listT (k : Q (.list ds)) : CbD (rList K) [.tuple ds] Q := cbd_ofO (cbo_listT k)
theorem cbd_sortD (al : PySem.W.AllAlike ds) (so : PySem.W.Sortable ds) (hz : PyData.depthAll ds ≤ 60) (k : Q (.list (sortD ds))) : CbD (rSrD K) [.list ds] Q := cbd_ofO (cbo_sortD al so hz k)
theorem opd_eqI (k : Q (.bool (decide (i = j)))) : OpD (rEqP K) (.int i) (.int j) Q := opd_eqP (min_l (by simp [PyData.depth])) (by
  have e : PyData.eqv (.int i) (.int j) = decide (i = j) := by simp only [PyData.eqv]; exact Bool.beq_eq_decide_eq i j
  rw [e]; exact k)
theorem opd_neI (k : Q (.bool (!decide (i = j)))) : OpD (rNeP K) (.int i) (.int j) Q := opd_neP (min_l (by simp [PyData.depth])) (by
  have e : PyData.eqv (.int i) (.int j) = decide (i = j) := by simp only [PyData.eqv]; exact Bool.beq_eq_decide_eq i j
  rw [e]; exact k)
theorem opd_eqS {x y : Str} (k : Q (.bool (decide (x = y)))) : OpD (rEqP K) (.str x) (.str y) Q := opd_eqP (min_l (by simp [PyData.depth])) (by
  have e : PyData.eqv (.str x) (.str y) = decide (x = y) := by simp only [PyData.eqv]; by_cases h : x = y <;> simp [h]
  rw [e]; exact k)
theorem opd_neS {x y : Str} (k : Q (.bool (!decide (x = y)))) : OpD (rNeP K) (.str x) (.str y) Q := opd_neP (min_l (by simp [PyData.depth])) (by
  have e : PyData.eqv (.str x) (.str y) = decide (x = y) := by simp only [PyData.eqv]; by_cases h : x = y <;> simp [h]
  rw [e]; exact k)
theorem atI_in {α : Type} {xs : List α} {k : Int} (h0 : 0 ≤ k) (h1 : k < xs.length) : atI xs k = some (xs[k.toNat]'(by omega)) := by
  obtain ⟨n, rfl⟩ : ∃ n : Nat, k = (n : Int) := ⟨k.toNat, by omega⟩
  exact atI_nat (by simp)
/-- an item of a mapped list, told by a default -/
theorem atI_map {α : Type} {xs : List α} {f : α → D} {k : Int} (a : α) (h0 : 0 ≤ k) (h1 : k < xs.length) : atI (xs.map f) k = some (f (xs.getD k.toNat a)) := by
  have hk : k.toNat < xs.length := by omega
  have e := atI_in (xs := xs.map f) h0 (by rw [List.length_map]; exact h1)
  rw [e, List.getElem_map, List.getD_eq_getElem?_getD, List.getElem?_eq_getElem hk]
  rfl
theorem opd_ixM {α : Type} {xs : List α} {f : α → D} {k : Int} (a : α) (h0 : 0 ≤ k) (h1 : k < xs.length) (q : Q (f (xs.getD k.toNat a))) : OpD (rIxA K) (.list (xs.map f)) (.int k) Q := opd_ixL (atI_map a h0 h1) q
end

theorem rng_at {lo : Int} {n k : Nat} {d : D} (h : ((rngI lo n).map PyData.int)[k]? = some d) : k < n ∧ d = .int (lo + (k : Int)) := by
  have hk : k < n := by
    have := (List.getElem?_eq_some_iff.mp h).1
    rw [List.length_map, rngI_len] at this
    exact this
  rw [List.getElem?_map, rngI_get hk] at h
  exact ⟨hk, (Option.some.inj h).symm⟩
theorem rng_size (lo : Int) (n : Nat) : ((rngI lo n).map PyData.int).length = n := by rw [List.length_map, rngI_len]
theorem map_at {α : Type} {xs : List α} {f : α → D} {k : Nat} {d : D} (h : (xs.map f)[k]? = some d) : ∃ x, xs[k]? = some x ∧ d = f x := by
  rw [List.getElem?_map] at h
  cases e : xs[k]? with
  | none => rw [e] at h; cases h
  | some x => rw [e] at h; exact ⟨x, rfl, (Option.some.inj h).symm⟩

/-- what a slot that holds data gives on -/
def VQ (s : Option Slot) (Q : D → Env → Prop) (ρ : Env) : Prop := match s with
  | some (.val d) => Q d ρ
  | _ => False
theorem ex_vr {ρ : Env} {i : Nat} {Q : D → Env → Prop} (h : VQ ρ[i]? Q ρ) : EX (tVar i) ρ Q := by
  unfold VQ at h
  split at h
  · rename_i d e
    exact ex_var e h
  · exact h.elim

section
variable {K : PySem.W.Frag} {Q : D → Prop} {d : D}
/-- two times the same datum -/
theorem opd_eqSelf (h : d.depth ≤ 60) (k : Q (.bool true)) : OpD (rEqP K) d d Q := fun F H x y e rx ry Z z => opd_eqP (Q := Q) (min_l h) (by rw [PySem.SeqAt.eqv_refl_plain d (Rp.plain d rx)]; exact k) F H x y e rx ry Z z
theorem opd_neSelf (h : d.depth ≤ 60) (k : Q (.bool false)) : OpD (rNeP K) d d Q := fun F H x y e rx ry Z z => opd_neP (Q := Q) (min_l h) (by rw [PySem.SeqAt.eqv_refl_plain d (Rp.plain d rx)]; exact k) F H x y e rx ry Z z
/-! pairs of ints -/
def ltP (a b : Int × Int) : Bool := decide (a.1 < b.1 ∨ a.1 = b.1 ∧ a.2 < b.2)
def encP (p : Int × Int) : D := .tuple [.int p.1, .int p.2]
theorem dataLt_P (a b : Int × Int) : PySem.W.dataLt (encP a) (encP b) = ltP a b := by
  unfold encP ltP
  rw [PySem.W.dataLt_pair rfl rfl]
  simp only [PyData.eqv, PySem.W.dataLt_int]
  by_cases h : a.1 = b.1
  · by_cases h2 : a.2 = b.2
    · simp [h, h2]
    · simp [h, h2]
  · simp [h]
def minPs : List (Int × Int) → Int × Int
  | [] => (0, 0)
  | p :: ps => ps.foldl (fun a y => if ltP y a = true then y else a) p
theorem minD_P (p : Int × Int) (ps : List (Int × Int)) : PySem.W.minD (encP p) (ps.map encP) = encP (minPs (p :: ps)) := by
  have h : ∀ (qs : List (Int × Int)) (a : Int × Int), (qs.map encP).foldl (fun a y => if PySem.W.dataLt y a then y else a) (encP a) = encP (qs.foldl (fun a y => if ltP y a = true then y else a) a) := by
    intro qs
    induction qs with
    | nil => intro a; rfl
    | cons q qs ih =>
      intro a
      simp only [List.map_cons, List.foldl_cons, dataLt_P]
      by_cases h : ltP q a = true
      · rw [if_pos h, if_pos h]; exact ih q
      · rw [if_neg h, if_neg h]; exact ih a
  exact h ps p
theorem alike_P (ps : List (Int × Int)) : PySem.W.AlikeAll (ps.map encP) := ⟨fun x hx y hy => by
  obtain ⟨a, _, rfl⟩ := List.mem_map.mp hx
  obtain ⟨b, _, rfl⟩ := List.mem_map.mp hy
  rfl, fun x hx => by
  obtain ⟨a, _, rfl⟩ := List.mem_map.mp hx
  intro z; cases z⟩
theorem cbd_minP {ps : List (Int × Int)} (h : 0 < ps.length) (k : Q (encP (minPs ps))) : CbD (rMnD K) [.list (ps.map encP)] Q := by
  cases ps with
  | nil => cases h
  | cons p ps =>
    refine cbd_minD (alike_P (p :: ps)) (depthAll_le (dpn_map (xs := p :: ps) fun x _ => dpn_tup (dpn_cons dpn_int (dpn_cons dpn_int dpn_nil)))) ?_
    have e := minD_P p ps
    show Q (PySem.W.minD (encP p) (ps.map encP))
    rw [e]
    exact k
theorem minPs_mem : ∀ {ps : List (Int × Int)}, 0 < ps.length → minPs ps ∈ ps
  | p :: ps, _ => by
    have : ∀ (qs : List (Int × Int)) (a : Int × Int), qs.foldl (fun a y => if ltP y a = true then y else a) a ∈ a :: qs := by
      intro qs
      induction qs with
      | nil => intro a; simp
      | cons e es ih =>
        intro a
        rw [List.foldl_cons]
        have q := ih (if ltP e a = true then e else a)
        by_cases c : ltP e a = true
        · rw [if_pos c] at q ⊢; exact List.mem_cons_of_mem _ q
        · rw [if_neg c] at q ⊢
          rcases List.mem_cons.mp q with q | q
          · rw [q]; exact List.mem_cons_self
          · exact List.mem_cons_of_mem _ (List.mem_cons_of_mem _ q)
    exact this ps p
end

/-! ### the ends: nothing asked, the law's own argument -/
section
variable {P : Program} {w : World} {K : PySem.W.Frag} {mg : Str → Option Value} {base : Heap} {f : Addr} {fd : FuncData} {k : Nat} {ps : List Str}
theorem fn_no {sp : Sp} (no : ∀ vs H Q E, ¬ sp vs H Q E) : FnOk P w K mg base CX0 k f fd ps sp := ⟨fun vs H Q E h => absurd h (no vs H Q E), fun A outer s H args us vs Q E _ _ _ _ h => absurd h (no vs H Q E)⟩
theorem fn_noP {R : List D → (D → Prop) → Prop} (no : ∀ ds Z, ¬ R ds Z) : FnOk P w K mg base CX0 k f fd ps (spP R) := fn_no fun vs H Q E h => by
  obtain ⟨F, ds, Z, _, _, q, _⟩ := h
  exact no ds Z q
theorem fn_noS {R : Stt → List D → (D → Stt → Prop) → Prop} (no : ∀ S ds Z, ¬ R S ds Z) : FnOk P w K mg base CX0 k f fd ps (spS R) := fn_no fun vs H Q E h => by
  obtain ⟨F, s, as, S, us, ds, Z, _, _, _, _, _, q, _⟩ := h
  exact no S ds Z q
/-- the written part holds no list -/
def noLs (K : PySem.W.Frag) : Bool := K.all fun p => match p.2.cls with
  | .type s => !(s == "list")
  | _ => true
theorem noLs_at {K : PySem.W.Frag} (h : noLs K = true) : ∀ {a : Addr} {o : Obj}, K.lookup a = some o → o.cls ≠ .type "list" := by
  intro a o e q
  unfold noLs at h
  induction K with
  | nil => cases e
  | cons p r ih =>
    obtain ⟨b, x⟩ := p
    simp only [List.all_cons, Bool.and_eq_true] at h
    simp only [List.lookup] at e
    split at e
    · cases e
      have h1 := h.1
      rw [q] at h1
      revert h1
      decide
    · exact ih h.2 e
theorem sqL_noK {H : Hp} {a : Addr} {xs : List V} (h : noLs K = true) (s : SqL K H a xs) : Rd H a (.lst xs) := by
  rcases s with s | ⟨o, its, n, e, c, _⟩
  · exact s
  · exact absurd c (noLs_at h e)
theorem rpa_ints {F : Hp} : ∀ ns : List Int, RpA F (ns.map V.int) (ns.map PyData.int)
  | [] => .nil
  | n :: ns => .cons (.int n) (rpa_ints ns)
theorem sp_law {R : List D → (D → Prop) → Prop} {H : Hp} {a : Addr} {ns : List Int} {E : XK} (nl : noLs K = true) (s : SqL K H a (ns.map V.int)) (hR : R [.list (ns.map .int)] fun d => d = .bool true) : spP R [.ref a] H (fun v _ => v = .bl true) E :=
  ⟨H, _, _, fun _ _ h => h, .cons (.lst (sqL_noK nl s) (rpa_ints ns)) .nil, hR, fun d v F' H' e _ rv => by
    subst e
    cases rv
    rfl⟩
end
end Pu
/-! the laws' drawing state: its making and its draws, once for all laws -/
namespace Pu
open PySem L2
/-- a state of the laws: a counter, cells from 0 on -/
def Ok : Stt → Prop
  | .cel a cs => 0 < cs.length ∧ cs.length ≤ 100000 ∧ 0 ≤ a ∧ ∀ c ∈ cs, 0 ≤ c
  | _ => False
def R_state : List D → (Stt → Prop) → Prop := fun ds Z => ∃ ns : List Int, ds = [.list (ns.map .int)] ∧ ∀ S, Ok S → Z S
/-- what is drawn: any number below the bound -/
def R_take : Stt → List D → (D → Stt → Prop) → Prop := fun S ds Z => ∃ m : Int, ds = [.int m] ∧ 1 ≤ m ∧ m < 1073741824 ∧ Ok S ∧ ∀ r S', 0 ≤ r → r < m → Ok S' → Z (.int r) S'
def T_state (K : PySem.W.Frag) : TS :=
    (tSeq (tAsg (tLc (iList K (tSl (rSl K) (tVar 0) tNoPart (tPart (tC (.int 63))))) (gName 2) tYes (tCB (rAbs) (tCons (tVar 2) tNil)) [2]) (gName 1))
    (tSeq (tIfS (tTest (tOp (rEqP K) (tCB (rLen K) (tCons (tVar 1) tNil)) (tC (.int 0))))
      (tAsg (tLst (tCons (tC (.int 0)) tNil)) (gName 1))
      tNext)
    (tRet (tLst (tCons (tC (.int 0)) (tCons (tVar 1) tNil))))))
def T_take (K : PySem.W.Frag) : TS :=
    (tSeq (tAsg (tOp (rIxA K) (tVar 0) (tC (.int 1))) (gName 2))
    (tSeq (tAsg (tOp (rI (fun _ j => 0 < j) fun i j => .int (i % j)) (tOp (rIxA K) (tVar 0) (tC (.int 0))) (tCB (rLen K) (tCons (tVar 2) tNil))) (gName 3))
    (tSeq (tAsg (tOp (rIxA K) (tVar 2) (tVar 3)) (gName 4))
    (tSeq (tIfS (tTest (tOp (rI0 fun i j => .bl (decide (j ≤ i))) (tVar 4) (tC (.int 1000000000000000000))))
      (tSeq (tAsg (tOp (rI CDiv fun i j => .int (i / j)) (tVar 4) (tVar 1)) (gSub (tVar 2) (tVar 3) rSetL))
    (tRet (tOp (rI (fun _ j => 0 < j) fun i j => .int (i % j)) (tVar 4) (tVar 1))))
      tNext)
    (tSeq (tAsg (tOp (rPlus K) (tOp (rIxA K) (tVar 0) (tC (.int 0))) (tC (.int 1))) (gSub (tVar 0) (tC (.int 0)) rSetL))
    (tSeq (tAsg (tOp (rI (fun _ j => 0 < j) fun i j => .int (i % j)) (tCB (rInt) (tCons (tOp (rPlus K) (tOp (rI CMul fun i j => .int (i * j)) (tVar 4) (tC (.int 48271))) (tOp (rI CMul fun i j => .int (i * j)) (tOp (rIxA K) (tVar 0) (tC (.int 0))) (tC (.int 69621)))) tNil)) (tC (.int 2147483647))) (gName 5))
    (tSeq (tAsg (tOp (rI (fun _ j => 0 < j) fun i j => .int (i % j)) (tCB (rInt) (tCons (tOp (rPlus K) (tOp (rI CMul fun i j => .int (i * j)) (tVar 5) (tC (.int 16807))) (tOp (rI CMul fun i j => .int (i * j)) (tOp (rIxA K) (tVar 0) (tC (.int 0))) (tC (.int 7919)))) tNil)) (tC (.int 1000000007))) (gName 5))
    (tRet (tOp (rI (fun _ j => 0 < j) fun i j => .int (i % j)) (tOp (rI CDiv fun i j => .int (i / j)) (tVar 5) (tC (.int 7))) (tVar 1))))))))))
theorem W.first {F H : Hp} {N : List Str} {vs : List V} {ds : List D} (fh : Same F H) (r : RpA F vs ds) : W { F0 := F, H0 := H, M := Non } (startE N ds) (L2.start N vs) F H := by
  refine ⟨fun _ => [], Gr.refl fh, ?_, fun i s e => ?_, (fun i p m => by cases m), (fun i j p m => by cases m), fun _ _ => rfl, (fun s as e => by cases e)⟩
  · unfold L2.start startE
    rw [List.length_append, List.length_append, List.length_map, List.length_map, List.length_replicate, List.length_replicate, r.len]
  · rcases startE_get e with ⟨d, e2, rfl⟩ | rfl
    · obtain ⟨v, e1, rv⟩ := r.get e2
      exact ⟨rfl, v, start_get e1, rv⟩
    · rfl
theorem mem_cut {xs : List D} {lo hi : Option Int} {x : D} (h : x ∈ cutD xs lo hi) : x ∈ xs := List.mem_of_mem_drop (List.mem_of_mem_take h)
theorem cut_map {α : Type} {f : α → D} (xs : List α) (lo hi : Option Int) : ∃ ys : List α, cutD (xs.map f) lo hi = ys.map f ∧ ys.length ≤ xs.length := by
  refine ⟨(xs.drop (HT.sIx (xs.map f).length 0 lo)).take (HT.sIx (xs.map f).length (xs.map f).length hi - HT.sIx (xs.map f).length 0 lo), ?_, ?_⟩
  · unfold cutD
    rw [← List.map_drop, ← List.map_take]
  · rw [List.length_take, List.length_drop]
    omega
theorem run_state {K : PySem.W.Frag} {vs : List V} {H : Hp} {Q : VK} {E : XK} (h : spN R_state vs H Q E) : T_state K { nx := fun _ H' => Q .non H', rt := Q } (L2.start ["script", "cells", "cell"] vs) H := by
  obtain ⟨F, ds, Z, fh, r, ⟨ns, rfl, hz⟩, z⟩ := h
  -- the cells, then the state
  have s1 : SX (tAsg (tLc (iList K (tSl (rSl K) (tVar 0) tNoPart (tPart (tC (.int 63))))) (gName 2) tYes (tCB (rAbs) (tCons (tVar 2) tNil)) [2]) (gName 1)) [.val (.list (ns.map .int)), .emp, .emp]
      { nx := fun ρ' => ∃ cs : List Int, (cs.length ≤ 63 ∧ ∀ c ∈ cs, 0 ≤ c) ∧ ρ' = [.val (.list (ns.map .int)), .own (cs.map .int), .emp], rt := fun _ _ => False } := by
    refine sx_asgO (eo_lcP (α := Int) (fun _ => true) (fun c => .int (c.natAbs : Int)) (ei_list (ex_of (eo_sl (ex_var rfl (ep_no (ep_some (ex_int ⟨63, rfl, slo_L ?_⟩))))))))
    obtain ⟨ys, ey, ly⟩ : ∃ ys : List Int, cutD (ns.map PyData.int) none (some 63) = ys.map PyData.int ∧ ys.length ≤ 63 := by
      refine ⟨(ns.drop (HT.sIx (ns.map PyData.int).length 0 none)).take (HT.sIx (ns.map PyData.int).length (ns.map PyData.int).length (some 63) - HT.sIx (ns.map PyData.int).length 0 none), ?_, ?_⟩
      · unfold cutD
        rw [← List.map_drop, ← List.map_take]
      · rw [List.length_take]
        refine Nat.le_trans (Nat.min_le_left _ _) ?_
        unfold HT.sIx
        simp
        omega
    refine ⟨_, rfl, ys, .int, ey, by omega, fun i hi => by simp at hi; subst hi; rfl, fun x _ => sg_name (by simp) ⟨rfl, et_yes ⟨rfl, rfl, fun _ => ex_cb (ea_cons (ex_var rfl (ea_nil (cbd_abs ⟨rfl, rfl⟩))))⟩⟩, ?_⟩
    refine nx_same ⟨ys.map fun c => (c.natAbs : Int), ⟨by rw [List.length_map]; exact ly, fun c hc => ?_⟩, ?_⟩
    · obtain ⟨x, _, rfl⟩ := List.mem_map.mp hc
      omega
    · rw [List.filter_eq_self.mpr (fun _ _ => rfl), List.map_map]
      rfl
  have s2 : ∀ cs : List Int, (cs.length ≤ 63 ∧ ∀ c ∈ cs, 0 ≤ c) → SX (tIfS (tTest (tOp (rEqP K) (tCB (rLen K) (tCons (tVar 1) tNil)) (tC (.int 0)))) (tAsg (tLst (tCons (tC (.int 0)) tNil)) (gName 1)) tNext) [.val (.list (ns.map .int)), .own (cs.map .int), .emp]
      { nx := fun ρ' => ∃ cs : List Int, (0 < cs.length ∧ cs.length ≤ 63 ∧ ∀ c ∈ cs, 0 ≤ c) ∧ ρ' = [.val (.list (ns.map .int)), .own (cs.map .int), .emp], rt := fun _ _ => False } := fun cs hcs => by
    refine sx_if (et_test (ex_op (ex_lenO rfl (ex_int (opd_eqP (min_l (by simp [PyData.depth])) ⟨_, rfl, fun hb => ?_, fun hb => ?_⟩)))))
    · exact sx_asgO (eo_lst (ea_cons (ex_int (ea_nil ⟨by simp, nx_same ⟨[0], by simp, rfl⟩⟩))))
    · refine sx_next (nx_same ⟨cs, ⟨?_, hcs⟩, rfl⟩)
      simp only [PyData.eqv, List.length_map, beq_eq_false_iff_ne, ne_eq] at hb
      omega
  have w0 := W.first (N := ["script", "cells", "cell"]) fh r
  refine s1 _ _ F H w0 _ (fun ρ1 σ1 F1 H1 q1 w1 => ?_) (fun _ _ _ _ _ _ q => q.elim) (fun _ _ _ _ q => q.elim) (fun _ _ _ _ q => q.elim)
  obtain ⟨cs, hcs, rfl⟩ := q1
  refine s2 cs hcs _ _ F1 H1 w1 _ (fun ρ2 σ2 F2 H2 q2 w2 => ?_) (fun _ _ _ _ _ _ q => q.elim) (fun _ _ _ _ q => q.elim) (fun _ _ _ _ q => q.elim)
  obtain ⟨cs, hcs, rfl⟩ := q2
  obtain ⟨ad, w2⟩ := w2
  obtain ⟨p, us, ka, k0, k1, k2, kr⟩ := w2.sl 1 _ rfl
  refine ⟨_, k1, by show 2 ≤ sizeLine; decide, fun q hq => ?_⟩
  have nq := w2.newp hq
  have npq : p ≠ q := ne_of_none k2 hq
  have g := w2.gr
  refine z (.cel 0 cs) q [q, p] F2 _ (hz _ ⟨hcs.1, by omega, Int.le_refl 0, hcs.2.2⟩) ⟨g.ff, g.fh.trans (same_upd hq), fun a o e m => same_upd hq _ _ (g.kp a o e m), fun a e => ?_, g.fr⟩ ⟨p, rfl, npq.symm, upd_same, ?_⟩ fun a ha => ?_
  · by_cases ha : a = q
    · rw [ha, upd_same]; intro z; cases z
    · rw [upd_ne ha]; exact g.al a e
  · rw [upd_ne npq, k2, kr.ints_inv]
  · have e : a = q ∨ a = p := by simpa using ha
    rcases e with e | e
    · rw [e]; exact ⟨nq.1, nq.2.1⟩
    · rw [e]; exact ⟨(w2.fz 1 p (by rw [ka]; simp)).1, k0⟩
theorem run_take {K : PySem.W.Frag} {vs : List V} {H : Hp} {Q : VK} {E : XK} (h : spS R_take vs H Q E) : T_take K { nx := fun _ H' => Q .non H', rt := Q } (L2.start ["state", "most", "cells", "at", "cell", "mixed"] vs) H := by
  obtain ⟨F, s, as, S, us, ds, Z, rfl, fh, sa, fn, r, ⟨m, rfl, hm1, hm2, ok, hz⟩, z⟩ := h
  obtain ⟨v, rfl, rv⟩ := r.one
  have ev := rv.int_inv
  subst ev
  cases S with
  | two a b => exact ok.elim
  | dct kvs => exact ok.elim
  | cel a cs =>
    obtain ⟨c, rfl, ne, hs, hc⟩ := sa
    obtain ⟨hl, hl2, ha, hcs⟩ := ok
    have hlen : (cs.map V.int).length = cs.length := List.length_map _
    have hi0 : 0 ≤ a % (cs.length : Int) := Int.emod_nonneg _ (by omega)
    have hi1 : a % (cs.length : Int) < (cs.length : Int) := Int.emod_lt_of_pos _ (by omega)
    obtain ⟨i, ei⟩ : ∃ i : Nat, a % (cs.length : Int) = (i : Int) := ⟨(a % (cs.length : Int)).toNat, by omega⟩
    have hi : i < cs.length := by omega
    -- cells = state[1]; at = state[0] % len(cells); cell = cells[at]
    refine ⟨_, rfl, .inl ⟨s, _, 1, .ref c, rfl, rfl, .inl (.inl hs), rfl, ?_⟩⟩
    refine ⟨_, rfl, .inl ⟨s, _, 0, .int a, rfl, rfl, .inl (.inl hs), rfl, ?_⟩⟩
    refine ⟨_, rfl, _, cs.length, rfl, .inl ⟨_, .inl (.inl hc), hlen.symm⟩, a, (cs.length : Int), rfl, rfl, by omega, ?_⟩
    refine ⟨_, rfl, _, rfl, .inl ⟨c, _, (i : Int), .int cs[i], rfl, congrArg V.int ei, .inl (.inl hc), atI_nat (by rw [List.getElem?_map, List.getElem?_eq_getElem hi]; rfl), ?_⟩⟩
    refine ⟨_, rfl, _, _, rfl, rfl, _, rfl, ?_⟩
    have gr : ∀ H', (∀ b o, H b = some o → b ≠ s → b ≠ c → H' b = some o) → (∃ o, H' s = some o) → (∃ o, H' c = some o) → Gr (· ∈ [s, c]) F H F H' := fun H' k1 k2 k3 => by
      have fs := fn s (by simp)
      have fc := fn c (by simp)
      refine ⟨Same.refl F, fun b o e => k1 b o (fh b o e) (fun q => by rw [q, fs] at e; cases e) (fun q => by rw [q, fc] at e; cases e), fun b o e m => k1 b o e (fun q => m (by simp [q])) (fun q => m (by simp [q])), fun b e => ?_, fun _ _ z => z⟩
      by_cases h1 : b = s
      · obtain ⟨o, k⟩ := k2
        rw [h1, k]; intro z; cases z
      · by_cases h2 : b = c
        · obtain ⟨o, k⟩ := k3
          rw [h2, k]; intro z; cases z
        · cases q : H b with
          | none => exact absurd q e
          | some o => rw [k1 b o q h1 h2]; intro z; cases z
    refine ite2 (fun hbig => ?_) (fun hsmall => ?_)
    · -- cells[at] = cell // most; return cell % most
      refine ⟨_, rfl, _, rfl, cs[i], m, rfl, rfl, ⟨by omega, by omega⟩, ?_⟩
      refine ⟨_, rfl, _, rfl, c, _, (i : Int), i, rfl, congrArg V.int ei, hc, ?_, ?_⟩
      · unfold ixN
        rw [hlen, if_pos (by omega), if_pos (by omega)]
        simp
      refine ⟨_, rfl, _, rfl, cs[i], m, rfl, rfl, by omega, ?_⟩
      have hd : 0 ≤ cs[i] := hcs _ (List.getElem_mem hi)
      refine z (.int (cs[i] % m)) (.cel a (cs.set i (cs[i] / m))) _ F _ (hz _ _ (Int.emod_nonneg _ (by omega)) (Int.emod_lt_of_pos _ (by omega)) ⟨by rw [List.length_set]; exact hl, by rw [List.length_set]; exact hl2, ha, fun x hx => ?_⟩) (gr _ (fun b o e h1 h2 => by rw [upd_ne h2]; exact e) ⟨_, by rw [upd_ne ne]; exact hs⟩ ⟨_, upd_same⟩) ⟨c, rfl, ne, by rw [upd_ne ne]; exact hs, by rw [upd_same, List.map_set]⟩ fn (.int _)
      rcases List.mem_or_eq_of_mem_set hx with h | h
      · exact hcs x h
      · rw [h]; exact Int.ediv_nonneg hd (by omega)
    · -- state[0] = state[0] + 1
      refine ⟨_, rfl, .inl ⟨s, _, 0, .int a, rfl, rfl, .inl (.inl hs), rfl, ?_⟩⟩
      refine .inl (.inl ⟨a, 1, rfl, rfl, ?_⟩)
      refine ⟨_, rfl, s, _, 0, 0, rfl, rfl, hs, rfl, ?_⟩
      have hs' : upd H s (.lst ([.int a, .ref c].set 0 (.int (a + 1)))) s = some (.lst [.int (a + 1), .ref c]) := upd_same
      -- mixed
      refine ⟨_, rfl, _, _, rfl, rfl, .inr ⟨by decide, by decide⟩, ?_⟩
      refine ⟨_, rfl, .inl ⟨s, _, 0, .int (a + 1), rfl, rfl, .inl (.inl hs'), rfl, ?_⟩⟩
      refine ⟨_, _, rfl, rfl, .inr ⟨by decide, by decide⟩, ?_⟩
      refine .inl (.inl ⟨_, _, rfl, rfl, ?_⟩)
      refine .inl ⟨_, rfl, ?_⟩
      refine ⟨_, _, rfl, rfl, (by decide : (0 : Int) < 2147483647), ?_⟩
      refine ⟨_, rfl, _, _, rfl, rfl, .inr ⟨by decide, by decide⟩, ?_⟩
      refine ⟨_, rfl, .inl ⟨s, _, 0, .int (a + 1), rfl, rfl, .inl (.inl hs'), rfl, ?_⟩⟩
      refine ⟨_, _, rfl, rfl, .inr ⟨by decide, by decide⟩, ?_⟩
      refine .inl (.inl ⟨_, _, rfl, rfl, ?_⟩)
      refine .inl ⟨_, rfl, ?_⟩
      refine ⟨_, _, rfl, rfl, (by decide : (0 : Int) < 1000000007), ?_⟩
      refine ⟨_, rfl, _, _, rfl, rfl, ⟨by decide, by decide⟩, ?_⟩
      refine ⟨_, rfl, _, _, rfl, rfl, by omega, ?_⟩
      exact z _ (.cel (a + 1) cs) _ F _ (hz _ _ (Int.emod_nonneg _ (by omega)) (Int.emod_lt_of_pos _ (by omega)) ⟨hl, hl2, by omega, hcs⟩) (gr _ (fun b o e h1 h2 => by rw [upd_ne h1]; exact e) ⟨_, upd_same⟩ ⟨_, by rw [upd_ne ne.symm]; exact hc⟩) ⟨c, rfl, ne, hs', by rw [upd_ne ne.symm]; exact hc⟩ fn (.int _)

section
variable {P : Program} {w : World} {K : PySem.W.Frag} {mg : Str → Option Value} {base : Heap} {f : Addr} {fd : FuncData} {k : Nat} {x qual : Str} {st : Stmt}
theorem fn_newstate (F : Fun K x qual st f fd) (S : FnScope ["script", "cells", "cell"] ["script"] (defScope st))
    (body : ∀ (cdv : Value) (A : Around) (outer : List PySem.Env) (s : Shared) (H : Hp) (E : XK), Room k (A.deeper (PyProof.Rows.envOfC qual (defScope st) s.heap.objs.size f cdv)) →
      PSs (cxOf CX0 P w K mg base ["script", "cells", "cell"] qual (defScope st) f cdv A outer s H E).nox (defBody st) (T_state K)) : FnOk P w K mg base CX0 (k + 1) f fd ["script"] (spN R_state) :=
  F.ok S (fun vs H Q E h => by
    obtain ⟨F, ds, Z, _, r, ⟨ns, rfl, _⟩, _⟩ := h
    rw [r.len]; rfl) fun cdv A outer s H vs Q E hr h => ⟨_, body cdv A outer s H E hr, run_state h⟩
theorem fn_take (F : Fun K x qual st f fd) (S : FnScope ["state", "most", "cells", "at", "cell", "mixed"] ["state", "most"] (defScope st))
    (body : ∀ (cdv : Value) (A : Around) (outer : List PySem.Env) (s : Shared) (H : Hp) (E : XK), Room k (A.deeper (PyProof.Rows.envOfC qual (defScope st) s.heap.objs.size f cdv)) →
      PSs (cxOf CX0 P w K mg base ["state", "most", "cells", "at", "cell", "mixed"] qual (defScope st) f cdv A outer s H E).nox (defBody st) (T_take K)) : FnOk P w K mg base CX0 (k + 1) f fd ["state", "most"] (spS R_take) :=
  F.ok S (fun vs H Q E h => by
    obtain ⟨F, s, as, S, us, ds, Z, rfl, _, _, _, r, ⟨m, rfl, _⟩, _⟩ := h
    rw [List.length_cons, r.len]; rfl) fun cdv A outer s H vs Q E hr h => ⟨_, body cdv A outer s H E hr, run_take h⟩
end
end Pu
/-! PuC: xs[::-1], xs.index(n), sorted rows -/
namespace Pu
open PySem L2
section
variable {ρ : Pu.Env} {te to : TE} {t : TA} {K : PySem.W.Frag} {Q : D → Pu.Env → Prop}
theorem ex_revL (h : EX te ρ fun d ρ1 => ∃ ds, d = .list ds ∧ Q (.list ds.reverse) ρ1) : EX (tRevL K te) ρ Q := fun B ad σ F H w Z z =>
  h B ad σ F H w _ fun d1 ρ1 x F1 H1 q1 p1 r1 => by
    obtain ⟨ds, rfl, q⟩ := q1
    obtain ⟨a, xs, rfl, h1, h2⟩ := r1.lst_inv
    refine ⟨a, xs, rfl, sqL_rd h1 p1.wa.gr.fh, fun p hp => ?_⟩
    have g := Gr.frz (F := F1) (H := H1) (H' := upd H1 p (.lst xs.reverse)) (p := p) (vs := xs.reverse) p1.wa.gr.fh (same_upd hp) hp upd_same
    exact z _ ρ1 _ _ _ q (p1.trans (Post.of p1.wa g)) (.lst (.inl upd_same) (h2.rev.up g.ff))
/-- a method that changes nothing -/
def MtD (r : V → List V → Hp → VK → Prop) (d : D) (es : List D) (Q : D → Prop) : Prop := ∀ (F H : Hp) (x : V) (vs : List V), Same F H → Rp F x d → RpA F vs es → ∀ Z : VK, (∀ e v F' H', Q e → Gr Non F H F' H' → Rp F' v e → Z v H') → r x vs H Z
theorem ex_bmL {r : V → List V → Hp → VK → Prop} (h : EX to ρ fun d ρ1 => ∃ ds, d = .list ds ∧ EA t ρ1 fun es ρ2 => MtD r (.list ds) es fun e => Q e ρ2) : EX (tBM K "list" r to t) ρ Q := fun B ad σ F H w Z z =>
  h B ad σ F H w _ fun d1 ρ1 x F1 H1 q1 p1 r1 => by
    obtain ⟨ds, rfl, q⟩ := q1
    obtain ⟨a, xs, rfl, h1, h2⟩ := r1.lst_inv
    refine ⟨?_, q B ad σ F1 H1 p1.wa _ fun es ρ2 vs F2 H2 q2 p2 r2 => ?_⟩
    · exact .inl ⟨rfl, xs, sqL_rd h1 p1.wa.gr.fh⟩
    · exact q2 F2 H2 (.ref a) vs p2.wa.gr.fh (r1.up p2.gr.ff) r2 Z fun e v F' H' k g rv => z e ρ2 v F' H' k ((p1.trans p2).trans (Post.of p2.wa g)) rv
theorem rpa_intsI {F : Hp} : ∀ {ns : List Int} {vs : List V}, RpA F vs (ns.map .int) → vs = ns.map V.int
  | [], _, h => by cases h; rfl
  | n :: ns, _, h => by
    cases h with
    | cons h1 h2 => rw [h1.int_inv, rpa_intsI h2]; rfl
theorem mtd_indexI {ns : List Int} {n : Int} {Q : D → Prop} (hn : n ∈ ns) (k : Q (.int (ns.idxOf n : Nat))) : MtD (rIndex K) (.list (ns.map .int)) [.int n] Q := fun F H x vs e r rv Z z => by
  obtain ⟨a, xs, rfl, h1, h2⟩ := r.lst_inv
  obtain ⟨v, rfl, rv1⟩ := rv.one
  have e1 := rv1.int_inv
  have e2 := rpa_intsI h2
  subst e1 e2
  have hl : ns.idxOf n < ns.length := List.idxOf_lt_length_iff.mpr hn
  refine ⟨a, ns.map V.int, .int n, ns.idxOf n, .int n, rfl, rfl, sqL_rd h1 e, rfl, ?_, ?_, ?_, fun m z' hm hz => ?_, z _ _ F H k (Gr.refl e) (.int _)⟩
  · rw [List.all_eq_true]
    intro x hx
    obtain ⟨i, _, rfl⟩ := List.mem_map.mp hx
    rfl
  · rw [List.getElem?_map, List.getElem?_eq_getElem hl, List.getElem_idxOf hl]; rfl
  · show (n == n) = true
    simp
  · rw [List.getElem?_map] at hz
    have hml : m < ns.length := by omega
    rw [List.getElem?_eq_getElem hml] at hz
    cases hz
    show (ns[m] == n) = false
    exact List.not_of_lt_findIdx (p := fun x => x == n) hm
end
/-! sorted -/
theorem uniq_of {α : Type} {le : α → α → Bool} (anti : ∀ a b, le a b = true → le b a = true → a = b) : ∀ {xs ys : List α}, xs.Perm ys → xs.Pairwise (fun a b => le a b = true) → ys.Pairwise (fun a b => le a b = true) → xs = ys
  | [], ys, p, _, _ => (List.nil_perm.mp p).symm
  | a :: xs, [], p, _, _ => absurd p.length_eq (by simp)
  | a :: xs, b :: ys, p, h1, h2 => by
    have e : a = b := by
      by_cases e : a = b
      · exact e
      · have ha : a ∈ ys := (List.mem_cons.mp (p.mem_iff.mp (by simp : a ∈ a :: xs))).resolve_left e
        have hb : b ∈ xs := (List.mem_cons.mp (p.mem_iff.mpr (by simp : b ∈ b :: ys))).resolve_left (fun q => e q.symm)
        exact anti a b ((List.pairwise_cons.mp h1).1 b hb) ((List.pairwise_cons.mp h2).1 a ha)
    subst e
    rw [uniq_of anti (p.cons_inv) (List.pairwise_cons.mp h1).2 (List.pairwise_cons.mp h2).2]
theorem sortD_of {α : Type} {enc : α → D} {xs ys : List α} {lt : α → α → Bool} (hlt : ∀ a b, PySem.W.dataLt (enc a) (enc b) = lt a b) (ntr : ∀ a b c, lt b a = false → lt c b = false → lt c a = false) (as : ∀ a b, lt a b = true → lt b a = false) (tot : ∀ a b, lt a b = false → lt b a = false → a = b)
    (hp : xs.Perm ys) (hs : ys.Pairwise fun a b => lt a b = true) : sortD (xs.map enc) = ys.map enc := by
  have e := PySem.W.sort_maps (r := fun a b => !lt b a) (s := PySem.W.dataLe false id) enc (l := xs) (fun a _ b _ => by
    show (!lt b a) = (!PySem.W.dataLt (enc b) (enc a))
    rw [hlt])
  show (xs.map enc).mergeSort (PySem.W.dataLe false id) = ys.map enc
  rw [← e]
  have u : xs.mergeSort (fun a b => !lt b a) = ys := uniq_of (le := fun a b => !lt b a) (fun a b h1 h2 => by
      simp only [Bool.not_eq_true'] at h1 h2
      exact tot a b h2 h1) ((List.mergeSort_perm _ _).trans hp) (List.pairwise_mergeSort (fun a b c h1 h2 => by
        simp only [Bool.not_eq_true'] at h1 h2 ⊢
        exact ntr a b c h1 h2) (fun a b => by
        cases h : lt b a with
        | false => rfl
        | true => simp [as _ _ h]) xs) (hs.imp fun {a b} h => by simp [as _ _ h])
  rw [u]
/-! ### dict(pairs of ints), d[k] -/
section
variable {ρ : Pu.Env} {ty : TE} {K : PySem.W.Frag} {Q : D → Pu.Env → Prop}
def kvOf (p : Int × Int) : Key × V := ((.inl p.1 : Key), V.int p.2)
/-- pairs with different keys -/
def R_dict : List D → (Stt → Prop) → Prop := fun ds Z => ∃ kvs : List (Int × Int), ds = [.list (kvs.map encP)] ∧ (kvs.map Prod.fst).Nodup ∧ Z (.dct kvs)
theorem merge_new : ∀ (more acc : List (Int × Int)), ((acc ++ more).map Prod.fst).Nodup → mergeK (acc.map kvOf) (more.map kvOf) = (acc ++ more).map kvOf
  | [], acc, _ => by simp [mergeK]
  | p :: more, acc, h => by
    have h2 : ((acc ++ [p] ++ more).map Prod.fst).Nodup := by simpa using h
    have ih := merge_new more (acc ++ [p]) h2
    have np : ∀ q ∈ acc, q.1 ≠ p.1 := fun q hq e => by
      have h3 : ((acc.map Prod.fst) ++ (p.1 :: more.map Prod.fst)).Nodup := by simpa using h
      exact (List.nodup_append.mp h3).2.2 q.1 (List.mem_map_of_mem hq) p.1 (by simp) e
    have e1 : ((acc.map kvOf).any fun kv => decide (kv.1 = (kvOf p).1)) = false := by
      rw [List.any_eq_false]
      intro x hx
      obtain ⟨q, hq, rfl⟩ := List.mem_map.mp hx
      simp only [decide_eq_true_eq, kvOf, Sum.inl.injEq]
      exact np q hq
    show mergeK (putK (acc.map kvOf) (kvOf p).1 (kvOf p).2) (more.map kvOf) = _
    unfold putK
    rw [e1, if_neg Bool.false_ne_true]
    have e2 : acc.map kvOf ++ [((kvOf p).1, (kvOf p).2)] = (acc ++ [p]).map kvOf := by simp
    rw [e2, ih]
    simp
theorem paired_of {H F : Hp} (e : Same F H) : ∀ {kvs : List (Int × Int)} {xs : List V}, RpA F xs (kvs.map encP) → ∃ ps : List Addr, xs = ps.map V.ref ∧ Paired (fun p kv => SqT K H p [kV kv.1, kv.2]) ps (kvs.map kvOf)
  | [], _, h => by cases h; exact ⟨[], rfl, .nil⟩
  | p :: kvs, _, h => by
    cases h with
    | cons h1 h2 =>
      obtain ⟨ps, rfl, hp⟩ := paired_of e h2
      obtain ⟨a, ys, rfl, g1, g2⟩ := h1.tup_inv
      obtain ⟨u, v, rfl, r1, r2⟩ := g2.two
      have e1 := r1.int_inv
      have e2 := r2.int_inv
      subst e1 e2
      exact ⟨a :: ps, rfl, .cons (sqT_rd g1 e) hp⟩
theorem dict_fits {H : Hp} {vs : List V} {Q : VK} {E : XK} (h : spN R_dict vs H Q E) : ∃ (a : Addr) (ps : List Addr) (kvs : List (Key × V)), vs = [.ref a] ∧ SqL K H a (ps.map V.ref) ∧ Paired (fun p kv => SqT K H p [kV kv.1, kv.2]) ps kvs ∧
    ∀ p, H p = none → Q (.ref p) (upd H p (.dK (mergeK [] kvs))) := by
  obtain ⟨F, ds, Z, e, r, ⟨kvs, rfl, nd, hz⟩, z⟩ := h
  obtain ⟨v, rfl, rv⟩ := r.one
  obtain ⟨a, xs, rfl, h1, h2⟩ := rv.lst_inv
  obtain ⟨ps, rfl, hp⟩ := paired_of (K := K) e h2
  refine ⟨a, ps, kvs.map kvOf, rfl, sqL_rd h1 e, hp, fun p hn => ?_⟩
  have em : mergeK [] (kvs.map kvOf) = kvs.map kvOf := merge_new kvs [] nd
  rw [em]
  exact z (.dct kvs) p [p] F _ hz (Gr.heap e (same_upd hn)) ⟨rfl, upd_same⟩ fun b hb => by
    rw [List.mem_singleton.mp hb]
    refine ⟨?_, hn⟩
    cases q : F p with
    | none => rfl
    | some o => rw [e p o q] at hn; cases hn
theorem cb_dictN {X : Cx} (hcalm : X.calm = true) : CallR X (.type "dict") fun vs H Q => spN R_dict (vs ++ []) H Q E0 := fun pins s σ H vs us Q I r h => call_dictP hcalm pins s σ H vs us Q I r (dict_fits (E := E0) (by have h : spN R_dict (vs ++ []) H Q E0 := h; rw [List.append_nil] at h; exact h))
theorem valV_int : ∀ {kvs : List (Int × Int)} {k v : Int}, kvs.lookup k = some v → valV (kvs.map kvOf) (.inl k : Key) = some (V.int v)
  | [], _, _, h => by cases h
  | p :: kvs, k, v, h => by
    obtain ⟨a, b⟩ := p
    by_cases c : a = k
    · subst c
      simp only [List.lookup, beq_self_eq_true] at h
      cases h
      exact valV_pos rfl
    · have c2 : (k == a) = false := beq_eq_false_iff_ne.mpr (fun q => c q.symm)
      simp only [List.lookup, c2] at h
      rw [List.map_cons, valV_neg (by simp [kvOf, c])]
      exact valV_int h
theorem ex_dget {i : Nat} {S0 : Stt} (h0 : ρ[i]? = some (.st S0)) (h : EX ty ρ fun d ρ1 => ∃ k v kvs, d = .int k ∧ ρ1[i]? = some (.st (.dct kvs)) ∧ kvs.lookup k = some v ∧ Q (.int v) ρ1) : EX (tDGet (tVar i) ty) ρ Q := fun B ad σ F H w Z z => by
  obtain ⟨s0, k0, _⟩ := w.sl i _ h0
  refine ⟨_, k0, h B ad σ F H w _ fun d ρ1 y F1 H1 q1 p1 r1 => ?_⟩
  obtain ⟨k, v, kvs, rfl, h1, hl, q⟩ := q1
  obtain ⟨s1, k1, st1⟩ := p1.wa.sl i _ h1
  have e := k0.symm.trans k1
  cases e
  have ey := r1.int_inv
  subst ey
  have g := DGet.k (k := (.inl k : Key)) st1.2
  have ev := valV_int hl
  have g' : DGet H1 s0 (.int k) (some (.int v)) := by
    have e2 : (kvs.map fun p => ((.inl p.1 : Key), V.int p.2)) = kvs.map kvOf := rfl
    rw [e2, ev] at g
    exact g
  exact ⟨s0, .int v, rfl, g', z (.int v) ρ1 (.int v) F1 H1 q p1 (.int v)⟩
end
/-! ### a op b op c op d, as a test -/
section
open PyProof.Rows
def tCh3 (r r' r'' : R2) (ta tb tc td : TE) : TT := fun σ H Q => ta σ H fun x H1 => tb σ H1 fun y H2 => r x y H2 fun z H3 => ∃ k, z = .bl k ∧
  (if k = true then tc σ H3 fun x3 H4 => r' y x3 H4 fun z2 H5 => ∃ k2, z2 = .bl k2 ∧ (if k2 = true then td σ H5 fun x4 H6 => r'' x3 x4 H6 fun z3 H7 => ∃ k3, z3 = .bl k3 ∧ Q k3 H7 else Q false H5) else Q false H3)
theorem pt_chain3 {X : Cx} {a b c d : Expr} {ta tb tc td : TE} {pos : Pos} {op op' op'' : CmpOp} {r r' r'' : R2} (ho : OpR X (compareOp op) r) (ho' : OpR X (compareOp op') r') (ho'' : OpR X (compareOp op'') r'') (ha : PE X a ta) (hb : PE X b tb) (hc : PE X c tc) (hd : PE X d td)
    (hm : lastMarks [op, op', op''] [b, c, d] = false := by with_unfolding_all rfl) : PT X (.Compare a [op, op', op''] [b, c, d] pos) (tCh3 r r' r'' ta tb tc td) := by
  refine ⟨fun pins s σ H Q I h => ?_⟩
  refine isTrue_chain (thn (ha.run pins s σ H _ I h) fun v s1 ⟨x, H1, I1, r1, q1⟩ => test_link (thn (hb.run pins s1 σ H1 _ I1 q1) fun u s2 ⟨y, H2, I2, r2, q2⟩ => thn (ho pins s2 σ H2 x y v u _ I2 r1 r2 q2) fun _ s3 ⟨z, H3, I3, r3, k, e, q3⟩ => ?_)) hm
  subst e
  cases r3
  refine wpAny_truthy_bool ?_
  cases k with
  | false => exact ite_ff ⟨H3, I3, q3⟩
  | true =>
    refine ite_tt (test_link (thn (hc.run pins s3 σ H3 _ I3 q3) fun u3 s4 ⟨x3, H4, I4, r4, q4⟩ => thn (ho' pins s4 σ H4 y x3 u u3 _ I4 r2 r4 q4) fun _ s5 ⟨z2, H5, I5, r5, k2, e2, q5⟩ => ?_))
    subst e2
    cases r5
    refine wpAny_truthy_bool ?_
    cases k2 with
    | false => exact ite_ff ⟨H5, I5, q5⟩
    | true =>
      refine ite_tt (test_last (thn (hd.run pins s5 σ H5 _ I5 q5) fun u4 s6 ⟨x4, H6, I6, r6, q6⟩ => thn (ho'' pins s6 σ H6 x3 x4 u3 u4 _ I6 r4 r6 q6) fun _ s7 ⟨z3, H7, I7, r7, k3, e3, q7⟩ => ?_))
      subst e3
      cases r7
      exact wpAny_truthy_bool ⟨H7, I7, q7⟩
theorem et_ch3 {ρ : Pu.Env} {r r' r'' : R2} {ta tb tc td : TE} {Q : Bool → Pu.Env → Prop} (h : EX ta ρ fun d1 ρ1 => EX tb ρ1 fun d2 ρ2 => OpD r d1 d2 fun d => ∃ b, d = .bool b ∧ (b = true → EX tc ρ2 fun d3 ρ3 => OpD r' d2 d3 fun d => ∃ b2, d = .bool b2 ∧
    (b2 = true → EX td ρ3 fun d4 ρ4 => OpD r'' d3 d4 fun d => ∃ b3, d = .bool b3 ∧ Q b3 ρ4) ∧ (b2 = false → Q false ρ3)) ∧ (b = false → Q false ρ2)) : ET (tCh3 r r' r'' ta tb tc td) ρ Q := fun B ad σ F H w Z z =>
  h B ad σ F H w _ fun d1 ρ1 x F1 H1 q1 p1 r1 => q1 B ad σ F1 H1 p1.wa _ fun d2 ρ2 y F2 H2 q2 p2 r2 => q2 F2 H2 x y p2.wa.gr.fh (r1.up p2.gr.ff) r2 _ fun d v F3 H3 kd g rv => by
    obtain ⟨b, rfl, k1, k2⟩ := kd
    refine ⟨b, rv.bl_inv, ?_⟩
    have p3 := (p1.trans p2).trans (Post.of p2.wa g)
    cases b with
    | false => exact z false ρ2 F3 H3 (k2 rfl) p3
    | true =>
      show tc σ H3 _
      refine k1 rfl B ad σ F3 H3 p3.wa _ fun d3 ρ3 u F4 H4 q4 p4 r4 => q4 F4 H4 y u p4.wa.gr.fh ((r2.up g.ff).up p4.gr.ff) r4 _ fun d v F5 H5 kd2 g2 rv2 => ?_
      obtain ⟨b2, rfl, m1, m2⟩ := kd2
      refine ⟨b2, rv2.bl_inv, ?_⟩
      have p5 := (p3.trans p4).trans (Post.of p4.wa g2)
      cases b2 with
      | false => exact z false ρ3 F5 H5 (m2 rfl) p5
      | true =>
        show td σ H5 _
        refine m1 rfl B ad σ F5 H5 p5.wa _ fun d4 ρ4 u4 F6 H6 q6 p6 r6 => q6 F6 H6 u u4 p6.wa.gr.fh ((r4.up g2.ff).up p6.gr.ff) r6 _ fun d v F7 H7 kd3 g3 rv3 => ?_
        obtain ⟨b3, rfl, q⟩ := kd3
        exact ⟨b3, rv3.bl_inv, z b3 ρ4 F7 H7 q ((p5.trans p6).trans (Post.of p6.wa g3))⟩
end
/-! ### a list times an int -/
section
open PyProof.Rows
def rRepR : R2 := fun x y H Q => ∃ l k xs, x = .ref l ∧ y = .int k ∧ Rd H l (.lst xs) ∧ (-1000000 ≤ k ∧ k ≤ 1000000) ∧ xs.length * k.toNat ≤ sizeLine ∧ ∀ p, H p = none → Q (.ref p) (upd H p (.lst (List.replicate k.toNat xs).flatten))
theorem op_repR {X : Cx} : OpR X (binaryOp .Mult) rRepR := by
  rintro pins sh σ H x y v u Q I rx ry ⟨l, k, xs, rfl, rfl, hd, ⟨k1, k2⟩, room, q⟩
  cases rx
  obtain ⟨t, rfl⟩ := ry
  obtain ⟨z, its, n, rv, ob⟩ := hd.ok I.hok
  have ln := rv.length
  have sz : its.toArray.size * k.toNat ≤ sizeLine := by rw [List.size_toArray, ← ln]; exact room
  have fits : ¬ (!Builtin.List.listFitsIndex k) = true := by
    rw [fitsIndex_both (by omega) (by omega)]
    decide
  have cap : ¬ its.toArray.size * k.toNat > (2 ^ 63 - 1) / 8 := Nat.not_lt.mpr (Nat.le_trans sz (by decide))
  have long : ¬ Builtin.List.listTooLong (its.toArray.size * k.toNat) = true := by
    rw [notLongL sz]
    decide
  have flat : ∀ m : Nat, List.foldl (fun a b => a ++ b) #[] (List.replicate m its.toArray) = (List.replicate m its).flatten.toArray := fun m => by
    have f := foldl_rep its m []
    rwa [List.nil_append] at f
  have made : List.foldl (fun a b => a ++ b) #[] (List.replicate (if its.toArray.isEmpty = true then 0 else k.toNat) its.toArray) = (List.replicate k.toNat its).flatten.toArray := by
    rw [flat]
    cases its with
    | nil => simp
    | cons a r => rw [if_neg (by simp)]
  refine wpAny_binaryOp_repeat_ref (U := "int") (T := "list") (by decide) ⟨_, ob, rfl⟩ (fun g => typeIs_int g k t) noFill_list_mul F.fills_int_mul F.slot_int_rmul repeat_list F.slot_int_index.lookup (call_meets F.slot_int_rmul (typeIs_int sh k t) F.entry_int_rmul (F.args_int_rmul_2 _ _) (int___rmul___int_list k t l its.toArray n) ⟨ob, rfl, ⟨_, ob, rfl⟩, call_meets F.slot_list_mul ⟨_, ob, rfl⟩ F.entry_list_mul (F.args_list_mul_2 _ _) (AutoListH.list___mul___list_int_3 l its.toArray n k t fits cap long) ⟨ob, ?_⟩⟩)
  rw [made]
  exact ⟨.ref _, _, I.lnew (t' := sh.toks) (rv.rep k.toNat) (by rw [PyProof.Rows.lm_len_rep_flat, Nat.mul_comm]; exact room), rfl, q _ I.fresh⟩
theorem RpA.rep {F : Hp} {vs : List V} {ds : List D} (h : RpA F vs ds) : ∀ k : Nat, RpA F (List.replicate k vs).flatten (List.replicate k ds).flatten
  | 0 => .nil
  | k + 1 => by
    rw [List.replicate_succ, List.replicate_succ, List.flatten_cons, List.flatten_cons]
    exact h.app (RpA.rep h k)
theorem opo_rep {ds : List D} {k : Int} {Q : List D → Prop} (hk : -1000000 ≤ k ∧ k ≤ 1000000) (hz : ds.length * k.toNat ≤ 1000000) (q : Q (List.replicate k.toNat ds).flatten) : OpO rRepR (.list ds) (.int k) Q := fun F H x y e rx ry Z z => by
  obtain ⟨a, xs, rfl, h1, h2⟩ := rx.lst_inv
  exact ⟨a, k, xs, rfl, ry.int_inv, rd_mono e h1, hk, Nat.le_trans (by rw [h2.len]; exact hz) (by decide), fun p hp => z _ p _ _ q (same_upd hp) hp upd_same (h2.rep _)⟩
theorem opd_rep {ds : List D} {k : Int} {Q : D → Prop} (hk : -1000000 ≤ k ∧ k ≤ 1000000) (hz : ds.length * k.toNat ≤ 1000000) (q : Q (.list (List.replicate k.toNat ds).flatten)) : OpD rRepR (.list ds) (.int k) Q := opd_ofO (opo_rep hk hz q)
end
end Pu
/-! Comprehensions of two clauses over data. -/
namespace Pu
open PySem L2
section
variable {B : Base} {ad : Nat → List Addr} {ρ ρ' : Pu.Env} {σ : St} {F H F' H' F1 H1 : Hp}
theorem WA.updD (w : WA B ad ρ σ F H) {p : Addr} {o : HO} (nb : B.H0 p = none) (nad : ∀ i, p ∉ ad i) (hF : F p = none) : WA B ad ρ σ F (upd H p o) := by
  have neF : ∀ a o, F a = some o → a ≠ p := fun a o q z => by rw [z, hF] at q; cases q
  refine ⟨⟨w.gr.ff, fun a o q => by rw [upd_ne (neF a o q)]; exact w.gr.fh a o q, fun a o q m => ?_, fun a q => ?_, w.gr.fr⟩, w.len, fun j s q => ?_, w.fz, w.dj, w.out, w.pin⟩
  · rw [upd_ne (fun z => by rw [z, nb] at q; cases q)]
    exact w.gr.kp a o q m
  · by_cases ha : a = p
    · rw [ha, upd_same]; intro z; cases z
    · rw [upd_ne ha]; exact w.gr.al a q
  · have k := w.sl j s q
    cases s with
    | emp => exact k
    | val d => exact k
    | own es =>
      obtain ⟨p', ws, a1, a2, a3, a4, a5⟩ := k
      refine ⟨p', ws, a1, a2, a3, ?_, a5⟩
      rw [upd_ne (fun z => nad j (by rw [a1, z]; simp))]
      exact a4
    | st S =>
      obtain ⟨s, a1, a2⟩ := k
      refine ⟨s, a1, ?_⟩
      cases S with
      | two x y =>
        refine ⟨a2.1, ?_⟩
        rw [upd_ne (fun z => nad j (by rw [a2.1, z]; simp))]
        exact a2.2
      | dct kvs =>
        refine ⟨a2.1, ?_⟩
        rw [upd_ne (fun z => nad j (by rw [a2.1, z]; simp))]
        exact a2.2
      | cel x cs =>
        obtain ⟨c, b1, b2, b3, b4⟩ := a2
        refine ⟨c, b1, b2, ?_, ?_⟩
        · rw [upd_ne (fun z => nad j (by rw [b1, z]; simp))]
          exact b3
        · rw [upd_ne (fun z => nad j (by rw [b1, z]; simp))]
          exact b4
theorem Post.updD (pt : Post B ad σ ρ F1 H1 ρ' F H) {p : Addr} {o : HO} (hD : H1 p = none) (nb : B.H0 p = none) (nad : ∀ i, p ∉ ad i) (hF : F p = none) : Post B ad σ ρ F1 H1 ρ' F (upd H p o) := by
  have ne1 : ∀ a o, H1 a = some o → a ≠ p := fun a o q z => by rw [z, hD] at q; cases q
  have neF : ∀ a o, F a = some o → a ≠ p := fun a o q z => by rw [z, hF] at q; cases q
  refine ⟨pt.wa.updD nb nad hF, ⟨pt.gr.ff, fun a o q => by rw [upd_ne (neF a o q)]; exact pt.gr.fh a o q, fun a o q m => by rw [upd_ne (ne1 a o q)]; exact pt.gr.kp a o q m, fun a q => ?_, pt.gr.fr⟩, pt.sh⟩
  by_cases ha : a = p
  · rw [ha, upd_same]; intro z; cases z
  · rw [upd_ne ha]; exact pt.gr.al a q
end
/-- a value's truth as a test -/
def tTru (K : PySem.W.Frag) (te : TE) : TT := fun σ H Q => te σ H fun x H' => ∃ k, TruV K x H' k ∧ Q k H'
theorem pt_tru {X : Cx} {a : Expr} {te : TE} (h : PT X a (fun σ H Q => te σ H fun x H' => ∃ k, TruV X.K x H' k ∧ Q k H')) : PT X a (tTru X.K te) := h
theorem et_truL {K : PySem.W.Frag} {ρ : Pu.Env} {te : TE} {Q : Bool → Pu.Env → Prop} (h : EX te ρ fun d ρ1 => ∃ ds, d = .list ds ∧ Q (!ds.isEmpty) ρ1) : ET (tTru K te) ρ Q := fun B ad σ F H w Z z =>
  h B ad σ F H w _ fun d ρ1 v F1 H1 q1 p1 r1 => by
    obtain ⟨ds, rfl, q⟩ := q1
    obtain ⟨a, xs, rfl, h1, h2⟩ := r1.lst_inv
    refine ⟨!ds.isEmpty, .inl ⟨xs, sqL_rd h1 p1.wa.gr.fh, ?_⟩, z _ ρ1 F1 H1 q p1⟩
    have e := h2.len
    cases xs <;> cases ds <;> simp at e <;> rfl
section
variable {ρ : Pu.Env} {wi wi1 : TI} {g g1 : TG} {tt tt1 : TT} {te : TE}
def lc2L {α β : Type} (f : α → Bool) (ys : α → List β) (f1 : α → β → Bool) (gg : α → β → D) (xs : List α) : List D := (xs.filter f).flatMap fun x => ((ys x).filter (f1 x)).map (gg x)
theorem lc2L_snoc {α β : Type} {f : α → Bool} {ys : α → List β} {f1 : α → β → Bool} {gg : α → β → D} {xs : List α} {x : α} : lc2L f ys f1 gg (xs ++ [x]) = lc2L f ys f1 gg xs ++ (if f x = true then ((ys x).filter (f1 x)).map (gg x) else []) := by
  unfold lc2L
  rw [List.filter_append, List.flatMap_append]
  cases h : f x <;> simp [List.filter_cons, h]
theorem lc2L_le {α β : Type} {f : α → Bool} {ys : α → List β} {f1 : α → β → Bool} {gg : α → β → D} {xs : List α} {k : Nat} {x : α} (hx : xs[k]? = some x) (hf : f x = true) (j : Nat) :
    (lc2L f ys f1 gg (xs.take k) ++ (((ys x).take j).filter (f1 x)).map (gg x)).length ≤ (lc2L f ys f1 gg xs).length := by
  have hk : k < xs.length := (List.getElem?_eq_some_iff.mp hx).1
  have e : xs = xs.take k ++ [x] ++ xs.drop (k + 1) := by
    have h1 : xs.take k ++ [x] = xs.take (k + 1) := by rw [List.take_add_one, hx]; rfl
    rw [h1, List.take_append_drop]
  have e2 : lc2L f ys f1 gg xs = lc2L f ys f1 gg (xs.take k) ++ (((ys x).filter (f1 x)).map (gg x) ++ lc2L f ys f1 gg (xs.drop (k + 1))) := by
    conv => lhs; rw [e]
    have : lc2L f ys f1 gg (xs.take k ++ [x] ++ xs.drop (k + 1)) = lc2L f ys f1 gg (xs.take k ++ [x]) ++ lc2L f ys f1 gg (xs.drop (k + 1)) := by
      unfold lc2L; rw [List.filter_append, List.flatMap_append]
    rw [this, lc2L_snoc, if_pos hf, List.append_assoc]
  rw [e2]
  simp only [List.length_append, List.length_map]
  have : (((ys x).take j).filter (f1 x)).length ≤ ((ys x).filter (f1 x)).length := (List.Sublist.filter _ (List.take_sublist _ _)).length_le
  omega
/-- [e for target in .. if .. for target1 in .. if ..], nothing changes -/
theorem eo_lc2P {α β : Type} {vs vs1 : List Nat} {Q : List D → Pu.Env → Prop} (f : α → Bool) (ys : α → List β) (f1 : α → β → Bool) (enc1 : α → β → D) (gg : α → β → D) (h : EI wi ρ fun ds ρ1 => ∃ (xs : List α) (enc : α → D), ds = xs.map enc ∧ (lc2L f ys f1 gg xs).length < 1000000 ∧ Plain ρ1 vs ∧
    (∀ x ∈ xs, SG vs g (enc x) (wipeE ρ1 vs) fun ρ2 => unw vs ρ1 ρ2 = ρ1 ∧ Plain ρ2 vs1 ∧ ET tt ρ2 fun b ρ3 => b = f x ∧ ρ3 = ρ2 ∧ (f x = true → EI wi1 ρ2 fun ds1 ρ4 => ds1 = (ys x).map (enc1 x) ∧ ρ4 = ρ2 ∧
      ∀ y ∈ ys x, SG vs1 g1 (enc1 x y) (wipeE ρ2 vs1) fun ρ5 => unw vs1 ρ2 ρ5 = ρ2 ∧ ET tt1 ρ5 fun b ρ6 => b = f1 x y ∧ ρ6 = ρ5 ∧ (f1 x y = true → EX te ρ5 fun e ρ7 => e = gg x y ∧ ρ7 = ρ5))) ∧ Q (lc2L f ys f1 gg xs) ρ1) : EO (tLc2 wi g tt wi1 g1 tt1 te vs vs1) ρ Q := fun B ad σ F H w Z z => by
  refine h B ad σ F H w _ fun ds ρ1 J F1 H1 q1 p1 it => ?_
  obtain ⟨xs, enc, rfl, hz, pl, turn, done⟩ := q1
  intro Dl hD
  have hDH : H Dl = none := by
    cases q : H Dl with
    | none => rfl
    | some o => exact absurd hD (p1.gr.al Dl (by rw [q]; intro z; cases z))
  have nw := p1.wa.newp hD
  have nms : ∀ (ρ2 : Pu.Env), ¬ MS ad ρ2 Dl := fun ρ2 ⟨j, S, _, m⟩ => nw.2.2 j m
  let Inv := fun (i : Nat) (H' : Hp) => ∃ F' vs', Post B ad σ ρ1 F1 H1 ρ1 F' H' ∧ F' Dl = none ∧ H' Dl = some (.lst vs') ∧ RpA F' vs' (lc2L f ys f1 gg (xs.take i))
  refine ⟨fun i m H' => m = (xs.map enc).length - i ∧ i ≤ (xs.map enc).length ∧ Inv i H', ⟨_, rfl, Nat.zero_le _, F1, [], Post.of p1.wa (Gr.heap p1.wa.gr.fh (same_upd hD)), nw.1, upd_same, .nil⟩, ?_⟩
  rintro i m H' ⟨rfl, hi, F', vs', P, hF, hH, ra⟩
  by_cases hlt : i < (xs.map enc).length
  · refine .inr ⟨it.go i H' (P.gr.ff.trans P.wa.gr.fh) hlt, fun H2 => Inv (i + 1) H2, fun H2 k => ⟨(xs.map enc).length - (i + 1), by omega, rfl, hlt, k⟩, fun x H2 y => ?_⟩
    obtain ⟨d, F2, e, gr, rx⟩ := it.yld i H' x H2 F' P.gr.ff P.wa.gr.fh y hlt
    rw [List.getElem?_map] at e
    obtain ⟨a, ex, rfl⟩ : ∃ a, xs[i]? = some a ∧ enc a = d := by
      cases hx : xs[i]? with
      | none => rw [hx] at e; cases e
      | some a => rw [hx] at e; exact ⟨a, rfl, Option.some.inj e⟩
    have hm : a ∈ xs := List.mem_of_getElem? ex
    have et : xs.take (i + 1) = xs.take i ++ [a] := by rw [List.take_add_one, ex]; rfl
    have P2 := P.trans (Post.of P.wa gr)
    have w2 := P.wa.grow gr
    have hF2 : F2 Dl = none := gr.fr Dl (by rw [hH]; intro z; cases z) hF
    have hH2 : H2 Dl = some (.lst vs') := gr.kp Dl _ hH id
    refine turn a hm B ad (wipe σ vs) F2 H2 x (w2.wiped pl) (pl.ad w2) rx _ fun ρ2 σ2 q wb e2 fr => ?_
    obtain ⟨un2, pl1, q⟩ := q
    have e2' : wipe σ2 vs = wipe σ vs := by
      rw [e2]
      apply List.ext_getElem?
      intro j
      rw [wipe_get, wipe_get, wipe_length]
      split
      · rfl
      · first | rfl | rw [wipe_get, if_neg (by assumption)]
    refine ⟨e2', q B ad σ2 F2 H2 wb _ fun b ρ3 F3 H3 q3 p3 => ?_⟩
    obtain ⟨rfl, rfl, q3⟩ := q3
    cases hb : f a with
    | false =>
      show Inv (i + 1) H3
      have pu := Post.unwiped w2 pl e2' fr wb p3
      rw [un2] at pu
      refine ⟨F3, vs', P2.trans pu, p3.gr.fr Dl (by rw [hH2]; intro z; cases z) hF2, p3.gr.kp Dl _ hH2 (nms _), ?_⟩
      rw [et, lc2L_snoc, if_neg (by rw [hb]; decide), List.append_nil]
      exact ra.up (gr.ff.trans p3.gr.ff)
    | true =>
      show wi1 σ2 H3 _
      refine q3 hb B ad σ2 F3 H3 p3.wa _ fun ds1 ρ4 J1 F4 H4 q4 p4 it1 => ?_
      obtain ⟨rfl, rfl, turn1⟩ := q4
      have p34 := p3.trans p4
      have pu := Post.unwiped w2 pl e2' fr wb p34
      rw [un2] at pu
      let Inv1 := fun (j : Nat) (H' : Hp) => ∃ F' vs', Post B ad σ ρ1 F1 H1 ρ1 F' H' ∧ WA B ad ρ4 σ2 F' H' ∧ Same F4 F' ∧ F' Dl = none ∧ H' Dl = some (.lst vs') ∧ RpA F' vs' (lc2L f ys f1 gg (xs.take i) ++ (((ys a).take j).filter (f1 a)).map (gg a))
      refine ⟨fun j k H' => k = ((ys a).map (enc1 a)).length - j ∧ j ≤ ((ys a).map (enc1 a)).length ∧ Inv1 j H', ⟨_, rfl, Nat.zero_le _, F4, vs', P2.trans pu, p34.wa, Same.refl F4, p34.gr.fr Dl (by rw [hH2]; intro z; cases z) hF2, p34.gr.kp Dl _ hH2 (nms _), by
        show RpA F4 vs' (lc2L f ys f1 gg (xs.take i) ++ [])
        rw [List.append_nil]; exact ra.up (gr.ff.trans p34.gr.ff)⟩, ?_⟩
      rintro j k H5 ⟨rfl, hj, F5, vs5, P5, w5, f45, hF5, hH5, ra5⟩
      by_cases hl1 : j < ((ys a).map (enc1 a)).length
      · refine .inr ⟨it1.go j H5 (f45.trans w5.gr.fh) hl1, fun H6 => Inv1 (j + 1) H6, fun H6 k => ⟨((ys a).map (enc1 a)).length - (j + 1), by omega, rfl, hl1, k⟩, fun x1 H6 y1 => ?_⟩
        obtain ⟨d1, F6, e1, gr1, rx1⟩ := it1.yld j H5 x1 H6 F5 f45 w5.gr.fh y1 hl1
        rw [List.getElem?_map] at e1
        obtain ⟨c, ec, rfl⟩ : ∃ c, (ys a)[j]? = some c ∧ enc1 a c = d1 := by
          cases hx : (ys a)[j]? with
          | none => rw [hx] at e1; cases e1
          | some c => rw [hx] at e1; exact ⟨c, rfl, Option.some.inj e1⟩
        have hc : c ∈ ys a := List.mem_of_getElem? ec
        have et1 : (ys a).take (j + 1) = (ys a).take j ++ [c] := by rw [List.take_add_one, ec]; rfl
        have P6 := P5.trans (Post.of P5.wa gr1)
        have w6 := w5.grow gr1
        have hF6 : F6 Dl = none := gr1.fr Dl (by rw [hH5]; intro z; cases z) hF5
        have hH6 : H6 Dl = some (.lst vs5) := gr1.kp Dl _ hH5 id
        refine turn1 c hc B ad (wipe σ2 vs1) F6 H6 x1 (w6.wiped pl1) (pl1.ad w6) rx1 _ fun ρ5 σ5 q wb5 e5 fr5 => ?_
        obtain ⟨un5, q⟩ := q
        have e5' : wipe σ5 vs1 = wipe σ2 vs1 := by
          rw [e5]
          apply List.ext_getElem?
          intro j
          rw [wipe_get, wipe_get, wipe_length]
          split
          · rfl
          · first | rfl | rw [wipe_get, if_neg (by assumption)]
        refine ⟨e5', q B ad σ5 F6 H6 wb5 _ fun b ρ6 F7 H7 q6 p6 => ?_⟩
        obtain ⟨rfl, rfl, q6⟩ := q6
        have low : ∀ {F8 H8 : Hp}, Post B ad σ5 ρ6 F6 H6 ρ6 F8 H8 → Post B ad σ2 ρ4 F6 H6 ρ4 F8 H8 ∧ Post B ad σ ρ1 F6 H6 ρ1 F8 H8 := fun p => by
          have a1 := Post.unwiped w6 pl1 e5' fr5 wb5 p
          rw [un5] at a1
          have a2 := Post.unwiped P6.wa pl e2' fr w6 a1
          rw [un2] at a2
          exact ⟨a1, a2⟩
        cases hb1 : f1 a c with
        | false =>
          show Inv1 (j + 1) H7
          obtain ⟨a1, a2⟩ := low p6
          refine ⟨F7, vs5, P6.trans a2, a1.wa, f45.trans (gr1.ff.trans p6.gr.ff), p6.gr.fr Dl (by rw [hH6]; intro z; cases z) hF6, p6.gr.kp Dl _ hH6 (nms _), ?_⟩
          rw [et1, List.filter_append, List.filter_cons, if_neg (by rw [hb1]; decide), List.filter_nil, List.append_nil]
          exact ra5.up (gr1.ff.trans p6.gr.ff)
        | true =>
          show te σ5 H7 _
          refine q6 hb1 B ad σ5 F7 H7 p6.wa _ fun e ρ7 v F8 H8 q7 p7 rv => ?_
          obtain ⟨rfl, rfl⟩ := q7
          obtain ⟨a1, a2⟩ := low (p6.trans p7)
          have p67 := p6.trans p7
          have hF8 : F8 Dl = none := p67.gr.fr Dl (by rw [hH6]; intro z; cases z) hF6
          have hH8 : H8 Dl = some (.lst vs5) := p67.gr.kp Dl _ hH6 (nms _)
          have ra8 := (ra5.up (gr1.ff.trans p67.gr.ff)).app (.cons rv .nil)
          refine ⟨vs5, hH8, Nat.lt_of_lt_of_le (by rw [ra5.len]; exact Nat.lt_of_le_of_lt (lc2L_le ex hb j) hz) (by decide), ?_⟩
          show Inv1 (j + 1) _
          refine ⟨F8, vs5 ++ [v], (P6.trans a2).updD hD nw.2.1 nw.2.2 hF8, a1.wa.updD nw.2.1 nw.2.2 hF8, f45.trans (gr1.ff.trans p67.gr.ff), hF8, upd_same, ?_⟩
          rw [et1, List.filter_append, List.map_append, List.filter_cons, if_pos hb1, List.filter_nil, ← List.append_assoc]
          exact ra8
      · have e : j = (ys a).length := by rw [List.length_map] at hl1 hj; omega
        subst e
        rw [List.take_length] at ra5
        refine .inl ⟨it1.stop _ H5 (f45.trans w5.gr.fh) (by rw [List.length_map]; exact Nat.le_refl _), ?_⟩
        show Inv (i + 1) H5
        refine ⟨F5, vs5, P5, hF5, hH5, ?_⟩
        rw [et, lc2L_snoc, if_pos hb]
        exact ra5
  · have e : i = xs.length := by rw [List.length_map] at hlt hi; omega
    subst e
    rw [List.take_length] at ra
    exact .inl ⟨it.stop _ H' (P.gr.ff.trans P.wa.gr.fh) (by rw [List.length_map]; exact Nat.le_refl _), z _ ρ1 Dl vs' F' H' done (p1.trans P) hF hDH hH ra⟩
end
end Pu
namespace Pu
open PySem L2
theorem ex_val {te : TE} {ρ : Pu.Env} {Q : D → Pu.Env → Prop} (d0 : D) (h : EX te ρ fun d ρ' => d = d0 ∧ ρ' = ρ) (q : Q d0 ρ) : EX te ρ Q := h.imp fun d ρ' e => by rw [e.1, e.2]; exact q
theorem et_val {tt : TT} {ρ : Pu.Env} {Q : Bool → Pu.Env → Prop} (b0 : Bool) (h : ET tt ρ fun b ρ' => b = b0 ∧ ρ' = ρ) (q : Q b0 ρ) : ET tt ρ Q := et_imp h fun b ρ' e => by rw [e.1, e.2]; exact q
theorem sx_mid {t u : TS} {ρ : Pu.Env} {P : Po} (ρ1 : Pu.Env) (h : SX t ρ { nx := fun ρ' => ρ' = ρ1, rt := fun _ _ => False }) (k : SX u ρ1 P) : SX (tSeq t u) ρ P := sx_seq fun B σ F H w Dn n r b c =>
  h B σ F H w Dn (fun ρ' σ' F' H' e w' => n ρ' σ' F' H' (by rw [e]; exact k) w') (fun _ _ _ _ _ _ q => q.elim) (fun _ _ _ _ q => q.elim) (fun _ _ _ _ q => q.elim)
/-- the same with what holds of the slots behind t -/
theorem sx_midP {t u : TS} {ρ : Pu.Env} {P : Po} (J : Pu.Env → Prop) (h : SX t ρ { nx := J, rt := fun _ _ => False }) (k : ∀ ρ1, J ρ1 → SX u ρ1 P) : SX (tSeq t u) ρ P := sx_seq fun B σ F H w Dn n r b c =>
  h B σ F H w Dn (fun ρ' σ' F' H' e w' => n ρ' σ' F' H' (k ρ' e) w') (fun _ _ _ _ _ _ q => q.elim) (fun _ _ _ _ q => q.elim) (fun _ _ _ _ q => q.elim)
theorem cbd_intB {b : Bool} {Q : D → Prop} (k : Q (.int (if b then 1 else 0))) : CbD rInt [.bool b] Q := fun F H vs e r Z z => by
  obtain ⟨v, rfl, rv⟩ := r.one
  cases rv.bl_inv
  exact .inr ⟨_, rfl, z _ _ F H k (Gr.refl e) (.int _)⟩
theorem last_at (ds : List D) (d : D) : atI (ds ++ [d]) (-1) = some d := by
  have e : ixN (ds.length + 1) (-1) = some ds.length := by
    unfold ixN
    simp
    omega
  simp [atI, e]
theorem enum_zip {α : Type} (f : α → D) : ∀ (k : Nat) (xs : List α), enumD k (xs.map f) = (xs.zipIdx k).map fun p => .tuple [.int (p.2 : Int), f p.1]
  | _, [] => rfl
  | k, x :: xs => by
    rw [List.map_cons, List.zipIdx_cons, List.map_cons, ← enum_zip f (k + 1) xs]
    rfl
theorem enum_at {α : Type} {f : α → D} {xs : List α} {k : Nat} {d : D} (h : (enumD 0 (xs.map f))[k]? = some d) : ∃ x, xs[k]? = some x ∧ d = .tuple [.int (k : Int), f x] := by
  rw [enum_zip, List.getElem?_map, List.getElem?_zipIdx] at h
  cases e : xs[k]? with
  | none => rw [e] at h; simp at h
  | some x =>
    rw [e] at h
    simp at h
    exact ⟨x, rfl, h.symm⟩
theorem enum_len {α : Type} {f : α → D} {xs : List α} : (enumD 0 (xs.map f)).length = xs.length := by rw [enum_zip, List.length_map, List.length_zipIdx]
theorem find_first {α : Type} {g : Nat → Option α} {n k : Nat} {d : α} (hk : k < n) (h : ∀ j, j < k → g j = none) (e : g k = some d) : (List.range n).findSome? g = some d := by
  obtain ⟨m, rfl⟩ : ∃ m, n = k + 1 + m := ⟨n - (k + 1), by omega⟩
  rw [List.range_add, List.range_succ, List.findSome?_append, List.findSome?_append]
  have : (List.range k).findSome? g = none := List.findSome?_eq_none_iff.mpr fun x hx => h x (List.mem_range.mp hx)
  rw [this]
  simp [e]
theorem find_no {α : Type} {g : Nat → Option α} {n : Nat} (h : ∀ j, j < n → g j = none) : (List.range n).findSome? g = none := List.findSome?_eq_none_iff.mpr fun x hx => h x (List.mem_range.mp hx)
theorem fmin_all : ∀ (ns : List Int) (a : Int), ns.foldl min a ≤ a ∧ (∀ x ∈ ns, ns.foldl min a ≤ x) ∧ (ns.foldl min a = a ∨ ns.foldl min a ∈ ns)
  | [], a => ⟨Int.le_refl _, ⟨(fun _ h => by cases h), Or.inl rfl⟩⟩
  | n :: ns, a => by
    obtain ⟨h1, h2, h3⟩ := fmin_all ns (min a n)
    rw [List.foldl_cons]
    refine ⟨by omega, fun x hx => ?_, ?_⟩
    · rcases List.mem_cons.mp hx with rfl | q
      · omega
      · exact h2 x q
    · rcases h3 with q | q
      · rcases (show min a n = a ∨ min a n = n by omega) with z | z
        · left; rw [q, z]
        · right; rw [q, z]; simp
      · right; exact List.mem_cons_of_mem _ q
theorem foldMin_is {ns : List Int} {m : Int} (hm : m ∈ ns) (h : ∀ x ∈ ns, m ≤ x) : foldMin ns = m := by
  cases ns with
  | nil => cases hm
  | cons n ns =>
    show ns.foldl min n = m
    obtain ⟨h1, h2, h3⟩ := fmin_all ns n
    have a : ns.foldl min n ≤ m := by
      rcases List.mem_cons.mp hm with rfl | q
      · exact h1
      · exact h2 m q
    have b : m ≤ ns.foldl min n := by
      rcases h3 with q | q
      · rw [q]; exact h n (by simp)
      · exact h _ (List.mem_cons_of_mem _ q)
    omega
theorem foldMin_le {ns : List Int} {x : Int} (hm : x ∈ ns) : foldMin ns ≤ x := by
  cases ns with
  | nil => cases hm
  | cons n ns =>
    show ns.foldl min n ≤ x
    obtain ⟨h1, h2, h3⟩ := fmin_all ns n
    rcases List.mem_cons.mp hm with rfl | q
    · exact h1
    · exact h2 x q
theorem foldMin_mem {ns : List Int} (h : 0 < ns.length) : foldMin ns ∈ ns := by
  cases ns with
  | nil => simp at h
  | cons n ns =>
    show ns.foldl min n ∈ n :: ns
    rcases (fmin_all ns n).2.2 with q | q
    · rw [q]; simp
    · exact List.mem_cons_of_mem _ q
theorem take_snoc' {α : Type} {l : List α} {k : Nat} {x : α} (h : l[k]? = some x) : l.take (k + 1) = l.take k ++ [x] := by rw [List.take_add_one, h]; rfl
theorem get_D {α : Type} {l : List α} {k : Nat} {a : α} (h : k < l.length) : l[k]? = some (l.getD k a) := by rw [List.getD_eq_getElem?_getD]; simp [h]
theorem mem_D {α : Type} {l : List α} {k : Nat} {a : α} (h : k < l.length) : l.getD k a ∈ l := List.mem_of_getElem? (get_D h)
theorem flat_snoc' {α β : Type} {l : List α} {x : α} {f : α → List β} : (l ++ [x]).flatMap f = l.flatMap f ++ f x := by simp
theorem eqv_encP (u v : Int × Int) : PyData.eqv (encP u) (encP v) = decide (u = v) := by
  show PyData.eqvAll [.int u.1, .int u.2] [.int v.1, .int v.2] = _
  simp only [PyData.eqvAll, PyData.eqv, Bool.and_true]
  by_cases h : u = v
  · subst h; simp
  · rw [decide_eq_false h]
    by_cases h1 : u.1 = v.1
    · have h2 : u.2 ≠ v.2 := fun q => h (Prod.ext h1 q)
      simp [h2]
    · simp [h1]
theorem any_encP (ws : List (Int × Int)) (w : Int × Int) : ((ws.map encP).any fun y => PyData.eqv y (encP w)) = decide (w ∈ ws) := by
  rw [Bool.eq_iff_iff, List.any_eq_true, decide_eq_true_eq]
  constructor
  · rintro ⟨x, hx, e⟩
    obtain ⟨u, hu, rfl⟩ := List.mem_map.mp hx
    rw [eqv_encP, decide_eq_true_eq] at e
    rwa [← e]
  · intro h
    exact ⟨encP w, List.mem_map.mpr ⟨w, h, rfl⟩, by rw [eqv_encP]; simp⟩
theorem eqv_listP : ∀ (xs ys : List (Int × Int)), PyData.eqvAll (xs.map encP) (ys.map encP) = decide (xs = ys)
  | [], [] => by simp [PyData.eqvAll]
  | [], _ :: _ => by simp [PyData.eqvAll]
  | _ :: _, [] => by simp [PyData.eqvAll]
  | x :: xs, y :: ys => by
    rw [List.map_cons, List.map_cons, PyData.eqvAll, eqv_encP, eqv_listP xs ys]
    by_cases h1 : x = y <;> by_cases h2 : xs = ys <;> simp [h1, h2]
theorem eqv_LP (xs ys : List (Int × Int)) : PyData.eqv (.list (xs.map encP)) (.list (ys.map encP)) = decide (xs = ys) := by
  show PyData.eqvAll _ _ = _
  exact eqv_listP xs ys
/-- l.index(x) of data -/
theorem mtd_indexD {K : PySem.W.Frag} {ds : List D} {d z : D} {j : Nat} {Q : D → Prop} (s1 : PySem.SeqAt.shaped (.list ds) = true) (s2 : PySem.SeqAt.shaped d = true) (hz : ds[j]? = some z) (he : PyData.eqv z d = true)
    (hno : ∀ (m : Nat) (z' : D), m < j → ds[m]? = some z' → PyData.eqv z' d = false) (k : Q (.int (j : Nat))) : MtD (rIndexD K) (.list ds) [d] Q := fun F H x vs e r rv Z z' => by
  obtain ⟨v, rfl, rv1⟩ := rv.one
  have r' := r.dp (K := K) e
  obtain ⟨a, xs, rfl, h1, h2⟩ := r.lst_inv
  exact ⟨a, v, d, ds, j, z, rfl, rfl, r', rv1.dp e, s1, s2, hz, he, hno, z' _ _ F H k (Gr.refl e) (.int _)⟩
theorem lay_encP (xs : List (Int × Int)) : PyData.canLayAll0 (xs.map encP) = true := by
  induction xs with
  | nil => simp [PyData.canLayAll0]
  | cons x xs ih => rw [List.map_cons, PyData.canLayAll0, ih]; simp [encP, PyData.canLay0, PyData.canLayAll0]
theorem mtd_indexP {K : PySem.W.Frag} {ws : List (Int × Int)} {w : Int × Int} {Q : D → Prop} (hw : w ∈ ws) (k : Q (.int (ws.idxOf w : Nat))) : MtD (rIndexD K) (.list (ws.map encP)) [encP w] Q := by
  have hl : ws.idxOf w < ws.length := List.idxOf_lt_length_iff.mpr hw
  have d1 : (PyData.list (ws.map encP)).depth ≤ 64 := by
    have h : DpN 3 (PyData.list (ws.map encP)) := dpn_list (dpn_map fun x _ => dpn_tup (dpn_cons dpn_int (dpn_cons dpn_int dpn_nil)))
    exact Nat.le_trans h (by decide)
  have d2 : (encP w).depth ≤ 64 := by
    have h : DpN 2 (encP w) := dpn_tup (dpn_cons dpn_int (dpn_cons dpn_int dpn_nil))
    exact Nat.le_trans h (by decide)
  refine mtd_indexD (z := encP w) (j := ws.idxOf w) ?_ ?_ ?_ ?_ (fun m z' hm hz => ?_) k
  · unfold PySem.SeqAt.shaped
    rw [decide_eq_true d1, Bool.and_true]
    show PyData.canLayAll0 _ = true
    exact lay_encP ws
  · unfold PySem.SeqAt.shaped
    rw [decide_eq_true d2, Bool.and_true]
    simp [encP, PyData.canLay0, PyData.canLayAll0]
  · rw [List.getElem?_map, List.getElem?_eq_getElem hl, List.getElem_idxOf hl]; rfl
  · rw [eqv_encP]; simp
  · rw [List.getElem?_map, List.getElem?_eq_getElem (by omega)] at hz
    cases hz
    rw [eqv_encP, decide_eq_false_iff_not]
    have := List.not_of_lt_findIdx (p := fun x => x == w) hm
    simpa using this
theorem enum_rng {α : Type} {f : α → D} (a : α) (xs : List α) : enumD 0 (xs.map f) = (rngI 0 xs.length).map fun k => .tuple [.int k, f (xs.getD k.toNat a)] := by
  refine List.ext_getElem? fun k => ?_
  rw [enum_zip, List.getElem?_map, List.getElem?_zipIdx, List.getElem?_map]
  by_cases h : k < xs.length
  · rw [rngI_get h, get_D (a := a) h]
    simp
  · rw [List.getElem?_eq_none (by omega), List.getElem?_eq_none (by rw [rngI_len]; omega)]
    rfl
theorem units65 {k : Nat} {A : Around} (r : Room k A) : A.units + 65 < cLine := by have := r.un; omega
end Pu
/-! readings of the defs of law_k75_packs_by_all_counts: printed by gen.py -/
namespace Law_k75
open PySem L2 Pu

/-- cheapest: slots packs 0, many 1, prices 2, came 3, need 4, rows 5, shells 6, price 7, kind 8, counts 9, _ 10; own: came, counts, prices -/
abbrev N_cheapest : List Str := ["packs", "many", "prices", "came", "need", "rows", "shells", "price", "kind", "counts", "_"]
def T_cheapest (K : PySem.W.Frag) : TS :=
    (tSeq (tAsg (tLst (tCons (tC (.int 0)) tNil)) (gName 2))
    (tSeq (tAsg (tLst (tCons (tC .non) tNil)) (gName 3))
    (tSeq (tFor (iRng2 (tCons (tC (.int 1)) (tCons (tOp (rPlus K) (tVar 1) (tC (.int 1))) tNil))) (gName 4)
      (tSeq (tAsg (tLc (iEnum K (tCons (tVar 0) tNil)) (gTup K 2 (gCons (gName 8) (gCons (gTup K 2 (gCons (gName 6) (gCons (gName 7) gNil))) gNil))) tYes (tTup (tCons (tOp (rPlus K) (tOp (rIxA K) (tVar 2) (tCB (rMx2) (tCons (tC (.int 0)) (tCons (tOp (rI0 fun i j => .int (i - j)) (tVar 4) (tVar 6)) tNil)))) (tVar 7)) (tCons (tVar 8) tNil))) [8, 6, 7]) (gName 5))
    (tSeq (tDrop (tBM K "list" rAppend (tVar 2) (tCons (tOp (rIxA K) (tCB (rMnD K) (tCons (tVar 5) tNil)) (tC (.int 0))) tNil)))
    (tDrop (tBM K "list" rAppend (tVar 3) (tCons (tOp (rIxA K) (tCB (rMnD K) (tCons (tVar 5) tNil)) (tC (.int 1))) tNil))))))
    (tSeq (tAsg (tLc (iList K (tVar 0)) (gName 10) tYes (tC (.int 0)) [10]) (gName 9))
    (tSeq (tAsg (tVar 1) (gName 4))
    (tSeq (tWhile (tTest (tOp (rI0 fun i j => .bl (decide (j < i))) (tVar 4) (tC (.int 0))))
      (tSeq (tAsg (tOp (rIxA K) (tVar 3) (tVar 4)) (gName 8))
    (tSeq (tAsg (tOp (rPlus K) (tOp (rIxA K) (tVar 9) (tVar 8)) (tC (.int 1))) (gSub (tVar 9) (tVar 8) rSetL))
    (tAsg (tCB (rMx2) (tCons (tC (.int 0)) (tCons (tOp (rI0 fun i j => .int (i - j)) (tVar 4) (tOp (rIxA K) (tOp (rIxA K) (tVar 0) (tVar 8)) (tC (.int 0)))) tNil))) (gName 4)))))
    (tRet (tTup (tCons (tVar 9) (tCons (tOp (rIxA K) (tVar 2) (tUn (rU fun i => .int (-i)) (tC (.int 1)))) (tCons (tVar 2) tNil)))))))))))
/-- cheapest_fault: slots packs 0, many 1, told 2, counts 3, cost 4, prices 5, count 6, pack 7, need 8, kind 9, shells 10, price 11 -/
abbrev N_cheapest_fault : List Str := ["packs", "many", "told", "counts", "cost", "prices", "count", "pack", "need", "kind", "shells", "price"]
def T_cheapest_fault (K : PySem.W.Frag) : TS :=
    (tSeq (tAsg (tVar 2) (gTup K 3 (gCons (gName 3) (gCons (gName 4) (gCons (gName 5) gNil)))))
    (tSeq (tIfS (tOr (tTest (tOp (rNeP K) (tCB (rLen K) (tCons (tVar 3) tNil)) (tCB (rLen K) (tCons (tVar 0) tNil)))) (tTest (tOp (rI0 fun i j => .bl (decide (i < j))) (tCB (rMnD K) (tCons (tOp (rPlus K) (tVar 3) (tLst (tCons (tC (.int 0)) tNil))) tNil)) (tC (.int 0)))))
      (tRet (tTup (tCons (tC (.str "counts")) tNil)))
      tNext)
    (tSeq (tIfS (tTest (tOp (rI0 fun i j => .bl (decide (i < j))) (tCB (rSum K) (tCons (tLc (iZip K (tCons (tVar 3) (tCons (tVar 0) tNil))) (gTup K 2 (gCons (gName 6) (gCons (gName 7) gNil))) tYes (tOp (rI CMul fun i j => .int (i * j)) (tVar 6) (tOp (rIxA K) (tVar 7) (tC (.int 0)))) [6, 7]) tNil)) (tVar 1)))
      (tRet (tTup (tCons (tC (.str "few")) tNil)))
      tNext)
    (tSeq (tIfS (tTest (tOp (rNeP K) (tCB (rSum K) (tCons (tLc (iZip K (tCons (tVar 3) (tCons (tVar 0) tNil))) (gTup K 2 (gCons (gName 6) (gCons (gName 7) gNil))) tYes (tOp (rI CMul fun i j => .int (i * j)) (tVar 6) (tOp (rIxA K) (tVar 7) (tC (.int 1)))) [6, 7]) tNil)) (tVar 4)))
      (tRet (tTup (tCons (tC (.str "cost")) tNil)))
      tNext)
    (tSeq (tIfS (tOr (tTest (tOp (rNeP K) (tCB (rLen K) (tCons (tVar 5) tNil)) (tOp (rPlus K) (tVar 1) (tC (.int 1))))) (tTest (tOp (rI0 fun i j => .bl (decide (j < i))) (tOp (rIxA K) (tVar 5) (tC (.int 0))) (tC (.int 0)))))
      (tRet (tTup (tCons (tC (.str "prices")) tNil)))
      tNext)
    (tSeq (tFor (iRng2 (tCons (tC (.int 1)) (tCons (tOp (rPlus K) (tVar 1) (tC (.int 1))) tNil))) (gName 8)
      (tFor (iEnum K (tCons (tVar 0) tNil)) (gTup K 2 (gCons (gName 9) (gCons (gTup K 2 (gCons (gName 10) (gCons (gName 11) gNil))) gNil)))
      (tIfS (tTest (tOp (rI0 fun i j => .bl (decide (j < i))) (tOp (rIxA K) (tVar 5) (tVar 8)) (tOp (rPlus K) (tOp (rIxA K) (tVar 5) (tCB (rMx2) (tCons (tC (.int 0)) (tCons (tOp (rI0 fun i j => .int (i - j)) (tVar 8) (tVar 10)) tNil)))) (tVar 11))))
      (tRet (tTup (tCons (tC (.str "price")) (tCons (tVar 8) (tCons (tVar 9) tNil)))))
      tNext)))
    (tRet (tIf (tTest (tOp (rI0 fun i j => .bl (decide (j ≤ i))) (tOp (rIxA K) (tVar 5) (tUn (rU fun i => .int (-i)) (tC (.int 1)))) (tVar 4))) (tC .non) (tTup (tCons (tC (.str "last")) tNil))))))))))
/-- one_more: slots packs 0, many 1, prices 2, at 3 -/
abbrev N_one_more : List Str := ["packs", "many", "prices", "at"]
def T_one_more (K : PySem.W.Frag) (R_cheapest : List D → (D → Prop) → Prop) : TS :=
    (tSeq (tAsg (tOp (rIxA K) (tCall (spP R_cheapest) [] E0 (tCons (tVar 0) (tCons (tVar 1) tNil))) (tC (.int 2))) (gName 2))
    (tRet (tLc (iRng1 (tCons (tVar 1) tNil)) (gName 3) tYes (tOp (rI0 fun i j => .int (i - j)) (tOp (rIxA K) (tVar 2) (tOp (rPlus K) (tVar 3) (tC (.int 1)))) (tOp (rIxA K) (tVar 2) (tVar 3))) [3])))
/-- steady: slots packs 0, many 1, steps 2, at 3 -/
abbrev N_steady : List Str := ["packs", "many", "steps", "at"]
def T_steady (K : PySem.W.Frag) (R_one_more : List D → (D → Prop) → Prop) : TS :=
    (tSeq (tAsg (tCall (spP R_one_more) [] E0 (tCons (tVar 0) (tCons (tVar 1) tNil))) (gName 2))
    (tSeq (tFor (iRng2 (tCons (tC (.int 1)) (tCons (tCB (rLen K) (tCons (tVar 2) tNil)) tNil))) (gName 3)
      (tIfS (tTest (tOp (rI0 fun i j => .bl (decide (j < i))) (tOp (rIxA K) (tVar 2) (tVar 3)) (tOp (rIxA K) (tVar 2) (tOp (rI0 fun i j => .int (i - j)) (tVar 3) (tC (.int 1))))))
      (tRet (tVar 3))
      tNext))
    (tRet (tC .non))))
/-- shared: slots cents 0, weights 1, whole 2, _ 3, parts 4, weight 5, rests 6, at 7, rest 8; own: parts -/
abbrev N_shared : List Str := ["cents", "weights", "whole", "_", "parts", "weight", "rests", "at", "rest"]
def T_shared (K : PySem.W.Frag) : TS :=
    (tSeq (tAsg (tCB (rSum K) (tCons (tVar 1) tNil)) (gName 2))
    (tSeq (tIfS (tTest (tOp (rEqP K) (tVar 2) (tC (.int 0))))
      (tRet (tLc (iList K (tVar 1)) (gName 3) tYes (tC (.int 0)) [3]))
      tNext)
    (tSeq (tAsg (tLc (iList K (tVar 1)) (gName 5) tYes (tOp (rI CDiv fun i j => .int (i / j)) (tOp (rI CMul fun i j => .int (i * j)) (tVar 0) (tVar 5)) (tVar 2)) [5]) (gName 4))
    (tSeq (tAsg (tCB (rSrD K) (tCons (tLc (iEnum K (tCons (tVar 1) tNil)) (gTup K 2 (gCons (gName 7) (gCons (gName 5) gNil))) tYes (tTup (tCons (tOp (rI0 fun i j => .int (i - j)) (tOp (rI CMul fun i j => .int (i * j)) (tOp (rIxA K) (tVar 4) (tVar 7)) (tVar 2)) (tOp (rI CMul fun i j => .int (i * j)) (tVar 0) (tVar 5))) (tCons (tVar 7) tNil))) [7, 5]) tNil)) (gName 6))
    (tSeq (tFor (iList K (tSl (rSl K) (tVar 6) tNoPart (tPart (tOp (rI0 fun i j => .int (i - j)) (tVar 0) (tCB (rSum K) (tCons (tVar 4) tNil)))))) (gTup K 2 (gCons (gName 8) (gCons (gName 7) gNil)))
      (tAsg (tOp (rPlus K) (tOp (rIxA K) (tVar 4) (tVar 7)) (tC (.int 1))) (gSub (tVar 4) (tVar 7) rSetL)))
    (tRet (tVar 4)))))))
/-- shared_fault: slots cents 0, weights 1, parts 2, whole 3, gaps 4, at 5, weight 6, one 7, other 8 -/
abbrev N_shared_fault : List Str := ["cents", "weights", "parts", "whole", "gaps", "at", "weight", "one", "other"]
def T_shared_fault (K : PySem.W.Frag) : TS :=
    (tSeq (tAsg (tCB (rSum K) (tCons (tVar 1) tNil)) (gName 3))
    (tSeq (tIfS (tOr (tTest (tOp (rNeP K) (tCB (rLen K) (tCons (tVar 2) tNil)) (tCB (rLen K) (tCons (tVar 1) tNil)))) (tTest (tOp (rI0 fun i j => .bl (decide (i < j))) (tCB (rMnD K) (tCons (tOp (rPlus K) (tVar 2) (tLst (tCons (tC (.int 0)) tNil))) tNil)) (tC (.int 0)))))
      (tRet (tTup (tCons (tC (.str "form")) tNil)))
      tNext)
    (tSeq (tIfS (tTest (tOp (rEqP K) (tVar 3) (tC (.int 0))))
      (tRet (tIf (tTest (tOp (rEqP K) (tCB (rSum K) (tCons (tVar 2) tNil)) (tC (.int 0)))) (tC .non) (tTup (tCons (tC (.str "sum")) tNil))))
      tNext)
    (tSeq (tIfS (tTest (tOp (rNeP K) (tCB (rSum K) (tCons (tVar 2) tNil)) (tVar 0)))
      (tRet (tTup (tCons (tC (.str "sum")) tNil)))
      tNext)
    (tSeq (tAsg (tLc (iEnum K (tCons (tVar 1) tNil)) (gTup K 2 (gCons (gName 5) (gCons (gName 6) gNil))) tYes (tOp (rI0 fun i j => .int (i - j)) (tOp (rI CMul fun i j => .int (i * j)) (tOp (rIxA K) (tVar 2) (tVar 5)) (tVar 3)) (tOp (rI CMul fun i j => .int (i * j)) (tVar 0) (tVar 6))) [5, 6]) (gName 4))
    (tSeq (tFor (iRng1 (tCons (tCB (rLen K) (tCons (tVar 2) tNil)) tNil)) (gName 7)
      (tFor (iRng1 (tCons (tCB (rLen K) (tCons (tVar 2) tNil)) tNil)) (gName 8)
      (tIfS (tOr (tTest (tOp (rI0 fun i j => .bl (decide (j < i))) (tOp (rI0 fun i j => .int (i - j)) (tOp (rIxA K) (tVar 4) (tVar 7)) (tOp (rIxA K) (tVar 4) (tVar 8))) (tVar 3))) (tAnd (tTest (tOp (rEqP K) (tOp (rI0 fun i j => .int (i - j)) (tOp (rIxA K) (tVar 4) (tVar 7)) (tOp (rIxA K) (tVar 4) (tVar 8))) (tVar 3))) (tTest (tOp (rI0 fun i j => .bl (decide (j < i))) (tVar 7) (tVar 8)))))
      (tRet (tTup (tCons (tC (.str "parts")) (tCons (tVar 7) (tCons (tVar 8) tNil)))))
      tNext)))
    (tRet (tC .non))))))))
/-- worth_alone: slots packs 0, needs 1, need 2 -/
abbrev N_worth_alone : List Str := ["packs", "needs", "need"]
def T_worth_alone (K : PySem.W.Frag) (R_cheapest : List D → (D → Prop) → Prop) : TS :=
    (tRet (tTup (tCons (tLc (iList K (tVar 1)) (gName 2) tYes (tOp (rIxA K) (tCall (spP R_cheapest) [] E0 (tCons (tVar 0) (tCons (tVar 2) tNil))) (tC (.int 1))) [2]) (tCons (tOp (rIxA K) (tCall (spP R_cheapest) [] E0 (tCons (tVar 0) (tCons (tCB (rSum K) (tCons (tVar 1) tNil)) tNil))) (tC (.int 1))) tNil))))
/-- orders_of: slots many 0, found 1, _ 2, row 3, one 4 -/
abbrev N_orders_of : List Str := ["many", "found", "_", "row", "one"]
def T_orders_of (K : PySem.W.Frag) : TS :=
    (tSeq (tAsg (tLst (tCons (tLst tNil) tNil)) (gName 1))
    (tSeq (tFor (iRng1 (tCons (tVar 0) tNil)) (gName 2)
      (tAsg (tLc2 (iList K (tVar 1)) (gName 3) tYes (iRng1 (tCons (tVar 0) tNil)) (gName 4) (tTest (tOp (rNinP K) (tVar 4) (tVar 3))) (tOp (rPlus K) (tVar 3) (tLst (tCons (tVar 4) tNil))) [3, 4] [4]) (gName 1)))
    (tRet (tVar 1))))
/-- fair_parts: slots packs 0, needs 1, sums 2, _ 3, rows 4, row 5, taken 6, cost 7, at 8, more 9; own: sums -/
abbrev N_fair_parts : List Str := ["packs", "needs", "sums", "_", "rows", "row", "taken", "cost", "at", "more"]
def T_fair_parts (K : PySem.W.Frag) (R_orders_of : List D → (D → Prop) → Prop) (R_cheapest : List D → (D → Prop) → Prop) : TS :=
    (tSeq (tAsg (tLc (iList K (tVar 1)) (gName 3) tYes (tC (.int 0)) [3]) (gName 2))
    (tSeq (tAsg (tCall (spP R_orders_of) [] E0 (tCons (tCB (rLen K) (tCons (tVar 1) tNil)) tNil)) (gName 4))
    (tSeq (tFor (iList K (tVar 4)) (gName 5)
      (tSeq (tAsg (tC (.int 0)) (gName 6))
    (tSeq (tAsg (tC (.int 0)) (gName 7))
    (tFor (iList K (tVar 5)) (gName 8)
      (tSeq (tAsg (tOp (rPlus K) (tVar 6) (tOp (rIxA K) (tVar 1) (tVar 8))) (gName 6))
    (tSeq (tAsg (tOp (rIxA K) (tCall (spP R_cheapest) [] E0 (tCons (tVar 0) (tCons (tVar 6) tNil))) (tC (.int 1))) (gName 9))
    (tSeq (tAsg (tOp (rI0 fun i j => .int (i - j)) (tOp (rPlus K) (tOp (rIxA K) (tVar 2) (tVar 8)) (tVar 9)) (tVar 7)) (gSub (tVar 2) (tVar 8) rSetL))
    (tAsg (tVar 9) (gName 7)))))))))
    (tRet (tTup (tCons (tVar 2) (tCons (tCB (rLen K) (tCons (tVar 4) tNil)) tNil)))))))
/-- refunds: slots paid 0, due 1, rows 2, one 3, other 4 -/
abbrev N_refunds : List Str := ["paid", "due", "rows", "one", "other"]
def T_refunds (K : PySem.W.Frag) : TS :=
    (tSeq (tAsg (tLc (iZip K (tCons (tVar 0) (tCons (tVar 1) tNil))) (gTup K 2 (gCons (gName 3) (gCons (gName 4) gNil))) tYes (tOp (rI0 fun i j => .int (i - j)) (tVar 3) (tVar 4)) [3, 4]) (gName 2))
    (tRet (tTup (tCons (tVar 2) (tCons (tCB (rSum K) (tCons (tVar 2) tNil)) tNil)))))
/-- _law_state: slots script 0, cells 1, cell 2 -/
abbrev N_l_state : List Str := ["script", "cells", "cell"]
def T_l_state (K : PySem.W.Frag) : TS :=
    (tSeq (tAsg (tLc (iList K (tSl (rSl K) (tVar 0) tNoPart (tPart (tC (.int 63))))) (gName 2) tYes (tCB (rAbs) (tCons (tVar 2) tNil)) [2]) (gName 1))
    (tSeq (tIfS (tTest (tOp (rEqP K) (tCB (rLen K) (tCons (tVar 1) tNil)) (tC (.int 0))))
      (tAsg (tLst (tCons (tC (.int 0)) tNil)) (gName 1))
      tNext)
    (tRet (tLst (tCons (tC (.int 0)) (tCons (tVar 1) tNil))))))
/-- _law_take: slots state 0, most 1, cells 2, at 3, cell 4, mixed 5; own: cells, state -/
abbrev N_l_take : List Str := ["state", "most", "cells", "at", "cell", "mixed"]
def T_l_take (K : PySem.W.Frag) : TS :=
    (tSeq (tAsg (tOp (rIxA K) (tVar 0) (tC (.int 1))) (gName 2))
    (tSeq (tAsg (tOp (rI (fun _ j => 0 < j) fun i j => .int (i % j)) (tOp (rIxA K) (tVar 0) (tC (.int 0))) (tCB (rLen K) (tCons (tVar 2) tNil))) (gName 3))
    (tSeq (tAsg (tOp (rIxA K) (tVar 2) (tVar 3)) (gName 4))
    (tSeq (tIfS (tTest (tOp (rI0 fun i j => .bl (decide (j ≤ i))) (tVar 4) (tC (.int 1000000000000000000))))
      (tSeq (tAsg (tOp (rI CDiv fun i j => .int (i / j)) (tVar 4) (tVar 1)) (gSub (tVar 2) (tVar 3) rSetL))
    (tRet (tOp (rI (fun _ j => 0 < j) fun i j => .int (i % j)) (tVar 4) (tVar 1))))
      tNext)
    (tSeq (tAsg (tOp (rPlus K) (tOp (rIxA K) (tVar 0) (tC (.int 0))) (tC (.int 1))) (gSub (tVar 0) (tC (.int 0)) rSetL))
    (tSeq (tAsg (tOp (rI (fun _ j => 0 < j) fun i j => .int (i % j)) (tCB (rInt) (tCons (tOp (rPlus K) (tOp (rI CMul fun i j => .int (i * j)) (tVar 4) (tC (.int 48271))) (tOp (rI CMul fun i j => .int (i * j)) (tOp (rIxA K) (tVar 0) (tC (.int 0))) (tC (.int 69621)))) tNil)) (tC (.int 2147483647))) (gName 5))
    (tSeq (tAsg (tOp (rI (fun _ j => 0 < j) fun i j => .int (i % j)) (tCB (rInt) (tCons (tOp (rPlus K) (tOp (rI CMul fun i j => .int (i * j)) (tVar 5) (tC (.int 16807))) (tOp (rI CMul fun i j => .int (i * j)) (tOp (rIxA K) (tVar 0) (tC (.int 0))) (tC (.int 7919)))) tNil)) (tC (.int 1000000007))) (gName 5))
    (tRet (tOp (rI (fun _ j => 0 < j) fun i j => .int (i % j)) (tOp (rI CDiv fun i j => .int (i / j)) (tVar 5) (tC (.int 7))) (tVar 1))))))))))
/-- _law_packs: slots state 0, k 1 -/
abbrev N_l_packs : List Str := ["state", "k"]
def T_l_packs (K : PySem.W.Frag) (R_l_take : Stt → List D → (D → Stt → Prop) → Prop) : TS :=
    (tRet (tLc (iRng1 (tCons (tOp (rPlus K) (tC (.int 1)) (tCall (spS R_l_take) [] E0 (tCons (tVar 0) (tCons (tC (.int 4)) tNil)))) tNil)) (gName 1) tYes (tTup (tCons (tOp (rPlus K) (tC (.int 1)) (tCall (spS R_l_take) [] E0 (tCons (tVar 0) (tCons (tC (.int 6)) tNil)))) (tCons (tCall (spS R_l_take) [] E0 (tCons (tVar 0) (tCons (tC (.int 30)) tNil))) tNil))) [1]))
/-- _law_least: slots packs 0, many 1, rows 2, shells 3, price 4, more 5, have 6, cost 7, k 8; own: more -/
abbrev N_l_least : List Str := ["packs", "many", "rows", "shells", "price", "more", "have", "cost", "k"]
def T_l_least (K : PySem.W.Frag) : TS :=
    (tSeq (tAsg (tLst (tCons (tTup (tCons (tC (.int 0)) (tCons (tC (.int 0)) tNil))) tNil)) (gName 2))
    (tSeq (tFor (iList K (tVar 0)) (gTup K 2 (gCons (gName 3) (gCons (gName 4) gNil)))
      (tSeq (tAsg (tLst tNil) (gName 5))
    (tSeq (tFor (iList K (tVar 2)) (gTup K 2 (gCons (gName 6) (gCons (gName 7) gNil)))
      (tDrop (tBM K "list" rExtR (tVar 5) (tCons (tLc (iRng1 (tCons (tOp (rPlus K) (tOp (rI CDiv fun i j => .int (i / j)) (tVar 1) (tVar 3)) (tC (.int 2))) tNil)) (gName 8) tYes (tTup (tCons (tOp (rPlus K) (tVar 6) (tOp (rI CMul fun i j => .int (i * j)) (tVar 8) (tVar 3))) (tCons (tOp (rPlus K) (tVar 7) (tOp (rI CMul fun i j => .int (i * j)) (tVar 8) (tVar 4))) tNil))) [8]) tNil))))
    (tAsg (tVar 5) (gName 2)))))
    (tRet (tCB (rMnD K) (tCons (tLc (iList K (tVar 2)) (gTup K 2 (gCons (gName 6) (gCons (gName 7) gNil))) (tTest (tOp (rI0 fun i j => .bl (decide (j ≤ i))) (tVar 6) (tVar 1))) (tVar 7) [6, 7]) tNil)))))
/-- _law_fault: slots packs 0, many 1, told 2, counts 3, cost 4, prices 5, one 6, k 7, need 8 -/
abbrev N_l_fault : List Str := ["packs", "many", "told", "counts", "cost", "prices", "one", "k", "need"]
def T_l_fault (K : PySem.W.Frag) : TS :=
    (tSeq (tAsg (tVar 2) (gTup K 3 (gCons (gName 3) (gCons (gName 4) (gCons (gName 5) gNil)))))
    (tSeq (tIfS (tOr (tTest (tOp (rNeP K) (tCB (rLen K) (tCons (tVar 3) tNil)) (tCB (rLen K) (tCons (tVar 0) tNil)))) (tTest (tOp (rI0 fun i j => .bl (decide (j < i))) (tCB (rLen K) (tCons (tLc (iList K (tVar 3)) (gName 6) (tTest (tOp (rI0 fun i j => .bl (decide (i < j))) (tVar 6) (tC (.int 0)))) (tVar 6) [6]) tNil)) (tC (.int 0)))))
      (tRet (tTup (tCons (tC (.str "counts")) tNil)))
      tNext)
    (tSeq (tIfS (tTest (tOp (rI0 fun i j => .bl (decide (i < j))) (tCB (rSum K) (tCons (tLc (iRng1 (tCons (tCB (rLen K) (tCons (tVar 0) tNil)) tNil)) (gName 7) tYes (tOp (rI CMul fun i j => .int (i * j)) (tOp (rIxA K) (tVar 3) (tVar 7)) (tOp (rIxA K) (tOp (rIxA K) (tVar 0) (tVar 7)) (tC (.int 0)))) [7]) tNil)) (tVar 1)))
      (tRet (tTup (tCons (tC (.str "few")) tNil)))
      tNext)
    (tSeq (tIfS (tTest (tOp (rNeP K) (tCB (rSum K) (tCons (tLc (iRng1 (tCons (tCB (rLen K) (tCons (tVar 0) tNil)) tNil)) (gName 7) tYes (tOp (rI CMul fun i j => .int (i * j)) (tOp (rIxA K) (tVar 3) (tVar 7)) (tOp (rIxA K) (tOp (rIxA K) (tVar 0) (tVar 7)) (tC (.int 1)))) [7]) tNil)) (tVar 4)))
      (tRet (tTup (tCons (tC (.str "cost")) tNil)))
      tNext)
    (tSeq (tIfS (tOr (tTest (tOp (rNeP K) (tCB (rLen K) (tCons (tVar 5) tNil)) (tOp (rPlus K) (tVar 1) (tC (.int 1))))) (tTest (tOp (rI0 fun i j => .bl (decide (j < i))) (tOp (rIxA K) (tVar 5) (tC (.int 0))) (tC (.int 0)))))
      (tRet (tTup (tCons (tC (.str "prices")) tNil)))
      tNext)
    (tSeq (tFor (iRng2 (tCons (tC (.int 1)) (tCons (tOp (rPlus K) (tVar 1) (tC (.int 1))) tNil))) (gName 8)
      (tFor (iRng1 (tCons (tCB (rLen K) (tCons (tVar 0) tNil)) tNil)) (gName 7)
      (tIfS (tTest (tOp (rI0 fun i j => .bl (decide (j < i))) (tOp (rIxA K) (tVar 5) (tVar 8)) (tOp (rPlus K) (tOp (rIxA K) (tVar 5) (tCB (rMx2) (tCons (tC (.int 0)) (tCons (tOp (rI0 fun i j => .int (i - j)) (tVar 8) (tOp (rIxA K) (tOp (rIxA K) (tVar 0) (tVar 7)) (tC (.int 0)))) tNil)))) (tOp (rIxA K) (tOp (rIxA K) (tVar 0) (tVar 7)) (tC (.int 1))))))
      (tRet (tTup (tCons (tC (.str "price")) (tCons (tVar 8) (tCons (tVar 7) tNil)))))
      tNext)))
    (tRet (tIf (tTest (tOp (rI0 fun i j => .bl (decide (j ≤ i))) (tOp (rIxA K) (tVar 5) (tUn (rU fun i => .int (-i)) (tC (.int 1)))) (tVar 4))) (tC .non) (tTup (tCons (tC (.str "last")) tNil))))))))))
/-- _law_orders: slots many 0, found 1, turn 2, more 3, row 4, one 5; own: more -/
abbrev N_l_orders : List Str := ["many", "found", "turn", "more", "row", "one"]
def T_l_orders (K : PySem.W.Frag) : TS :=
    (tSeq (tAsg (tLst (tCons (tLst tNil) tNil)) (gName 1))
    (tSeq (tFor (iRng1 (tCons (tVar 0) tNil)) (gName 2)
      (tSeq (tAsg (tLst tNil) (gName 3))
    (tSeq (tFor (iList K (tVar 1)) (gName 4)
      (tDrop (tBM K "list" rExtR (tVar 3) (tCons (tLc (iRng1 (tCons (tVar 0) tNil)) (gName 5) (tTest (tOp (rNinP K) (tVar 5) (tVar 4))) (tOp (rPlus K) (tVar 4) (tLst (tCons (tVar 5) tNil))) [5]) tNil))))
    (tAsg (tVar 3) (gName 1)))))
    (tRet (tVar 1))))
/-- _law_shares_right: slots state 0, cents 1, weights 2, k 3, whole 4, parts 5, one 6, rests 7; own: parts -/
abbrev N_l_shares_right : List Str := ["state", "cents", "weights", "k", "whole", "parts", "one", "rests"]
def T_l_shares_right (K : PySem.W.Frag) (R_l_take : Stt → List D → (D → Stt → Prop) → Prop) (R_shared : List D → (D → Prop) → Prop) (R_shared_fault : List D → (D → Prop) → Prop) : TS :=
    (tSeq (tAsg (tCall (spS R_l_take) [] E0 (tCons (tVar 0) (tCons (tC (.int 500)) tNil))) (gName 1))
    (tSeq (tAsg (tLc (iRng1 (tCons (tCall (spS R_l_take) [] E0 (tCons (tVar 0) (tCons (tC (.int 6)) tNil))) tNil)) (gName 3) tYes (tCall (spS R_l_take) [] E0 (tCons (tVar 0) (tCons (tOp (rIxA K) (tLst (tCons (tC (.int 2)) (tCons (tC (.int 30)) tNil))) (tCall (spS R_l_take) [] E0 (tCons (tVar 0) (tCons (tC (.int 2)) tNil)))) tNil))) [3]) (gName 2))
    (tSeq (tAsg (tCB (rSum K) (tCons (tVar 2) tNil)) (gName 4))
    (tSeq (tAsg (tLc (iList K (tVar 2)) (gName 6) tYes (tIf (tTest (tOp (rEqP K) (tVar 4) (tC (.int 0)))) (tC (.int 0)) (tOp (rI CDiv fun i j => .int (i / j)) (tOp (rI CMul fun i j => .int (i * j)) (tVar 1) (tVar 6)) (tVar 4))) [6]) (gName 5))
    (tSeq (tWhile (tAnd (tTest (tOp (rI0 fun i j => .bl (decide (j < i))) (tVar 4) (tC (.int 0)))) (tTest (tOp (rI0 fun i j => .bl (decide (i < j))) (tCB (rSum K) (tCons (tVar 5) tNil)) (tVar 1))))
      (tSeq (tAsg (tLc (iRng1 (tCons (tCB (rLen K) (tCons (tVar 2) tNil)) tNil)) (gName 3) tYes (tTup (tCons (tOp (rI0 fun i j => .int (i - j)) (tOp (rI CMul fun i j => .int (i * j)) (tOp (rIxA K) (tVar 5) (tVar 3)) (tVar 4)) (tOp (rI CMul fun i j => .int (i * j)) (tVar 1) (tOp (rIxA K) (tVar 2) (tVar 3)))) (tCons (tVar 3) tNil))) [3]) (gName 7))
    (tAsg (tOp (rPlus K) (tOp (rIxA K) (tVar 5) (tOp (rIxA K) (tCB (rMnD K) (tCons (tVar 7) tNil)) (tC (.int 1)))) (tC (.int 1))) (gSub (tVar 5) (tOp (rIxA K) (tCB (rMnD K) (tCons (tVar 7) tNil)) (tC (.int 1))) rSetL))))
    (tRet (tAndV (tOp (rEqP K) (tCall (spP R_shared) [] E0 (tCons (tVar 1) (tCons (tVar 2) tNil))) (tVar 5)) (tAndV (tOp (rIs) (tCall (spP R_shared_fault) [] E0 (tCons (tVar 1) (tCons (tVar 2) (tCons (tVar 5) tNil)))) (tC .non)) (tOp (rEqP K) (tCall (spP R_shared_fault) [] E0 (tCons (tVar 1) (tCons (tVar 2) (tCons (tOp (rPlus K) (tVar 5) (tLst (tCons (tC (.int 0)) tNil))) tNil)))) (tTup (tCons (tC (.str "form")) tNil)))))))))))
/-- law: slots script 0, state 1, packs 2, many 3, kept 4, told 5, costs 6, need 7, steps 8, k 9, dearer 10, needs 11, whole 12, orders 13, sums 14, order 15, place 16, ahead 17, paid 18, turn 19, counts 20, cost 21, prices 22, kind 23, at 24, other 25; own: counts, prices, sums -/
abbrev N_law : List Str := ["script", "state", "packs", "many", "kept", "told", "costs", "need", "steps", "k", "dearer", "needs", "whole", "orders", "sums", "order", "place", "ahead", "paid", "turn", "counts", "cost", "prices", "kind", "at", "other"]
def T_law (K : PySem.W.Frag) (R_l_state : List D → (Stt → Prop) → Prop) (R_cheapest : List D → (D → Prop) → Prop) (R_l_least : List D → (D → Prop) → Prop) (R_l_orders : List D → (D → Prop) → Prop) (R_l_packs : Stt → List D → (D → Stt → Prop) → Prop) (R_l_take : Stt → List D → (D → Stt → Prop) → Prop) (R_worth_alone : List D → (D → Prop) → Prop) (R_l_fault : List D → (D → Prop) → Prop) (R_cheapest_fault : List D → (D → Prop) → Prop) (R_one_more : List D → (D → Prop) → Prop) (R_steady : List D → (D → Prop) → Prop) (R_fair_parts : List D → (D → Prop) → Prop) (R_refunds : List D → (D → Prop) → Prop) (R_l_shares_right : Stt → List D → (D → Stt → Prop) → Prop) : TS :=
    (tSeq (tAsg (tCall (spN R_l_state) [] E0 (tCons (tVar 0) tNil)) (gName 1))
    (tSeq (tAsg (tTup (tCons (tCall (spS R_l_packs) [] E0 (tCons (tVar 1) tNil)) (tCons (tCall (spS R_l_take) [] E0 (tCons (tVar 1) (tCons (tC (.int 13)) tNil))) tNil))) (gTup K 2 (gCons (gName 2) (gCons (gName 3) gNil))))
    (tSeq (tAsg (tCB (rList K) (tCons (tVar 2) tNil)) (gName 4))
    (tSeq (tAsg (tCall (spP R_cheapest) [] E0 (tCons (tVar 2) (tCons (tVar 3) tNil))) (gName 5))
    (tSeq (tAsg (tLc (iRng1 (tCons (tOp (rPlus K) (tVar 3) (tC (.int 1))) tNil)) (gName 7) tYes (tCall (spP R_l_least) [] E0 (tCons (tVar 2) (tCons (tVar 7) tNil))) [7]) (gName 6))
    (tSeq (tIfS (tOr (tNot (tB (tCB RZ.rIsTy (tCons (tVar 5) (tCons (tC (.ty "tuple")) tNil))))) (tOr (tTest (tOp (rNeP K) (tOp (rIxA K) (tVar 5) (tC (.int 1))) (tOp (rIxA K) (tVar 6) (tUn (rU fun i => .int (-i)) (tC (.int 1)))))) (tOr (tTest (tOp (rIsnt) (tCall (spP R_l_fault) [] E0 (tCons (tVar 2) (tCons (tVar 3) (tCons (tVar 5) tNil)))) (tC .non))) (tTest (tOp (rIsnt) (tCall (spP R_cheapest_fault) [] E0 (tCons (tVar 2) (tCons (tVar 3) (tCons (tVar 5) tNil)))) (tC .non))))))
      (tRet (tC (.bl false)))
      tNext)
    (tSeq (tAsg (tLc (iRng1 (tCons (tVar 3) tNil)) (gName 9) tYes (tOp (rI0 fun i j => .int (i - j)) (tOp (rIxA K) (tVar 6) (tOp (rPlus K) (tVar 9) (tC (.int 1)))) (tOp (rIxA K) (tVar 6) (tVar 9))) [9]) (gName 8))
    (tSeq (tAsg (tLc (iRng2 (tCons (tC (.int 1)) (tCons (tVar 3) tNil))) (gName 9) (tTest (tOp (rI0 fun i j => .bl (decide (j < i))) (tOp (rIxA K) (tVar 8) (tVar 9)) (tOp (rIxA K) (tVar 8) (tOp (rI0 fun i j => .int (i - j)) (tVar 9) (tC (.int 1)))))) (tVar 9) [9]) (gName 10))
    (tSeq (tIfS (tOr (tTest (tOp (rNeP K) (tCall (spP R_one_more) [] E0 (tCons (tVar 2) (tCons (tVar 3) tNil))) (tVar 8))) (tTest (tOp (rNeP K) (tCall (spP R_steady) [] E0 (tCons (tVar 2) (tCons (tVar 3) tNil))) (tIf (tTest (tOp (rI0 fun i j => .bl (decide (j < i))) (tCB (rLen K) (tCons (tVar 10) tNil)) (tC (.int 0)))) (tOp (rIxA K) (tVar 10) (tC (.int 0))) (tC .non)))))
      (tRet (tC (.bl false)))
      tNext)
    (tSeq (tAsg (tLc (iRng1 (tCons (tCall (spS R_l_take) [] E0 (tCons (tVar 1) (tCons (tC (.int 4)) tNil))) tNil)) (gName 9) tYes (tCall (spS R_l_take) [] E0 (tCons (tVar 1) (tCons (tC (.int 4)) tNil))) [9]) (gName 11))
    (tSeq (tAsg (tCall (spP R_l_least) [] E0 (tCons (tVar 2) (tCons (tCB (rSum K) (tCons (tVar 11) tNil)) tNil))) (gName 12))
    (tSeq (tIfS (tTest (tOp (rNeP K) (tCall (spP R_worth_alone) [] E0 (tCons (tVar 2) (tCons (tVar 11) tNil))) (tTup (tCons (tLc (iList K (tVar 11)) (gName 7) tYes (tCall (spP R_l_least) [] E0 (tCons (tVar 2) (tCons (tVar 7) tNil))) [7]) (tCons (tVar 12) tNil)))))
      (tRet (tC (.bl false)))
      tNext)
    (tSeq (tAsg (tCall (spP R_l_orders) [] E0 (tCons (tCB (rLen K) (tCons (tVar 11) tNil)) tNil)) (gName 13))
    (tSeq (tAsg (tLc (iList K (tVar 11)) (gName 7) tYes (tC (.int 0)) [7]) (gName 14))
    (tSeq (tFor (iList K (tVar 13)) (gName 15)
      (tFor (iRng1 (tCons (tCB (rLen K) (tCons (tVar 15) tNil)) tNil)) (gName 16)
      (tSeq (tAsg (tCB (rSum K) (tCons (tLc (iList K (tSl (rSl K) (tVar 15) tNoPart (tPart (tVar 16)))) (gName 9) tYes (tOp (rIxA K) (tVar 11) (tVar 9)) [9]) tNil)) (gName 17))
    (tAsg (tOp (rI0 fun i j => .int (i - j)) (tOp (rPlus K) (tOp (rIxA K) (tVar 14) (tOp (rIxA K) (tVar 15) (tVar 16))) (tCall (spP R_l_least) [] E0 (tCons (tVar 2) (tCons (tOp (rPlus K) (tVar 17) (tOp (rIxA K) (tVar 11) (tOp (rIxA K) (tVar 15) (tVar 16)))) tNil)))) (tCall (spP R_l_least) [] E0 (tCons (tVar 2) (tCons (tVar 17) tNil)))) (gSub (tVar 14) (tOp (rIxA K) (tVar 15) (tVar 16)) rSetL)))))
    (tSeq (tIfS (tOr (tTest (tOp (rNeP K) (tCall (spP R_fair_parts) [] E0 (tCons (tVar 2) (tCons (tVar 11) tNil))) (tTup (tCons (tVar 14) (tCons (tCB (rLen K) (tCons (tVar 13) tNil)) tNil))))) (tTest (tOp (rNeP K) (tCB (rSum K) (tCons (tVar 14) tNil)) (tOp (rI CMul fun i j => .int (i * j)) (tVar 12) (tCB (rLen K) (tCons (tVar 13) tNil))))))
      (tRet (tC (.bl false)))
      tNext)
    (tSeq (tAsg (tLc (iList K (tVar 11)) (gName 7) tYes (tCall (spS R_l_take) [] E0 (tCons (tVar 1) (tCons (tC (.int 50)) tNil))) [7]) (gName 18))
    (tSeq (tIfS (tOr (tTest (tOp (rNeP K) (tCall (spP R_refunds) [] E0 (tCons (tVar 18) (tCons (tVar 14) tNil))) (tTup (tCons (tLc (iRng1 (tCons (tCB (rLen K) (tCons (tVar 18) tNil)) tNil)) (gName 9) tYes (tOp (rI0 fun i j => .int (i - j)) (tOp (rIxA K) (tVar 18) (tVar 9)) (tOp (rIxA K) (tVar 14) (tVar 9))) [9]) (tCons (tOp (rI0 fun i j => .int (i - j)) (tCB (rSum K) (tCons (tVar 18) tNil)) (tCB (rSum K) (tCons (tVar 14) tNil))) tNil))))) (tNot (tB (tCall (spS R_l_shares_right) [] E0 (tCons (tVar 1) tNil)))))
      (tRet (tC (.bl false)))
      tNext)
    (tSeq (tFor (iRng1 (tCons (tC (.int 7)) tNil)) (gName 19)
      (tSeq (tAsg (tTup (tCons (tCB (rList K) (tCons (tOp (rIxA K) (tVar 5) (tC (.int 0))) tNil)) (tCons (tOp (rIxA K) (tVar 5) (tC (.int 1))) (tCons (tCB (rList K) (tCons (tOp (rIxA K) (tVar 5) (tC (.int 2))) tNil)) tNil)))) (gTup K 3 (gCons (gName 20) (gCons (gName 21) (gCons (gName 22) gNil)))))
    (tSeq (tAsg (tCall (spS R_l_take) [] E0 (tCons (tVar 1) (tCons (tC (.int 5)) tNil))) (gName 23))
    (tSeq (tIfS (tTest (tOp (rEqP K) (tVar 23) (tC (.int 0))))
      (tSeq (tAsg (tCall (spS R_l_take) [] E0 (tCons (tVar 1) (tCons (tCB (rLen K) (tCons (tVar 20) tNil)) tNil))) (gName 24))
    (tSeq (tAsg (tOp (rPlus K) (tOp (rIxA K) (tVar 20) (tVar 24)) (tOp (rIxA K) (tLst (tCons (tC (.int 1)) (tCons (tOp (rI0 fun i j => .int (i - j)) (tC (.int 0)) (tC (.int 1))) tNil))) (tCall (spS R_l_take) [] E0 (tCons (tVar 1) (tCons (tC (.int 2)) tNil))))) (gSub (tVar 20) (tVar 24) rSetL))
    (tAsg (tCB (rSum K) (tCons (tLc (iRng1 (tCons (tCB (rLen K) (tCons (tVar 2) tNil)) tNil)) (gName 9) tYes (tOp (rI CMul fun i j => .int (i * j)) (tOp (rIxA K) (tVar 20) (tVar 9)) (tOp (rIxA K) (tOp (rIxA K) (tVar 2) (tVar 9)) (tC (.int 1)))) [9]) tNil)) (gName 21))))
      (tIfS (tTest (tOp (rEqP K) (tVar 23) (tC (.int 1))))
      (tAsg (tOp (rPlus K) (tVar 21) (tOp (rIxA K) (tLst (tCons (tC (.int 1)) (tCons (tOp (rI0 fun i j => .int (i - j)) (tC (.int 0)) (tC (.int 1))) tNil))) (tCall (spS R_l_take) [] E0 (tCons (tVar 1) (tCons (tC (.int 2)) tNil))))) (gName 21))
      (tIfS (tTest (tOp (rI0 fun i j => .bl (decide (i < j))) (tVar 23) (tC (.int 4))))
      (tAsg (tOp (rI0 fun i j => .int (i - j)) (tCall (spS R_l_take) [] E0 (tCons (tVar 1) (tCons (tC (.int 40)) tNil))) (tC (.int 3))) (gSub (tVar 22) (tCall (spS R_l_take) [] E0 (tCons (tVar 1) (tCons (tCB (rLen K) (tCons (tVar 22) tNil)) tNil))) rSetL))
      (tAsg (tSl (rSl K) (tVar 22) (tPart (tC (.int 1))) tNoPart) (gName 22)))))
    (tSeq (tAsg (tTup (tCons (tVar 20) (tCons (tVar 21) (tCons (tVar 22) tNil)))) (gName 25))
    (tIfS (tTest (tOp (rNeP K) (tCall (spP R_cheapest_fault) [] E0 (tCons (tVar 2) (tCons (tVar 3) (tCons (tVar 25) tNil)))) (tCall (spP R_l_fault) [] E0 (tCons (tVar 2) (tCons (tVar 3) (tCons (tVar 25) tNil))))))
      (tRet (tC (.bl false)))
      tNext))))))
    (tRet (tOp (rEqP K) (tVar 2) (tVar 4))))))))))))))))))))))
end Law_k75
/-! k75: the prices, by plain functions -/
namespace Law_k75
open Pu
theorem minPs_min {ps : List (Int × Int)} {x : Int × Int} (hx : x ∈ ps) : ltP x (minPs ps) = false := by
  have gen : ∀ (qs : List (Int × Int)) (a : Int × Int), (ltP a (qs.foldl (fun a y => if ltP y a = true then y else a) a) = false) ∧ ∀ x ∈ qs, ltP x (qs.foldl (fun a y => if ltP y a = true then y else a) a) = false := by
    intro qs
    induction qs with
    | nil => intro a; exact ⟨by simp [ltP], fun x h => by cases h⟩
    | cons q qs ih =>
      intro a
      rw [List.foldl_cons]
      obtain ⟨h1, h2⟩ := ih (if ltP q a = true then q else a)
      generalize qs.foldl (fun a y => if ltP y a = true then y else a) (if ltP q a = true then q else a) = z at h1 h2 ⊢
      have both : ltP a z = false ∧ ltP q z = false := by
        by_cases c : ltP q a = true
        · rw [if_pos c] at h1
          refine ⟨?_, h1⟩
          simp only [ltP, decide_eq_true_eq, decide_eq_false_iff_not] at c h1 ⊢
          omega
        · rw [if_neg c] at h1
          refine ⟨h1, ?_⟩
          simp only [ltP, decide_eq_true_eq, decide_eq_false_iff_not] at c h1 ⊢
          omega
      refine ⟨both.1, fun x hx => ?_⟩
      rcases List.mem_cons.mp hx with rfl | hx
      · exact both.2
      · exact h2 x hx
  cases ps with
  | nil => cases hx
  | cons p ps =>
    show ltP x (ps.foldl (fun a y => if ltP y a = true then y else a) p) = false
    rcases List.mem_cons.mp hx with rfl | hx
    · exact (gen ps _).1
    · exact (gen ps p).2 x hx
def backN (m : Nat) (s : Int) : Nat := (max 0 ((m : Int) - s)).toNat
def rowP (T : List Int) (m : Nat) (q : (Int × Int) × Nat) : Int × Int := (T.getD (backN m q.1.1) 0 + q.1.2, (q.2 : Int))
def rowsP (ps : List (Int × Int)) (T : List Int) (m : Nat) : List (Int × Int) := ps.zipIdx.map (rowP T m)
def tabF (ps : List (Int × Int)) : Nat → List Int
  | 0 => [0]
  | n + 1 => tabF ps n ++ [(minPs (rowsP ps (tabF ps n) (n + 1))).1]
def cameF (ps : List (Int × Int)) : Nat → List Int
  | 0 => []
  | n + 1 => cameF ps n ++ [(minPs (rowsP ps (tabF ps n) (n + 1))).2]
def pr (ps : List (Int × Int)) (n : Nat) : Int := (tabF ps n).getD n 0
theorem tab_len (ps : List (Int × Int)) : ∀ n, (tabF ps n).length = n + 1
  | 0 => rfl
  | n + 1 => by rw [tabF, List.length_append, tab_len ps n]; rfl
theorem came_len (ps : List (Int × Int)) : ∀ n, (cameF ps n).length = n
  | 0 => rfl
  | n + 1 => by rw [cameF, List.length_append, came_len ps n]; rfl
theorem tab_get (ps : List (Int × Int)) {j : Nat} : ∀ {n : Nat}, j ≤ n → (tabF ps n).getD j 0 = pr ps j
  | 0, h => by
    have : j = 0 := by omega
    subst this
    rfl
  | n + 1, h => by
    rcases (show j = n + 1 ∨ j ≤ n by omega) with rfl | q
    · rfl
    · rw [← tab_get ps q, tabF, List.getD_eq_getElem?_getD, List.getElem?_append_left (by rw [tab_len]; omega), ← List.getD_eq_getElem?_getD]
theorem pr_last (ps : List (Int × Int)) (n : Nat) : tabF ps (n + 1) = tabF ps n ++ [pr ps (n + 1)] := by
  have e : pr ps (n + 1) = (minPs (rowsP ps (tabF ps n) (n + 1))).1 := by
    unfold pr
    rw [tabF, List.getD_eq_getElem?_getD, List.getElem?_append_right (by rw [tab_len]; omega), tab_len]
    simp
  rw [e, tabF]
theorem pr_zero (ps : List (Int × Int)) : pr ps 0 = 0 := rfl
theorem pr_min (ps : List (Int × Int)) (n : Nat) : pr ps (n + 1) = (minPs (rowsP ps (tabF ps n) (n + 1))).1 := by
  have e := pr_last ps n
  rw [tabF] at e
  have := List.append_cancel_left e
  simpa using this.symm
def Pk (ps : List (Int × Int)) : Prop := (1 ≤ ps.length ∧ ps.length ≤ 4) ∧ ∀ q ∈ ps, (1 ≤ q.1 ∧ q.1 ≤ 6) ∧ 0 ≤ q.2 ∧ q.2 ≤ 29
theorem back_le {m : Nat} {s : Int} (hs : 1 ≤ s) : backN (m + 1) s ≤ m := by unfold backN; omega
theorem Pk.at_ {ps : List (Int × Int)} (h : Pk ps) {k : Nat} (hk : k < ps.length) : (1 ≤ (ps.getD k (0, 0)).1 ∧ (ps.getD k (0, 0)).1 ≤ 6) ∧ 0 ≤ (ps.getD k (0, 0)).2 ∧ (ps.getD k (0, 0)).2 ≤ 29 := h.2 _ (mem_D hk)
theorem row_mem {ps : List (Int × Int)} (h : Pk ps) {n k : Nat} (hk : k < ps.length) : (pr ps (backN (n + 1) (ps.getD k (0, 0)).1) + (ps.getD k (0, 0)).2, (k : Int)) ∈ rowsP ps (tabF ps n) (n + 1) := by
  refine List.mem_map.mpr ⟨(ps.getD k (0, 0), k), ?_, ?_⟩
  · rw [List.mem_iff_getElem?]
    exact ⟨k, by rw [List.getElem?_zipIdx, get_D (a := (0, 0)) hk]; simp⟩
  · unfold rowP
    simp only
    rw [tab_get ps (back_le (h.at_ hk).1.1)]
theorem row_of {ps : List (Int × Int)} (h : Pk ps) {n : Nat} {x : Int × Int} (hx : x ∈ rowsP ps (tabF ps n) (n + 1)) : ∃ k : Nat, k < ps.length ∧ x = (pr ps (backN (n + 1) (ps.getD k (0, 0)).1) + (ps.getD k (0, 0)).2, (k : Int)) := by
  obtain ⟨q, hq, rfl⟩ := List.mem_map.mp hx
  obtain ⟨k, hk⟩ := List.mem_iff_getElem?.mp hq
  rw [List.getElem?_zipIdx] at hk
  have kl : k < ps.length := by
    rcases Nat.lt_or_ge k ps.length with z | z
    · exact z
    · rw [List.getElem?_eq_none z] at hk; cases hk
  rw [get_D (a := (0, 0)) kl] at hk
  have hk : (ps.getD k (0, 0), 0 + k) = q := Option.some.inj hk
  subst hk
  rw [Nat.zero_add]
  refine ⟨k, kl, ?_⟩
  unfold rowP
  simp only
  rw [tab_get ps (back_le (h.at_ kl).1.1)]
theorem rows_len (ps : List (Int × Int)) (T : List Int) (m : Nat) : (rowsP ps T m).length = ps.length := by unfold rowsP; rw [List.length_map, List.length_zipIdx]
theorem pr_le {ps : List (Int × Int)} (h : Pk ps) {n k : Nat} (hk : k < ps.length) : pr ps (n + 1) ≤ pr ps (backN (n + 1) (ps.getD k (0, 0)).1) + (ps.getD k (0, 0)).2 := by
  have := minPs_min (row_mem h (n := n) hk)
  rw [pr_min]
  simp only [ltP, decide_eq_false_iff_not] at this
  omega
theorem pr_eq {ps : List (Int × Int)} (h : Pk ps) (n : Nat) : ∃ k : Nat, k < ps.length ∧ (minPs (rowsP ps (tabF ps n) (n + 1))).2 = (k : Int) ∧ pr ps (n + 1) = pr ps (backN (n + 1) (ps.getD k (0, 0)).1) + (ps.getD k (0, 0)).2 := by
  have hm := minPs_mem (ps := rowsP ps (tabF ps n) (n + 1)) (by rw [rows_len]; exact h.1.1)
  obtain ⟨k, hk, e⟩ := row_of h hm
  refine ⟨k, hk, by rw [e], by rw [pr_min, e]⟩
def dot (f : Int × Int → Int) (cs : List Int) (ps : List (Int × Int)) : Int := (List.zipWith (fun c q => c * f q) cs ps).sum
theorem dot_cons (f : Int × Int → Int) (c : Int) (cs : List Int) (q : Int × Int) (ps : List (Int × Int)) : dot f (c :: cs) (q :: ps) = c * f q + dot f cs ps := by simp [dot]
theorem dot_set (f : Int × Int → Int) (d : Int) : ∀ (cs : List Int) (ps : List (Int × Int)) (k : Nat), k < cs.length → k < ps.length → dot f (cs.set k (cs.getD k 0 + d)) ps = dot f cs ps + d * f (ps.getD k (0, 0))
  | c :: cs, q :: ps, 0, _, _ => by
    show dot f ((c + d) :: cs) (q :: ps) = dot f (c :: cs) (q :: ps) + d * f q
    rw [dot_cons, dot_cons, Int.add_mul]
    omega
  | c :: cs, q :: ps, k + 1, h1, h2 => by
    show dot f (c :: cs.set k (cs.getD k 0 + d)) (q :: ps) = dot f (c :: cs) (q :: ps) + d * f (ps.getD k (0, 0))
    rw [dot_cons, dot_cons, dot_set f d cs ps k (by simpa using h1) (by simpa using h2)]
    omega
  | [], _, _, h1, _ => by simp at h1
  | _ :: _, [], _, _, h2 => by simp at h2
theorem dot_zero (f : Int × Int → Int) : ∀ (cs : List Int) (ps : List (Int × Int)), (∀ c ∈ cs, c = 0) → dot f cs ps = 0
  | [], _, _ => rfl
  | _ :: _, [], _ => rfl
  | c :: cs, q :: ps, h => by rw [dot_cons, h c (by simp), dot_zero f cs ps fun x hx => h x (by simp [hx])]; omega
theorem dot_nonneg (f : Int × Int → Int) : ∀ (cs : List Int) (ps : List (Int × Int)), (∀ c ∈ cs, 0 ≤ c) → (∀ q ∈ ps, 0 ≤ f q) → 0 ≤ dot f cs ps
  | [], _, _, _ => Int.le_refl _
  | _ :: _, [], _, _ => Int.le_refl _
  | c :: cs, q :: ps, h, g => by
    rw [dot_cons]
    have h1 := Int.mul_nonneg (h c (by simp)) (g q (by simp))
    have h2 := dot_nonneg f cs ps (fun x hx => h x (by simp [hx])) fun x hx => g x (by simp [hx])
    omega
theorem sum_set (d : Int) : ∀ (cs : List Int) (k : Nat), k < cs.length → (cs.set k (cs.getD k 0 + d)).sum = cs.sum + d
  | c :: cs, 0, _ => by
    show ((c + d) :: cs).sum = (c :: cs).sum + d
    rw [List.sum_cons, List.sum_cons]; omega
  | c :: cs, k + 1, h => by
    show (c :: cs.set k (cs.getD k 0 + d)).sum = (c :: cs).sum + d
    rw [List.sum_cons, List.sum_cons, sum_set d cs k (by simpa using h)]; omega
  | [], _, h => by simp at h
theorem sum_nn : ∀ {cs : List Int}, (∀ c ∈ cs, 0 ≤ c) → 0 ≤ cs.sum
  | [], _ => Int.le_refl _
  | c :: cs, h => by
    have h1 := h c (by simp)
    have h2 := sum_nn (cs := cs) fun x hx => h x (by simp [hx])
    rw [List.sum_cons]; omega
/-- no counts for so many cost less -/
theorem dot_ge {ps : List (Int × Int)} (h : Pk ps) : ∀ (N : Nat) (cs : List Int) (m : Nat), cs.length = ps.length → (∀ c ∈ cs, 0 ≤ c) → cs.sum ≤ (N : Int) → (m : Int) ≤ dot Prod.fst cs ps → pr ps m ≤ dot Prod.snd cs ps
  | _, cs, 0, _, h1, _, _ => by rw [pr_zero]; exact dot_nonneg _ cs ps h1 fun q hq => (h.2 q hq).2.1
  | N, cs, n + 1, hl, h1, h2, h3 => by
    by_cases ex : ∃ k, k < cs.length ∧ 0 < cs.getD k 0
    · obtain ⟨k, hk, hc⟩ := ex
      have hk' : k < ps.length := by omega
      have s1 := sum_set (-1) cs k hk
      have d1 := dot_set Prod.fst (-1) cs ps k hk hk'
      have d2 := dot_set Prod.snd (-1) cs ps k hk hk'
      have mem : cs.getD k 0 ∈ cs := mem_D hk
      have pos : ∀ c ∈ cs.set k (cs.getD k 0 + -1), 0 ≤ c := fun c hc' => by
        rcases List.mem_or_eq_of_mem_set hc' with q | q
        · exact h1 c q
        · omega
      have nn := sum_nn pos
      cases N with
      | zero => omega
      | succ N =>
        have pk := h.at_ hk'
        have dn := dot_nonneg Prod.fst _ ps pos fun q hq => by have := (h.2 q hq).1.1; omega
        have ih := dot_ge h N (cs.set k (cs.getD k 0 + -1)) (backN (n + 1) (ps.getD k (0, 0)).1) (by rw [List.length_set]; exact hl) pos (by omega) (by unfold backN; omega)
        have le := pr_le h (n := n) hk'
        omega
    · exfalso
      have z : ∀ c ∈ cs, c = 0 := fun c hc => by
        obtain ⟨k, hk, e⟩ := List.getElem_of_mem hc
        have a := h1 c hc
        have b : ¬ 0 < cs.getD k 0 := fun q => ex ⟨k, hk, q⟩
        rw [List.getD_eq_getElem?_getD, List.getElem?_eq_getElem hk, e] at b
        simp at b
        omega
      rw [dot_zero _ cs ps z] at h3
      omega
/-- counts with the price -/
theorem best_cs {ps : List (Int × Int)} (h : Pk ps) : ∀ (N m : Nat), m ≤ N → ∃ cs : List Int, cs.length = ps.length ∧ (∀ k, k < ps.length → 0 ≤ cs.getD k 0 ∧ cs.getD k 0 * (ps.getD k (0, 0)).1 < (m : Int) + (ps.getD k (0, 0)).1) ∧ (m : Int) ≤ dot Prod.fst cs ps ∧ dot Prod.snd cs ps = pr ps m
  | _, 0, _ => by
    refine ⟨List.replicate ps.length 0, List.length_replicate, fun k hk => ?_, ?_, ?_⟩
    · have := h.at_ hk
      have e : (List.replicate ps.length (0 : Int)).getD k 0 = 0 := by rw [List.getD_eq_getElem?_getD, List.getElem?_replicate, if_pos hk]; rfl
      rw [e, Int.zero_mul]
      omega
    · rw [dot_zero _ _ _ fun c hc => (List.mem_replicate.mp hc).2]; simp
    · rw [dot_zero _ _ _ fun c hc => (List.mem_replicate.mp hc).2]; rfl
  | 0, n + 1, hn => by omega
  | N + 1, n + 1, hn => by
    obtain ⟨k, hk, -, e⟩ := pr_eq h n
    have pk := h.at_ hk
    have bl : backN (n + 1) (ps.getD k (0, 0)).1 ≤ n := back_le pk.1.1
    obtain ⟨cs, hl, hb, h1, h2⟩ := best_cs h N (backN (n + 1) (ps.getD k (0, 0)).1) (by omega)
    have hk' : k < cs.length := by omega
    have d1 := dot_set Prod.fst 1 cs ps k hk' hk
    have d2 := dot_set Prod.snd 1 cs ps k hk' hk
    refine ⟨cs.set k (cs.getD k 0 + 1), by rw [List.length_set]; exact hl, fun j hj => ?_, by unfold backN at h1; omega, by omega⟩
    have b := hb j hj
    have pj := h.at_ hj
    by_cases q : j = k
    · subst q
      rw [List.getD_eq_getElem?_getD, List.getElem?_set_self (by omega)]
      show 0 ≤ cs.getD j 0 + 1 ∧ (cs.getD j 0 + 1) * (ps.getD j (0, 0)).1 < ((n + 1 : Nat) : Int) + (ps.getD j (0, 0)).1
      refine ⟨by omega, ?_⟩
      rw [Int.add_mul]
      unfold backN at b
      have b1 := b.1
      generalize cs.getD j 0 = c at b b1 ⊢
      generalize (ps.getD j (0, 0)).1 = s at b pk ⊢
      rcases (show c = 0 ∨ 1 ≤ c by omega) with rfl | q
      · rw [Int.zero_mul] at b ⊢; omega
      · have : 1 * s ≤ c * s := Int.mul_le_mul_of_nonneg_right q (by omega)
        omega
    · rw [List.getD_eq_getElem?_getD, List.getElem?_set_ne (Ne.symm q), ← List.getD_eq_getElem?_getD]
      refine ⟨b.1, ?_⟩
      omega
/-- all costs by all counts -/
def stepC (m : Nat) (q : Int × Int) (r : Int × Int) : List (Int × Int) := (rngI 0 ((m : Int) / q.1 + 2).toNat).map fun k => (r.1 + k * q.1, r.2 + k * q.2)
def combF (m : Nat) (ps : List (Int × Int)) (R : List (Int × Int)) : List (Int × Int) := ps.foldl (fun rows q => rows.flatMap (stepC m q)) R
def okC (m : Nat) (ps : List (Int × Int)) (cs : List Int) : Prop := cs.length = ps.length ∧ ∀ k, k < ps.length → 0 ≤ cs.getD k 0 ∧ cs.getD k 0 < (m : Int) / (ps.getD k (0, 0)).1 + 2
theorem comb_mem (m : Nat) : ∀ (ps R : List (Int × Int)) (x : Int × Int), x ∈ combF m ps R ↔ ∃ r ∈ R, ∃ cs, okC m ps cs ∧ x = (r.1 + dot Prod.fst cs ps, r.2 + dot Prod.snd cs ps)
  | [], R, x => by
    show x ∈ R ↔ _
    constructor
    · intro h
      exact ⟨x, h, [], ⟨rfl, fun k hk => by simp at hk⟩, by simp [dot]⟩
    · rintro ⟨r, hr, cs, -, rfl⟩
      have e : ∀ f, dot f cs [] = 0 := fun f => by cases cs <;> rfl
      rw [e, e]
      simpa using hr
  | q :: ps, R, x => by
    show x ∈ combF m ps (R.flatMap (stepC m q)) ↔ _
    rw [comb_mem m ps]
    constructor
    · rintro ⟨r, hr, cs, ⟨h1, h2⟩, rfl⟩
      obtain ⟨r0, hr0, hr⟩ := List.mem_flatMap.mp hr
      obtain ⟨c, hc, rfl⟩ := List.mem_map.mp hr
      have hc := rngI_mem.mp hc
      refine ⟨r0, hr0, c :: cs, ⟨by simp [h1], fun k hk => ?_⟩, ?_⟩
      · cases k with
        | zero =>
          show 0 ≤ c ∧ c < (m : Int) / q.1 + 2
          omega
        | succ k => exact h2 k (by simpa using hk)
      · rw [dot_cons, dot_cons, ← Int.add_assoc, ← Int.add_assoc]
    · rintro ⟨r0, hr0, cs, ⟨h1, h2⟩, rfl⟩
      cases cs with
      | nil => simp at h1
      | cons c cs =>
        have h0 := h2 0 (by simp)
        have h0 : 0 ≤ c ∧ c < (m : Int) / q.1 + 2 := h0
        refine ⟨(r0.1 + c * q.1, r0.2 + c * q.2), List.mem_flatMap.mpr ⟨r0, hr0, List.mem_map.mpr ⟨c, rngI_mem.mpr (by omega), rfl⟩⟩, cs, ⟨by simpa using h1, fun k hk => h2 (k + 1) (by simpa using hk)⟩, ?_⟩
        rw [dot_cons, dot_cons, Int.add_assoc, Int.add_assoc]
def leastL (ps : List (Int × Int)) (m : Nat) : List Int := ((combF m ps [(0, 0)]).filter fun x => decide ((m : Int) ≤ x.1)).map Prod.snd
theorem least_eq {ps : List (Int × Int)} (h : Pk ps) (m : Nat) : 0 < (leastL ps m).length ∧ foldMin (leastL ps m) = pr ps m := by
  have mem : pr ps m ∈ leastL ps m := by
    obtain ⟨cs, hl, hb, h1, h2⟩ := best_cs h m m (Nat.le_refl _)
    refine List.mem_map.mpr ⟨(dot Prod.fst cs ps, pr ps m), List.mem_filter.mpr ⟨(comb_mem m ps _ _).mpr ⟨(0, 0), by simp, cs, ⟨hl, fun k hk => ?_⟩, by rw [h2]; simp⟩, by simpa using h1⟩, rfl⟩
    have b := hb k hk
    have pk := (h.at_ hk).1.1
    refine ⟨b.1, ?_⟩
    generalize cs.getD k 0 = c at b ⊢
    generalize (ps.getD k (0, 0)).1 = s at b pk ⊢
    have q : c - 1 ≤ (m : Int) / s := by
      rw [Int.le_ediv_iff_mul_le (by omega), Int.sub_mul]
      omega
    omega
  refine ⟨List.length_pos_of_mem mem, foldMin_is mem fun x hx => ?_⟩
  obtain ⟨y, hy, rfl⟩ := List.mem_map.mp hx
  obtain ⟨hy, hm⟩ := List.mem_filter.mp hy
  obtain ⟨r, hr, cs, ⟨hl, hb⟩, rfl⟩ := (comb_mem m ps _ _).mp hy
  have hr : r = (0, 0) := by simpa using hr
  subst hr
  have hm := of_decide_eq_true hm
  have pos : ∀ c ∈ cs, 0 ≤ c := fun c hc => by
    obtain ⟨k, hk, e⟩ := List.getElem_of_mem hc
    have := (hb k (by omega)).1
    rw [List.getD_eq_getElem?_getD, List.getElem?_eq_getElem hk, e] at this
    simpa using this
  have := dot_ge h cs.sum.toNat cs m hl pos (by have := sum_nn pos; omega) (by simpa using hm)
  simpa using this
end Law_k75
namespace Law_k75
open PySem L2 Pu
local macro_rules | `(tactic| walk_at "e") => `(tactic| first
  | ((with_reducible refine nx_seq ?_); (try dsimp only [List.set_cons_succ, List.set_cons_zero]))
  | ((with_reducible refine ex_vr ?_); dsimp only [VQ, List.set_cons_succ, List.set_cons_zero, List.getElem?_cons_zero, List.getElem?_cons_succ]; (fail_if_success (with_reducible show False)))
  | (with_reducible refine sx_seq ?_)
  | (with_reducible refine sx_if ?_)
  | (with_reducible refine sx_next ?_)
  | (with_reducible refine sx_ret ?_)
  | ((fail_if_success (with_reducible refine sx_asgO (eo_lst ?_))); (with_reducible refine sx_asg ?_))
  | (with_reducible refine ex_int ?_)
  | (with_reducible refine ex_str ?_)
  | (with_reducible refine ex_bl ?_)
  | (with_reducible refine ex_non ?_)
  | (with_reducible refine ex_op ?_)
  | (with_reducible refine ex_un ?_)
  | (with_reducible refine ex_chain ?_)
  | (with_reducible refine ex_call ?_)
  | (with_reducible refine ex_isT ?_)
  | (with_reducible refine ex_cb ?_)
  | (with_reducible refine ex_sl ?_)
  | (with_reducible refine ex_tup ?_)
  | (with_reducible refine ex_if ?_)
  | (with_reducible refine ex_of (eo_lst ?_))
  | (with_reducible refine ex_notV ?_)
  | (with_reducible refine ea_nil ?_)
  | (with_reducible refine ea_cons ?_)
  | (with_reducible refine ep_no ?_)
  | (with_reducible refine ep_some ?_)
  | (with_reducible refine et_test ?_)
  | (with_reducible refine et_B ?_)
  | (with_reducible refine et_ch3 ?_)
  | (with_reducible refine et_and ?_)
  | (with_reducible refine et_or ?_)
  | (with_reducible refine et_not ?_)
  | (with_reducible refine et_yes ?_)
  | (with_reducible refine et_truL ?_)
  | (with_reducible refine opd_plusI ?_)
  | (with_reducible refine opd_I0 ?_)
  | (with_reducible refine opd_B0 ?_)
  | (with_reducible refine opd_eqI ?_)
  | (with_reducible refine opd_neI ?_)
  | (with_reducible refine opd_eqS ?_)
  | (with_reducible refine opd_neS ?_)
  | (with_reducible refine opd_is ?_)
  | (with_reducible refine opd_isnt ?_)
  | (with_reducible refine opd_ixT rfl ?_)
  | (with_reducible refine opd_ixL rfl ?_)
  | (with_reducible refine und_neg ?_)
  | (with_reducible refine cbd_lenL ?_)
  | (with_reducible refine cbd_lenT ?_)
  | (with_reducible refine cbd_min2 ?_)
  | (with_reducible refine cbd_max2 ?_)
  | (with_reducible refine cbd_abs ?_)
  | (with_reducible refine cbd_int ?_)
  | (with_reducible refine cbd_tupL ?_)
  | (with_reducible refine cbd_listL ?_)
  | (with_reducible refine cbd_listT ?_)
  | (with_reducible refine cbd_sum ?_)
  | (with_reducible refine sld_T ?_)
  | (with_reducible refine sld_L ?_)
  | (with_reducible refine ex_revL ?_)
  | (with_reducible refine ex_bmL ?_)
  | (with_reducible refine ex_andV ?_)
  | (with_reducible refine ei_list ?_)
  | (with_reducible refine ei_rng1 ?_)
  | (with_reducible refine ei_rng2 ?_)
  | (with_reducible refine ei_enum ?_)
  | (with_reducible refine ei_enumT ?_)
  | (with_reducible refine ei_zip ?_)
  | (with_reducible refine sx_par ?_)
  | (with_reducible refine Exists.intro _ (And.intro rfl ?_))
  | (with_reducible refine Exists.intro _ (Exists.intro _ (And.intro rfl ?_)))
  | ((with_reducible show EX (tCall (spS _) [] _ (tCons (tVar _) _)) _ _); refine ex_callS rfl ?_)
  | ((with_reducible refine And.intro (show (_ : Nat) ≤ 100000 from ?_) ?_); (focus (simp; done)))
  | ((with_reducible refine opd_I ?_ ?_); focus (first | omega | (show CDiv _ _; exact ⟨by omega, by omega⟩) | (show CMul _ _; first | exact Or.inl ⟨by omega, by omega⟩ | exact Or.inr ⟨by omega, by omega⟩))))
local macro_rules | `(tactic| walk_at "es") => `(tactic| repeat walk_at "e")
local macro_rules | `(tactic| walk_at "w") => `(tactic| try dsimp only [wipeE, List.foldl_cons, List.foldl_nil, List.set_cons_succ, List.set_cons_zero])
local macro_rules | `(tactic| walk_at "le") => `(tactic| repeat' first | exact LeE.nil | (refine LeE.eq rfl ?_) | (refine LeE.emp ?_) | (refine LeE.eq ?_ ?_))
local macro_rules | `(tactic| walk_at "no") => `(tactic| ((refine And.intro (fun hb => absurd hb ?_) (fun _ => ?_)); (focus (first | (exact Bool.false_ne_true) | (simp; done) | (simp; omega) | (simp only [decide_eq_true_eq]; omega)))))
local macro_rules | `(tactic| walk_at "yes") => `(tactic| ((refine And.intro (fun _ => ?_) (fun hb => absurd hb ?_)); (rotate_left); (focus (first | (exact Bool.noConfusion) | (simp; done) | (simp; omega) | (simp only [decide_eq_false_iff_not]; omega)))))
local macro_rules | `(tactic| walk_at "ei") => `(tactic| repeat ((fail_if_success (with_reducible show SX (tSeq (tIfS _ _ _) _) _ _)); (fail_if_success (with_reducible show SX (tIfS _ _ _) _ _)); (fail_if_success (with_reducible show SX (tSeq (tAsg (tIf _ _ _) _) _) _ _)); walk_at "e"))
local macro_rules | `(tactic| walk_at "tv") => `(tactic| repeat' first | walk_at "e" | ((with_reducible show (_ = true → _) ∧ (_ = false → _)); refine And.intro (fun _ => ?_) (fun _ => ?_)))
def R_packs : Stt → List D → (D → Stt → Prop) → Prop := fun S ds Z => ds = [] ∧ Ok S ∧ ∀ (ps : List (Int × Int)) (S' : Stt), Pk ps → Ok S' → Z (.list (ps.map encP)) S'
theorem sx_l_packs (K : PySem.W.Frag) (S : Stt) (ds : List D) (Z : D → Stt → Prop) (h : R_packs S ds Z) :
    SX (T_l_packs K R_take) (.st S :: (ds.map .val ++ List.replicate (N_l_packs.length - (ds.length + 1)) .emp)) { nx := fun ρ' => ∃ S', ρ'[0]? = some (.st S') ∧ Z .none S', rt := fun d ρ' => ∃ S', ρ'[0]? = some (.st S') ∧ Z d S' } := by
  obtain ⟨rfl, ok, z⟩ := h
  show SX (T_l_packs K R_take) [.st S, .emp] _
  unfold T_l_packs
  refine sx_ret (ex_of (eo_lc (ei_rng1 ?_)))
  walk_at "es"
  refine ⟨4, rfl, by omega, by omega, ok, fun n S1 n0 n1 ok1 => ?_⟩
  walk_at "es"
  refine ⟨by omega, fun k acc ρ' => ∃ (ps : List (Int × Int)) (S : Stt), ps.length = k ∧ (∀ q ∈ ps, (1 ≤ q.1 ∧ q.1 ≤ 6) ∧ 0 ≤ q.2 ∧ q.2 ≤ 29) ∧ Ok S ∧ acc = ps.map encP ∧ ρ' = [.st S, .emp], ⟨[], S1, rfl, by simp, ok1, rfl, rfl⟩, ?_, ?_⟩
  · rintro k dd acc ρ' hd0 ⟨ps, S, hl, hg, ok, rfl, rfl⟩
    obtain ⟨hk, rfl⟩ := rng_at hd0
    refine ⟨(fun i hi => by simp at hi; subst hi; rfl), by rw [List.length_map]; omega, sg_name (by simp) ?_⟩
    walk_at "w"
    refine et_yes ⟨fun _ => ?_, (fun q => by cases q)⟩
    walk_at "es"
    refine ⟨6, rfl, by omega, by omega, ok, fun s S2 s0 s1 ok2 => ?_⟩
    walk_at "es"
    refine ⟨30, rfl, by omega, by omega, ok2, fun p S3 p0 p1 ok3 => ?_⟩
    walk_at "es"
    refine ⟨ps ++ [(1 + s, p)], S3, by simp [hl], fun q hq => ?_, ok3, by rw [List.map_append]; rfl, rfl⟩
    rcases List.mem_append.mp hq with hq | hq
    · exact hg q hq
    · rw [List.mem_singleton.mp hq]
      simp only
      omega
  · rintro acc ρ' ⟨ps, S2, hl, hg, ok2, rfl, rfl⟩
    rw [rng_size] at hl
    exact ⟨S2, rfl, z ps S2 ⟨⟨by omega, by omega⟩, hg⟩ ok2⟩
theorem step_len {m : Nat} (hm : m ≤ 12) {q : Int × Int} (hq : 1 ≤ q.1) (r : Int × Int) : (stepC m q r).length ≤ 14 := by
  unfold stepC
  rw [List.length_map, rngI_len]
  have : (m : Int) / q.1 ≤ m := Int.ediv_le_self _ (by omega)
  omega
theorem flat_le14 {m : Nat} (hm : m ≤ 12) {q : Int × Int} (hq : 1 ≤ q.1) : ∀ l : List (Int × Int), (l.flatMap (stepC m q)).length ≤ 14 * l.length
  | [] => by simp
  | r :: l => by
    rw [List.flatMap_cons, List.length_append, List.length_cons]
    have h1 := step_len hm hq r
    have h2 := flat_le14 hm hq l
    omega
theorem comb_snoc {m k : Nat} {ps R : List (Int × Int)} {q : Int × Int} (h : ps[k]? = some q) : combF m (ps.take (k + 1)) R = (combF m (ps.take k) R).flatMap (stepC m q) := by
  rw [take_snoc' h]
  unfold combF
  rw [List.foldl_append]
  rfl
theorem comb_len {m : Nat} (hm : m ≤ 12) {ps : List (Int × Int)} (h : Pk ps) : ∀ k, k ≤ 4 → k ≤ ps.length → (combF m (ps.take k) [(0, 0)]).length ≤ 14 ^ k
  | 0, _, _ => by simp [combF]
  | k + 1, h4, hk => by
    have hq := get_D (a := (0, 0)) (show k < ps.length by omega)
    rw [comb_snoc hq, Nat.pow_succ]
    have h1 := comb_len hm h k (by omega) (by omega)
    have h2 := flat_le14 hm (h.at_ (show k < ps.length by omega)).1.1 (combF m (ps.take k) [(0, 0)])
    omega
def R_least : List D → (D → Prop) → Prop := fun ds Z => ∃ (ps : List (Int × Int)) (m : Nat), ds = [.list (ps.map encP), .int (m : Int)] ∧ Pk ps ∧ m ≤ 12 ∧ Z (.int (pr ps m))
theorem sx_l_least (K : PySem.W.Frag) (ds : List D) (Z : D → Prop) (h : R_least ds Z) : SX (T_l_least K) (startE N_l_least ds) { nx := fun _ => Z .none, rt := fun d _ => Z d } := by
  obtain ⟨ps, m, rfl, pk, hm, z⟩ := h
  have p4 := pk.1.2
  have c4 : ∀ k, k ≤ ps.length → (combF m (ps.take k) [(0, 0)]).length ≤ 38416 := fun k hk => by
    have h1 := comb_len hm pk k (by omega) hk
    have h2 : 14 ^ k ≤ 14 ^ 4 := Nat.pow_le_pow_right (by decide) (by omega)
    have e : 14 ^ 4 = 38416 := by decide
    omega
  show SX (T_l_least K) [.val (.list (ps.map encP)), .val (.int (m : Int)), .emp, .emp, .emp, .emp, .emp, .emp, .emp] _
  unfold T_l_least
  refine sx_seq (sx_asg (ex_of (eo_lst ?_)))
  walk_at "es"
  refine sx_for (J := [3, 4]) (ei_list ?_)
  walk_at "es"
  refine ⟨fun k ρ' => ρ' = [.val (.list (ps.map encP)), .val (.int (m : Int)), .val (.list ((combF m (ps.take k) [(0, 0)]).map encP)), .emp, .emp, .emp, .emp, .emp, .emp], rfl, ?_, ?_⟩
  · rintro k dd ρ' hd0 rfl
    obtain ⟨q, hq, rfl⟩ := map_at hd0
    have kl : k < ps.length := (List.getElem?_eq_some_iff.mp hq).1
    have gq := pk.2 q (List.mem_of_getElem? hq)
    have hs := comb_snoc (m := m) (R := [(0, 0)]) hq
    have l1 := c4 k (by omega)
    have l2 := c4 (k + 1) (by omega)
    rw [hs] at l2
    refine sg_tup rfl (sgs_cons (sg_name (by simp) (sgs_cons (sg_name (by simp) (sgs_nil ?_)))))
    walk_at "w"
    walk_at "es"
    refine sx_asgO (eo_lst ?_)
    walk_at "es"
    refine sx_for (J := [6, 7]) (ei_list ?_)
    walk_at "es"
    generalize combF m (ps.take k) [(0, 0)] = R at hs l1 l2 ⊢
    refine ⟨fun j ρ' => ρ' = [.val (.list (ps.map encP)), .val (.int (m : Int)), .val (.list (R.map encP)), .val (.int q.1), .val (.int q.2), .own (((R.take j).flatMap (stepC m q)).map encP), .emp, .emp, .emp], rfl, ?_, ?_⟩
    · rintro j dd ρ' hd1 rfl
      obtain ⟨r, hr, rfl⟩ := map_at hd1
      have hs2 : ((R.take (j + 1)).flatMap (stepC m q)) = (R.take j).flatMap (stepC m q) ++ stepC m q r := by rw [take_snoc' hr, flat_snoc']
      have l3 := flat_le14 hm gq.1.1 (R.take j)
      rw [List.length_take] at l3
      have l4 := step_len hm gq.1.1 r
      have dv : 0 ≤ (m : Int) / q.1 := Int.ediv_nonneg (by omega) (by omega)
      have dv2 : (m : Int) / q.1 ≤ m := Int.ediv_le_self _ (by omega)
      refine sg_tup rfl (sgs_cons (sg_name (by simp) (sgs_cons (sg_name (by simp) (sgs_nil ?_)))))
      walk_at "w"
      refine sx_ext rfl ?_
      refine ex_of (eo_lcP (α := Int) (fun _ => true) (fun k => encP (r.1 + k * q.1, r.2 + k * q.2)) (ei_rng1 ?_))
      walk_at "es"
      refine ⟨by omega, rngI 0 ((m : Int) / q.1 + 2).toNat, PyData.int, rfl, by unfold stepC at l4; rw [List.length_map] at l4; omega, fun i hi => by simp at hi; subst hi; rfl, fun x hx => sg_name (by simp) ⟨rfl, ?_⟩, ?_⟩
      · have hx := rngI_mem.mp hx
        walk_at "w"
        walk_at "es"
        refine ⟨rfl, rfl, fun _ => ?_⟩
        walk_at "es"
        exact ⟨rfl, rfl⟩
      · have e : (((rngI 0 ((m : Int) / q.1 + 2).toNat).filter fun _ => true).map fun k => encP (r.1 + k * q.1, r.2 + k * q.2)) = (stepC m q r).map encP := by
          rw [List.filter_eq_self.mpr (fun _ _ => rfl)]; unfold stepC; rw [List.map_map]; rfl
        rw [e]
        refine ⟨_, _, rfl, rfl, by simp only [List.length_map]; omega, ?_⟩
        rw [← List.map_append, ← hs2]
        refine ⟨_, ?_, rfl⟩
        walk_at "le"
    · rintro ρ' rfl
      rw [List.length_map, List.take_length]
      refine nx_seq (sx_freeze 5 rfl ?_)
      walk_at "w"
      walk_at "es"
      rw [← hs]
      refine ⟨_, ?_, rfl⟩
      walk_at "le"
  · rintro ρ' rfl
    rw [List.length_map, List.take_length]
    have l0 := c4 ps.length (Nat.le_refl _)
    rw [List.take_length] at l0
    walk_at "es"
    refine ex_of (eo_lcP (α := Int × Int) (fun x => decide ((m : Int) ≤ x.1)) (fun x => .int x.2) (ei_list ?_))
    walk_at "es"
    refine ⟨by omega, fun i hi => by simp at hi; rcases hi with rfl | rfl <;> rfl, fun x hx => ?_, ?_⟩
    · refine sg_tup rfl (sgs_cons (sg_name (by simp) (sgs_cons (sg_name (by simp) (sgs_nil ⟨rfl, ?_⟩)))))
      walk_at "w"
      walk_at "es"
      refine ⟨rfl, rfl, fun _ => ?_⟩
      walk_at "es"
      exact ⟨rfl, rfl⟩
    · have e : (((combF m ps [(0, 0)]).filter fun x => decide ((m : Int) ≤ x.1)).map fun x => PyData.int x.2) = (leastL ps m).map .int := by
        unfold leastL; rw [List.map_map]; rfl
      rw [e]
      obtain ⟨g1, g2⟩ := least_eq pk m
      walk_at "es"
      refine cbd_minI g1 ?_
      rw [g2]
      exact z
end Law_k75
namespace Law_k75
open PySem L2 Pu
local macro_rules | `(tactic| walk_at "e") => `(tactic| first
  | ((with_reducible refine nx_seq ?_); (try dsimp only [List.set_cons_succ, List.set_cons_zero]))
  | ((with_reducible refine ex_vr ?_); dsimp only [VQ, List.set_cons_succ, List.set_cons_zero, List.getElem?_cons_zero, List.getElem?_cons_succ]; (fail_if_success (with_reducible show False)))
  | (with_reducible refine sx_seq ?_)
  | (with_reducible refine sx_if ?_)
  | (with_reducible refine sx_next ?_)
  | (with_reducible refine sx_ret ?_)
  | ((fail_if_success (with_reducible refine sx_asgO (eo_lst ?_))); (with_reducible refine sx_asg ?_))
  | (with_reducible refine ex_int ?_)
  | (with_reducible refine ex_str ?_)
  | (with_reducible refine ex_bl ?_)
  | (with_reducible refine ex_non ?_)
  | (with_reducible refine ex_op ?_)
  | (with_reducible refine ex_un ?_)
  | (with_reducible refine ex_chain ?_)
  | (with_reducible refine ex_call ?_)
  | (with_reducible refine ex_isT ?_)
  | (with_reducible refine ex_cb ?_)
  | (with_reducible refine ex_sl ?_)
  | (with_reducible refine ex_tup ?_)
  | (with_reducible refine ex_if ?_)
  | (with_reducible refine ex_of (eo_lst ?_))
  | (with_reducible refine ex_notV ?_)
  | (with_reducible refine ea_nil ?_)
  | (with_reducible refine ea_cons ?_)
  | (with_reducible refine ep_no ?_)
  | (with_reducible refine ep_some ?_)
  | (with_reducible refine et_test ?_)
  | (with_reducible refine et_B ?_)
  | (with_reducible refine et_ch3 ?_)
  | (with_reducible refine et_and ?_)
  | (with_reducible refine et_or ?_)
  | (with_reducible refine et_not ?_)
  | (with_reducible refine et_yes ?_)
  | (with_reducible refine et_truL ?_)
  | (with_reducible refine opd_plusI ?_)
  | (with_reducible refine opd_I0 ?_)
  | (with_reducible refine opd_B0 ?_)
  | (with_reducible refine opd_eqI ?_)
  | (with_reducible refine opd_neI ?_)
  | (with_reducible refine opd_eqS ?_)
  | (with_reducible refine opd_neS ?_)
  | (with_reducible refine opd_is ?_)
  | (with_reducible refine opd_isnt ?_)
  | (with_reducible refine opd_ixT rfl ?_)
  | (with_reducible refine opd_ixL rfl ?_)
  | (with_reducible refine und_neg ?_)
  | (with_reducible refine cbd_lenL ?_)
  | (with_reducible refine cbd_lenT ?_)
  | (with_reducible refine cbd_min2 ?_)
  | (with_reducible refine cbd_max2 ?_)
  | (with_reducible refine cbd_abs ?_)
  | (with_reducible refine cbd_int ?_)
  | (with_reducible refine cbd_tupL ?_)
  | (with_reducible refine cbd_listL ?_)
  | (with_reducible refine cbd_listT ?_)
  | (with_reducible refine cbd_sum ?_)
  | (with_reducible refine sld_T ?_)
  | (with_reducible refine sld_L ?_)
  | (with_reducible refine ex_revL ?_)
  | (with_reducible refine ex_bmL ?_)
  | (with_reducible refine ex_andV ?_)
  | (with_reducible refine ei_list ?_)
  | (with_reducible refine ei_rng1 ?_)
  | (with_reducible refine ei_rng2 ?_)
  | (with_reducible refine ei_enum ?_)
  | (with_reducible refine ei_enumT ?_)
  | (with_reducible refine ei_zip ?_)
  | (with_reducible refine sx_par ?_)
  | (with_reducible refine Exists.intro _ (And.intro rfl ?_))
  | (with_reducible refine Exists.intro _ (Exists.intro _ (And.intro rfl ?_)))
  | ((with_reducible show EX (tCall (spS _) [] _ (tCons (tVar _) _)) _ _); refine ex_callS rfl ?_)
  | ((with_reducible refine And.intro (show (_ : Nat) ≤ 100000 from ?_) ?_); (focus (simp; done)))
  | ((with_reducible refine opd_I ?_ ?_); focus (first | omega | (show CDiv _ _; exact ⟨by omega, by omega⟩) | (show CMul _ _; first | exact Or.inl ⟨by omega, by omega⟩ | exact Or.inr ⟨by omega, by omega⟩))))
local macro_rules | `(tactic| walk_at "es") => `(tactic| repeat walk_at "e")
local macro_rules | `(tactic| walk_at "w") => `(tactic| try dsimp only [wipeE, List.foldl_cons, List.foldl_nil, List.set_cons_succ, List.set_cons_zero])
local macro_rules | `(tactic| walk_at "le") => `(tactic| repeat' first | exact LeE.nil | (refine LeE.eq rfl ?_) | (refine LeE.emp ?_) | (refine LeE.eq ?_ ?_))
local macro_rules | `(tactic| walk_at "no") => `(tactic| ((refine And.intro (fun hb => absurd hb ?_) (fun _ => ?_)); (focus (first | (exact Bool.false_ne_true) | (simp; done) | (simp; omega) | (simp only [decide_eq_true_eq]; omega)))))
local macro_rules | `(tactic| walk_at "yes") => `(tactic| ((refine And.intro (fun _ => ?_) (fun hb => absurd hb ?_)); (rotate_left); (focus (first | (exact Bool.noConfusion) | (simp; done) | (simp; omega) | (simp only [decide_eq_false_iff_not]; omega)))))
local macro_rules | `(tactic| walk_at "ei") => `(tactic| repeat ((fail_if_success (with_reducible show SX (tSeq (tIfS _ _ _) _) _ _)); (fail_if_success (with_reducible show SX (tIfS _ _ _) _ _)); (fail_if_success (with_reducible show SX (tSeq (tAsg (tIf _ _ _) _) _) _ _)); walk_at "e"))
local macro_rules | `(tactic| walk_at "tv") => `(tactic| repeat' first | walk_at "e" | ((with_reducible show (_ = true → _) ∧ (_ = false → _)); refine And.intro (fun _ => ?_) (fun _ => ?_)))
def okCs (ps : List (Int × Int)) (m : Nat) (cs : List Int) : Prop := cs.length = ps.length ∧ (∀ c ∈ cs, 0 ≤ c) ∧ (m : Int) ≤ dot Prod.fst cs ps ∧ dot Prod.snd cs ps = pr ps m
def R_cheapest : List D → (D → Prop) → Prop := fun ds Z => ∃ (ps : List (Int × Int)) (m : Nat), ds = [.list (ps.map encP), .int (m : Int)] ∧ Pk ps ∧ m ≤ 12 ∧ ∀ cs, okCs ps m cs → Z (.tuple [.list (cs.map .int), .int (pr ps m), .list ((tabF ps m).map .int)])
theorem came_get (ps : List (Int × Int)) {j : Nat} : ∀ {n : Nat}, j < n → (cameF ps n).getD j 0 = (minPs (rowsP ps (tabF ps j) (j + 1))).2
  | n + 1, h => by
    rcases (show j = n ∨ j < n by omega) with rfl | q
    · rw [cameF, List.getD_eq_getElem?_getD, List.getElem?_append_right (by rw [came_len]; omega), came_len]
      simp
    · rw [← came_get ps q, cameF, List.getD_eq_getElem?_getD, List.getElem?_append_left (by rw [came_len]; omega), ← List.getD_eq_getElem?_getD]
theorem tab_last (ps : List (Int × Int)) : ∀ n, ∃ L : List D, (tabF ps n).map PyData.int = L ++ [.int (pr ps n)]
  | 0 => ⟨[], rfl⟩
  | n + 1 => ⟨(tabF ps n).map .int, by rw [pr_last, List.map_append]; rfl⟩
theorem came_at (ps : List (Int × Int)) {j n : Nat} (h : j < n) : atI (PyData.none :: (cameF ps n).map PyData.int) ((j : Int) + 1) = some (.int (minPs (rowsP ps (tabF ps j) (j + 1))).2) := by
  have e : ixN ((PyData.none :: (cameF ps n).map PyData.int).length) ((j : Int) + 1) = some (j + 1) := by
    unfold ixN
    rw [List.length_cons, List.length_map, came_len, if_pos (by omega), if_pos (by omega)]
    congr 1
  unfold atI
  rw [e]
  show ((cameF ps n).map PyData.int)[j]? = _
  rw [List.getElem?_map, get_D (a := 0) (by rw [came_len]; exact h), came_get ps h]
  rfl
theorem ixN_in {n : Nat} {k : Int} (h0 : 0 ≤ k) (h1 : k < n) : ixN n k = some k.toNat := by unfold ixN; rw [if_pos h0, if_pos h1]
theorem enum_zipP (ps : List (Int × Int)) : enumD 0 (ps.map encP) = ps.zipIdx.map fun q => PyData.tuple [.int (q.2 : Int), encP q.1] := enum_zip encP 0 ps
theorem sx_cheapest (K : PySem.W.Frag) (ds : List D) (Z : D → Prop) (h : R_cheapest ds Z) : SX (T_cheapest K) (startE N_cheapest ds) { nx := fun _ => Z .none, rt := fun d _ => Z d } := by
  obtain ⟨ps, m, rfl, pk, hm, z⟩ := h
  have p4 := pk.1
  show SX (T_cheapest K) [.val (.list (ps.map encP)), .val (.int (m : Int)), .emp, .emp, .emp, .emp, .emp, .emp, .emp, .emp, .emp] _
  unfold T_cheapest
  walk_at "es"
  refine sx_asgO (eo_lst ?_)
  walk_at "es"
  refine sx_asgO (eo_lst ?_)
  walk_at "es"
  refine sx_for (J := [4]) (ei_rng2 ?_)
  walk_at "es"
  have em : ((m : Int) + 1 - 1).toNat = m := by omega
  rw [em]
  refine ⟨by omega, fun k ρ' => ρ' = [.val (.list (ps.map encP)), .val (.int (m : Int)), .own ((tabF ps k).map .int), .own (.none :: (cameF ps k).map .int), .emp, .emp, .emp, .emp, .emp, .emp, .emp], rfl, ?_, ?_⟩
  · rintro k dd ρ' hd0 rfl
    obtain ⟨hk, rfl⟩ := rng_at hd0
    have tl := tab_len ps k
    have cl := came_len ps k
    have e1 : (1 : Int) + (k : Int) = ((k + 1 : Nat) : Int) := by omega
    rw [e1]
    refine sg_name (by simp) ?_
    walk_at "w"
    refine sx_seq (sx_asg (ex_of (eo_lcP (α := (Int × Int) × Nat) (fun _ => true) (fun q => encP (rowP (tabF ps k) (k + 1) q)) (ei_enum ?_))))
    walk_at "es"
    rw [enum_zipP]
    refine ⟨ps.zipIdx, _, rfl, by rw [List.length_zipIdx]; omega, fun i hi => by simp at hi; rcases hi with rfl | rfl | rfl <;> rfl, fun q hq => ?_, ?_⟩
    · have gq := pk.2 q.1 (by
        obtain ⟨j, hj⟩ := List.mem_iff_getElem?.mp hq
        rw [List.getElem?_zipIdx] at hj
        cases e : ps[j]? with
        | none => rw [e] at hj; cases hj
        | some x => rw [e] at hj; cases hj; exact List.mem_of_getElem? e)
      refine sg_tup rfl (sgs_cons (sg_name (by simp) (sgs_cons (sg_tup rfl (sgs_cons (sg_name (by simp) (sgs_cons (sg_name (by simp) (sgs_nil (sgs_nil ⟨rfl, ?_⟩)))))))))) 
      walk_at "w"
      refine et_yes ⟨rfl, rfl, fun _ => ex_tup (ea_cons (ex_op (ex_ixO rfl ?_)))⟩
      walk_at "es"
      refine ⟨_, max 0 (((k + 1 : Nat) : Int) - q.1.1), .int ((tabF ps k).getD (backN (k + 1) q.1.1) 0), rfl, rfl, atI_map (f := PyData.int) 0 (by omega) (by omega), ?_⟩
      walk_at "es"
      exact ⟨rfl, rfl⟩
    · have e : ((ps.zipIdx.filter fun _ => true).map fun q => encP (rowP (tabF ps k) (k + 1) q)) = (rowsP ps (tabF ps k) (k + 1)).map encP := by
        rw [List.filter_eq_self.mpr (fun _ _ => rfl)]; unfold rowsP; rw [List.map_map]; rfl
      rw [e]
      have rl := rows_len ps (tabF ps k) (k + 1)
      refine nx_seq ?_
      walk_at "w"
      refine sx_seq (sx_app rfl ?_)
      walk_at "es"
      refine cbd_minP (by omega) ?_
      walk_at "es"
      refine opd_ixT (d := .int (minPs (rowsP ps (tabF ps k) (k + 1))).1) rfl ?_
      refine ⟨_, rfl, by rw [List.length_map]; omega, ?_⟩
      refine nx_seq ?_
      walk_at "w"
      refine sx_app rfl ?_
      walk_at "es"
      refine cbd_minP (by omega) ?_
      walk_at "es"
      refine opd_ixT (d := .int (minPs (rowsP ps (tabF ps k) (k + 1))).2) rfl ?_
      refine ⟨_, rfl, by rw [List.length_cons, List.length_map]; omega, ?_⟩
      refine ⟨_, ?_, rfl⟩
      rw [tabF, cameF, List.map_append, List.map_append]
      walk_at "le"
  rintro ρ' rfl
  rw [rng_size]
  refine nx_seq ?_
  refine sx_seq (sx_asgO (eo_lcP (α := Int × Int) (fun _ => true) (fun _ => .int 0) (ei_list ?_)))
  walk_at "es"
  refine ⟨by omega, fun i hi => by simp at hi; subst hi; rfl, fun q hq => sg_name (by simp) ⟨rfl, ?_⟩, ?_⟩
  · walk_at "w"
    walk_at "es"
    refine ⟨rfl, rfl, fun _ => ?_⟩
    walk_at "es"
    exact ⟨rfl, rfl⟩
  have e0 : ((ps.filter fun _ => true).map fun _ => PyData.int 0) = (List.replicate ps.length (0 : Int)).map .int := by
    rw [List.filter_eq_self.mpr (fun _ _ => rfl), List.map_replicate, List.map_const']
  rw [e0]
  walk_at "es"
  refine sx_while (fun mm ρ' => ∃ cs, cs.length = ps.length ∧ (∀ c ∈ cs, 0 ≤ c) ∧ (m : Int) ≤ dot Prod.fst cs ps + (mm : Int) ∧ dot Prod.snd cs ps + pr ps mm = pr ps m ∧ mm ≤ m ∧ ρ' = [.val (.list (ps.map encP)), .val (.int (m : Int)), .own ((tabF ps m).map .int), .own (.none :: (cameF ps m).map .int), .val (.int (mm : Int)), .emp, .emp, .emp, .emp, .own (cs.map .int), .emp]) m ⟨List.replicate ps.length 0, List.length_replicate, fun c hc => by rw [(List.mem_replicate.mp hc).2]; exact Int.le_refl _, by rw [dot_zero _ _ _ fun c hc => (List.mem_replicate.mp hc).2]; omega, by rw [dot_zero _ _ _ fun c hc => (List.mem_replicate.mp hc).2]; omega, Nat.le_refl _, rfl⟩ ?_
  rintro mm ρ' ⟨cs, hl, hp, h1, h2, hmm, rfl⟩
  walk_at "es"
  refine ⟨fun hb => ?_, fun hb => ?_⟩
  · obtain ⟨n, rfl⟩ : ∃ n, mm = n + 1 := ⟨mm - 1, by have := of_decide_eq_true hb; omega⟩
    obtain ⟨k, hk, ek, ep⟩ := pr_eq pk n
    have gk := pk.at_ hk
    have cat := came_at ps (j := n) (n := m) (by omega)
    rw [ek] at cat
    refine sx_seq (sx_asg (ex_ixO rfl ?_))
    walk_at "es"
    refine ⟨_, ((n + 1 : Nat) : Int), .int (k : Int), rfl, rfl, by rw [show ((n + 1 : Nat) : Int) = (n : Int) + 1 by omega]; exact cat, ?_⟩
    refine nx_seq ?_
    walk_at "w"
    refine sx_seq (sx_setO (es := cs.map .int) (ex_op (ex_ixO rfl ?_)))
    walk_at "es"
    refine ⟨_, (k : Int), .int (cs.getD k 0), rfl, rfl, atI_map (f := PyData.int) 0 (by omega) (by omega), ?_⟩
    walk_at "es"
    refine ⟨rfl, ?_⟩
    walk_at "es"
    refine ⟨_, (k : Int), k, rfl, rfl, by rw [List.length_map]; exact ixN_in (by omega) (by omega), ?_⟩
    have es2 : (cs.map PyData.int).set k (.int (cs.getD k 0 + 1)) = (cs.set k (cs.getD k 0 + 1)).map .int := by rw [List.map_set]
    rw [es2]
    refine nx_seq ?_
    walk_at "w"
    walk_at "es"
    refine opd_ixM (0, 0) (by omega) (by omega) ?_
    walk_at "es"
    refine opd_ixT (d := .int (ps.getD k (0, 0)).1) rfl ?_
    walk_at "es"
    have d1 := dot_set Prod.fst 1 cs ps k (by omega) hk
    have d2 := dot_set Prod.snd 1 cs ps k (by omega) hk
    have eb : max 0 (((n + 1 : Nat) : Int) - (ps.getD k (0, 0)).1) = ((backN (n + 1) (ps.getD k (0, 0)).1 : Nat) : Int) := by unfold backN; omega
    have bl : backN (n + 1) (ps.getD k (0, 0)).1 ≤ n := back_le gk.1.1
    rw [eb]
    refine ⟨_, ?_, backN (n + 1) (ps.getD k (0, 0)).1, by omega, cs.set k (cs.getD k 0 + 1), by rw [List.length_set]; exact hl, fun c hc => ?_, by omega, by omega, by omega, rfl⟩
    · walk_at "le"
    · rcases List.mem_or_eq_of_mem_set hc with q | q
      · exact hp c q
      · have := hp _ (mem_D (a := 0) (show k < cs.length by omega))
        omega
  · have h0 : mm = 0 := by have := of_decide_eq_false hb; omega
    subst h0
    rw [pr_zero] at h2
    refine nx_seq (sx_freeze 9 rfl ?_)
    walk_at "w"
    refine sx_freeze 2 rfl ?_
    walk_at "w"
    walk_at "es"
    obtain ⟨L, eL⟩ := tab_last ps m
    refine opd_ixL (d := .int (pr ps m)) (by rw [eL]; exact last_at _ _) ?_
    walk_at "es"
    exact z cs ⟨hl, hp, by omega, by omega⟩
end Law_k75
namespace Law_k75
open PySem L2 Pu
local macro_rules | `(tactic| walk_at "e") => `(tactic| first
  | ((with_reducible refine nx_seq ?_); (try dsimp only [List.set_cons_succ, List.set_cons_zero]))
  | ((with_reducible refine ex_vr ?_); dsimp only [VQ, List.set_cons_succ, List.set_cons_zero, List.getElem?_cons_zero, List.getElem?_cons_succ]; (fail_if_success (with_reducible show False)))
  | (with_reducible refine sx_seq ?_)
  | (with_reducible refine sx_if ?_)
  | (with_reducible refine sx_next ?_)
  | (with_reducible refine sx_ret ?_)
  | ((fail_if_success (with_reducible refine sx_asgO (eo_lst ?_))); (with_reducible refine sx_asg ?_))
  | (with_reducible refine ex_int ?_)
  | (with_reducible refine ex_str ?_)
  | (with_reducible refine ex_bl ?_)
  | (with_reducible refine ex_non ?_)
  | (with_reducible refine ex_op ?_)
  | (with_reducible refine ex_un ?_)
  | (with_reducible refine ex_chain ?_)
  | (with_reducible refine ex_call ?_)
  | (with_reducible refine ex_isT ?_)
  | (with_reducible refine ex_cb ?_)
  | (with_reducible refine ex_sl ?_)
  | (with_reducible refine ex_tup ?_)
  | (with_reducible refine ex_if ?_)
  | (with_reducible refine ex_of (eo_lst ?_))
  | (with_reducible refine ex_notV ?_)
  | (with_reducible refine ea_nil ?_)
  | (with_reducible refine ea_cons ?_)
  | (with_reducible refine ep_no ?_)
  | (with_reducible refine ep_some ?_)
  | (with_reducible refine et_test ?_)
  | (with_reducible refine et_B ?_)
  | (with_reducible refine et_ch3 ?_)
  | (with_reducible refine et_and ?_)
  | (with_reducible refine et_or ?_)
  | (with_reducible refine et_not ?_)
  | (with_reducible refine et_yes ?_)
  | (with_reducible refine et_truL ?_)
  | (with_reducible refine opd_plusI ?_)
  | (with_reducible refine opd_I0 ?_)
  | (with_reducible refine opd_B0 ?_)
  | (with_reducible refine opd_eqI ?_)
  | (with_reducible refine opd_neI ?_)
  | (with_reducible refine opd_eqS ?_)
  | (with_reducible refine opd_neS ?_)
  | (with_reducible refine opd_is ?_)
  | (with_reducible refine opd_isnt ?_)
  | (with_reducible refine opd_ixT rfl ?_)
  | (with_reducible refine opd_ixL rfl ?_)
  | (with_reducible refine und_neg ?_)
  | (with_reducible refine cbd_lenL ?_)
  | (with_reducible refine cbd_lenT ?_)
  | (with_reducible refine cbd_min2 ?_)
  | (with_reducible refine cbd_max2 ?_)
  | (with_reducible refine cbd_abs ?_)
  | (with_reducible refine cbd_int ?_)
  | (with_reducible refine cbd_tupL ?_)
  | (with_reducible refine cbd_listL ?_)
  | (with_reducible refine cbd_listT ?_)
  | (with_reducible refine cbd_sum ?_)
  | (with_reducible refine sld_T ?_)
  | (with_reducible refine sld_L ?_)
  | (with_reducible refine ex_revL ?_)
  | (with_reducible refine ex_bmL ?_)
  | (with_reducible refine ex_andV ?_)
  | (with_reducible refine ei_list ?_)
  | (with_reducible refine ei_rng1 ?_)
  | (with_reducible refine ei_rng2 ?_)
  | (with_reducible refine ei_enum ?_)
  | (with_reducible refine ei_enumT ?_)
  | (with_reducible refine ei_zip ?_)
  | (with_reducible refine sx_par ?_)
  | (with_reducible refine Exists.intro _ (And.intro rfl ?_))
  | (with_reducible refine Exists.intro _ (Exists.intro _ (And.intro rfl ?_)))
  | ((with_reducible show EX (tCall (spS _) [] _ (tCons (tVar _) _)) _ _); refine ex_callS rfl ?_)
  | ((with_reducible refine And.intro (show (_ : Nat) ≤ 100000 from ?_) ?_); (focus (simp; done)))
  | ((with_reducible refine opd_I ?_ ?_); focus (first | omega | (show CDiv _ _; exact ⟨by omega, by omega⟩) | (show CMul _ _; first | exact Or.inl ⟨by omega, by omega⟩ | exact Or.inr ⟨by omega, by omega⟩))))
local macro_rules | `(tactic| walk_at "es") => `(tactic| repeat walk_at "e")
local macro_rules | `(tactic| walk_at "w") => `(tactic| try dsimp only [wipeE, List.foldl_cons, List.foldl_nil, List.set_cons_succ, List.set_cons_zero])
local macro_rules | `(tactic| walk_at "le") => `(tactic| repeat' first | exact LeE.nil | (refine LeE.eq rfl ?_) | (refine LeE.emp ?_) | (refine LeE.eq ?_ ?_))
local macro_rules | `(tactic| walk_at "no") => `(tactic| ((refine And.intro (fun hb => absurd hb ?_) (fun _ => ?_)); (focus (first | (exact Bool.false_ne_true) | (simp; done) | (simp; omega) | (simp only [decide_eq_true_eq]; omega)))))
local macro_rules | `(tactic| walk_at "yes") => `(tactic| ((refine And.intro (fun _ => ?_) (fun hb => absurd hb ?_)); (rotate_left); (focus (first | (exact Bool.noConfusion) | (simp; done) | (simp; omega) | (simp only [decide_eq_false_iff_not]; omega)))))
local macro_rules | `(tactic| walk_at "ei") => `(tactic| repeat ((fail_if_success (with_reducible show SX (tSeq (tIfS _ _ _) _) _ _)); (fail_if_success (with_reducible show SX (tIfS _ _ _) _ _)); (fail_if_success (with_reducible show SX (tSeq (tAsg (tIf _ _ _) _) _) _ _)); walk_at "e"))
local macro_rules | `(tactic| walk_at "tv") => `(tactic| repeat' first | walk_at "e" | ((with_reducible show (_ = true → _) ∧ (_ = false → _)); refine And.intro (fun _ => ?_) (fun _ => ?_)))
def one1 (s : String) : D := .tuple [.str (Str.ofString s)]
def needS (ps : List (Int × Int)) (T : List Int) (j k : Nat) : Option D := if T.getD (backN (j + 1) (ps.getD k (0, 0)).1) 0 + (ps.getD k (0, 0)).2 < T.getD (j + 1) 0 then some (.tuple [.str (Str.ofString "price"), .int ((j : Int) + 1), .int (k : Int)]) else none
def rowS (ps : List (Int × Int)) (T : List Int) (j : Nat) : Option D := (List.range ps.length).findSome? (needS ps T j)
def negB (cs : List Int) : Bool := decide (foldMin (cs ++ [0]) < 0)
def tailD (ps : List (Int × Int)) (m : Nat) (cost : Int) (T : List Int) : D := match (List.range m).findSome? (rowS ps T) with
  | some d => d
  | none => if cost ≤ T.getD m 0 then .none else .tuple [.str (Str.ofString "last")]
def faultF (ps : List (Int × Int)) (m : Nat) (cs : List Int) (cost : Int) (T : List Int) : D :=
  if (!decide (cs.length = ps.length) || negB cs) = true then .tuple [.str (Str.ofString "counts")]
  else if dot Prod.fst cs ps < (m : Int) then .tuple [.str (Str.ofString "few")]
  else if dot Prod.snd cs ps ≠ cost then .tuple [.str (Str.ofString "cost")]
  else if (!decide (T.length = m + 1) || decide (0 < T.getD 0 0)) = true then .tuple [.str (Str.ofString "prices")]
  else tailD ps m cost T
def R_cfault : List D → (D → Prop) → Prop := fun ds Z => ∃ (ps : List (Int × Int)) (m : Nat) (cs : List Int) (cost : Int) (T : List Int), ds = [.list (ps.map encP), .int (m : Int), .tuple [.list (cs.map .int), .int cost, .list (T.map .int)]] ∧ Pk ps ∧ m ≤ 12 ∧ cs.length ≤ 1000 ∧ T.length ≤ 1000 ∧ Z (faultF ps m cs cost T)
theorem last_D (T : List Int) (n : Nat) (h : T.length = n + 1) : atI (T.map PyData.int) (-1) = some (.int (T.getD n 0)) := by
  have e : ixN (T.map PyData.int).length (-1) = some n := by
    rw [List.length_map, h]
    unfold ixN
    rw [if_neg (by omega), if_pos (by omega)]
    congr 1
    omega
  unfold atI
  rw [e]
  show (T.map PyData.int)[n]? = _
  rw [List.getElem?_map, get_D (a := 0) (by omega)]
  rfl
theorem zip_encP : ∀ (cs : List Int) (ps : List (Int × Int)), List.zipWith (fun d f => PyData.tuple [d, f]) (cs.map PyData.int) (ps.map encP) = (List.zip cs ps).map fun x => PyData.tuple [.int x.1, encP x.2]
  | [], _ => rfl
  | _ :: _, [] => rfl
  | c :: cs, q :: ps => by
    rw [List.map_cons, List.map_cons, List.zipWith_cons_cons, zip_encP cs ps]
    rfl
theorem zip_dot (f : Int × Int → Int) (cs : List Int) (ps : List (Int × Int)) : ((List.zip cs ps).map fun x => x.1 * f x.2).sum = dot f cs ps := by
  unfold dot
  congr 1
  induction cs generalizing ps with
  | nil => rfl
  | cons c cs ih => cases ps with
    | nil => rfl
    | cons q ps => rw [List.zip_cons_cons, List.map_cons, List.zipWith_cons_cons, ih]
theorem rng_zip (f : Int × Int → Int) (cs : List Int) (ps : List (Int × Int)) (h : cs.length = ps.length) : ((rngI 0 ps.length).map fun k => cs.getD k.toNat 0 * f (ps.getD k.toNat (0, 0))) = (List.zip cs ps).map fun x => x.1 * f x.2 := by
  refine List.ext_getElem? fun k => ?_
  rw [List.getElem?_map, List.getElem?_map]
  by_cases hk : k < ps.length
  · have e : (List.zip cs ps)[k]? = some (cs.getD k 0, ps.getD k (0, 0)) := List.getElem?_zip_eq_some.mpr ⟨get_D (a := 0) (show k < cs.length by omega), get_D (a := (0, 0)) hk⟩
    rw [rngI_get hk, e]
    simp
  · rw [List.getElem?_eq_none (by rw [rngI_len]; omega), List.getElem?_eq_none (by rw [List.length_zip]; omega)]
    rfl
theorem fmin_neg (cs : List Int) : negB cs = decide (0 < (((cs.filter fun c => decide (c < 0)).length : Nat) : Int)) := by
  unfold negB
  rw [Bool.eq_iff_iff, decide_eq_true_eq, decide_eq_true_eq]
  have hm : foldMin (cs ++ [0]) ∈ cs ++ [0] := foldMin_mem (by simp)
  constructor
  · intro h
    have : foldMin (cs ++ [0]) ∈ cs := by
      rcases List.mem_append.mp hm with q | q
      · exact q
      · have := List.mem_singleton.mp q; omega
    have q : foldMin (cs ++ [0]) ∈ cs.filter fun c => decide (c < 0) := List.mem_filter.mpr ⟨this, decide_eq_true h⟩
    have := List.length_pos_of_mem q
    omega
  · intro h
    obtain ⟨x, hx⟩ := List.exists_mem_of_length_pos (show 0 < (cs.filter fun c => decide (c < 0)).length by omega)
    obtain ⟨h1, h2⟩ := List.mem_filter.mp hx
    have h2 := of_decide_eq_true h2
    have := foldMin_le (List.mem_append_left [0] h1)
    omega
theorem tail_out {ps : List (Int × Int)} {m : Nat} {cost : Int} {T : List Int} {k : Nat} {d : D} (hk : k < m) (h : ∀ j, j < k → rowS ps T j = none) (e : rowS ps T k = some d) : tailD ps m cost T = d := by
  unfold tailD
  rw [Pu.find_first hk h e]
theorem tail_end {ps : List (Int × Int)} {m : Nat} {cost : Int} {T : List Int} (h : ∀ j, j < m → rowS ps T j = none) : tailD ps m cost T = if cost ≤ T.getD m 0 then .none else .tuple [.str (Str.ofString "last")] := by
  unfold tailD
  rw [Pu.find_no h]
/-- the loop over needs and packs, as both judges write it, is one text but for the inner source: here what is told of T -/
theorem sx_cheapest_fault (K : PySem.W.Frag) (ds : List D) (Z : D → Prop) (h : R_cfault ds Z) : SX (T_cheapest_fault K) (startE N_cheapest_fault ds) { nx := fun _ => Z .none, rt := fun d _ => Z d } := by
  obtain ⟨ps, m, cs, cost, T, rfl, pk, hm, hc, hT, z⟩ := h
  have p4 := pk.1
  show SX (T_cheapest_fault K) [.val (.list (ps.map encP)), .val (.int (m : Int)), .val (.tuple [.list (cs.map .int), .int cost, .list (T.map .int)]), .emp, .emp, .emp, .emp, .emp, .emp, .emp, .emp, .emp] _
  unfold T_cheapest_fault
  refine sx_seq (sx_asgT (J := [3, 4, 5]) ?_)
  walk_at "es"
  refine sg_tup rfl (sgs_cons (sg_name (by simp) (sgs_cons (sg_name (by simp) (sgs_cons (sg_name (by simp) (sgs_nil ?_)))))))
  walk_at "w"
  refine nx_seq ?_
  unfold faultF at z
  refine sx_seq (sx_if (et_val (!decide (cs.length = ps.length) || negB cs) ?_ ?_))
  · walk_at "es"
    rw [List.length_map, List.length_map]
    have ei : decide ((cs.length : Int) = (ps.length : Int)) = decide (cs.length = ps.length) := by
      by_cases q : cs.length = ps.length
      · rw [decide_eq_true q, decide_eq_true (by omega)]
      · rw [decide_eq_false q, decide_eq_false (by omega)]
    rw [ei]
    refine ⟨fun q => ⟨by rw [q]; rfl, rfl⟩, fun q => ?_⟩
    walk_at "es"
    refine opd_plusL (by simp only [List.length_map, List.length_cons, List.length_nil]; omega) ?_
    have e1 : cs.map PyData.int ++ [.int 0] = (cs ++ [0]).map .int := by rw [List.map_append]; rfl
    rw [e1]
    walk_at "es"
    refine cbd_minI (by simp) ?_
    walk_at "es"
    exact ⟨by rw [q]; rfl, rfl⟩
  cases hb : (!decide (cs.length = ps.length) || negB cs) with
  | true =>
    rw [hb, if_pos rfl] at z
    walk_at "yes"
    walk_at "es"
    exact z
  | false =>
    rw [hb, if_neg (by decide)] at z
    simp only [Bool.or_eq_false_iff, Bool.not_eq_false', decide_eq_true_eq] at hb
    have hl := hb.1
    walk_at "no"
    walk_at "es"
    refine ex_of (eo_lcP (α := Int × (Int × Int)) (fun _ => true) (fun x => .int (x.1 * x.2.1)) (ei_zip ?_))
    walk_at "e"
    walk_at "e"
    walk_at "e"
    walk_at "e"
    walk_at "e"
    refine ⟨_, _, rfl, List.zip cs ps, fun x => PyData.tuple [.int x.1, encP x.2], zip_encP cs ps, by rw [List.length_zip]; omega, fun i hi => by simp at hi; rcases hi with rfl | rfl <;> rfl, fun x hx => ?_, ?_⟩
    · have gx := pk.2 x.2 (List.of_mem_zip (a := x.1) (b := x.2) hx).2
      refine sg_tup rfl (sgs_cons (sg_name (by simp) (sgs_cons (sg_name (by simp) (sgs_nil ⟨rfl, ?_⟩)))))
      walk_at "w"
      walk_at "es"
      refine ⟨rfl, rfl, fun _ => ?_⟩
      walk_at "es"
      refine opd_ixT (d := .int x.2.1) rfl ?_
      walk_at "es"
      exact ⟨rfl, rfl⟩
    have e1 : (((List.zip cs ps).filter fun _ => true).map fun x => PyData.int (x.1 * x.2.1)) = ((List.zip cs ps).map fun x => x.1 * x.2.1).map .int := by
      rw [List.filter_eq_self.mpr (fun _ _ => rfl), List.map_map]; rfl
    rw [e1]
    walk_at "es"
    rw [zip_dot Prod.fst cs ps]
    by_cases h2 : dot Prod.fst cs ps < (m : Int)
    · rw [if_pos h2] at z
      walk_at "yes"
      walk_at "es"
      exact z
    rw [if_neg h2] at z
    walk_at "no"
    walk_at "es"
    refine ex_of (eo_lcP (α := Int × (Int × Int)) (fun _ => true) (fun x => .int (x.1 * x.2.2)) (ei_zip ?_))
    walk_at "e"
    walk_at "e"
    walk_at "e"
    walk_at "e"
    walk_at "e"
    refine ⟨_, _, rfl, List.zip cs ps, fun x => PyData.tuple [.int x.1, encP x.2], zip_encP cs ps, by rw [List.length_zip]; omega, fun i hi => by simp at hi; rcases hi with rfl | rfl <;> rfl, fun x hx => ?_, ?_⟩
    · have gx := pk.2 x.2 (List.of_mem_zip (a := x.1) (b := x.2) hx).2
      refine sg_tup rfl (sgs_cons (sg_name (by simp) (sgs_cons (sg_name (by simp) (sgs_nil ⟨rfl, ?_⟩)))))
      walk_at "w"
      walk_at "es"
      refine ⟨rfl, rfl, fun _ => ?_⟩
      walk_at "es"
      refine opd_ixT (d := .int x.2.2) rfl ?_
      walk_at "es"
      exact ⟨rfl, rfl⟩
    have e2 : (((List.zip cs ps).filter fun _ => true).map fun x => PyData.int (x.1 * x.2.2)) = ((List.zip cs ps).map fun x => x.1 * x.2.2).map .int := by
      rw [List.filter_eq_self.mpr (fun _ _ => rfl), List.map_map]; rfl
    rw [e2]
    walk_at "es"
    rw [zip_dot Prod.snd cs ps]
    by_cases h3 : dot Prod.snd cs ps = cost
    · rw [if_neg (fun q => q h3)] at z
      walk_at "no"
      walk_at "ei"
      refine sx_seq (sx_if (et_val (!decide (T.length = m + 1) || decide (0 < T.getD 0 0)) ?_ ?_))
      · walk_at "es"
        rw [List.length_map]
        have ei : decide ((T.length : Int) = (m : Int) + 1) = decide (T.length = m + 1) := by
          by_cases q : T.length = m + 1
          · rw [decide_eq_true q, decide_eq_true (by omega)]
          · rw [decide_eq_false q, decide_eq_false (by omega)]
        rw [ei]
        refine ⟨fun q => ⟨by rw [q]; rfl, rfl⟩, fun q => ?_⟩
        have q' : T.length = m + 1 := by simpa using q
        walk_at "es"
        refine opd_ixM (f := PyData.int) 0 (by omega) (by omega) ?_
        walk_at "es"
        exact ⟨by rw [q]; rfl, rfl⟩
      cases hb2 : (!decide (T.length = m + 1) || decide (0 < T.getD 0 0)) with
      | true =>
        rw [hb2, if_pos rfl] at z
        walk_at "yes"
        walk_at "es"
        exact z
      | false =>
        rw [hb2, if_neg (by decide)] at z
        simp only [Bool.or_eq_false_iff, Bool.not_eq_false', decide_eq_true_eq] at hb2
        have hT1 := hb2.1
        walk_at "no"
        walk_at "es"
        refine sx_for (J := [8]) (ei_rng2 ?_)
        walk_at "es"
        have em : ((m : Int) + 1 - 1).toNat = m := by omega
        rw [em]
        refine ⟨by omega, fun k ρ' => (∀ j, j < k → rowS ps T j = none) ∧ ρ' = [.val (.list (ps.map encP)), .val (.int (m : Int)), .val (.tuple [.list (cs.map .int), .int cost, .list (T.map .int)]), .val (.list (cs.map .int)), .val (.int cost), .val (.list (T.map .int)), .emp, .emp, .emp, .emp, .emp, .emp], ⟨(fun j hj => by omega), rfl⟩, ?_, ?_⟩
        · rintro k dd ρ' hd0 ⟨hno, rfl⟩
          obtain ⟨hk, rfl⟩ := rng_at hd0
          have out : ∀ d, rowS ps T k = some d → Z d := fun d e => by
            rw [tail_out hk hno e] at z
            exact z
          have e1 : (1 : Int) + (k : Int) = (k : Int) + 1 := by omega
          rw [e1]
          refine sg_name (by simp) ?_
          walk_at "w"
          refine sx_for (J := [9, 10, 11]) (ei_enum ?_)
          walk_at "es"
          refine ⟨fun j ρ' => (∀ i, i < j → needS ps T k i = none) ∧ ρ' = [.val (.list (ps.map encP)), .val (.int (m : Int)), .val (.tuple [.list (cs.map .int), .int cost, .list (T.map .int)]), .val (.list (cs.map .int)), .val (.int cost), .val (.list (T.map .int)), .emp, .emp, .val (.int ((k : Int) + 1)), .emp, .emp, .emp], ⟨(fun j hj => by omega), rfl⟩, ?_, ?_⟩
          · rintro j dd ρ' hd1 ⟨hno2, rfl⟩
            obtain ⟨q, hq, rfl⟩ := enum_at hd1
            have kl : j < ps.length := (List.getElem?_eq_some_iff.mp hq).1
            have eq : q = ps.getD j (0, 0) := by rw [List.getD_eq_getElem?_getD, hq]; rfl
            subst eq
            refine sg_tup rfl (sgs_cons (sg_name (by simp) (sgs_cons (sg_tup rfl (sgs_cons (sg_name (by simp) (sgs_cons (sg_name (by simp) (sgs_nil (sgs_nil ?_))))))))))
            have gj := pk.at_ kl
            have bk : ((k : Int) + 1).toNat = k + 1 := by omega
            have bb : (max 0 ((k : Int) + 1 - (ps.getD j (0, 0)).1)).toNat = backN (k + 1) (ps.getD j (0, 0)).1 := by unfold backN; omega
            have out2 : needS ps T k j ≠ none → ∀ d, needS ps T k j = some d → Z d := fun _ d e => out d (Pu.find_first kl hno2 e)
            walk_at "w"
            walk_at "es"
            refine opd_ixM (f := PyData.int) 0 (by omega) (by omega) ?_
            walk_at "es"
            refine opd_ixM (f := PyData.int) 0 (by omega) (by omega) ?_
            walk_at "es"
            rw [bk, bb]
            refine ⟨fun hq => ?_, fun hq => ?_⟩
            · have e : needS ps T k j = some (.tuple [.str (Str.ofString "price"), .int ((k : Int) + 1), .int (j : Int)]) := by
                unfold needS
                rw [if_pos (of_decide_eq_true hq)]
              walk_at "es"
              exact out2 (by rw [e]; simp) _ e
            · walk_at "es"
              refine ⟨_, ?_, (fun i hi => ?_), rfl⟩
              · walk_at "le"
              · rcases (show i < j ∨ i = j by omega) with q | q
                · exact hno2 i q
                · rw [q]; unfold needS; rw [if_neg (of_decide_eq_false hq)]
          · rintro ρ' ⟨hno2, rfl⟩
            rw [enum_len] at hno2
            have e : rowS ps T k = none := Pu.find_no hno2
            refine ⟨_, ?_, (fun i hi => ?_), rfl⟩
            · walk_at "le"
            · rcases (show i < k ∨ i = k by omega) with q | q
              · exact hno i q
              · rw [q]; exact e
        rintro ρ' ⟨hno, rfl⟩
        rw [rng_size] at hno
        rw [tail_end hno] at z
        walk_at "es"
        refine opd_ixL (last_D T m hT1) ?_
        walk_at "es"
        refine ⟨fun hq => ?_, fun hq => ?_⟩
        · rw [if_pos (of_decide_eq_true hq)] at z
          walk_at "es"
          exact z
        · rw [if_neg (of_decide_eq_false hq)] at z
          walk_at "es"
          exact z
    · rw [if_pos h3] at z
      walk_at "yes"
      walk_at "es"
      exact z
end Law_k75
namespace Law_k75
open PySem L2 Pu
local macro_rules | `(tactic| walk_at "e") => `(tactic| first
  | ((with_reducible refine nx_seq ?_); (try dsimp only [List.set_cons_succ, List.set_cons_zero]))
  | ((with_reducible refine ex_vr ?_); dsimp only [VQ, List.set_cons_succ, List.set_cons_zero, List.getElem?_cons_zero, List.getElem?_cons_succ]; (fail_if_success (with_reducible show False)))
  | (with_reducible refine sx_seq ?_)
  | (with_reducible refine sx_if ?_)
  | (with_reducible refine sx_next ?_)
  | (with_reducible refine sx_ret ?_)
  | ((fail_if_success (with_reducible refine sx_asgO (eo_lst ?_))); (with_reducible refine sx_asg ?_))
  | (with_reducible refine ex_int ?_)
  | (with_reducible refine ex_str ?_)
  | (with_reducible refine ex_bl ?_)
  | (with_reducible refine ex_non ?_)
  | (with_reducible refine ex_op ?_)
  | (with_reducible refine ex_un ?_)
  | (with_reducible refine ex_chain ?_)
  | (with_reducible refine ex_call ?_)
  | (with_reducible refine ex_isT ?_)
  | (with_reducible refine ex_cb ?_)
  | (with_reducible refine ex_sl ?_)
  | (with_reducible refine ex_tup ?_)
  | (with_reducible refine ex_if ?_)
  | (with_reducible refine ex_of (eo_lst ?_))
  | (with_reducible refine ex_notV ?_)
  | (with_reducible refine ea_nil ?_)
  | (with_reducible refine ea_cons ?_)
  | (with_reducible refine ep_no ?_)
  | (with_reducible refine ep_some ?_)
  | (with_reducible refine et_test ?_)
  | (with_reducible refine et_B ?_)
  | (with_reducible refine et_ch3 ?_)
  | (with_reducible refine et_and ?_)
  | (with_reducible refine et_or ?_)
  | (with_reducible refine et_not ?_)
  | (with_reducible refine et_yes ?_)
  | (with_reducible refine et_truL ?_)
  | (with_reducible refine opd_plusI ?_)
  | (with_reducible refine opd_I0 ?_)
  | (with_reducible refine opd_B0 ?_)
  | (with_reducible refine opd_eqI ?_)
  | (with_reducible refine opd_neI ?_)
  | (with_reducible refine opd_eqS ?_)
  | (with_reducible refine opd_neS ?_)
  | (with_reducible refine opd_is ?_)
  | (with_reducible refine opd_isnt ?_)
  | (with_reducible refine opd_ixT rfl ?_)
  | (with_reducible refine opd_ixL rfl ?_)
  | (with_reducible refine und_neg ?_)
  | (with_reducible refine cbd_lenL ?_)
  | (with_reducible refine cbd_lenT ?_)
  | (with_reducible refine cbd_min2 ?_)
  | (with_reducible refine cbd_max2 ?_)
  | (with_reducible refine cbd_abs ?_)
  | (with_reducible refine cbd_int ?_)
  | (with_reducible refine cbd_tupL ?_)
  | (with_reducible refine cbd_listL ?_)
  | (with_reducible refine cbd_listT ?_)
  | (with_reducible refine cbd_sum ?_)
  | (with_reducible refine sld_T ?_)
  | (with_reducible refine sld_L ?_)
  | (with_reducible refine ex_revL ?_)
  | (with_reducible refine ex_bmL ?_)
  | (with_reducible refine ex_andV ?_)
  | (with_reducible refine ei_list ?_)
  | (with_reducible refine ei_rng1 ?_)
  | (with_reducible refine ei_rng2 ?_)
  | (with_reducible refine ei_enum ?_)
  | (with_reducible refine ei_enumT ?_)
  | (with_reducible refine ei_zip ?_)
  | (with_reducible refine sx_par ?_)
  | (with_reducible refine Exists.intro _ (And.intro rfl ?_))
  | (with_reducible refine Exists.intro _ (Exists.intro _ (And.intro rfl ?_)))
  | ((with_reducible show EX (tCall (spS _) [] _ (tCons (tVar _) _)) _ _); refine ex_callS rfl ?_)
  | ((with_reducible refine And.intro (show (_ : Nat) ≤ 100000 from ?_) ?_); (focus (simp; done)))
  | ((with_reducible refine opd_I ?_ ?_); focus (first | omega | (show CDiv _ _; exact ⟨by omega, by omega⟩) | (show CMul _ _; first | exact Or.inl ⟨by omega, by omega⟩ | exact Or.inr ⟨by omega, by omega⟩))))
local macro_rules | `(tactic| walk_at "es") => `(tactic| repeat walk_at "e")
local macro_rules | `(tactic| walk_at "w") => `(tactic| try dsimp only [wipeE, List.foldl_cons, List.foldl_nil, List.set_cons_succ, List.set_cons_zero])
local macro_rules | `(tactic| walk_at "le") => `(tactic| repeat' first | exact LeE.nil | (refine LeE.eq rfl ?_) | (refine LeE.emp ?_) | (refine LeE.eq ?_ ?_))
local macro_rules | `(tactic| walk_at "no") => `(tactic| ((refine And.intro (fun hb => absurd hb ?_) (fun _ => ?_)); (focus (first | (exact Bool.false_ne_true) | (simp; done) | (simp; omega) | (simp only [decide_eq_true_eq]; omega)))))
local macro_rules | `(tactic| walk_at "yes") => `(tactic| ((refine And.intro (fun _ => ?_) (fun hb => absurd hb ?_)); (rotate_left); (focus (first | (exact Bool.noConfusion) | (simp; done) | (simp; omega) | (simp only [decide_eq_false_iff_not]; omega)))))
local macro_rules | `(tactic| walk_at "ei") => `(tactic| repeat ((fail_if_success (with_reducible show SX (tSeq (tIfS _ _ _) _) _ _)); (fail_if_success (with_reducible show SX (tIfS _ _ _) _ _)); (fail_if_success (with_reducible show SX (tSeq (tAsg (tIf _ _ _) _) _) _ _)); walk_at "e"))
local macro_rules | `(tactic| walk_at "tv") => `(tactic| repeat' first | walk_at "e" | ((with_reducible show (_ = true → _) ∧ (_ = false → _)); refine And.intro (fun _ => ?_) (fun _ => ?_)))
theorem sx_l_fault (K : PySem.W.Frag) (ds : List D) (Z : D → Prop) (h : R_cfault ds Z) : SX (T_l_fault K) (startE N_l_fault ds) { nx := fun _ => Z .none, rt := fun d _ => Z d } := by
  obtain ⟨ps, m, cs, cost, T, rfl, pk, hm, hc, hT, z⟩ := h
  have p4 := pk.1
  show SX (T_l_fault K) [.val (.list (ps.map encP)), .val (.int (m : Int)), .val (.tuple [.list (cs.map .int), .int cost, .list (T.map .int)]), .emp, .emp, .emp, .emp, .emp, .emp] _
  unfold T_l_fault
  refine sx_seq (sx_asgT (J := [3, 4, 5]) ?_)
  walk_at "es"
  refine sg_tup rfl (sgs_cons (sg_name (by simp) (sgs_cons (sg_name (by simp) (sgs_cons (sg_name (by simp) (sgs_nil ?_)))))))
  walk_at "w"
  refine nx_seq ?_
  unfold faultF at z
  refine sx_seq (sx_if (et_val (!decide (cs.length = ps.length) || negB cs) ?_ ?_))
  · walk_at "es"
    rw [List.length_map, List.length_map]
    have ei : decide ((cs.length : Int) = (ps.length : Int)) = decide (cs.length = ps.length) := by
      by_cases q : cs.length = ps.length
      · rw [decide_eq_true q, decide_eq_true (by omega)]
      · rw [decide_eq_false q, decide_eq_false (by omega)]
    rw [ei]
    refine ⟨fun q => ⟨by rw [q]; rfl, rfl⟩, fun q => ?_⟩
    walk_at "es"
    refine ex_of (eo_lcP (α := Int) (fun c => decide (c < 0)) PyData.int (ei_list ?_))
    walk_at "es"
    refine ⟨by omega, fun i hi => by simp at hi; subst hi; rfl, fun c hx => sg_name (by simp) ⟨rfl, ?_⟩, ?_⟩
    · walk_at "w"
      walk_at "es"
      refine ⟨rfl, rfl, fun _ => ?_⟩
      walk_at "es"
      exact ⟨rfl, rfl⟩
    walk_at "es"
    rw [List.length_map, ← fmin_neg]
    exact ⟨by rw [q]; rfl, rfl⟩
  cases hb : (!decide (cs.length = ps.length) || negB cs) with
  | true =>
    rw [hb, if_pos rfl] at z
    walk_at "yes"
    walk_at "es"
    exact z
  | false =>
    rw [hb, if_neg (by decide)] at z
    simp only [Bool.or_eq_false_iff, Bool.not_eq_false', decide_eq_true_eq] at hb
    have hl := hb.1
    walk_at "no"
    walk_at "es"
    refine ex_of (eo_lcP (α := Int) (fun _ => true) (fun k => .int (cs.getD k.toNat 0 * (ps.getD k.toNat (0, 0)).1)) (ei_rng1 ?_))
    walk_at "es"
    rw [List.length_map, Int.toNat_natCast]
    refine ⟨by omega, rngI 0 ps.length, PyData.int, rfl, by rw [rngI_len]; omega, fun i hi => by simp at hi; subst hi; rfl, fun k hk => sg_name (by simp) ⟨rfl, ?_⟩, ?_⟩
    · have hk := rngI_mem.mp hk
      have gx := pk.at_ (k := k.toNat) (by omega)
      walk_at "w"
      walk_at "es"
      refine ⟨rfl, rfl, fun _ => ?_⟩
      walk_at "es"
      refine opd_ixM (f := PyData.int) 0 (by omega) (by omega) ?_
      walk_at "es"
      refine opd_ixM (0, 0) (by omega) (by omega) ?_
      walk_at "es"
      refine opd_ixT (d := .int (ps.getD k.toNat (0, 0)).1) rfl ?_
      walk_at "es"
      exact ⟨rfl, rfl⟩
    have e1 : (((rngI 0 ps.length).filter fun _ => true).map fun k => PyData.int (cs.getD k.toNat 0 * (ps.getD k.toNat (0, 0)).1)) = ((List.zip cs ps).map fun x => x.1 * x.2.1).map .int := by
      rw [List.filter_eq_self.mpr (fun _ _ => rfl), ← rng_zip Prod.fst cs ps hl, List.map_map]; rfl
    rw [e1]
    walk_at "es"
    rw [zip_dot Prod.fst cs ps]
    by_cases h2 : dot Prod.fst cs ps < (m : Int)
    · rw [if_pos h2] at z
      walk_at "yes"
      walk_at "es"
      exact z
    rw [if_neg h2] at z
    walk_at "no"
    walk_at "es"
    refine ex_of (eo_lcP (α := Int) (fun _ => true) (fun k => .int (cs.getD k.toNat 0 * (ps.getD k.toNat (0, 0)).2)) (ei_rng1 ?_))
    walk_at "es"
    rw [List.length_map, Int.toNat_natCast]
    refine ⟨by omega, rngI 0 ps.length, PyData.int, rfl, by rw [rngI_len]; omega, fun i hi => by simp at hi; subst hi; rfl, fun k hk => sg_name (by simp) ⟨rfl, ?_⟩, ?_⟩
    · have hk := rngI_mem.mp hk
      have gx := pk.at_ (k := k.toNat) (by omega)
      walk_at "w"
      walk_at "es"
      refine ⟨rfl, rfl, fun _ => ?_⟩
      walk_at "es"
      refine opd_ixM (f := PyData.int) 0 (by omega) (by omega) ?_
      walk_at "es"
      refine opd_ixM (0, 0) (by omega) (by omega) ?_
      walk_at "es"
      refine opd_ixT (d := .int (ps.getD k.toNat (0, 0)).2) rfl ?_
      walk_at "es"
      exact ⟨rfl, rfl⟩
    have e2 : (((rngI 0 ps.length).filter fun _ => true).map fun k => PyData.int (cs.getD k.toNat 0 * (ps.getD k.toNat (0, 0)).2)) = ((List.zip cs ps).map fun x => x.1 * x.2.2).map .int := by
      rw [List.filter_eq_self.mpr (fun _ _ => rfl), ← rng_zip Prod.snd cs ps hl, List.map_map]; rfl
    rw [e2]
    walk_at "es"
    rw [zip_dot Prod.snd cs ps]
    by_cases h3 : dot Prod.snd cs ps = cost
    · rw [if_neg (fun q => q h3)] at z
      walk_at "no"
      walk_at "ei"
      refine sx_seq (sx_if (et_val (!decide (T.length = m + 1) || decide (0 < T.getD 0 0)) ?_ ?_))
      · walk_at "es"
        rw [List.length_map]
        have ei : decide ((T.length : Int) = (m : Int) + 1) = decide (T.length = m + 1) := by
          by_cases q : T.length = m + 1
          · rw [decide_eq_true q, decide_eq_true (by omega)]
          · rw [decide_eq_false q, decide_eq_false (by omega)]
        rw [ei]
        refine ⟨fun q => ⟨by rw [q]; rfl, rfl⟩, fun q => ?_⟩
        have q' : T.length = m + 1 := by simpa using q
        walk_at "es"
        refine opd_ixM (f := PyData.int) 0 (by omega) (by omega) ?_
        walk_at "es"
        exact ⟨by rw [q]; rfl, rfl⟩
      cases hb2 : (!decide (T.length = m + 1) || decide (0 < T.getD 0 0)) with
      | true =>
        rw [hb2, if_pos rfl] at z
        walk_at "yes"
        walk_at "es"
        exact z
      | false =>
        rw [hb2, if_neg (by decide)] at z
        simp only [Bool.or_eq_false_iff, Bool.not_eq_false', decide_eq_true_eq] at hb2
        have hT1 := hb2.1
        walk_at "no"
        walk_at "es"
        refine sx_for (J := [8]) (ei_rng2 ?_)
        walk_at "es"
        have em : ((m : Int) + 1 - 1).toNat = m := by omega
        rw [em]
        refine ⟨by omega, fun k ρ' => (∀ j, j < k → rowS ps T j = none) ∧ ρ' = [.val (.list (ps.map encP)), .val (.int (m : Int)), .val (.tuple [.list (cs.map .int), .int cost, .list (T.map .int)]), .val (.list (cs.map .int)), .val (.int cost), .val (.list (T.map .int)), .emp, .emp, .emp], ⟨(fun j hj => by omega), rfl⟩, ?_, ?_⟩
        · rintro k dd ρ' hd0 ⟨hno, rfl⟩
          obtain ⟨hk, rfl⟩ := rng_at hd0
          have out : ∀ d, rowS ps T k = some d → Z d := fun d e => by
            rw [tail_out hk hno e] at z
            exact z
          have e1 : (1 : Int) + (k : Int) = (k : Int) + 1 := by omega
          rw [e1]
          refine sg_name (by simp) ?_
          walk_at "w"
          refine sx_for (J := [7]) (ei_rng1 ?_)
          walk_at "es"
          rw [List.length_map, Int.toNat_natCast]
          refine ⟨by omega, fun j ρ' => (∀ i, i < j → needS ps T k i = none) ∧ ρ' = [.val (.list (ps.map encP)), .val (.int (m : Int)), .val (.tuple [.list (cs.map .int), .int cost, .list (T.map .int)]), .val (.list (cs.map .int)), .val (.int cost), .val (.list (T.map .int)), .emp, .emp, .val (.int ((k : Int) + 1))], ⟨(fun j hj => by omega), rfl⟩, ?_, ?_⟩
          · rintro j dd ρ' hd1 ⟨hno2, rfl⟩
            obtain ⟨kl, rfl⟩ := rng_at hd1
            rw [Int.zero_add]
            refine sg_name (by simp) ?_
            have gj := pk.at_ kl
            have bk : ((k : Int) + 1).toNat = k + 1 := by omega
            have bb : (max 0 ((k : Int) + 1 - (ps.getD j (0, 0)).1)).toNat = backN (k + 1) (ps.getD j (0, 0)).1 := by unfold backN; omega
            have out2 : needS ps T k j ≠ none → ∀ d, needS ps T k j = some d → Z d := fun _ d e => out d (Pu.find_first kl hno2 e)
            walk_at "w"
            walk_at "es"
            refine opd_ixM (f := PyData.int) 0 (by omega) (by omega) ?_
            walk_at "es"
            refine opd_ixM (0, 0) (by omega) (by omega) ?_
            walk_at "es"
            rw [Int.toNat_natCast]
            refine opd_ixT (d := .int (ps.getD j (0, 0)).1) rfl ?_
            walk_at "es"
            refine opd_ixM (f := PyData.int) 0 (by omega) (by omega) ?_
            walk_at "es"
            refine opd_ixM (0, 0) (by omega) (by omega) ?_
            walk_at "es"
            rw [Int.toNat_natCast]
            refine opd_ixT (d := .int (ps.getD j (0, 0)).2) rfl ?_
            walk_at "es"
            rw [bk, bb]
            refine ⟨fun hq => ?_, fun hq => ?_⟩
            · have e : needS ps T k j = some (.tuple [.str (Str.ofString "price"), .int ((k : Int) + 1), .int (j : Int)]) := by
                unfold needS
                rw [if_pos (of_decide_eq_true hq)]
              walk_at "es"
              exact out2 (by rw [e]; simp) _ e
            · walk_at "es"
              refine ⟨_, ?_, (fun i hi => ?_), rfl⟩
              · walk_at "le"
              · rcases (show i < j ∨ i = j by omega) with q | q
                · exact hno2 i q
                · rw [q]; unfold needS; rw [if_neg (of_decide_eq_false hq)]
          · rintro ρ' ⟨hno2, rfl⟩
            rw [rng_size] at hno2
            have e : rowS ps T k = none := Pu.find_no hno2
            refine ⟨_, ?_, (fun i hi => ?_), rfl⟩
            · walk_at "le"
            · rcases (show i < k ∨ i = k by omega) with q | q
              · exact hno i q
              · rw [q]; exact e
        rintro ρ' ⟨hno, rfl⟩
        rw [rng_size] at hno
        rw [tail_end hno] at z
        walk_at "es"
        refine opd_ixL (last_D T m hT1) ?_
        walk_at "es"
        refine ⟨fun hq => ?_, fun hq => ?_⟩
        · rw [if_pos (of_decide_eq_true hq)] at z
          walk_at "es"
          exact z
        · rw [if_neg (of_decide_eq_false hq)] at z
          walk_at "es"
          exact z
    · rw [if_pos h3] at z
      walk_at "yes"
      walk_at "es"
      exact z
end Law_k75
namespace Law_k75
open PySem L2 Pu
local macro_rules | `(tactic| walk_at "e") => `(tactic| first
  | ((with_reducible refine nx_seq ?_); (try dsimp only [List.set_cons_succ, List.set_cons_zero]))
  | ((with_reducible refine ex_vr ?_); dsimp only [VQ, List.set_cons_succ, List.set_cons_zero, List.getElem?_cons_zero, List.getElem?_cons_succ]; (fail_if_success (with_reducible show False)))
  | (with_reducible refine sx_seq ?_)
  | (with_reducible refine sx_if ?_)
  | (with_reducible refine sx_next ?_)
  | (with_reducible refine sx_ret ?_)
  | ((fail_if_success (with_reducible refine sx_asgO (eo_lst ?_))); (with_reducible refine sx_asg ?_))
  | (with_reducible refine ex_int ?_)
  | (with_reducible refine ex_str ?_)
  | (with_reducible refine ex_bl ?_)
  | (with_reducible refine ex_non ?_)
  | (with_reducible refine ex_op ?_)
  | (with_reducible refine ex_un ?_)
  | (with_reducible refine ex_chain ?_)
  | (with_reducible refine ex_call ?_)
  | (with_reducible refine ex_isT ?_)
  | (with_reducible refine ex_cb ?_)
  | (with_reducible refine ex_sl ?_)
  | (with_reducible refine ex_tup ?_)
  | (with_reducible refine ex_if ?_)
  | (with_reducible refine ex_of (eo_lst ?_))
  | (with_reducible refine ex_notV ?_)
  | (with_reducible refine ea_nil ?_)
  | (with_reducible refine ea_cons ?_)
  | (with_reducible refine ep_no ?_)
  | (with_reducible refine ep_some ?_)
  | (with_reducible refine et_test ?_)
  | (with_reducible refine et_B ?_)
  | (with_reducible refine et_ch3 ?_)
  | (with_reducible refine et_and ?_)
  | (with_reducible refine et_or ?_)
  | (with_reducible refine et_not ?_)
  | (with_reducible refine et_yes ?_)
  | (with_reducible refine et_truL ?_)
  | (with_reducible refine opd_plusI ?_)
  | (with_reducible refine opd_I0 ?_)
  | (with_reducible refine opd_B0 ?_)
  | (with_reducible refine opd_eqI ?_)
  | (with_reducible refine opd_neI ?_)
  | (with_reducible refine opd_eqS ?_)
  | (with_reducible refine opd_neS ?_)
  | (with_reducible refine opd_is ?_)
  | (with_reducible refine opd_isnt ?_)
  | (with_reducible refine opd_ixT rfl ?_)
  | (with_reducible refine opd_ixL rfl ?_)
  | (with_reducible refine und_neg ?_)
  | (with_reducible refine cbd_lenL ?_)
  | (with_reducible refine cbd_lenT ?_)
  | (with_reducible refine cbd_min2 ?_)
  | (with_reducible refine cbd_max2 ?_)
  | (with_reducible refine cbd_abs ?_)
  | (with_reducible refine cbd_int ?_)
  | (with_reducible refine cbd_tupL ?_)
  | (with_reducible refine cbd_listL ?_)
  | (with_reducible refine cbd_listT ?_)
  | (with_reducible refine cbd_sum ?_)
  | (with_reducible refine sld_T ?_)
  | (with_reducible refine sld_L ?_)
  | (with_reducible refine ex_revL ?_)
  | (with_reducible refine ex_bmL ?_)
  | (with_reducible refine ex_andV ?_)
  | (with_reducible refine ei_list ?_)
  | (with_reducible refine ei_rng1 ?_)
  | (with_reducible refine ei_rng2 ?_)
  | (with_reducible refine ei_enum ?_)
  | (with_reducible refine ei_enumT ?_)
  | (with_reducible refine ei_zip ?_)
  | (with_reducible refine sx_par ?_)
  | (with_reducible refine Exists.intro _ (And.intro rfl ?_))
  | (with_reducible refine Exists.intro _ (Exists.intro _ (And.intro rfl ?_)))
  | ((with_reducible show EX (tCall (spS _) [] _ (tCons (tVar _) _)) _ _); refine ex_callS rfl ?_)
  | ((with_reducible refine And.intro (show (_ : Nat) ≤ 100000 from ?_) ?_); (focus (simp; done)))
  | ((with_reducible refine opd_I ?_ ?_); focus (first | omega | (show CDiv _ _; exact ⟨by omega, by omega⟩) | (show CMul _ _; first | exact Or.inl ⟨by omega, by omega⟩ | exact Or.inr ⟨by omega, by omega⟩))))
local macro_rules | `(tactic| walk_at "es") => `(tactic| repeat walk_at "e")
local macro_rules | `(tactic| walk_at "w") => `(tactic| try dsimp only [wipeE, List.foldl_cons, List.foldl_nil, List.set_cons_succ, List.set_cons_zero])
local macro_rules | `(tactic| walk_at "le") => `(tactic| repeat' first | exact LeE.nil | (refine LeE.eq rfl ?_) | (refine LeE.emp ?_) | (refine LeE.eq ?_ ?_))
local macro_rules | `(tactic| walk_at "no") => `(tactic| ((refine And.intro (fun hb => absurd hb ?_) (fun _ => ?_)); (focus (first | (exact Bool.false_ne_true) | (simp; done) | (simp; omega) | (simp only [decide_eq_true_eq]; omega)))))
local macro_rules | `(tactic| walk_at "yes") => `(tactic| ((refine And.intro (fun _ => ?_) (fun hb => absurd hb ?_)); (rotate_left); (focus (first | (exact Bool.noConfusion) | (simp; done) | (simp; omega) | (simp only [decide_eq_false_iff_not]; omega)))))
local macro_rules | `(tactic| walk_at "ei") => `(tactic| repeat ((fail_if_success (with_reducible show SX (tSeq (tIfS _ _ _) _) _ _)); (fail_if_success (with_reducible show SX (tIfS _ _ _) _ _)); (fail_if_success (with_reducible show SX (tSeq (tAsg (tIf _ _ _) _) _) _ _)); walk_at "e"))
local macro_rules | `(tactic| walk_at "tv") => `(tactic| repeat' first | walk_at "e" | ((with_reducible show (_ = true → _) ∧ (_ = false → _)); refine And.intro (fun _ => ?_) (fun _ => ?_)))
def optI : Option Int → D
  | none => .none
  | some x => .int x
def stepsF (ps : List (Int × Int)) (m : Nat) : List Int := (rngI 0 m).map fun k => pr ps (k.toNat + 1) - pr ps k.toNat
theorem steps_len (ps : List (Int × Int)) (m : Nat) : (stepsF ps m).length = m := by unfold stepsF; rw [List.length_map, rngI_len]
def R_one_more : List D → (D → Prop) → Prop := fun ds Z => ∃ (ps : List (Int × Int)) (m : Nat), ds = [.list (ps.map encP), .int (m : Int)] ∧ Pk ps ∧ m ≤ 12 ∧ Z (.list ((stepsF ps m).map .int))
theorem sx_one_more (K : PySem.W.Frag) (ds : List D) (Z : D → Prop) (h : R_one_more ds Z) : SX (T_one_more K R_cheapest) (startE N_one_more ds) { nx := fun _ => Z .none, rt := fun d _ => Z d } := by
  obtain ⟨ps, m, rfl, pk, hm, z⟩ := h
  show SX (T_one_more K R_cheapest) [.val (.list (ps.map encP)), .val (.int (m : Int)), .emp, .emp] _
  unfold T_one_more
  walk_at "es"
  refine ⟨ps, m, rfl, pk, hm, fun cs ok => ?_⟩
  walk_at "es"
  refine ex_of (eo_lcP (α := Int) (fun _ => true) (fun k => .int (pr ps (k.toNat + 1) - pr ps k.toNat)) (ei_rng1 ?_))
  walk_at "es"
  have tl := tab_len ps m
  rw [Int.toNat_natCast]
  refine ⟨by omega, rngI 0 m, PyData.int, rfl, by rw [rngI_len]; omega, fun i hi => by simp at hi; subst hi; rfl, fun k hk => sg_name (by simp) ⟨rfl, ?_⟩, ?_⟩
  · have hk := rngI_mem.mp hk
    have e1 : (k + 1).toNat = k.toNat + 1 := by omega
    have g1 := tab_get ps (j := k.toNat + 1) (n := m) (by omega)
    have g2 := tab_get ps (j := k.toNat) (n := m) (by omega)
    walk_at "w"
    walk_at "es"
    refine ⟨rfl, rfl, fun _ => ?_⟩
    walk_at "es"
    refine opd_ixM (f := PyData.int) 0 (by omega) (by omega) ?_
    walk_at "es"
    refine opd_ixM (f := PyData.int) 0 (by omega) (by omega) ?_
    walk_at "es"
    rw [e1, g1, g2]
    exact ⟨rfl, rfl⟩
  · have e : (((rngI 0 m).filter fun _ => true).map fun k => PyData.int (pr ps (k.toNat + 1) - pr ps k.toNat)) = (stepsF ps m).map .int := by
      rw [List.filter_eq_self.mpr (fun _ _ => rfl)]; unfold stepsF; rw [List.map_map]; rfl
    rw [e]
    exact z
def upB (st : List Int) (k : Int) : Bool := decide (st.getD (k - 1).toNat 0 < st.getD k.toNat 0)
def upF (ps : List (Int × Int)) (m : Nat) : Option Int := (rngI 1 (m - 1)).find? (upB (stepsF ps m))
def R_steady : List D → (D → Prop) → Prop := fun ds Z => ∃ (ps : List (Int × Int)) (m : Nat), ds = [.list (ps.map encP), .int (m : Int)] ∧ Pk ps ∧ m ≤ 12 ∧ Z (optI (upF ps m))
theorem find_at {α : Type} {f : α → Bool} : ∀ {l : List α} {k : Nat} {x : α}, l[k]? = some x → f x = true → (∀ j y, j < k → l[j]? = some y → f y = false) → l.find? f = some x
  | [], k, x, hx, _, _ => by simp at hx
  | a :: l, 0, x, hx, fx, _ => by
    simp at hx
    subst hx
    rw [List.find?_cons, fx]
  | a :: l, k + 1, x, hx, fx, h => by
    rw [List.find?_cons, h 0 a (by omega) rfl]
    exact find_at (by simpa using hx) fx fun j y hj hy => h (j + 1) y (by omega) (by simpa using hy)
theorem sx_steady (K : PySem.W.Frag) (ds : List D) (Z : D → Prop) (h : R_steady ds Z) : SX (T_steady K R_one_more) (startE N_steady ds) { nx := fun _ => Z .none, rt := fun d _ => Z d } := by
  obtain ⟨ps, m, rfl, pk, hm, z⟩ := h
  show SX (T_steady K R_one_more) [.val (.list (ps.map encP)), .val (.int (m : Int)), .emp, .emp] _
  unfold T_steady
  walk_at "es"
  refine ⟨ps, m, rfl, pk, hm, ?_⟩
  have sl := steps_len ps m
  unfold upF at z
  generalize stepsF ps m = st at z sl ⊢
  walk_at "es"
  refine sx_for (J := [3]) (ei_rng2 ?_)
  walk_at "es"
  rw [List.length_map, sl]
  have em : ((m : Int) - 1).toNat = m - 1 := by omega
  rw [em]
  refine ⟨by omega, fun k ρ' => (∀ j y, j < k → (rngI 1 (m - 1))[j]? = some y → upB st y = false) ∧ ρ' = [.val (.list (ps.map encP)), .val (.int (m : Int)), .val (.list (st.map .int)), .emp], ⟨(fun j y hj => by omega), rfl⟩, ?_, ?_⟩
  · rintro k dd ρ' hd0 ⟨hno, rfl⟩
    obtain ⟨hk, rfl⟩ := rng_at hd0
    have hx : (rngI 1 (m - 1))[k]? = some (1 + (k : Int)) := rngI_get hk
    refine sg_name (by simp) ?_
    walk_at "w"
    walk_at "es"
    refine opd_ixM (f := PyData.int) 0 (by omega) (by omega) ?_
    walk_at "es"
    refine opd_ixM (f := PyData.int) 0 (by omega) (by omega) ?_
    walk_at "es"
    refine ⟨fun hb => ?_, fun hb => ?_⟩
    · rw [find_at hx hb hno] at z
      walk_at "es"
      exact z
    · walk_at "es"
      refine ⟨_, ?_, (fun j y hj hy => ?_), rfl⟩
      · walk_at "le"
      · rcases (show j < k ∨ j = k by omega) with q | q
        · exact hno j y q hy
        · rw [q, hx] at hy
          cases hy
          exact hb
  · rintro ρ' ⟨hno, rfl⟩
    rw [rng_size] at hno
    have e : (rngI 1 (m - 1)).find? (upB st) = none := by
      rw [List.find?_eq_none]
      intro x hx
      obtain ⟨j, hj, e⟩ := List.getElem_of_mem hx
      have := hno j x (by rw [rngI_len] at hj; exact hj) (by rw [List.getElem?_eq_getElem hj, e])
      simp [this]
    rw [e] at z
    walk_at "es"
    exact z
def Nds (ns : List Int) : Prop := ns.length ≤ 3 ∧ ∀ n ∈ ns, 0 ≤ n ∧ n ≤ 3
theorem nds_sum : ∀ (ns : List Int), (∀ n ∈ ns, 0 ≤ n ∧ n ≤ 3) → 0 ≤ ns.sum ∧ ns.sum ≤ 3 * (ns.length : Int)
  | [], _ => by simp
  | n :: ns, h => by
    have h1 := h n (by simp)
    have h2 := nds_sum ns fun x hx => h x (by simp [hx])
    rw [List.sum_cons, List.length_cons]
    omega
def R_worth : List D → (D → Prop) → Prop := fun ds Z => ∃ (ps : List (Int × Int)) (ns : List Int), ds = [.list (ps.map encP), .list (ns.map .int)] ∧ Pk ps ∧ Nds ns ∧ Z (.tuple [.list ((ns.map fun n => pr ps n.toNat).map .int), .int (pr ps ns.sum.toNat)])
theorem sx_worth_alone (K : PySem.W.Frag) (ds : List D) (Z : D → Prop) (h : R_worth ds Z) : SX (T_worth_alone K R_cheapest) (startE N_worth_alone ds) { nx := fun _ => Z .none, rt := fun d _ => Z d } := by
  obtain ⟨ps, ns, rfl, pk, nd, z⟩ := h
  have n3 := nd.1
  show SX (T_worth_alone K R_cheapest) [.val (.list (ps.map encP)), .val (.list (ns.map .int)), .emp] _
  unfold T_worth_alone
  walk_at "es"
  refine ex_of (eo_lcP (α := Int) (fun _ => true) (fun n => .int (pr ps n.toNat)) (ei_list ?_))
  walk_at "es"
  refine ⟨by omega, fun i hi => by simp at hi; subst hi; rfl, fun n hn => sg_name (by simp) ⟨rfl, ?_⟩, ?_⟩
  · have hn := nd.2 n hn
    walk_at "w"
    walk_at "es"
    refine ⟨rfl, rfl, fun _ => ?_⟩
    walk_at "es"
    refine ⟨ps, n.toNat, by rw [Int.toNat_of_nonneg hn.1], pk, by omega, fun cs ok => ?_⟩
    walk_at "es"
    exact ⟨rfl, rfl⟩
  have e : ((ns.filter fun _ => true).map fun n => PyData.int (pr ps n.toNat)) = (ns.map fun n => pr ps n.toNat).map .int := by
    rw [List.filter_eq_self.mpr (fun _ _ => rfl), List.map_map]; rfl
  rw [e]
  walk_at "es"
  have sm := nds_sum ns nd.2
  refine ⟨ps, ns.sum.toNat, by rw [Int.toNat_of_nonneg sm.1], pk, by omega, fun cs ok => ?_⟩
  walk_at "es"
  exact z
def encR (row : List Int) : D := .list (row.map .int)
def freeB (row : List Int) (x : Int) : Bool := !row.any fun y => y == x
def nextO (n : Nat) (row : List Int) : List (List Int) := ((rngI 0 n).filter (freeB row)).map fun x => row ++ [x]
def ordF (n : Nat) : Nat → List (List Int)
  | 0 => [[]]
  | k + 1 => (ordF n k).flatMap (nextO n)
theorem next_len (n : Nat) (row : List Int) : (nextO n row).length ≤ n := by
  unfold nextO
  rw [List.length_map]
  refine Nat.le_trans (List.length_filter_le _ _) ?_
  rw [rngI_len]
  exact Nat.le_refl _
theorem flat_leN (n : Nat) : ∀ l : List (List Int), (l.flatMap (nextO n)).length ≤ n * l.length
  | [] => by simp
  | r :: l => by
    rw [List.flatMap_cons, List.length_append, List.length_cons, Nat.mul_add]
    have h1 := next_len n r
    have h2 := flat_leN n l
    omega
theorem ord_len (n : Nat) (hn : n ≤ 3) : ∀ k, k ≤ 3 → (ordF n k).length ≤ 3 ^ k
  | 0, _ => by simp [ordF]
  | k + 1, hk => by
    have h1 := ord_len n hn k (by omega)
    have h2 := flat_leN n (ordF n k)
    have h3 : n * (ordF n k).length ≤ 3 * (ordF n k).length := Nat.mul_le_mul_right _ hn
    show ((ordF n k).flatMap (nextO n)).length ≤ _
    rw [Nat.pow_succ]
    omega
theorem ord_27 (n : Nat) (hn : n ≤ 3) (k : Nat) (hk : k ≤ 3) : (ordF n k).length ≤ 27 := by
  have h1 := ord_len n hn k hk
  have h2 : 3 ^ k ≤ 3 ^ 3 := Nat.pow_le_pow_right (by decide) hk
  have e : 3 ^ 3 = 27 := by decide
  omega
theorem ord_ok (n : Nat) : ∀ k, ∀ row ∈ ordF n k, row.length = k ∧ ∀ x ∈ row, 0 ≤ x ∧ x < (n : Int)
  | 0, row, h => by
    have : row = [] := by simpa [ordF] using h
    subst this
    simp
  | k + 1, row, h => by
    obtain ⟨r, hr, h⟩ := List.mem_flatMap.mp h
    obtain ⟨x, hx, rfl⟩ := List.mem_map.mp h
    have hx := rngI_mem.mp (List.mem_filter.mp hx).1
    obtain ⟨h1, h2⟩ := ord_ok n k r hr
    refine ⟨by simp [h1], fun y hy => ?_⟩
    rcases List.mem_append.mp hy with q | q
    · exact h2 y q
    · rw [List.mem_singleton.mp q]; omega
theorem any_int (row : List Int) (x : Int) : (row.map PyData.int).any (fun y => PyData.eqv y (.int x)) = row.any fun y => y == x := by rw [List.any_map]; rfl
def R_orders : List D → (D → Prop) → Prop := fun ds Z => ∃ n : Nat, ds = [.int (n : Int)] ∧ n ≤ 3 ∧ Z (.list ((ordF n n).map encR))
theorem sx_orders_of (K : PySem.W.Frag) (ds : List D) (Z : D → Prop) (h : R_orders ds Z) : SX (T_orders_of K) (startE N_orders_of ds) { nx := fun _ => Z .none, rt := fun d _ => Z d } := by
  obtain ⟨n, rfl, hn, z⟩ := h
  show SX (T_orders_of K) [.val (.int (n : Int)), .emp, .emp, .emp, .emp] _
  unfold T_orders_of
  refine sx_seq (sx_asg (ex_of (eo_lst ?_)))
  walk_at "es"
  refine sx_for (J := [2]) (ei_rng1 ?_)
  walk_at "es"
  rw [Int.toNat_natCast]
  refine ⟨by omega, fun k ρ' => ρ' = [.val (.int (n : Int)), .val (.list ((ordF n k).map encR)), .emp, .emp, .emp], rfl, ?_, ?_⟩
  · rintro k dd ρ' hd0 rfl
    obtain ⟨hk, rfl⟩ := rng_at hd0
    have lk := ord_27 n hn k (by omega)
    have lk1 := ord_27 n hn (k + 1) (by omega)
    refine sg_name (by simp) ?_
    walk_at "w"
    refine sx_asg (ex_of (eo_lc2P (α := List Int) (β := Int) (fun _ => true) (fun _ => rngI 0 n) freeB (fun _ x => .int x) (fun row x => encR (row ++ [x])) (ei_list ?_)))
    have el : lc2L (fun _ => true) (fun _ => rngI 0 n) freeB (fun row x => encR (row ++ [x])) (ordF n k) = (ordF n (k + 1)).map encR := by
      unfold lc2L
      rw [List.filter_eq_self.mpr (fun _ _ => rfl)]
      show _ = ((ordF n k).flatMap (nextO n)).map encR
      rw [List.map_flatMap]
      unfold nextO
      simp only [List.map_map]
      rfl
    walk_at "es"
    refine ⟨by rw [el, List.length_map]; omega, fun i hi => by simp at hi; rcases hi with rfl | rfl <;> rfl, fun row hrow => sg_name (by simp) ⟨rfl, fun i hi => by simp at hi; subst hi; rfl, ?_⟩, ?_⟩
    · obtain ⟨r1, r2⟩ := ord_ok n k row hrow
      walk_at "w"
      walk_at "es"
      refine ⟨rfl, rfl, fun _ => ei_rng1 ?_⟩
      walk_at "es"
      rw [Int.toNat_natCast]
      refine ⟨by omega, rfl, rfl, fun x hx => sg_name (by simp) ⟨rfl, ?_⟩⟩
      unfold encR
      walk_at "w"
      walk_at "es"
      refine opd_ninL (min_r (by simp [PyData.depth])) ?_
      rw [any_int]
      walk_at "es"
      refine ⟨rfl, rfl, fun _ => ?_⟩
      walk_at "es"
      refine opd_plusL (by simp; omega) ?_
      exact ⟨by rw [List.map_append]; rfl, rfl⟩
    · rw [el]
      refine ⟨_, ?_, rfl⟩
      walk_at "le"
  · rintro ρ' rfl
    rw [rng_size]
    walk_at "es"
    exact z
theorem sx_l_orders (K : PySem.W.Frag) (ds : List D) (Z : D → Prop) (h : R_orders ds Z) : SX (T_l_orders K) (startE N_l_orders ds) { nx := fun _ => Z .none, rt := fun d _ => Z d } := by
  obtain ⟨n, rfl, hn, z⟩ := h
  show SX (T_l_orders K) [.val (.int (n : Int)), .emp, .emp, .emp, .emp, .emp] _
  unfold T_l_orders
  refine sx_seq (sx_asg (ex_of (eo_lst ?_)))
  walk_at "es"
  refine sx_for (J := [2]) (ei_rng1 ?_)
  walk_at "es"
  rw [Int.toNat_natCast]
  refine ⟨by omega, fun k ρ' => ρ' = [.val (.int (n : Int)), .val (.list ((ordF n k).map encR)), .emp, .emp, .emp, .emp], rfl, ?_, ?_⟩
  · rintro k dd ρ' hd0 rfl
    obtain ⟨hk, rfl⟩ := rng_at hd0
    have lk := ord_27 n hn k (by omega)
    have lk1 := ord_27 n hn (k + 1) (by omega)
    have ok := ord_ok n k
    have es : ordF n (k + 1) = (ordF n k).flatMap (nextO n) := rfl
    rw [es] at lk1
    generalize ordF n k = R at lk lk1 ok es ⊢
    refine sg_name (by simp) ?_
    walk_at "w"
    walk_at "es"
    refine sx_asgO (eo_lst ?_)
    walk_at "es"
    refine sx_for (J := [4]) (ei_list ?_)
    walk_at "es"
    refine ⟨fun j ρ' => ρ' = [.val (.int (n : Int)), .val (.list (R.map encR)), .val (.int (0 + (k : Int))), .own (((R.take j).flatMap (nextO n)).map encR), .emp, .emp], rfl, ?_, ?_⟩
    · rintro j dd ρ' hd1 rfl
      obtain ⟨row, hr, rfl⟩ := map_at hd1
      obtain ⟨r1, r2⟩ := ok row (List.mem_of_getElem? hr)
      have hs2 : ((R.take (j + 1)).flatMap (nextO n)) = (R.take j).flatMap (nextO n) ++ nextO n row := by rw [take_snoc' hr, flat_snoc']
      have l3 := flat_leN n (R.take j)
      have l5 : n * (R.take j).length ≤ 3 * 27 := Nat.mul_le_mul hn (by rw [List.length_take]; omega)
      have l4 := next_len n row
      refine sg_name (by simp) ?_
      walk_at "w"
      refine sx_ext rfl ?_
      refine ex_of (eo_lcP (α := Int) (freeB row) (fun x => encR (row ++ [x])) (ei_rng1 ?_))
      walk_at "es"
      rw [Int.toNat_natCast]
      refine ⟨by omega, rngI 0 n, PyData.int, rfl, by rw [rngI_len]; omega, fun i hi => by simp at hi; subst hi; rfl, fun x hx => sg_name (by simp) ⟨rfl, ?_⟩, ?_⟩
      · unfold encR
        walk_at "w"
        walk_at "es"
        refine opd_ninL (min_r (by simp [PyData.depth])) ?_
        rw [any_int]
        walk_at "es"
        refine ⟨rfl, rfl, fun _ => ?_⟩
        walk_at "es"
        refine opd_plusL (by simp; omega) ?_
        exact ⟨by rw [List.map_append]; rfl, rfl⟩
      · have e : (((rngI 0 n).filter (freeB row)).map fun x => encR (row ++ [x])) = (nextO n row).map encR := by unfold nextO; rw [List.map_map]; rfl
        rw [e]
        refine ⟨_, _, rfl, rfl, by simp only [List.length_map]; omega, ?_⟩
        rw [← List.map_append, ← hs2]
        refine ⟨_, ?_, rfl⟩
        walk_at "le"
    · rintro ρ' rfl
      rw [List.length_map, List.take_length]
      refine nx_seq (sx_freeze 3 rfl ?_)
      walk_at "w"
      walk_at "es"
      rw [es]
      refine ⟨_, ?_, rfl⟩
      walk_at "le"
  · rintro ρ' rfl
    rw [rng_size]
    walk_at "es"
    exact z
end Law_k75
namespace Law_k75
open PySem L2 Pu
local macro_rules | `(tactic| walk_at "e") => `(tactic| first
  | ((with_reducible refine nx_seq ?_); (try dsimp only [List.set_cons_succ, List.set_cons_zero]))
  | ((with_reducible refine ex_vr ?_); dsimp only [VQ, List.set_cons_succ, List.set_cons_zero, List.getElem?_cons_zero, List.getElem?_cons_succ]; (fail_if_success (with_reducible show False)))
  | (with_reducible refine sx_seq ?_)
  | (with_reducible refine sx_if ?_)
  | (with_reducible refine sx_next ?_)
  | (with_reducible refine sx_ret ?_)
  | ((fail_if_success (with_reducible refine sx_asgO (eo_lst ?_))); (with_reducible refine sx_asg ?_))
  | (with_reducible refine ex_int ?_)
  | (with_reducible refine ex_str ?_)
  | (with_reducible refine ex_bl ?_)
  | (with_reducible refine ex_non ?_)
  | (with_reducible refine ex_op ?_)
  | (with_reducible refine ex_un ?_)
  | (with_reducible refine ex_chain ?_)
  | (with_reducible refine ex_call ?_)
  | (with_reducible refine ex_isT ?_)
  | (with_reducible refine ex_cb ?_)
  | (with_reducible refine ex_sl ?_)
  | (with_reducible refine ex_tup ?_)
  | (with_reducible refine ex_if ?_)
  | (with_reducible refine ex_of (eo_lst ?_))
  | (with_reducible refine ex_notV ?_)
  | (with_reducible refine ea_nil ?_)
  | (with_reducible refine ea_cons ?_)
  | (with_reducible refine ep_no ?_)
  | (with_reducible refine ep_some ?_)
  | (with_reducible refine et_test ?_)
  | (with_reducible refine et_B ?_)
  | (with_reducible refine et_ch3 ?_)
  | (with_reducible refine et_and ?_)
  | (with_reducible refine et_or ?_)
  | (with_reducible refine et_not ?_)
  | (with_reducible refine et_yes ?_)
  | (with_reducible refine et_truL ?_)
  | (with_reducible refine opd_plusI ?_)
  | (with_reducible refine opd_I0 ?_)
  | (with_reducible refine opd_B0 ?_)
  | (with_reducible refine opd_eqI ?_)
  | (with_reducible refine opd_neI ?_)
  | (with_reducible refine opd_eqS ?_)
  | (with_reducible refine opd_neS ?_)
  | (with_reducible refine opd_is ?_)
  | (with_reducible refine opd_isnt ?_)
  | (with_reducible refine opd_ixT rfl ?_)
  | (with_reducible refine opd_ixL rfl ?_)
  | (with_reducible refine und_neg ?_)
  | (with_reducible refine cbd_lenL ?_)
  | (with_reducible refine cbd_lenT ?_)
  | (with_reducible refine cbd_min2 ?_)
  | (with_reducible refine cbd_max2 ?_)
  | (with_reducible refine cbd_abs ?_)
  | (with_reducible refine cbd_int ?_)
  | (with_reducible refine cbd_tupL ?_)
  | (with_reducible refine cbd_listL ?_)
  | (with_reducible refine cbd_listT ?_)
  | (with_reducible refine cbd_sum ?_)
  | (with_reducible refine sld_T ?_)
  | (with_reducible refine sld_L ?_)
  | (with_reducible refine ex_revL ?_)
  | (with_reducible refine ex_bmL ?_)
  | (with_reducible refine ex_andV ?_)
  | (with_reducible refine ei_list ?_)
  | (with_reducible refine ei_rng1 ?_)
  | (with_reducible refine ei_rng2 ?_)
  | (with_reducible refine ei_enum ?_)
  | (with_reducible refine ei_enumT ?_)
  | (with_reducible refine ei_zip ?_)
  | (with_reducible refine sx_par ?_)
  | (with_reducible refine Exists.intro _ (And.intro rfl ?_))
  | (with_reducible refine Exists.intro _ (Exists.intro _ (And.intro rfl ?_)))
  | ((with_reducible show EX (tCall (spS _) [] _ (tCons (tVar _) _)) _ _); refine ex_callS rfl ?_)
  | ((with_reducible refine And.intro (show (_ : Nat) ≤ 100000 from ?_) ?_); (focus (simp; done)))
  | ((with_reducible refine opd_I ?_ ?_); focus (first | omega | (show CDiv _ _; exact ⟨by omega, by omega⟩) | (show CMul _ _; first | exact Or.inl ⟨by omega, by omega⟩ | exact Or.inr ⟨by omega, by omega⟩))))
local macro_rules | `(tactic| walk_at "es") => `(tactic| repeat walk_at "e")
local macro_rules | `(tactic| walk_at "w") => `(tactic| try dsimp only [wipeE, List.foldl_cons, List.foldl_nil, List.set_cons_succ, List.set_cons_zero])
local macro_rules | `(tactic| walk_at "le") => `(tactic| repeat' first | exact LeE.nil | (refine LeE.eq rfl ?_) | (refine LeE.emp ?_) | (refine LeE.eq ?_ ?_))
local macro_rules | `(tactic| walk_at "no") => `(tactic| ((refine And.intro (fun hb => absurd hb ?_) (fun _ => ?_)); (focus (first | (exact Bool.false_ne_true) | (simp; done) | (simp; omega) | (simp only [decide_eq_true_eq]; omega)))))
local macro_rules | `(tactic| walk_at "yes") => `(tactic| ((refine And.intro (fun _ => ?_) (fun hb => absurd hb ?_)); (rotate_left); (focus (first | (exact Bool.noConfusion) | (simp; done) | (simp; omega) | (simp only [decide_eq_false_iff_not]; omega)))))
local macro_rules | `(tactic| walk_at "ei") => `(tactic| repeat ((fail_if_success (with_reducible show SX (tSeq (tIfS _ _ _) _) _ _)); (fail_if_success (with_reducible show SX (tIfS _ _ _) _ _)); (fail_if_success (with_reducible show SX (tSeq (tAsg (tIf _ _ _) _) _) _ _)); walk_at "e"))
local macro_rules | `(tactic| walk_at "tv") => `(tactic| repeat' first | walk_at "e" | ((with_reducible show (_ = true → _) ∧ (_ = false → _)); refine And.intro (fun _ => ?_) (fun _ => ?_)))
def tkn (ns row : List Int) (j : Nat) : Int := ((row.take j).map fun a => ns.getD a.toNat 0).sum
def oneS (ps : List (Int × Int)) (ns row : List Int) : Nat → List Int → List Int
  | 0, s => s
  | j + 1, s => (oneS ps ns row j s).set (row.getD j 0).toNat ((oneS ps ns row j s).getD (row.getD j 0).toNat 0 + (pr ps (tkn ns row (j + 1)).toNat - pr ps (tkn ns row j).toNat))
def allS (ps : List (Int × Int)) (ns : List Int) (rows : List (List Int)) : List Int := rows.foldl (fun s row => oneS ps ns row row.length s) (List.replicate ns.length 0)
theorem oneS_len (ps : List (Int × Int)) (ns row : List Int) : ∀ j s, (oneS ps ns row j s).length = s.length
  | 0, _ => rfl
  | j + 1, s => by rw [oneS, List.length_set, oneS_len ps ns row j s]
theorem allS_len (ps : List (Int × Int)) (ns : List Int) (rows : List (List Int)) : (allS ps ns rows).length = ns.length := by
  have : ∀ (l : List (List Int)) (s : List Int), (l.foldl (fun s row => oneS ps ns row row.length s) s).length = s.length := by
    intro l
    induction l with
    | nil => intro s; rfl
    | cons r l ih => intro s; rw [List.foldl_cons, ih, oneS_len]
  unfold allS
  rw [this, List.length_replicate]
theorem tkn_succ {ns row : List Int} {j : Nat} {a : Int} (h : row[j]? = some a) : tkn ns row (j + 1) = tkn ns row j + ns.getD a.toNat 0 := by
  unfold tkn
  rw [take_snoc' h, List.map_append, List.sum_append]
  simp
theorem need_in {ns : List Int} (h : Nds ns) (k : Nat) : 0 ≤ ns.getD k 0 ∧ ns.getD k 0 ≤ 3 := by
  by_cases hk : k < ns.length
  · exact h.2 _ (mem_D hk)
  · rw [List.getD_eq_getElem?_getD, List.getElem?_eq_none (by omega)]
    exact ⟨Int.le_refl _, by decide⟩
theorem tkn_in {ns : List Int} (h : Nds ns) (row : List Int) : ∀ j, j ≤ row.length → 0 ≤ tkn ns row j ∧ tkn ns row j ≤ 3 * (j : Int)
  | 0, _ => by simp [tkn]
  | j + 1, hj => by
    have ih := tkn_in h row j (by omega)
    have ha : row[j]? = some row[j] := List.getElem?_eq_getElem (by omega)
    rw [tkn_succ ha]
    have := need_in h row[j].toNat
    omega
def R_fair : List D → (D → Prop) → Prop := fun ds Z => ∃ (ps : List (Int × Int)) (ns : List Int), ds = [.list (ps.map encP), .list (ns.map .int)] ∧ Pk ps ∧ Nds ns ∧ Z (.tuple [.list ((allS ps ns (ordF ns.length ns.length)).map .int), .int ((ordF ns.length ns.length).length : Int)])
theorem zeros (ns : List Int) : ((ns.filter fun _ => true).map fun _ => PyData.int 0) = (List.replicate ns.length (0 : Int)).map .int := by
  rw [List.filter_eq_self.mpr (fun _ _ => rfl), List.map_replicate, List.map_const']
theorem sx_fair_parts (K : PySem.W.Frag) (ds : List D) (Z : D → Prop) (h : R_fair ds Z) : SX (T_fair_parts K R_orders R_cheapest) (startE N_fair_parts ds) { nx := fun _ => Z .none, rt := fun d _ => Z d } := by
  obtain ⟨ps, ns, rfl, pk, nd, z⟩ := h
  have n3 := nd.1
  show SX (T_fair_parts K R_orders R_cheapest) [.val (.list (ps.map encP)), .val (.list (ns.map .int)), .emp, .emp, .emp, .emp, .emp, .emp, .emp, .emp] _
  unfold T_fair_parts
  refine sx_seq (sx_asgO (eo_lcP (α := Int) (fun _ => true) (fun _ => .int 0) (ei_list ?_)))
  walk_at "es"
  refine ⟨by omega, fun i hi => by simp at hi; subst hi; rfl, fun q hq => sg_name (by simp) ⟨rfl, ?_⟩, ?_⟩
  · walk_at "w"
    walk_at "es"
    refine ⟨rfl, rfl, fun _ => ?_⟩
    walk_at "es"
    exact ⟨rfl, rfl⟩
  rw [zeros]
  walk_at "es"
  refine ⟨(ns.map PyData.int).length, rfl, by rw [List.length_map]; exact n3, ?_⟩
  rw [List.length_map]
  have ol := ord_27 ns.length n3 ns.length n3
  have ook := ord_ok ns.length ns.length
  generalize ordF ns.length ns.length = rows at ol ook z ⊢
  walk_at "es"
  refine sx_for (J := [5]) (ei_list ?_)
  walk_at "es"
  refine ⟨fun k ρ' => ρ' = [.val (.list (ps.map encP)), .val (.list (ns.map .int)), .own ((allS ps ns (rows.take k)).map .int), .emp, .val (.list (rows.map encR)), .emp, .emp, .emp, .emp, .emp], rfl, ?_, ?_⟩
  · rintro k dd ρ' hd0 rfl
    obtain ⟨row, hr, rfl⟩ := map_at hd0
    obtain ⟨r1, r2⟩ := ook row (List.mem_of_getElem? hr)
    have hs : allS ps ns (rows.take (k + 1)) = oneS ps ns row row.length (allS ps ns (rows.take k)) := by
      rw [take_snoc' hr]; unfold allS; rw [List.foldl_append]; rfl
    have sl := allS_len ps ns (rows.take k)
    generalize allS ps ns (rows.take k) = s0 at hs sl ⊢
    refine sg_name (by simp) ?_
    unfold encR
    walk_at "w"
    walk_at "es"
    refine sx_for (J := [8]) (ei_list ?_)
    walk_at "es"
    refine ⟨fun j ρ' => ρ' = [.val (.list (ps.map encP)), .val (.list (ns.map .int)), .own ((oneS ps ns row j s0).map .int), .emp, .val (.list (rows.map encR)), .val (.list (row.map .int)), .val (.int (tkn ns row j)), .val (.int (pr ps (tkn ns row j).toNat)), .emp, .emp], rfl, ?_, ?_⟩
    · rintro j dd ρ' hd1 rfl
      obtain ⟨a, ha, rfl⟩ := map_at hd1
      obtain ⟨a0, a1⟩ := r2 a (List.mem_of_getElem? ha)
      have hj : j < row.length := (List.getElem?_eq_some_iff.mp ha).1
      have ea : row.getD j 0 = a := by rw [List.getD_eq_getElem?_getD, ha]; rfl
      have ts := tkn_succ (ns := ns) ha
      have ti := tkn_in nd row (j + 1) (by omega)
      have ol2 := oneS_len ps ns row j s0
      have hst : oneS ps ns row (j + 1) s0 = (oneS ps ns row j s0).set a.toNat ((oneS ps ns row j s0).getD a.toNat 0 + pr ps (tkn ns row (j + 1)).toNat - pr ps (tkn ns row j).toNat) := by
        rw [oneS, ea, Int.add_sub_assoc]
      refine sg_name (by simp) ?_
      walk_at "w"
      walk_at "es"
      refine opd_ixM (f := PyData.int) 0 (by omega) (by omega) ?_
      walk_at "es"
      rw [← ts]
      refine ⟨ps, (tkn ns row (j + 1)).toNat, by rw [Int.toNat_of_nonneg ti.1], pk, by omega, fun cs ok => ?_⟩
      walk_at "e"
      refine opd_ixT (d := .int (pr ps (tkn ns row (j + 1)).toNat)) rfl ?_
      refine nx_seq ?_
      walk_at "w"
      generalize oneS ps ns row j s0 = s at hst ol2 ⊢
      refine sx_seq (sx_setO (es := s.map .int) (ex_op (ex_op (ex_ixO rfl ?_))))
      walk_at "es"
      refine ⟨_, a, .int (s.getD a.toNat 0), rfl, rfl, atI_map (f := PyData.int) 0 a0 (by omega), ?_⟩
      walk_at "es"
      refine ⟨rfl, ?_⟩
      walk_at "es"
      refine ⟨_, a, a.toNat, rfl, rfl, by rw [List.length_map]; exact ixN_in a0 (by omega), ?_⟩
      rw [hst, List.map_set]
      refine nx_seq ?_
      walk_at "w"
      walk_at "es"
      refine ⟨_, ?_, rfl⟩
      walk_at "le"
    · rintro ρ' rfl
      rw [List.length_map, ← hs]
      refine ⟨_, ?_, rfl⟩
      walk_at "le"
  · rintro ρ' rfl
    rw [List.length_map, List.take_length]
    refine nx_seq (sx_freeze 2 rfl ?_)
    walk_at "w"
    walk_at "es"
    rw [List.length_map]
    exact z
theorem zipW_int : ∀ (xs ys : List Int), List.zipWith (fun d f => PyData.tuple [d, f]) (xs.map PyData.int) (ys.map PyData.int) = (List.zip xs ys).map encP
  | [], _ => rfl
  | _ :: _, [] => rfl
  | x :: xs, y :: ys => by
    rw [List.map_cons, List.map_cons, List.zipWith_cons_cons, zipW_int xs ys]
    rfl
def subF (xs ys : List Int) : List Int := (List.zip xs ys).map fun p => p.1 - p.2
def R_refunds : List D → (D → Prop) → Prop := fun ds Z => ∃ xs ys : List Int, ds = [.list (xs.map .int), .list (ys.map .int)] ∧ xs.length ≤ 1000 ∧ Z (.tuple [.list ((subF xs ys).map .int), .int (subF xs ys).sum])
theorem sx_refunds (K : PySem.W.Frag) (ds : List D) (Z : D → Prop) (h : R_refunds ds Z) : SX (T_refunds K) (startE N_refunds ds) { nx := fun _ => Z .none, rt := fun d _ => Z d } := by
  obtain ⟨xs, ys, rfl, hl, z⟩ := h
  show SX (T_refunds K) [.val (.list (xs.map .int)), .val (.list (ys.map .int)), .emp, .emp, .emp] _
  unfold T_refunds
  walk_at "es"
  refine ex_of (eo_lcP (α := Int × Int) (fun _ => true) (fun p => .int (p.1 - p.2)) (ei_zip ?_))
  walk_at "e"
  walk_at "e"
  walk_at "e"
  walk_at "e"
  walk_at "e"
  refine ⟨_, _, rfl, List.zip xs ys, encP, zipW_int xs ys, by rw [List.length_zip]; omega, fun i hi => by simp at hi; rcases hi with rfl | rfl <;> rfl, fun p hp => ?_, ?_⟩
  · refine sg_tup rfl (sgs_cons (sg_name (by simp) (sgs_cons (sg_name (by simp) (sgs_nil ⟨rfl, ?_⟩)))))
    walk_at "w"
    walk_at "es"
    refine ⟨rfl, rfl, fun _ => ?_⟩
    walk_at "es"
    exact ⟨rfl, rfl⟩
  · have e : (((List.zip xs ys).filter fun _ => true).map fun p => PyData.int (p.1 - p.2)) = (subF xs ys).map .int := by
      rw [List.filter_eq_self.mpr (fun _ _ => rfl)]; unfold subF; rw [List.map_map]; rfl
    rw [e]
    walk_at "es"
    exact z
end Law_k75
namespace Law_k75
open PySem L2 Pu
local macro_rules | `(tactic| walk_at "e") => `(tactic| first
  | ((with_reducible refine nx_seq ?_); (try dsimp only [List.set_cons_succ, List.set_cons_zero]))
  | ((with_reducible refine ex_vr ?_); dsimp only [VQ, List.set_cons_succ, List.set_cons_zero, List.getElem?_cons_zero, List.getElem?_cons_succ]; (fail_if_success (with_reducible show False)))
  | (with_reducible refine sx_seq ?_)
  | (with_reducible refine sx_if ?_)
  | (with_reducible refine sx_next ?_)
  | (with_reducible refine sx_ret ?_)
  | ((fail_if_success (with_reducible refine sx_asgO (eo_lst ?_))); (with_reducible refine sx_asg ?_))
  | (with_reducible refine ex_int ?_)
  | (with_reducible refine ex_str ?_)
  | (with_reducible refine ex_bl ?_)
  | (with_reducible refine ex_non ?_)
  | (with_reducible refine ex_op ?_)
  | (with_reducible refine ex_un ?_)
  | (with_reducible refine ex_chain ?_)
  | (with_reducible refine ex_call ?_)
  | (with_reducible refine ex_isT ?_)
  | (with_reducible refine ex_cb ?_)
  | (with_reducible refine ex_sl ?_)
  | (with_reducible refine ex_tup ?_)
  | (with_reducible refine ex_if ?_)
  | (with_reducible refine ex_of (eo_lst ?_))
  | (with_reducible refine ex_notV ?_)
  | (with_reducible refine ea_nil ?_)
  | (with_reducible refine ea_cons ?_)
  | (with_reducible refine ep_no ?_)
  | (with_reducible refine ep_some ?_)
  | (with_reducible refine et_test ?_)
  | (with_reducible refine et_B ?_)
  | (with_reducible refine et_ch3 ?_)
  | (with_reducible refine et_and ?_)
  | (with_reducible refine et_or ?_)
  | (with_reducible refine et_not ?_)
  | (with_reducible refine et_yes ?_)
  | (with_reducible refine et_truL ?_)
  | (with_reducible refine opd_plusI ?_)
  | (with_reducible refine opd_I0 ?_)
  | (with_reducible refine opd_B0 ?_)
  | (with_reducible refine opd_eqI ?_)
  | (with_reducible refine opd_neI ?_)
  | (with_reducible refine opd_eqS ?_)
  | (with_reducible refine opd_neS ?_)
  | (with_reducible refine opd_is ?_)
  | (with_reducible refine opd_isnt ?_)
  | (with_reducible refine opd_ixT rfl ?_)
  | (with_reducible refine opd_ixL rfl ?_)
  | (with_reducible refine und_neg ?_)
  | (with_reducible refine cbd_lenL ?_)
  | (with_reducible refine cbd_lenT ?_)
  | (with_reducible refine cbd_min2 ?_)
  | (with_reducible refine cbd_max2 ?_)
  | (with_reducible refine cbd_abs ?_)
  | (with_reducible refine cbd_int ?_)
  | (with_reducible refine cbd_tupL ?_)
  | (with_reducible refine cbd_listL ?_)
  | (with_reducible refine cbd_listT ?_)
  | (with_reducible refine cbd_sum ?_)
  | (with_reducible refine sld_T ?_)
  | (with_reducible refine sld_L ?_)
  | (with_reducible refine ex_revL ?_)
  | (with_reducible refine ex_bmL ?_)
  | (with_reducible refine ex_andV ?_)
  | (with_reducible refine ei_list ?_)
  | (with_reducible refine ei_rng1 ?_)
  | (with_reducible refine ei_rng2 ?_)
  | (with_reducible refine ei_enum ?_)
  | (with_reducible refine ei_enumT ?_)
  | (with_reducible refine ei_zip ?_)
  | (with_reducible refine sx_par ?_)
  | (with_reducible refine Exists.intro _ (And.intro rfl ?_))
  | (with_reducible refine Exists.intro _ (Exists.intro _ (And.intro rfl ?_)))
  | ((with_reducible show EX (tCall (spS _) [] _ (tCons (tVar _) _)) _ _); refine ex_callS rfl ?_)
  | ((with_reducible refine And.intro (show (_ : Nat) ≤ 100000 from ?_) ?_); (focus (simp; done)))
  | ((with_reducible refine opd_I ?_ ?_); focus (first | omega | (show CDiv _ _; exact ⟨by omega, by omega⟩) | (show CMul _ _; first | exact Or.inl ⟨by omega, by omega⟩ | exact Or.inr ⟨by omega, by omega⟩))))
local macro_rules | `(tactic| walk_at "es") => `(tactic| repeat walk_at "e")
local macro_rules | `(tactic| walk_at "w") => `(tactic| try dsimp only [wipeE, List.foldl_cons, List.foldl_nil, List.set_cons_succ, List.set_cons_zero])
local macro_rules | `(tactic| walk_at "le") => `(tactic| repeat' first | exact LeE.nil | (refine LeE.eq rfl ?_) | (refine LeE.emp ?_) | (refine LeE.eq ?_ ?_))
local macro_rules | `(tactic| walk_at "no") => `(tactic| ((refine And.intro (fun hb => absurd hb ?_) (fun _ => ?_)); (focus (first | (exact Bool.false_ne_true) | (simp; done) | (simp; omega) | (simp only [decide_eq_true_eq]; omega)))))
local macro_rules | `(tactic| walk_at "yes") => `(tactic| ((refine And.intro (fun _ => ?_) (fun hb => absurd hb ?_)); (rotate_left); (focus (first | (exact Bool.noConfusion) | (simp; done) | (simp; omega) | (simp only [decide_eq_false_iff_not]; omega)))))
local macro_rules | `(tactic| walk_at "ei") => `(tactic| repeat ((fail_if_success (with_reducible show SX (tSeq (tIfS _ _ _) _) _ _)); (fail_if_success (with_reducible show SX (tIfS _ _ _) _ _)); (fail_if_success (with_reducible show SX (tSeq (tAsg (tIf _ _ _) _) _) _ _)); walk_at "e"))
local macro_rules | `(tactic| walk_at "tv") => `(tactic| repeat' first | walk_at "e" | ((with_reducible show (_ = true → _) ∧ (_ = false → _)); refine And.intro (fun _ => ?_) (fun _ => ?_)))
def leP (a b : Int × Int) : Bool := !ltP b a
theorem sortD_P (xs : List (Int × Int)) : sortD (xs.map encP) = (xs.mergeSort leP).map encP := by
  have e := PySem.W.sort_maps (r := leP) (s := PySem.W.dataLe false id) encP (l := xs) (fun a _ b _ => by
    show (!ltP b a) = (!PySem.W.dataLt (encP b) (encP a))
    rw [dataLt_P])
  exact e.symm
theorem alike_PP (xs : List (Int × Int)) : PySem.W.AllAlike (xs.map encP) := fun x hx y hy => by
  obtain ⟨a, _, rfl⟩ := List.mem_map.mp hx
  obtain ⟨b, _, rfl⟩ := List.mem_map.mp hy
  rfl
theorem sortable_P (xs : List (Int × Int)) : PySem.W.Sortable (xs.map encP) := .inl fun x hx => by
  obtain ⟨a, _, rfl⟩ := List.mem_map.mp hx
  exact ⟨_, _, rfl⟩
theorem deep_P (xs : List (Int × Int)) : PyData.depthAll (xs.map encP) ≤ 60 := depthAll_le (dpn_map fun x _ => dpn_tup (dpn_cons dpn_int (dpn_cons dpn_int dpn_nil)))
/-! an amount split by weights -/
def Wts (ws : List Int) : Prop := ws.length ≤ 5 ∧ ∀ w ∈ ws, 0 ≤ w ∧ w ≤ 29
def partsF (c : Int) (ws : List Int) : List Int := ws.map fun w => c * w / ws.sum
def restF (c : Int) (ws P : List Int) : List (Int × Int) := (rngI 0 ws.length).map fun k => (P.getD k.toNat 0 * ws.sum - c * ws.getD k.toNat 0, k)
def srtF (c : Int) (ws : List Int) : List (Int × Int) := (restF c ws (partsF c ws)).mergeSort leP
def incF (P : List Int) (L : List (Int × Int)) : List Int := L.foldl (fun P r => P.set r.2.toNat (P.getD r.2.toNat 0 + 1)) P
def numF (c : Int) (ws : List Int) : Nat := (c - (partsF c ws).sum).toNat
def sharedF (c : Int) (ws : List Int) : List Int := if ws.sum = 0 then List.replicate ws.length 0 else incF (partsF c ws) ((srtF c ws).take (numF c ws))
theorem inc_snoc {P : List Int} {S : List (Int × Int)} {i : Nat} {r : Int × Int} (h : S[i]? = some r) : incF P (S.take (i + 1)) = (incF P (S.take i)).set r.2.toNat ((incF P (S.take i)).getD r.2.toNat 0 + 1) := by
  rw [take_snoc' h]
  unfold incF
  rw [List.foldl_append]
  rfl
theorem inc_len (P : List Int) : ∀ L : List (Int × Int), (incF P L).length = P.length := by
  intro L
  induction L generalizing P with
  | nil => rfl
  | cons r L ih => show (incF (P.set _ _) L).length = _; rw [ih, List.length_set]
theorem inc_get (k : Nat) : ∀ (L : List (Int × Int)) (P : List Int), k < P.length → (incF P L).getD k 0 = P.getD k 0 + ((L.map fun r => r.2.toNat).count k : Int)
  | [], P, _ => by simp [incF]
  | r :: L, P, hk => by
    show (incF (P.set r.2.toNat (P.getD r.2.toNat 0 + 1)) L).getD k 0 = _
    rw [inc_get k L _ (by rw [List.length_set]; exact hk), List.map_cons, List.count_cons]
    by_cases q : r.2.toNat = k
    · have e : (P.set r.2.toNat (P.getD r.2.toNat 0 + 1)).getD k 0 = P.getD k 0 + 1 := by
        rw [q, List.getD_eq_getElem?_getD, List.getElem?_set_self hk]; rfl
      rw [e, if_pos (by simpa using q)]
      omega
    · have e : (P.set r.2.toNat (P.getD r.2.toNat 0 + 1)).getD k 0 = P.getD k 0 := by
        rw [List.getD_eq_getElem?_getD, List.getElem?_set_ne q, ← List.getD_eq_getElem?_getD]
      rw [e, if_neg (by simpa using q)]
      omega
theorem inc_sum : ∀ (L : List (Int × Int)) (P : List Int), (∀ r ∈ L, r.2.toNat < P.length) → (incF P L).sum = P.sum + (L.length : Int)
  | [], P, _ => by simp [incF]
  | r :: L, P, h => by
    show (incF (P.set r.2.toNat (P.getD r.2.toNat 0 + 1)) L).sum = _
    rw [inc_sum L _ fun x hx => by rw [List.length_set]; exact h x (by simp [hx]), sum_set 1 P _ (h r (by simp)), List.length_cons]
    omega
theorem rest_len (c : Int) (ws P : List Int) : (restF c ws P).length = ws.length := by unfold restF; rw [List.length_map, rngI_len]
theorem rest_snd (c : Int) (ws P : List Int) : (restF c ws P).map Prod.snd = rngI 0 ws.length := by
  unfold restF
  rw [List.map_map]
  exact List.map_id' _
theorem srt_perm (c : Int) (ws : List Int) : (srtF c ws).Perm (restF c ws (partsF c ws)) := List.mergeSort_perm _ _
theorem srt_len (c : Int) (ws : List Int) : (srtF c ws).length = ws.length := by rw [(srt_perm c ws).length_eq, rest_len]
theorem leP_trans (a b c : Int × Int) (h1 : leP a b = true) (h2 : leP b c = true) : leP a c = true := by
  simp only [leP, ltP, Bool.not_eq_true', decide_eq_false_iff_not] at *
  omega
theorem leP_total (a b : Int × Int) : (leP a b || leP b a) = true := by
  simp only [leP, ltP, Bool.or_eq_true, Bool.not_eq_true', decide_eq_false_iff_not]
  omega
theorem srt_pw (c : Int) (ws : List Int) : (srtF c ws).Pairwise fun a b => leP a b = true := List.pairwise_mergeSort leP_trans leP_total _
theorem rng_nodup (n : Nat) : (rngI 0 n).Nodup := by
  unfold rngI
  exact List.pairwise_map.mpr (List.nodup_range.imp fun h e => h (by omega))
theorem nd_count {a : Nat} : ∀ {l : List Nat}, l.Nodup → a ∈ l → l.count a = 1
  | b :: l, nd, h => by
    rw [List.nodup_cons] at nd
    rw [List.count_cons]
    by_cases q : b = a
    · subst q
      rw [List.count_eq_zero.mpr nd.1]
      simp
    · rw [nd_count nd.2 ((List.mem_cons.mp h).resolve_left fun e => q e.symm), if_neg (by simpa using q)]
theorem srt_nodup (c : Int) (ws : List Int) : ((srtF c ws).map Prod.snd).Nodup := by
  have p := (srt_perm c ws).map Prod.snd
  rw [rest_snd] at p
  exact p.nodup_iff.mpr (rng_nodup _)
/-- each place of the sorted rests -/
theorem srt_at {c : Int} {ws : List Int} {i : Nat} {r : Int × Int} (h : (srtF c ws)[i]? = some r) : (0 ≤ r.2 ∧ r.2 < (ws.length : Int)) ∧ r.1 = (partsF c ws).getD r.2.toNat 0 * ws.sum - c * ws.getD r.2.toNat 0 := by
  have hm := (srt_perm c ws).mem_iff.mp (List.mem_of_getElem? h)
  obtain ⟨k, hk, rfl⟩ := List.mem_map.mp hm
  have := rngI_mem.mp hk
  exact ⟨by simp only; omega, rfl⟩
theorem part_get {c : Int} {ws : List Int} {k : Nat} (hk : k < ws.length) : (partsF c ws).getD k 0 = c * ws.getD k 0 / ws.sum := by
  unfold partsF
  rw [List.getD_eq_getElem?_getD, List.getElem?_map, get_D (a := 0) hk]
  rfl
theorem rest_in {c : Int} {ws : List Int} (hW : 0 < ws.sum) {k : Nat} (hk : k < ws.length) : -ws.sum < (partsF c ws).getD k 0 * ws.sum - c * ws.getD k 0 ∧ (partsF c ws).getD k 0 * ws.sum - c * ws.getD k 0 ≤ 0 := by
  rw [part_get hk]
  have a := Int.ediv_mul_le (c * ws.getD k 0) (Int.ne_of_gt hW)
  have b := Int.lt_ediv_add_one_mul_self (c * ws.getD k 0) hW
  rw [Int.add_mul] at b
  omega
theorem count_take {c : Int} {ws : List Int} {i j : Nat} {r : Int × Int} (hj : (srtF c ws)[j]? = some r) : (((srtF c ws).take i).map fun r => r.2.toNat).count r.2.toNat = if j < i then 1 else 0 := by
  have nd : ((srtF c ws).map fun r => r.2.toNat).Nodup := by
    have n1 := srt_nodup c ws
    have e : ((srtF c ws).map fun r => r.2.toNat) = ((srtF c ws).map Prod.snd).map Int.toNat := by rw [List.map_map]; rfl
    rw [e]
    have h0 : ∀ x ∈ (srtF c ws).map Prod.snd, 0 ≤ x := fun x hx => by
      have p := ((srt_perm c ws).map Prod.snd).mem_iff.mp hx
      rw [rest_snd] at p
      exact (rngI_mem.mp p).1
    generalize (srtF c ws).map Prod.snd = l at n1 h0
    induction l with
    | nil => exact .nil
    | cons a l ih =>
      rw [List.map_cons]
      rw [List.nodup_cons] at n1 ⊢
      refine ⟨fun hm => ?_, ih n1.2 fun x hx => h0 x (by simp [hx])⟩
      obtain ⟨b, hb, e⟩ := List.mem_map.mp hm
      have h1 := h0 a (by simp)
      have h2 := h0 b (by simp [hb])
      have : a = b := by omega
      subst this
      exact n1.1 hb
  have hx : ((srtF c ws).map fun r => r.2.toNat)[j]? = some r.2.toNat := by rw [List.getElem?_map, hj]; rfl
  rw [List.map_take]
  generalize ((srtF c ws).map fun r => r.2.toNat) = l at nd hx
  by_cases q : j < i
  · rw [if_pos q]
    refine nd_count (nd.sublist (List.take_sublist _ _)) ?_
    exact List.mem_of_getElem? (by rw [List.getElem?_take_of_lt q]; exact hx)
  · rw [if_neg q]
    refine List.count_eq_zero.mpr fun hm => ?_
    obtain ⟨t, ht⟩ := List.mem_iff_getElem?.mp hm
    have ti : t < i := by
      have := (List.getElem?_eq_some_iff.mp ht).1
      rw [List.length_take] at this
      omega
    rw [List.getElem?_take_of_lt ti] at ht
    obtain ⟨h1, e1⟩ := List.getElem?_eq_some_iff.mp ht
    obtain ⟨h2, e2⟩ := List.getElem?_eq_some_iff.mp hx
    exact List.pairwise_iff_getElem.mp nd t j h1 h2 (by omega) (by rw [e1, e2])
theorem sum_rests (c : Int) (W : Int) : ∀ (ws : List Int), (∀ w ∈ ws, 0 ≤ w) → 0 < W → ((ws.map fun w => c * w / W).sum * W ≤ c * ws.sum ∧ c * ws.sum ≤ (ws.map fun w => c * w / W).sum * W + (ws.length : Int) * (W - 1))
  | [], _, _ => by simp
  | w :: ws, h, hW => by
    have ih := sum_rests c W ws (fun x hx => h x (by simp [hx])) hW
    rw [List.map_cons, List.sum_cons, List.sum_cons, List.length_cons, Int.add_mul, Int.mul_add]
    have a := Int.ediv_mul_le (c * w) (Int.ne_of_gt hW)
    have b := Int.lt_ediv_add_one_mul_self (c * w) hW
    rw [Int.add_mul] at b
    have e : ((ws.length + 1 : Nat) : Int) * (W - 1) = (ws.length : Int) * (W - 1) + (W - 1) := by
      rw [show ((ws.length + 1 : Nat) : Int) = (ws.length : Int) + 1 by omega, Int.add_mul]; omega
    rw [e]
    omega
theorem num_ok {c : Int} {ws : List Int} (hw : ∀ w ∈ ws, 0 ≤ w) (hW : 0 < ws.sum) : (partsF c ws).sum ≤ c ∧ c - (partsF c ws).sum ≤ (ws.length : Int) := by
  obtain ⟨h1, h2⟩ := sum_rests c ws.sum ws hw hW
  have e : (partsF c ws).sum = (ws.map fun w => c * w / ws.sum).sum := rfl
  rw [← e] at h1 h2
  generalize (partsF c ws).sum = p at h1 h2 ⊢
  have q1 : p ≤ c := Int.le_of_mul_le_mul_right h1 hW
  refine ⟨q1, ?_⟩
  have h3 : c * ws.sum ≤ (p + (ws.length : Int)) * ws.sum := by
    rw [Int.add_mul]
    have : (ws.length : Int) * (ws.sum - 1) ≤ (ws.length : Int) * ws.sum := Int.mul_le_mul_of_nonneg_left (by omega) (by omega)
    omega
  have := Int.le_of_mul_le_mul_right h3 hW
  omega
theorem parts_len (c : Int) (ws : List Int) : (partsF c ws).length = ws.length := List.length_map _
theorem at_inc {c : Int} {ws : List Int} {i j : Nat} {r : Int × Int} (hj : (srtF c ws)[j]? = some r) : (incF (partsF c ws) ((srtF c ws).take i)).getD r.2.toNat 0 = (partsF c ws).getD r.2.toNat 0 + (if j < i then 1 else 0) := by
  have := srt_at hj
  rw [inc_get _ _ _ (by rw [parts_len]; omega), count_take hj]
  split <;> rfl
theorem inc_sumI {c : Int} {ws : List Int} {i : Nat} (hi : i ≤ ws.length) : (incF (partsF c ws) ((srtF c ws).take i)).sum = (partsF c ws).sum + (i : Int) := by
  rw [inc_sum]
  · rw [List.length_take, srt_len]
    congr 1
    omega
  · intro r hr
    obtain ⟨j, hj⟩ := List.mem_iff_getElem?.mp (List.mem_of_mem_take hr)
    have := srt_at hj
    rw [parts_len]
    omega
/-- the index of each weight stands in the sorted rests -/
theorem srt_of {c : Int} {ws : List Int} {k : Nat} (hk : k < ws.length) : ∃ (j : Nat) (r : Int × Int), (srtF c ws)[j]? = some r ∧ r = ((partsF c ws).getD k 0 * ws.sum - c * ws.getD k 0, (k : Int)) := by
  have hm : ((partsF c ws).getD k 0 * ws.sum - c * ws.getD k 0, (k : Int)) ∈ restF c ws (partsF c ws) := List.mem_map.mpr ⟨(k : Int), rngI_mem.mpr (by omega), by rw [Int.toNat_natCast]⟩
  obtain ⟨j, hj⟩ := List.mem_iff_getElem?.mp ((srt_perm c ws).mem_iff.mpr hm)
  exact ⟨j, _, hj, rfl⟩
theorem srt_le {c : Int} {ws : List Int} {i j : Nat} {a b : Int × Int} (ha : (srtF c ws)[i]? = some a) (hb : (srtF c ws)[j]? = some b) (h : i ≤ j) : ltP b a = false := by
  rcases Nat.lt_or_eq_of_le h with q | q
  · obtain ⟨h1, e1⟩ := List.getElem?_eq_some_iff.mp ha
    obtain ⟨h2, e2⟩ := List.getElem?_eq_some_iff.mp hb
    have := List.pairwise_iff_getElem.mp (srt_pw c ws) i j h1 h2 q
    rw [e1, e2] at this
    simpa [leP] using this
  · subst q
    rw [ha] at hb
    cases hb
    simp [ltP]
/-- the least rest behind i raises -/
theorem min_rest {c : Int} {ws : List Int} (hW : 0 < ws.sum) {i : Nat} {r : Int × Int} (hr : (srtF c ws)[i]? = some r) : minPs (restF c ws (incF (partsF c ws) ((srtF c ws).take i))) = r := by
  obtain ⟨⟨k0, k1⟩, ev⟩ := srt_at hr
  have rk := rest_in (c := c) hW (k := r.2.toNat) (by omega)
  have mem : r ∈ restF c ws (incF (partsF c ws) ((srtF c ws).take i)) := by
    refine List.mem_map.mpr ⟨r.2, rngI_mem.mpr (by omega), ?_⟩
    rw [at_inc hr, if_neg (by omega), Int.add_zero, ← ev]
  have least : ∀ x ∈ restF c ws (incF (partsF c ws) ((srtF c ws).take i)), ltP x r = false := by
    intro x hx
    obtain ⟨k, hk, rfl⟩ := List.mem_map.mp hx
    have hk := rngI_mem.mp hk
    obtain ⟨j, y, hj, ey⟩ := srt_of (c := c) (ws := ws) (k := k.toNat) (by omega)
    have ai := at_inc (i := i) hj
    have e2 : y.2.toNat = k.toNat := by rw [ey]; exact Int.toNat_natCast _
    rw [e2] at ai
    rw [ai]
    by_cases q : j < i
    · rw [if_pos q, Int.add_mul]
      have rj := rest_in (c := c) hW (k := k.toNat) (by omega)
      simp only [ltP, decide_eq_false_iff_not]
      omega
    · rw [if_neg q, Int.add_zero]
      have := srt_le hr hj (by omega)
      rw [ey] at this
      have ek : ((k.toNat : Nat) : Int) = k := by omega
      rw [ek] at this
      exact this
  have h1 := minPs_min mem
  have h2 := least _ (minPs_mem (List.length_pos_of_mem mem))
  generalize minPs (restF c ws (incF (partsF c ws) ((srtF c ws).take i))) = z at h1 h2
  simp only [ltP, decide_eq_false_iff_not] at h1 h2
  exact Prod.ext (by omega) (by omega)
theorem gap_ok {c : Int} {ws : List Int} (hW : 0 < ws.sum) (n : Nat) {a b : Nat} (ha : a < ws.length) (hb : b < ws.length) :
    ¬ (ws.sum < ((incF (partsF c ws) ((srtF c ws).take n)).getD a 0 * ws.sum - c * ws.getD a 0) - ((incF (partsF c ws) ((srtF c ws).take n)).getD b 0 * ws.sum - c * ws.getD b 0)) ∧
    ¬ (((incF (partsF c ws) ((srtF c ws).take n)).getD a 0 * ws.sum - c * ws.getD a 0) - ((incF (partsF c ws) ((srtF c ws).take n)).getD b 0 * ws.sum - c * ws.getD b 0) = ws.sum ∧ (b : Int) < (a : Int)) := by
  obtain ⟨i, x, hi, ex⟩ := srt_of (c := c) (ws := ws) ha
  obtain ⟨j, y, hj, ey⟩ := srt_of (c := c) (ws := ws) hb
  have r1 := rest_in (c := c) hW ha
  have r2 := rest_in (c := c) hW hb
  have a1 := at_inc (i := n) hi
  have a2 := at_inc (i := n) hj
  have x2 : x.2.toNat = a := by rw [ex]; simp
  have y2 : y.2.toNat = b := by rw [ey]; simp
  rw [x2] at a1
  rw [y2] at a2
  rw [a1, a2]
  by_cases q1 : i < n <;> by_cases q2 : j < n
  · rw [if_pos q1, if_pos q2, Int.add_mul, Int.add_mul]; omega
  · rw [if_pos q1, if_neg q2, Int.add_mul, Int.add_mul]
    have l := srt_le hi hj (by omega)
    rw [ex, ey] at l
    simp only [ltP, decide_eq_false_iff_not] at l
    omega
  · rw [if_neg q1, if_pos q2, Int.add_mul, Int.add_mul]; omega
  · rw [if_neg q1, if_neg q2, Int.add_mul, Int.add_mul]; omega
end Law_k75
namespace Law_k75
open PySem L2 Pu
local macro_rules | `(tactic| walk_at "e") => `(tactic| first
  | ((with_reducible refine nx_seq ?_); (try dsimp only [List.set_cons_succ, List.set_cons_zero]))
  | ((with_reducible refine ex_vr ?_); dsimp only [VQ, List.set_cons_succ, List.set_cons_zero, List.getElem?_cons_zero, List.getElem?_cons_succ]; (fail_if_success (with_reducible show False)))
  | (with_reducible refine sx_seq ?_)
  | (with_reducible refine sx_if ?_)
  | (with_reducible refine sx_next ?_)
  | (with_reducible refine sx_ret ?_)
  | ((fail_if_success (with_reducible refine sx_asgO (eo_lst ?_))); (with_reducible refine sx_asg ?_))
  | (with_reducible refine ex_int ?_)
  | (with_reducible refine ex_str ?_)
  | (with_reducible refine ex_bl ?_)
  | (with_reducible refine ex_non ?_)
  | (with_reducible refine ex_op ?_)
  | (with_reducible refine ex_un ?_)
  | (with_reducible refine ex_chain ?_)
  | (with_reducible refine ex_call ?_)
  | (with_reducible refine ex_isT ?_)
  | (with_reducible refine ex_cb ?_)
  | (with_reducible refine ex_sl ?_)
  | (with_reducible refine ex_tup ?_)
  | (with_reducible refine ex_if ?_)
  | (with_reducible refine ex_of (eo_lst ?_))
  | (with_reducible refine ex_notV ?_)
  | (with_reducible refine ea_nil ?_)
  | (with_reducible refine ea_cons ?_)
  | (with_reducible refine ep_no ?_)
  | (with_reducible refine ep_some ?_)
  | (with_reducible refine et_test ?_)
  | (with_reducible refine et_B ?_)
  | (with_reducible refine et_ch3 ?_)
  | (with_reducible refine et_and ?_)
  | (with_reducible refine et_or ?_)
  | (with_reducible refine et_not ?_)
  | (with_reducible refine et_yes ?_)
  | (with_reducible refine et_truL ?_)
  | (with_reducible refine opd_plusI ?_)
  | (with_reducible refine opd_I0 ?_)
  | (with_reducible refine opd_B0 ?_)
  | (with_reducible refine opd_eqI ?_)
  | (with_reducible refine opd_neI ?_)
  | (with_reducible refine opd_eqS ?_)
  | (with_reducible refine opd_neS ?_)
  | (with_reducible refine opd_is ?_)
  | (with_reducible refine opd_isnt ?_)
  | (with_reducible refine opd_ixT rfl ?_)
  | (with_reducible refine opd_ixL rfl ?_)
  | (with_reducible refine und_neg ?_)
  | (with_reducible refine cbd_lenL ?_)
  | (with_reducible refine cbd_lenT ?_)
  | (with_reducible refine cbd_min2 ?_)
  | (with_reducible refine cbd_max2 ?_)
  | (with_reducible refine cbd_abs ?_)
  | (with_reducible refine cbd_int ?_)
  | (with_reducible refine cbd_tupL ?_)
  | (with_reducible refine cbd_listL ?_)
  | (with_reducible refine cbd_listT ?_)
  | (with_reducible refine cbd_sum ?_)
  | (with_reducible refine sld_T ?_)
  | (with_reducible refine sld_L ?_)
  | (with_reducible refine ex_revL ?_)
  | (with_reducible refine ex_bmL ?_)
  | (with_reducible refine ex_andV ?_)
  | (with_reducible refine ei_list ?_)
  | (with_reducible refine ei_rng1 ?_)
  | (with_reducible refine ei_rng2 ?_)
  | (with_reducible refine ei_enum ?_)
  | (with_reducible refine ei_enumT ?_)
  | (with_reducible refine ei_zip ?_)
  | (with_reducible refine sx_par ?_)
  | (with_reducible refine Exists.intro _ (And.intro rfl ?_))
  | (with_reducible refine Exists.intro _ (Exists.intro _ (And.intro rfl ?_)))
  | ((with_reducible show EX (tCall (spS _) [] _ (tCons (tVar _) _)) _ _); refine ex_callS rfl ?_)
  | ((with_reducible refine And.intro (show (_ : Nat) ≤ 100000 from ?_) ?_); (focus (simp; done)))
  | ((with_reducible refine opd_I ?_ ?_); focus (first | omega | (show CDiv _ _; exact ⟨by omega, by omega⟩) | (show CMul _ _; first | exact Or.inl ⟨by omega, by omega⟩ | exact Or.inr ⟨by omega, by omega⟩))))
local macro_rules | `(tactic| walk_at "es") => `(tactic| repeat walk_at "e")
local macro_rules | `(tactic| walk_at "w") => `(tactic| try dsimp only [wipeE, List.foldl_cons, List.foldl_nil, List.set_cons_succ, List.set_cons_zero])
local macro_rules | `(tactic| walk_at "le") => `(tactic| repeat' first | exact LeE.nil | (refine LeE.eq rfl ?_) | (refine LeE.emp ?_) | (refine LeE.eq ?_ ?_))
local macro_rules | `(tactic| walk_at "no") => `(tactic| ((refine And.intro (fun hb => absurd hb ?_) (fun _ => ?_)); (focus (first | (exact Bool.false_ne_true) | (simp; done) | (simp; omega) | (simp only [decide_eq_true_eq]; omega)))))
local macro_rules | `(tactic| walk_at "yes") => `(tactic| ((refine And.intro (fun _ => ?_) (fun hb => absurd hb ?_)); (rotate_left); (focus (first | (exact Bool.noConfusion) | (simp; done) | (simp; omega) | (simp only [decide_eq_false_iff_not]; omega)))))
local macro_rules | `(tactic| walk_at "ei") => `(tactic| repeat ((fail_if_success (with_reducible show SX (tSeq (tIfS _ _ _) _) _ _)); (fail_if_success (with_reducible show SX (tIfS _ _ _) _ _)); (fail_if_success (with_reducible show SX (tSeq (tAsg (tIf _ _ _) _) _) _ _)); walk_at "e"))
local macro_rules | `(tactic| walk_at "tv") => `(tactic| repeat' first | walk_at "e" | ((with_reducible show (_ = true → _) ∧ (_ = false → _)); refine And.intro (fun _ => ?_) (fun _ => ?_)))
theorem ex_sumO {K : PySem.W.Frag} {ρ : Pu.Env} {Q : D → Pu.Env → Prop} {i : Nat} {ns : List Int} (h : ρ[i]? = some (.own (ns.map .int))) (q : Q (.int ns.sum) ρ) : EX (tCB (rSum K) (tCons (tVar i) tNil)) ρ Q := fun B ad σ F H w Z z => by
  obtain ⟨p, vs, _, _, k1, k3, rr⟩ := w.sl i _ h
  exact ⟨_, k1, _, ns, rfl, by rw [← rr.ints_inv]; exact .inl (.inl k3), z _ ρ _ F H q (Post.refl w) (.int _)⟩
theorem wts_sum : ∀ (ws : List Int), (∀ w ∈ ws, 0 ≤ w ∧ w ≤ 29) → 0 ≤ ws.sum ∧ ws.sum ≤ 29 * (ws.length : Int)
  | [], _ => by simp
  | n :: ns, h => by
    have h1 := h n (by simp)
    have h2 := wts_sum ns fun x hx => h x (by simp [hx])
    rw [List.sum_cons, List.length_cons]
    omega
def R_shared : List D → (D → Prop) → Prop := fun ds Z => ∃ (c : Int) (ws : List Int), ds = [.int c, .list (ws.map .int)] ∧ (0 ≤ c ∧ c ≤ 499) ∧ Wts ws ∧ Z (.list ((sharedF c ws).map .int))
theorem srt_mem_take {c : Int} {ws : List Int} {n j : Nat} {r : Int × Int} (h : ((srtF c ws).take n)[j]? = some r) : (srtF c ws)[j]? = some r ∧ ((srtF c ws).take n).take (j + 1) = (srtF c ws).take (j + 1) ∧ ((srtF c ws).take n).take j = (srtF c ws).take j := by
  have hj : j < n := by
    have := (List.getElem?_eq_some_iff.mp h).1
    rw [List.length_take] at this
    omega
  rw [List.getElem?_take_of_lt hj] at h
  exact ⟨h, by rw [List.take_take, Nat.min_eq_left (by omega)], by rw [List.take_take, Nat.min_eq_left (by omega)]⟩
theorem cutD_nat {α : Type} (f : α → D) (xs : List α) (k : Int) (h : 0 ≤ k) : Pu.cutD (xs.map f) none (some k) = (xs.take k.toNat).map f := by
  unfold Pu.cutD
  rw [List.length_map, List.map_take]
  simp only [HT.sIx]
  rw [if_neg (by omega), Nat.sub_zero, List.drop_zero, List.take_eq_take_iff, List.length_map]
  omega
theorem part_mem {c : Int} {ws : List Int} {k : Nat} (h0 : 0 ≤ c ∧ c ≤ 499) (hw : Wts ws) (hW : 0 < ws.sum) : 0 ≤ (partsF c ws).getD k 0 ∧ (partsF c ws).getD k 0 ≤ 20000 := by
  by_cases hk : k < ws.length
  · rw [part_get hk]
    have hm := hw.2 _ (mem_D (a := 0) hk)
    generalize ws.getD k 0 = w at hm
    have h1 : 0 ≤ c * w := Int.mul_nonneg h0.1 hm.1
    have h2 : c * w ≤ 499 * 29 := Int.mul_le_mul h0.2 hm.2 hm.1 (by decide)
    refine ⟨Int.ediv_nonneg h1 (by omega), ?_⟩
    have := Int.ediv_le_self ws.sum h1
    omega
  · rw [List.getD_eq_getElem?_getD, List.getElem?_eq_none (by rw [parts_len]; omega)]
    exact ⟨Int.le_refl _, by decide⟩
theorem sx_shared (K : PySem.W.Frag) (ds : List D) (Z : D → Prop) (h : R_shared ds Z) : SX (T_shared K) (startE N_shared ds) { nx := fun _ => Z .none, rt := fun d _ => Z d } := by
  obtain ⟨c, ws, rfl, ⟨c0, c1⟩, wt, z⟩ := h
  have l5 := wt.1
  obtain ⟨W0, W1⟩ := wts_sum ws wt.2
  show SX (T_shared K) [.val (.int c), .val (.list (ws.map .int)), .emp, .emp, .emp, .emp, .emp, .emp, .emp] _
  unfold T_shared
  walk_at "es"
  unfold sharedF at z
  refine ⟨fun hb => ?_, fun hb => ?_⟩
  · rw [if_pos (of_decide_eq_true hb)] at z
    walk_at "es"
    refine ex_of (eo_lcP (α := Int) (fun _ => true) (fun _ => .int 0) (ei_list ?_))
    walk_at "es"
    refine ⟨by omega, fun i hi => by simp at hi; subst hi; rfl, fun q hq => sg_name (by simp) ⟨rfl, ?_⟩, ?_⟩
    · walk_at "w"
      walk_at "es"
      refine ⟨rfl, rfl, fun _ => ?_⟩
      walk_at "es"
      exact ⟨rfl, rfl⟩
    rw [zeros]
    exact z
  have hne := of_decide_eq_false hb
  rw [if_neg hne] at z
  have hW : 0 < ws.sum := by omega
  have pl := parts_len c ws
  obtain ⟨n0, n1⟩ := num_ok (c := c) (fun w hw => (wt.2 w hw).1) hW
  refine sx_next ?_
  refine ⟨_, LeE.refl _, ?_⟩
  refine sx_seq (sx_asgO (eo_lcP (α := Int) (fun _ => true) (fun w => .int (c * w / ws.sum)) (ei_list ?_)))
  walk_at "es"
  refine ⟨by omega, fun i hi => by simp at hi; subst hi; rfl, fun w hw => sg_name (by simp) ⟨rfl, ?_⟩, ?_⟩
  · have := wt.2 w hw
    walk_at "w"
    walk_at "es"
    refine ⟨rfl, rfl, fun _ => ?_⟩
    walk_at "es"
    exact ⟨rfl, rfl⟩
  have ep : ((ws.filter fun _ => true).map fun w => PyData.int (c * w / ws.sum)) = (partsF c ws).map .int := by
    rw [List.filter_eq_self.mpr (fun _ _ => rfl)]; unfold partsF; rw [List.map_map]; rfl
  rw [ep]
  refine nx_seq ?_
  walk_at "w"
  refine sx_seq (sx_asg (ex_cb (ea_cons (ex_of (eo_lcP (α := Int) (fun _ => true) (fun k => encP ((partsF c ws).getD k.toNat 0 * ws.sum - c * ws.getD k.toNat 0, k)) (ei_enum ?_))))))
  walk_at "es"
  rw [enum_rng (0 : Int)]
  refine ⟨rngI 0 ws.length, _, rfl, by rw [rngI_len]; omega, fun i hi => by simp at hi; rcases hi with rfl | rfl <;> rfl, fun k hk => ?_, ?_⟩
  · have hk := rngI_mem.mp hk
    have hw := wt.2 _ (mem_D (a := 0) (show k.toNat < ws.length by omega))
    have hp := part_mem (c := c) (ws := ws) (k := k.toNat) ⟨c0, c1⟩ wt hW
    refine sg_tup rfl (sgs_cons (sg_name (by simp) (sgs_cons (sg_name (by simp) (sgs_nil ⟨rfl, ?_⟩)))))
    walk_at "w"
    refine et_yes ⟨rfl, rfl, fun _ => ex_tup (ea_cons (ex_op (ex_op (ex_ixO rfl ?_))))⟩
    walk_at "es"
    refine ⟨_, k, .int ((partsF c ws).getD k.toNat 0), rfl, rfl, atI_map (f := PyData.int) 0 (by omega) (by omega), ?_⟩
    walk_at "es"
    exact ⟨rfl, rfl⟩
  have er : (((rngI 0 ws.length).filter fun _ => true).map fun k => encP ((partsF c ws).getD k.toNat 0 * ws.sum - c * ws.getD k.toNat 0, k)) = (restF c ws (partsF c ws)).map encP := by
    rw [List.filter_eq_self.mpr (fun _ _ => rfl)]; unfold restF; rw [List.map_map]; rfl
  rw [er]
  walk_at "es"
  refine cbd_sortD (alike_PP _) (sortable_P _) (deep_P _) ?_
  rw [sortD_P]
  have esr : (restF c ws (partsF c ws)).mergeSort leP = srtF c ws := rfl
  rw [esr]
  refine nx_seq ?_
  walk_at "w"
  refine sx_seq (sx_for (J := [8, 7]) (ei_list (ex_sl ?_)))
  iterate 5 walk_at "e"
  refine ex_sumO rfl ?_
  walk_at "es"
  rw [cutD_nat _ _ _ (by omega)]
  have en : (c - (partsF c ws).sum).toNat = numF c ws := rfl
  rw [en]
  walk_at "es"
  refine ⟨fun k ρ' => ρ' = [.val (.int c), .val (.list (ws.map .int)), .val (.int ws.sum), .emp, .own ((incF (partsF c ws) ((srtF c ws).take k)).map .int), .emp, .val (.list ((srtF c ws).map encP)), .emp, .emp], rfl, ?_, ?_⟩
  · rintro k dd ρ' hd0 rfl
    obtain ⟨r, hr, rfl⟩ := map_at hd0
    obtain ⟨hr, -, -⟩ := srt_mem_take hr
    have ra := srt_at hr
    have il := inc_len (partsF c ws) ((srtF c ws).take k)
    have hs := inc_snoc (P := partsF c ws) hr
    generalize incF (partsF c ws) ((srtF c ws).take k) = P at hs il ⊢
    refine sg_tup rfl (sgs_cons (sg_name (by simp) (sgs_cons (sg_name (by simp) (sgs_nil ?_)))))
    walk_at "w"
    refine sx_setO (es := P.map .int) (ex_op (ex_ixO rfl ?_))
    walk_at "es"
    refine ⟨_, r.2, .int (P.getD r.2.toNat 0), rfl, rfl, atI_map (f := PyData.int) 0 (by omega) (by omega), ?_⟩
    walk_at "es"
    refine ⟨rfl, ?_⟩
    walk_at "es"
    refine ⟨_, r.2, r.2.toNat, rfl, rfl, by rw [List.length_map]; exact ixN_in (by omega) (by omega), ?_⟩
    refine ⟨_, ?_, rfl⟩
    rw [hs, List.map_set]
    walk_at "le"
  · rintro ρ' rfl
    rw [List.length_map, List.length_take]
    have e : (srtF c ws).take (min (numF c ws) (srtF c ws).length) = (srtF c ws).take (numF c ws) := by rw [List.take_eq_take_iff]; omega
    rw [e]
    refine nx_seq (sx_freeze 4 rfl ?_)
    walk_at "w"
    walk_at "es"
    exact z
def R_sfault : List D → (D → Prop) → Prop := fun ds Z => ∃ (c : Int) (ws P : List Int), ds = [.int c, .list (ws.map .int), .list (P.map .int)] ∧ (0 ≤ c ∧ c ≤ 499) ∧ Wts ws ∧ P.length ≤ 1000 ∧ ((P.length ≠ ws.length ∧ Z (.tuple [.str (Str.ofString "form")])) ∨ (P = sharedF c ws ∧ Z .none))
theorem shared_len (c : Int) (ws : List Int) : (sharedF c ws).length = ws.length := by
  unfold sharedF
  split
  · exact List.length_replicate
  · rw [inc_len, parts_len]
theorem shared_get {c : Int} {ws : List Int} {k : Nat} (h0 : 0 ≤ c ∧ c ≤ 499) (hw : Wts ws) : 0 ≤ (sharedF c ws).getD k 0 ∧ (sharedF c ws).getD k 0 ≤ 30000 := by
  unfold sharedF
  split
  · by_cases hk : k < ws.length
    · rw [List.getD_eq_getElem?_getD, List.getElem?_replicate, if_pos hk]; exact ⟨Int.le_refl _, by decide⟩
    · rw [List.getD_eq_getElem?_getD, List.getElem?_replicate, if_neg hk]; exact ⟨Int.le_refl _, by decide⟩
  · have W := wts_sum ws hw.2
    have hW : 0 < ws.sum := by omega
    by_cases hk : k < ws.length
    · rw [inc_get _ _ _ (by rw [parts_len]; exact hk)]
      have := part_mem (k := k) h0 hw hW
      have c1 : (((srtF c ws).take (numF c ws)).map fun r => r.2.toNat).count k ≤ 5 := by
        refine Nat.le_trans (List.count_le_length) ?_
        rw [List.length_map, List.length_take, srt_len]
        have := hw.1
        omega
      omega
    · rw [List.getD_eq_getElem?_getD, List.getElem?_eq_none (by rw [inc_len, parts_len]; omega)]
      exact ⟨Int.le_refl _, by decide⟩
theorem min0 {P : List Int} (h : ∀ x ∈ P, 0 ≤ x) : foldMin (P ++ [0]) = 0 := foldMin_is (by simp) fun x hx => by
  rcases List.mem_append.mp hx with q | q
  · exact h x q
  · rw [List.mem_singleton.mp q]; exact Int.le_refl _
theorem sx_shared_fault (K : PySem.W.Frag) (ds : List D) (Z : D → Prop) (h : R_sfault ds Z) : SX (T_shared_fault K) (startE N_shared_fault ds) { nx := fun _ => Z .none, rt := fun d _ => Z d } := by
  obtain ⟨c, ws, P, rfl, ⟨c0, c1⟩, wt, hP, z⟩ := h
  have l5 := wt.1
  obtain ⟨W0, W1⟩ := wts_sum ws wt.2
  show SX (T_shared_fault K) [.val (.int c), .val (.list (ws.map .int)), .val (.list (P.map .int)), .emp, .emp, .emp, .emp, .emp, .emp] _
  unfold T_shared_fault
  walk_at "ei"
  rcases z with ⟨hne, z⟩ | ⟨rfl, z⟩
  · refine sx_seq (sx_if (et_val true ?_ ?_))
    · walk_at "es"
      rw [List.length_map, List.length_map]
      refine ⟨fun q => ⟨rfl, rfl⟩, fun q => ?_⟩
      exfalso
      simp at q
      omega
    walk_at "yes"
    walk_at "es"
    exact z
  · have sl := shared_len c ws
    have sg : ∀ k, 0 ≤ (sharedF c ws).getD k 0 ∧ (sharedF c ws).getD k 0 ≤ 30000 := fun k => shared_get ⟨c0, c1⟩ wt
    have sp : ∀ x ∈ sharedF c ws, 0 ≤ x := fun x hx => by
      obtain ⟨k, hk, e⟩ := List.getElem_of_mem hx
      have := (sg k).1
      rw [List.getD_eq_getElem?_getD, List.getElem?_eq_getElem hk, e] at this
      exact this
    have ssum : ws.sum ≠ 0 → (sharedF c ws).sum = c := fun hne => by
      obtain ⟨n0, n1⟩ := num_ok (c := c) (fun w hw => (wt.2 w hw).1) (show 0 < ws.sum by omega)
      unfold sharedF
      rw [if_neg hne, inc_sumI (by unfold numF; omega)]
      unfold numF
      omega
    have szero : ws.sum = 0 → (sharedF c ws).sum = 0 := fun hz => by
      unfold sharedF
      rw [if_pos hz]
      simp
    have gaps : ws.sum ≠ 0 → ∀ a b : Nat, a < ws.length → b < ws.length → ¬ (ws.sum < ((sharedF c ws).getD a 0 * ws.sum - c * ws.getD a 0) - ((sharedF c ws).getD b 0 * ws.sum - c * ws.getD b 0)) ∧
        ¬ (((sharedF c ws).getD a 0 * ws.sum - c * ws.getD a 0) - ((sharedF c ws).getD b 0 * ws.sum - c * ws.getD b 0) = ws.sum ∧ (b : Int) < (a : Int)) := fun hne a b ha hb => by
      have := gap_ok (c := c) (show 0 < ws.sum by omega) (numF c ws) ha hb
      unfold sharedF
      rw [if_neg hne]
      exact this
    generalize sharedF c ws = P at sl sg sp ssum szero gaps hP ⊢
    refine sx_seq (sx_if (et_val false ?_ ?_))
    · walk_at "es"
      rw [List.length_map, List.length_map]
      refine ⟨fun q => absurd q (by simp; omega), fun _ => ?_⟩
      walk_at "es"
      refine opd_plusL (by simp only [List.length_map, List.length_cons, List.length_nil]; omega) ?_
      have e1 : P.map PyData.int ++ [.int 0] = (P ++ [0]).map .int := by rw [List.map_append]; rfl
      rw [e1]
      walk_at "es"
      refine cbd_minI (by simp) ?_
      rw [min0 sp]
      walk_at "es"
      exact ⟨by decide, rfl⟩
    walk_at "no"
    walk_at "es"
    refine ⟨fun hz => ?_, fun hz => ?_⟩
    · walk_at "es"
      rw [szero (of_decide_eq_true hz)]
      walk_at "yes"
      walk_at "es"
      exact z
    have hne := of_decide_eq_false hz
    walk_at "es"
    rw [ssum hne]
    walk_at "no"
    walk_at "es"
    refine ex_of (eo_lcP (α := Int) (fun _ => true) (fun k => .int (P.getD k.toNat 0 * ws.sum - c * ws.getD k.toNat 0)) (ei_enum ?_))
    walk_at "es"
    rw [enum_rng (0 : Int)]
    refine ⟨rngI 0 ws.length, _, rfl, by rw [rngI_len]; omega, fun i hi => by simp at hi; rcases hi with rfl | rfl <;> rfl, fun k hk => ?_, ?_⟩
    · have hk := rngI_mem.mp hk
      have hw := wt.2 _ (mem_D (a := 0) (show k.toNat < ws.length by omega))
      have hp := sg k.toNat
      refine sg_tup rfl (sgs_cons (sg_name (by simp) (sgs_cons (sg_name (by simp) (sgs_nil ⟨rfl, ?_⟩)))))
      walk_at "w"
      walk_at "es"
      refine ⟨rfl, rfl, fun _ => ?_⟩
      walk_at "es"
      refine opd_ixM (f := PyData.int) 0 (by omega) (by omega) ?_
      walk_at "es"
      exact ⟨rfl, rfl⟩
    have eg : (((rngI 0 ws.length).filter fun _ => true).map fun k => PyData.int (P.getD k.toNat 0 * ws.sum - c * ws.getD k.toNat 0)) = ((rngI 0 ws.length).map fun k => P.getD k.toNat 0 * ws.sum - c * ws.getD k.toNat 0).map .int := by
      rw [List.filter_eq_self.mpr (fun _ _ => rfl), List.map_map]; rfl
    rw [eg]
    have gl : ((rngI 0 ws.length).map fun k => P.getD k.toNat 0 * ws.sum - c * ws.getD k.toNat 0).length = ws.length := by rw [List.length_map, rngI_len]
    have gg : ∀ k, k < ws.length → ((rngI 0 ws.length).map fun k => P.getD k.toNat 0 * ws.sum - c * ws.getD k.toNat 0).getD k 0 = P.getD k 0 * ws.sum - c * ws.getD k 0 := fun k hk => by
      rw [List.getD_eq_getElem?_getD, List.getElem?_map, rngI_get hk]
      simp
    have gap := gaps hne
    generalize ((rngI 0 ws.length).map fun k => P.getD k.toNat 0 * ws.sum - c * ws.getD k.toNat 0) = G at gl gg ⊢
    walk_at "es"
    refine sx_for (J := [7]) (ei_rng1 ?_)
    walk_at "es"
    rw [List.length_map, Int.toNat_natCast]
    refine ⟨by omega, fun k ρ' => ρ' = [.val (.int c), .val (.list (ws.map .int)), .val (.list (P.map .int)), .val (.int ws.sum), .val (.list (G.map .int)), .emp, .emp, .emp, .emp], rfl, ?_, ?_⟩
    · rintro k dd ρ' hd0 rfl
      obtain ⟨hk, rfl⟩ := rng_at hd0
      rw [Int.zero_add]
      refine sg_name (by simp) ?_
      walk_at "w"
      refine sx_for (J := [8]) (ei_rng1 ?_)
      walk_at "es"
      rw [List.length_map, Int.toNat_natCast]
      refine ⟨by omega, fun j ρ' => ρ' = [.val (.int c), .val (.list (ws.map .int)), .val (.list (P.map .int)), .val (.int ws.sum), .val (.list (G.map .int)), .emp, .emp, .val (.int (k : Int)), .emp], rfl, ?_, ?_⟩
      · rintro j dd ρ' hd1 rfl
        obtain ⟨hj, rfl⟩ := rng_at hd1
        rw [Int.zero_add]
        obtain ⟨q1, q2⟩ := gap k j (by omega) (by omega)
        rw [← gg k (by omega), ← gg j (by omega)] at q1 q2
        refine sg_name (by simp) ?_
        walk_at "w"
        refine sx_if (et_val false ?_ ?_)
        · walk_at "es"
          refine opd_ixM (f := PyData.int) 0 (by omega) (by omega) ?_
          walk_at "es"
          refine opd_ixM (f := PyData.int) 0 (by omega) (by omega) ?_
          walk_at "es"
          rw [Int.toNat_natCast, Int.toNat_natCast]
          refine ⟨fun q => absurd (of_decide_eq_true q) q1, fun _ => ?_⟩
          walk_at "es"
          refine opd_ixM (f := PyData.int) 0 (by omega) (by omega) ?_
          walk_at "es"
          refine opd_ixM (f := PyData.int) 0 (by omega) (by omega) ?_
          walk_at "es"
          rw [Int.toNat_natCast, Int.toNat_natCast]
          refine ⟨fun q => ?_, fun _ => ⟨rfl, rfl⟩⟩
          have q := of_decide_eq_true q
          walk_at "es"
          refine ⟨decide_eq_false fun q3 => q2 ⟨q, q3⟩, rfl⟩
        walk_at "no"
        walk_at "es"
        refine ⟨_, ?_, rfl⟩
        walk_at "le"
      · rintro ρ' rfl
        refine ⟨_, ?_, rfl⟩
        walk_at "le"
    · rintro ρ' rfl
      walk_at "es"
      exact z
end Law_k75
namespace Law_k75
open PySem L2 Pu
local macro_rules | `(tactic| walk_at "e") => `(tactic| first
  | ((with_reducible refine nx_seq ?_); (try dsimp only [List.set_cons_succ, List.set_cons_zero]))
  | ((with_reducible refine ex_vr ?_); dsimp only [VQ, List.set_cons_succ, List.set_cons_zero, List.getElem?_cons_zero, List.getElem?_cons_succ]; (fail_if_success (with_reducible show False)))
  | (with_reducible refine sx_seq ?_)
  | (with_reducible refine sx_if ?_)
  | (with_reducible refine sx_next ?_)
  | (with_reducible refine sx_ret ?_)
  | ((fail_if_success (with_reducible refine sx_asgO (eo_lst ?_))); (with_reducible refine sx_asg ?_))
  | (with_reducible refine ex_int ?_)
  | (with_reducible refine ex_str ?_)
  | (with_reducible refine ex_bl ?_)
  | (with_reducible refine ex_non ?_)
  | (with_reducible refine ex_op ?_)
  | (with_reducible refine ex_un ?_)
  | (with_reducible refine ex_chain ?_)
  | (with_reducible refine ex_call ?_)
  | (with_reducible refine ex_isT ?_)
  | (with_reducible refine ex_cb ?_)
  | (with_reducible refine ex_sl ?_)
  | (with_reducible refine ex_tup ?_)
  | (with_reducible refine ex_if ?_)
  | (with_reducible refine ex_of (eo_lst ?_))
  | (with_reducible refine ex_notV ?_)
  | (with_reducible refine ea_nil ?_)
  | (with_reducible refine ea_cons ?_)
  | (with_reducible refine ep_no ?_)
  | (with_reducible refine ep_some ?_)
  | (with_reducible refine et_test ?_)
  | (with_reducible refine et_B ?_)
  | (with_reducible refine et_ch3 ?_)
  | (with_reducible refine et_and ?_)
  | (with_reducible refine et_or ?_)
  | (with_reducible refine et_not ?_)
  | (with_reducible refine et_yes ?_)
  | (with_reducible refine et_truL ?_)
  | (with_reducible refine opd_plusI ?_)
  | (with_reducible refine opd_I0 ?_)
  | (with_reducible refine opd_B0 ?_)
  | (with_reducible refine opd_eqI ?_)
  | (with_reducible refine opd_neI ?_)
  | (with_reducible refine opd_eqS ?_)
  | (with_reducible refine opd_neS ?_)
  | (with_reducible refine opd_is ?_)
  | (with_reducible refine opd_isnt ?_)
  | (with_reducible refine opd_ixT rfl ?_)
  | (with_reducible refine opd_ixL rfl ?_)
  | (with_reducible refine und_neg ?_)
  | (with_reducible refine cbd_lenL ?_)
  | (with_reducible refine cbd_lenT ?_)
  | (with_reducible refine cbd_min2 ?_)
  | (with_reducible refine cbd_max2 ?_)
  | (with_reducible refine cbd_abs ?_)
  | (with_reducible refine cbd_int ?_)
  | (with_reducible refine cbd_tupL ?_)
  | (with_reducible refine cbd_listL ?_)
  | (with_reducible refine cbd_listT ?_)
  | (with_reducible refine cbd_sum ?_)
  | (with_reducible refine sld_T ?_)
  | (with_reducible refine sld_L ?_)
  | (with_reducible refine ex_revL ?_)
  | (with_reducible refine ex_bmL ?_)
  | (with_reducible refine ex_andV ?_)
  | (with_reducible refine ei_list ?_)
  | (with_reducible refine ei_rng1 ?_)
  | (with_reducible refine ei_rng2 ?_)
  | (with_reducible refine ei_enum ?_)
  | (with_reducible refine ei_enumT ?_)
  | (with_reducible refine ei_zip ?_)
  | (with_reducible refine sx_par ?_)
  | (with_reducible refine Exists.intro _ (And.intro rfl ?_))
  | (with_reducible refine Exists.intro _ (Exists.intro _ (And.intro rfl ?_)))
  | ((with_reducible show EX (tCall (spS _) [] _ (tCons (tVar _) _)) _ _); refine ex_callS rfl ?_)
  | ((with_reducible refine And.intro (show (_ : Nat) ≤ 100000 from ?_) ?_); (focus (simp; done)))
  | ((with_reducible refine opd_I ?_ ?_); focus (first | omega | (show CDiv _ _; exact ⟨by omega, by omega⟩) | (show CMul _ _; first | exact Or.inl ⟨by omega, by omega⟩ | exact Or.inr ⟨by omega, by omega⟩))))
local macro_rules | `(tactic| walk_at "es") => `(tactic| repeat walk_at "e")
local macro_rules | `(tactic| walk_at "w") => `(tactic| try dsimp only [wipeE, List.foldl_cons, List.foldl_nil, List.set_cons_succ, List.set_cons_zero])
local macro_rules | `(tactic| walk_at "le") => `(tactic| repeat' first | exact LeE.nil | (refine LeE.eq rfl ?_) | (refine LeE.emp ?_) | (refine LeE.eq ?_ ?_))
local macro_rules | `(tactic| walk_at "no") => `(tactic| ((refine And.intro (fun hb => absurd hb ?_) (fun _ => ?_)); (focus (first | (exact Bool.false_ne_true) | (simp; done) | (simp; omega) | (simp only [decide_eq_true_eq]; omega)))))
local macro_rules | `(tactic| walk_at "yes") => `(tactic| ((refine And.intro (fun _ => ?_) (fun hb => absurd hb ?_)); (rotate_left); (focus (first | (exact Bool.noConfusion) | (simp; done) | (simp; omega) | (simp only [decide_eq_false_iff_not]; omega)))))
local macro_rules | `(tactic| walk_at "ei") => `(tactic| repeat ((fail_if_success (with_reducible show SX (tSeq (tIfS _ _ _) _) _ _)); (fail_if_success (with_reducible show SX (tIfS _ _ _) _ _)); (fail_if_success (with_reducible show SX (tSeq (tAsg (tIf _ _ _) _) _) _ _)); walk_at "e"))
local macro_rules | `(tactic| walk_at "tv") => `(tactic| repeat' first | walk_at "e" | ((with_reducible show (_ = true → _) ∧ (_ = false → _)); refine And.intro (fun _ => ?_) (fun _ => ?_)))
theorem _root_.Pu.WA.setValE {B : Base} {ad : Nat → List Addr} {ρ : Pu.Env} {σ : St} {F H : Hp} (w : WA B ad ρ σ F H) (i : Nat) {d : D} {v : V} (r : Rp F v d) : WA B (fun k => if k = i then [] else ad k) (ρ.set i (.val d)) (σ.set i (some v)) F H := by
  refine ⟨w.gr, by rw [List.length_set, List.length_set]; exact w.len, fun j s e => ?_, fun j p m => ?_, fun j1 j2 q m1 m2 => ?_, fun j e => ?_, w.pin.to fun S e => by
    rcases get_set e with ⟨_, q⟩ | ⟨hj, e⟩
    · cases q
    · exact ⟨⟨S, e⟩, List.getElem?_set_ne (Ne.symm hj), if_neg hj⟩⟩
  · rcases get_set e with ⟨rfl, rfl⟩ | ⟨hj, e'⟩
    · have hi : j < σ.length := by
        have := (List.getElem?_eq_some_iff.mp e).1
        rw [List.length_set] at this
        rw [w.len]; exact this
      exact ⟨if_pos rfl, v, List.getElem?_set_self hi, r⟩
    · rw [if_neg hj, List.getElem?_set_ne (Ne.symm hj)]
      exact w.sl j s e'
  · by_cases hj : j = i
    · simp [hj] at m
    · simp only [if_neg hj] at m
      exact w.fz j p m
  · by_cases h1 : j1 = i
    · simp [h1] at m1
    · by_cases h2 : j2 = i
      · simp [h2] at m2
      · simp only [if_neg h1] at m1
        simp only [if_neg h2] at m2
        exact w.dj j1 j2 q m1 m2
  · show (if j = i then [] else ad j) = []
    by_cases hj : j = i
    · rw [if_pos hj]
    · rw [if_neg hj]
      exact w.out j (get_set' e)
theorem _root_.Pu.WA.setOwnE {B : Base} {ad : Nat → List Addr} {ρ : Pu.Env} {σ : St} {F H : Hp} (w : WA B ad ρ σ F H) (i : Nat) {ds : List D} {p : Addr} {vs : List V} (hF : F p = none) (h0 : B.H0 p = none) (hn : ∀ i, p ∉ ad i) (hp : H p = some (.lst vs)) (r : RpA F vs ds) :
    WA B (fun k => if k = i then (if i < ρ.length then [p] else []) else ad k) (ρ.set i (.own ds)) (σ.set i (some (.ref p))) F H := by
  refine ⟨w.gr, by rw [List.length_set, List.length_set]; exact w.len, fun j s e => ?_, fun j q m => ?_, fun j1 j2 q m1 m2 => ?_, fun j e => ?_, w.pin.to fun S e => by
    rcases get_set e with ⟨_, q⟩ | ⟨hj, e⟩
    · cases q
    · exact ⟨⟨S, e⟩, List.getElem?_set_ne (Ne.symm hj), if_neg hj⟩⟩
  · rcases get_set e with ⟨rfl, rfl⟩ | ⟨hj, e'⟩
    · have hi : j < ρ.length := by
        have := (List.getElem?_eq_some_iff.mp e).1
        rwa [List.length_set] at this
      exact ⟨p, vs, by rw [if_pos rfl, if_pos hi], h0, List.getElem?_set_self (by rw [w.len]; exact hi), hp, r⟩
    · rw [if_neg hj, List.getElem?_set_ne (Ne.symm hj)]
      exact w.sl j s e'
  · by_cases hj : j = i
    · simp only [if_pos hj] at m
      by_cases hi : i < ρ.length
      · simp only [if_pos hi, List.mem_singleton] at m
        subst m
        exact ⟨hF, .inl h0⟩
      · simp [if_neg hi] at m
    · simp only [if_neg hj] at m
      exact w.fz j q m
  · have g : ∀ j, q ∈ (if j = i then (if i < ρ.length then [p] else []) else ad j) → (j = i ∧ q = p) ∨ (j ≠ i ∧ q ∈ ad j) := fun j m => by
      by_cases hj : j = i
      · simp only [if_pos hj] at m
        by_cases hi : i < ρ.length
        · simp only [if_pos hi, List.mem_singleton] at m
          exact .inl ⟨hj, m⟩
        · simp [if_neg hi] at m
      · simp only [if_neg hj] at m
        exact .inr ⟨hj, m⟩
    rcases g j1 m1 with ⟨a1, b1⟩ | ⟨a1, b1⟩ <;> rcases g j2 m2 with ⟨a2, b2⟩ | ⟨a2, b2⟩
    · rw [a1, a2]
    · exact absurd (b1 ▸ b2) (hn j2)
    · exact absurd (b2 ▸ b1) (hn j1)
    · exact w.dj j1 j2 q b1 b2
  · show (if j = i then (if i < ρ.length then [p] else []) else ad j) = []
    have e' := get_set' e
    by_cases hj : j = i
    · subst hj
      rw [if_pos rfl, if_neg (by rw [List.getElem?_eq_none_iff] at e'; omega)]
    · rw [if_neg hj]
      exact w.out j e'
/-- a, b, c = (an own list), (data), (an own list): a tuple that nobody keeps -/
theorem sx_parOVO {K : PySem.W.Frag} {ρ : Pu.Env} {P : Po} {a b c : Nat} {te1 te2 te3 : TE} (h : EO te1 ρ fun ds1 ρ1 => EX te2 ρ1 fun d2 ρ2 => EO te3 ρ2 fun ds3 ρ3 => NX P (((ρ3.set a (.own ds1)).set b (.val d2)).set c (.own ds3))) :
    SX (tAsg (tTup (tCons te1 (tCons te2 (tCons te3 tNil)))) (gTup K 3 (gCons (gName a) (gCons (gName b) (gCons (gName c) gNil))))) ρ P := fun B σ F H w Dn n r bk ct => by
  obtain ⟨ad, w⟩ := w
  refine h B ad σ F H w _ fun ds1 ρ1 p1 vs1 F1 H1 q1 P1 hF1 hH1 hp1 rv1 => ?_
  refine q1 B ad σ F1 H1 P1.wa _ fun d2 ρ2 v2 F2 H2 q2 P2 rv2 => ?_
  refine q2 B ad σ F2 H2 P2.wa _ fun ds3 ρ3 p3 vs3 F3 H3 q3 P3 hF3 hH3 hp3 rv3 => ?_
  obtain ⟨ρ', l, q⟩ := q3
  refine ⟨by show 3 ≤ sizeLine; decide, fun T hT => ?_⟩
  have n1 := w.newp hH1
  have nms : ∀ (ρ2 : Pu.Env), ¬ MS ad ρ2 p1 := fun ρ2 ⟨j, S, _, m⟩ => n1.2.2 j m
  have hp2 : H2 p1 = some (.lst vs1) := P2.gr.kp p1 _ hp1 (nms _)
  have hp1' : H3 p1 = some (.lst vs1) := P3.gr.kp p1 _ hp2 (nms _)
  have hF1' : F3 p1 = none := P3.gr.fr p1 (by rw [hp2]; intro z; cases z) (P2.gr.fr p1 (by rw [hp1]; intro z; cases z) hF1)
  have n3 := P2.wa.newp hH3
  have nT := P3.wa.newp hT
  have ne1 : p1 ≠ T := fun e => by rw [e, hT] at hp1'; cases hp1'
  have ne3 : p3 ≠ T := fun e => by rw [e, hT] at hp3; cases hp3
  have ne13 : p3 ≠ p1 := fun e => by rw [e, hp2] at hH3; cases hH3
  have w4 := P3.wa.updD (o := .tup [.ref p1, v2, .ref p3]) nT.2.1 nT.2.2 nT.1
  have w5 := w4.setOwnE a hF1' n1.2.1 n1.2.2 (by rw [upd_ne ne1]; exact hp1') (rv1.up (P2.gr.ff.trans P3.gr.ff))
  have w6 := w5.setValE b (rv2.up P3.gr.ff)
  have w7 := w6.setOwn c (p := p3) hF3 n3.2.1 (fun i m => by
    by_cases hb : i = b
    · simp only [if_pos hb] at m; cases m
    · simp only [if_neg hb] at m
      by_cases ha : i = a
      · simp only [if_pos ha] at m
        split at m
        · exact ne13 (List.mem_singleton.mp m)
        · cases m
      · simp only [if_neg ha] at m
        exact n3.2.2 i m) (by rw [upd_ne ne3]; exact hp3) rv3
  refine ⟨T, [.ref p1, v2, .ref p3], rfl, .inl (.inl upd_same), rfl, _, _, rfl, _, _, rfl, _, _, rfl, rfl, ?_⟩
  obtain ⟨ad7, w7⟩ := w7
  exact n ρ' _ F3 _ q (w7.weak l)
def R_right : Stt → List D → (D → Stt → Prop) → Prop := fun S ds Z => ds = [] ∧ Ok S ∧ ∀ S', Ok S' → Z (.bool true) S'
def stF (c : Int) (ws : List Int) (i : Nat) : List Int := if ws.sum = 0 then List.replicate ws.length 0 else incF (partsF c ws) ((srtF c ws).take i)
def endN (c : Int) (ws : List Int) : Nat := if ws.sum = 0 then 0 else numF c ws
theorem st_end (c : Int) (ws : List Int) : stF c ws (endN c ws) = sharedF c ws := by
  unfold stF endN sharedF
  split <;> rfl
theorem st_len (c : Int) (ws : List Int) (i : Nat) : (stF c ws i).length = ws.length := by
  unfold stF
  split
  · exact List.length_replicate
  · rw [inc_len, parts_len]
theorem st_get {c : Int} {ws : List Int} {i k : Nat} (h0 : 0 ≤ c ∧ c ≤ 499) (hw : Wts ws) : 0 ≤ (stF c ws i).getD k 0 ∧ (stF c ws i).getD k 0 ≤ 30000 := by
  unfold stF
  split
  · by_cases hk : k < ws.length
    · rw [List.getD_eq_getElem?_getD, List.getElem?_replicate, if_pos hk]; exact ⟨Int.le_refl _, by decide⟩
    · rw [List.getD_eq_getElem?_getD, List.getElem?_replicate, if_neg hk]; exact ⟨Int.le_refl _, by decide⟩
  · have W := wts_sum ws hw.2
    have hW : 0 < ws.sum := by omega
    by_cases hk : k < ws.length
    · rw [inc_get _ _ _ (by rw [parts_len]; exact hk)]
      have := part_mem (k := k) h0 hw hW
      have c1 : (((srtF c ws).take i).map fun r => r.2.toNat).count k ≤ 5 := by
        refine Nat.le_trans (List.count_le_length) ?_
        rw [List.length_map, List.length_take, srt_len]
        have := hw.1
        omega
      omega
    · rw [List.getD_eq_getElem?_getD, List.getElem?_eq_none (by rw [inc_len, parts_len]; omega)]
      exact ⟨Int.le_refl _, by decide⟩
theorem ints_deep (ns : List Int) : (PyData.list (ns.map PyData.int)).depth ≤ 60 := by
  have h : DpN 2 (PyData.list (ns.map PyData.int)) := dpn_list (dpn_map fun x _ => dpn_int)
  exact Nat.le_trans h (by decide)
theorem sx_l_shares_right (K : PySem.W.Frag) (S : Stt) (ds : List D) (Z : D → Stt → Prop) (h : R_right S ds Z) :
    SX (T_l_shares_right K R_take R_shared R_sfault) (.st S :: (ds.map .val ++ List.replicate (N_l_shares_right.length - (ds.length + 1)) .emp)) { nx := fun ρ' => ∃ S', ρ'[0]? = some (.st S') ∧ Z .none S', rt := fun d ρ' => ∃ S', ρ'[0]? = some (.st S') ∧ Z d S' } := by
  obtain ⟨rfl, ok, z⟩ := h
  show SX (T_l_shares_right K R_take R_shared R_sfault) [.st S, .emp, .emp, .emp, .emp, .emp, .emp, .emp] _
  unfold T_l_shares_right
  walk_at "es"
  refine ⟨500, rfl, by omega, by omega, ok, fun c S1 c0 c1 ok1 => ?_⟩
  have cc : 0 ≤ c ∧ c ≤ 499 := by omega
  refine nx_seq ?_
  walk_at "w"
  refine sx_seq (sx_asg (ex_of (eo_lc (ei_rng1 ?_))))
  walk_at "es"
  refine ⟨6, rfl, by omega, by omega, ok1, fun n S2 n0 n1 ok2 => ?_⟩
  walk_at "es"
  refine ⟨by omega, fun k acc ρ' => ∃ (ws : List Int) (S : Stt), ws.length = k ∧ (∀ w ∈ ws, 0 ≤ w ∧ w ≤ 29) ∧ Ok S ∧ acc = ws.map .int ∧ ρ' = [.st S, .val (.int c), .emp, .emp, .emp, .emp, .emp, .emp], ⟨[], S2, rfl, by simp, ok2, rfl, rfl⟩, ?_, ?_⟩
  · rintro k dd acc ρ' hd0 ⟨ws, S, hl, hg, ok, rfl, rfl⟩
    obtain ⟨hk, rfl⟩ := rng_at hd0
    refine ⟨(fun i hi => by simp at hi; subst hi; rfl), by rw [List.length_map]; omega, sg_name (by simp) ?_⟩
    walk_at "w"
    refine et_yes ⟨fun _ => ?_, (fun q => by cases q)⟩
    walk_at "es"
    refine ⟨2, rfl, by omega, by omega, ok, fun x S3 x0 x1 ok3 => ?_⟩
    show OpD (rIxA K) (.list ([(2 : Int), 30].map PyData.int)) (.int x) _
    refine opd_ixM (xs := [(2 : Int), 30]) (f := PyData.int) 0 x0 (by simp; omega) ?_
    have hb : 2 ≤ [(2 : Int), 30].getD x.toNat 0 ∧ [(2 : Int), 30].getD x.toNat 0 ≤ 30 := by
      have := mem_D (l := [(2 : Int), 30]) (k := x.toNat) (a := 0) (by simp; omega)
      simp only [List.mem_cons, List.not_mem_nil, or_false] at this
      omega
    generalize [(2 : Int), 30].getD x.toNat 0 = b at hb ⊢
    walk_at "es"
    refine ⟨b, rfl, by omega, by omega, ok3, fun w S4 w0 w1 ok4 => ?_⟩
    refine ⟨ws ++ [w], S4, by simp [hl], fun y hy => ?_, ok4, by rw [List.map_append]; rfl, rfl⟩
    rcases List.mem_append.mp hy with hy | hy
    · exact hg y hy
    · rw [List.mem_singleton.mp hy]; omega
  rintro acc ρ' ⟨ws, S3, hl, hg, ok3, rfl, rfl⟩
  rw [rng_size] at hl
  have wt : Wts ws := ⟨by omega, hg⟩
  have l5 := wt.1
  obtain ⟨W0, W1⟩ := wts_sum ws wt.2
  refine nx_seq ?_
  walk_at "w"
  refine sx_seq (sx_asg (ex_val (.int ws.sum) ?_ ?_))
  · walk_at "es"
    exact ⟨rfl, rfl⟩
  refine nx_seq ?_
  walk_at "w"
  refine sx_seq (sx_asgO (eo_lcP (α := Int) (fun _ => true) (fun w => .int (if ws.sum = 0 then 0 else c * w / ws.sum)) (ei_list ?_)))
  walk_at "es"
  refine ⟨by omega, fun i hi => by simp at hi; subst hi; rfl, fun w hw => sg_name (by simp) ⟨rfl, ?_⟩, ?_⟩
  · have := wt.2 w hw
    walk_at "w"
    walk_at "es"
    refine ⟨rfl, rfl, fun _ => ?_⟩
    walk_at "es"
    refine ⟨fun hz => ?_, fun hz => ?_⟩
    · walk_at "es"
      exact ⟨by rw [if_pos (of_decide_eq_true hz)], rfl⟩
    · have hz := of_decide_eq_false hz
      walk_at "es"
      exact ⟨by rw [if_neg hz], rfl⟩
  have ep : ((ws.filter fun _ => true).map fun w => PyData.int (if ws.sum = 0 then 0 else c * w / ws.sum)) = (stF c ws 0).map .int := by
    rw [List.filter_eq_self.mpr (fun _ _ => rfl)]
    unfold stF
    by_cases hz : ws.sum = 0
    · simp only [if_pos hz]
      rw [List.map_const', List.map_replicate]
    · simp only [if_neg hz]
      show _ = (partsF c ws).map PyData.int
      unfold partsF
      rw [List.map_map]
      rfl
  rw [ep]
  refine nx_seq ?_
  walk_at "w"
  have hN : endN c ws ≤ ws.length ∧ (ws.sum ≠ 0 → ∀ i, i ≤ endN c ws → (stF c ws i).sum = (partsF c ws).sum + (i : Int) ∧ (partsF c ws).sum + (endN c ws : Int) = c) := by
    unfold endN
    by_cases hz : ws.sum = 0
    · rw [if_pos hz]; exact ⟨Nat.zero_le _, fun h => absurd hz h⟩
    · rw [if_neg hz]
      obtain ⟨n0, n1⟩ := num_ok (c := c) (fun w hw => (wt.2 w hw).1) (show 0 < ws.sum by omega)
      have nl : numF c ws ≤ ws.length := by unfold numF; omega
      refine ⟨nl, fun _ i hi => ⟨?_, by unfold numF; omega⟩⟩
      unfold stF
      rw [if_neg hz, inc_sumI (by omega)]
  have hN0 : ws.sum = 0 → endN c ws = 0 := fun hz => by unfold endN; rw [if_pos hz]
  refine sx_seq (sx_while (fun mm ρ' => ∃ i, i ≤ endN c ws ∧ mm = endN c ws - i ∧ ρ' = [.st S3, .val (.int c), .val (.list (ws.map .int)), .emp, .val (.int ws.sum), .own ((stF c ws i).map .int), .emp, .emp]) (endN c ws) ⟨0, Nat.zero_le _, rfl, rfl⟩ ?_)
  rintro mm ρ' ⟨i, hi, rfl, rfl⟩
  refine et_val (decide (i < endN c ws)) ?_ ⟨fun hb => ?_, fun hb => ?_⟩
  · by_cases hz : ws.sum = 0
    · walk_at "es"
      walk_at "no"
      exact ⟨by rw [hN0 hz]; rfl, rfl⟩
    · obtain ⟨s1, s2⟩ := hN.2 hz i hi
      walk_at "es"
      walk_at "yes"
      refine et_test (ex_op (ex_sumO rfl ?_))
      walk_at "es"
      refine ⟨?_, rfl⟩
      rw [s1, Bool.eq_iff_iff, decide_eq_true_eq, decide_eq_true_eq]
      omega
  · have hb := of_decide_eq_true hb
    have hz : ws.sum ≠ 0 := fun hz => by rw [hN0 hz] at hb; omega
    have hW : 0 < ws.sum := by omega
    have sl := st_len c ws i
    have sg : ∀ k, 0 ≤ (stF c ws i).getD k 0 ∧ (stF c ws i).getD k 0 ≤ 30000 := fun k => st_get cc wt
    obtain ⟨r, hr⟩ : ∃ r, (srtF c ws)[i]? = some r := ⟨_, get_D (a := (0, 0)) (by rw [srt_len]; omega)⟩
    have ra := srt_at hr
    have mr := min_rest hW hr
    have hs : stF c ws (i + 1) = (stF c ws i).set r.2.toNat ((stF c ws i).getD r.2.toNat 0 + 1) := by
      unfold stF
      rw [if_neg hz, if_neg hz]
      exact inc_snoc hr
    have e0 : incF (partsF c ws) ((srtF c ws).take i) = stF c ws i := by unfold stF; rw [if_neg hz]
    rw [e0] at mr
    generalize stF c ws i = P at sl sg hs mr ⊢
    refine sx_seq (sx_asg (ex_of (eo_lcP (α := Int) (fun _ => true) (fun k => encP (P.getD k.toNat 0 * ws.sum - c * ws.getD k.toNat 0, k)) (ei_rng1 ?_))))
    walk_at "es"
    rw [List.length_map, Int.toNat_natCast]
    refine ⟨by omega, rngI 0 ws.length, PyData.int, rfl, by rw [rngI_len]; omega, fun i hi => by simp at hi; subst hi; rfl, fun k hk => sg_name (by simp) ⟨rfl, ?_⟩, ?_⟩
    · have hk := rngI_mem.mp hk
      have hw := wt.2 _ (mem_D (a := 0) (show k.toNat < ws.length by omega))
      have hp := sg k.toNat
      walk_at "w"
      refine et_yes ⟨rfl, rfl, fun _ => ex_tup (ea_cons (ex_op (ex_op (ex_ixO rfl ?_))))⟩
      walk_at "es"
      refine ⟨_, k, .int (P.getD k.toNat 0), rfl, rfl, atI_map (f := PyData.int) 0 (by omega) (by omega), ?_⟩
      walk_at "es"
      refine opd_ixM (f := PyData.int) 0 (by omega) (by omega) ?_
      walk_at "es"
      exact ⟨rfl, rfl⟩
    have er : (((rngI 0 ws.length).filter fun _ => true).map fun k => encP (P.getD k.toNat 0 * ws.sum - c * ws.getD k.toNat 0, k)) = (restF c ws P).map encP := by
      rw [List.filter_eq_self.mpr (fun _ _ => rfl)]; unfold restF; rw [List.map_map]; rfl
    rw [er]
    have rl := rest_len c ws P
    refine nx_seq ?_
    walk_at "w"
    refine sx_setO (es := P.map .int) (ex_op (ex_ixO rfl ?_))
    walk_at "es"
    refine cbd_minP (by omega) ?_
    rw [mr]
    walk_at "es"
    refine opd_ixT (d := .int r.2) rfl ?_
    refine ⟨_, r.2, .int (P.getD r.2.toNat 0), rfl, rfl, atI_map (f := PyData.int) 0 (by omega) (by omega), ?_⟩
    walk_at "es"
    refine ⟨rfl, ?_⟩
    walk_at "es"
    refine cbd_minP (by omega) ?_
    rw [mr]
    walk_at "es"
    refine opd_ixT (d := .int r.2) rfl ?_
    refine ⟨_, r.2, r.2.toNat, rfl, rfl, by rw [List.length_map]; exact ixN_in (by omega) (by omega), ?_⟩
    refine ⟨_, ?_, endN c ws - (i + 1), by omega, i + 1, by omega, rfl, rfl⟩
    rw [hs, List.map_set]
    walk_at "le"
  · have hb := of_decide_eq_false hb
    have : i = endN c ws := by omega
    subst this
    rw [st_end]
    have sl := shared_len c ws
    refine nx_seq (sx_freeze 5 rfl ?_)
    walk_at "w"
    walk_at "es"
    refine ⟨c, ws, rfl, cc, wt, ?_⟩
    walk_at "es"
    refine opd_eqSelf (ints_deep _) ⟨_, rfl, fun _ => ?_, fun q => by cases q⟩
    walk_at "es"
    refine ⟨c, ws, _, rfl, cc, wt, by omega, Or.inr ⟨rfl, ?_⟩⟩
    walk_at "es"
    refine ⟨fun _ => ?_, fun q => absurd q (by decide)⟩
    walk_at "es"
    refine opd_plusL (by simp only [List.length_map, List.length_cons, List.length_nil]; omega) ?_
    walk_at "es"
    refine ⟨c, ws, sharedF c ws ++ [0], by rw [List.map_append]; rfl, cc, wt, by simp; omega, Or.inl ⟨by simp; omega, ?_⟩⟩
    walk_at "es"
    refine opd_eqSelf (by decide +kernel) ?_
    exact ⟨S3, rfl, z S3 ok3⟩
end Law_k75
namespace Law_k75
open PySem L2 Pu
local macro_rules | `(tactic| walk_at "e") => `(tactic| first
  | ((with_reducible refine nx_seq ?_); (try dsimp only [List.set_cons_succ, List.set_cons_zero]))
  | ((with_reducible refine ex_vr ?_); dsimp only [VQ, List.set_cons_succ, List.set_cons_zero, List.getElem?_cons_zero, List.getElem?_cons_succ]; (fail_if_success (with_reducible show False)))
  | (with_reducible refine sx_seq ?_)
  | (with_reducible refine sx_if ?_)
  | (with_reducible refine sx_next ?_)
  | (with_reducible refine sx_ret ?_)
  | ((fail_if_success (with_reducible refine sx_asgO (eo_lst ?_))); (with_reducible refine sx_asg ?_))
  | (with_reducible refine ex_int ?_)
  | (with_reducible refine ex_str ?_)
  | (with_reducible refine ex_bl ?_)
  | (with_reducible refine ex_non ?_)
  | (with_reducible refine ex_op ?_)
  | (with_reducible refine ex_un ?_)
  | (with_reducible refine ex_chain ?_)
  | (with_reducible refine ex_call ?_)
  | (with_reducible refine ex_isT ?_)
  | (with_reducible refine ex_cb ?_)
  | (with_reducible refine ex_sl ?_)
  | (with_reducible refine ex_tup ?_)
  | (with_reducible refine ex_if ?_)
  | (with_reducible refine ex_of (eo_lst ?_))
  | (with_reducible refine ex_notV ?_)
  | (with_reducible refine ea_nil ?_)
  | (with_reducible refine ea_cons ?_)
  | (with_reducible refine ep_no ?_)
  | (with_reducible refine ep_some ?_)
  | (with_reducible refine et_test ?_)
  | (with_reducible refine et_B ?_)
  | (with_reducible refine et_ch3 ?_)
  | (with_reducible refine et_and ?_)
  | (with_reducible refine et_or ?_)
  | (with_reducible refine et_not ?_)
  | (with_reducible refine et_yes ?_)
  | (with_reducible refine et_truL ?_)
  | (with_reducible refine opd_plusI ?_)
  | (with_reducible refine opd_I0 ?_)
  | (with_reducible refine opd_B0 ?_)
  | (with_reducible refine opd_eqI ?_)
  | (with_reducible refine opd_neI ?_)
  | (with_reducible refine opd_eqS ?_)
  | (with_reducible refine opd_neS ?_)
  | (with_reducible refine opd_is ?_)
  | (with_reducible refine opd_isnt ?_)
  | (with_reducible refine opd_ixT rfl ?_)
  | (with_reducible refine opd_ixL rfl ?_)
  | (with_reducible refine und_neg ?_)
  | (with_reducible refine cbd_lenL ?_)
  | (with_reducible refine cbd_lenT ?_)
  | (with_reducible refine cbd_min2 ?_)
  | (with_reducible refine cbd_max2 ?_)
  | (with_reducible refine cbd_abs ?_)
  | (with_reducible refine cbd_int ?_)
  | (with_reducible refine cbd_tupL ?_)
  | (with_reducible refine cbd_listL ?_)
  | (with_reducible refine cbd_listT ?_)
  | (with_reducible refine cbd_sum ?_)
  | (with_reducible refine sld_T ?_)
  | (with_reducible refine sld_L ?_)
  | (with_reducible refine ex_revL ?_)
  | (with_reducible refine ex_bmL ?_)
  | (with_reducible refine ex_andV ?_)
  | (with_reducible refine ei_list ?_)
  | (with_reducible refine ei_rng1 ?_)
  | (with_reducible refine ei_rng2 ?_)
  | (with_reducible refine ei_enum ?_)
  | (with_reducible refine ei_enumT ?_)
  | (with_reducible refine ei_zip ?_)
  | (with_reducible refine sx_par ?_)
  | (with_reducible refine Exists.intro _ (And.intro rfl ?_))
  | (with_reducible refine Exists.intro _ (Exists.intro _ (And.intro rfl ?_)))
  | ((with_reducible show EX (tCall (spS _) [] _ (tCons (tVar _) _)) _ _); refine ex_callS rfl ?_)
  | ((with_reducible refine And.intro (show (_ : Nat) ≤ 100000 from ?_) ?_); (focus (simp; done)))
  | ((with_reducible refine opd_I ?_ ?_); focus (first | omega | (show CDiv _ _; exact ⟨by omega, by omega⟩) | (show CMul _ _; first | exact Or.inl ⟨by omega, by omega⟩ | exact Or.inr ⟨by omega, by omega⟩))))
local macro_rules | `(tactic| walk_at "es") => `(tactic| repeat walk_at "e")
local macro_rules | `(tactic| walk_at "w") => `(tactic| try dsimp only [wipeE, List.foldl_cons, List.foldl_nil, List.set_cons_succ, List.set_cons_zero])
local macro_rules | `(tactic| walk_at "le") => `(tactic| repeat' first | exact LeE.nil | (refine LeE.eq rfl ?_) | (refine LeE.emp ?_) | (refine LeE.eq ?_ ?_))
local macro_rules | `(tactic| walk_at "no") => `(tactic| ((refine And.intro (fun hb => absurd hb ?_) (fun _ => ?_)); (focus (first | (exact Bool.false_ne_true) | (simp; done) | (simp; omega) | (simp only [decide_eq_true_eq]; omega)))))
local macro_rules | `(tactic| walk_at "yes") => `(tactic| ((refine And.intro (fun _ => ?_) (fun hb => absurd hb ?_)); (rotate_left); (focus (first | (exact Bool.noConfusion) | (simp; done) | (simp; omega) | (simp only [decide_eq_false_iff_not]; omega)))))
local macro_rules | `(tactic| walk_at "ei") => `(tactic| repeat ((fail_if_success (with_reducible show SX (tSeq (tIfS _ _ _) _) _ _)); (fail_if_success (with_reducible show SX (tIfS _ _ _) _ _)); (fail_if_success (with_reducible show SX (tSeq (tAsg (tIf _ _ _) _) _) _ _)); walk_at "e"))
local macro_rules | `(tactic| walk_at "tv") => `(tactic| repeat' first | walk_at "e" | ((with_reducible show (_ = true → _) ∧ (_ = false → _)); refine And.intro (fun _ => ?_) (fun _ => ?_)))
theorem tab_rng (ps : List (Int × Int)) (m : Nat) : ((rngI 0 (m + 1)).map fun k => pr ps k.toNat) = tabF ps m := by
  refine List.ext_getElem? fun k => ?_
  rw [List.getElem?_map]
  by_cases h : k < m + 1
  · rw [rngI_get h, get_D (a := 0) (by rw [tab_len]; exact h), tab_get ps (by omega)]
    simp
  · rw [List.getElem?_eq_none (by rw [rngI_len]; omega), List.getElem?_eq_none (by rw [tab_len]; omega)]
    rfl
theorem neg_no {cs : List Int} (h : ∀ c ∈ cs, 0 ≤ c) : negB cs = false := by
  unfold negB
  rw [min0 h]
  rfl
theorem fault_ok {ps : List (Int × Int)} {m : Nat} {cs : List Int} (pk : Pk ps) (h : okCs ps m cs) : faultF ps m cs (pr ps m) (tabF ps m) = .none := by
  obtain ⟨h1, h2, h3, h4⟩ := h
  have tl := tab_len ps m
  unfold faultF
  rw [neg_no h2, decide_eq_true h1, if_neg (by decide), if_neg (by omega), if_neg (fun q => q h4), decide_eq_true tl, tab_get ps (Nat.zero_le m), pr_zero, if_neg (by decide)]
  rw [tail_end, if_pos (by rw [tab_get ps (Nat.le_refl m)]; exact Int.le_refl _)]
  intro j hj
  refine Pu.find_no fun k hk => ?_
  unfold needS
  have bl : backN (j + 1) (ps.getD k (0, 0)).1 ≤ j := back_le (pk.at_ hk).1.1
  rw [tab_get ps (show backN (j + 1) (ps.getD k (0, 0)).1 ≤ m by omega), tab_get ps (show j + 1 ≤ m by omega), if_neg (by have := pr_le pk (n := j) hk; omega)]
theorem tkn_all : ∀ (ns : List Int), ns.length ≤ 3 → ∀ row ∈ ordF ns.length ns.length, tkn ns row ns.length = ns.sum
  | [], _, row, h => by
    have e : row = [] := by simpa [ordF] using h
    subst e
    rfl
  | [a], _, row, h => by
    have e : ordF 1 1 = [[0]] := by decide
    have h : row ∈ ordF 1 1 := h
    rw [e] at h
    have e : row = [0] := by simpa using h
    subst e
    simp [tkn]
  | [a, b], _, row, h => by
    have e : ordF 2 2 = [[0, 1], [1, 0]] := by decide
    have h : row ∈ ordF 2 2 := h
    rw [e] at h
    simp only [List.mem_cons, List.not_mem_nil, or_false] at h
    rcases h with rfl | rfl <;> simp [tkn] <;> omega
  | [a, b, c], _, row, h => by
    have e : ordF 3 3 = [[0, 1, 2], [0, 2, 1], [1, 0, 2], [1, 2, 0], [2, 0, 1], [2, 1, 0]] := by decide
    have h : row ∈ ordF 3 3 := h
    rw [e] at h
    simp only [List.mem_cons, List.not_mem_nil, or_false] at h
    rcases h with rfl | rfl | rfl | rfl | rfl | rfl <;> simp [tkn] <;> omega
  | _ :: _ :: _ :: _ :: _, h, _, _ => by simp at h
theorem oneS_sum {ps : List (Int × Int)} {ns row : List Int} (hr : row.length = ns.length) (hx : ∀ x ∈ row, 0 ≤ x ∧ x < (ns.length : Int)) : ∀ (j : Nat) (s : List Int), j ≤ row.length → s.length = ns.length → (oneS ps ns row j s).sum = s.sum + pr ps (tkn ns row j).toNat
  | 0, s, _, _ => by
    show s.sum = s.sum + pr ps 0
    rw [pr_zero]; omega
  | j + 1, s, hj, hs => by
    have ih := oneS_sum (ps := ps) hr hx j s (by omega) hs
    have hm : row.getD j 0 ∈ row := mem_D (by omega)
    have hb := hx _ hm
    rw [oneS, sum_set _ _ _ (by rw [oneS_len]; omega), ih]
    omega
theorem allS_sum {ps : List (Int × Int)} {ns : List Int} (n3 : ns.length ≤ 3) : ∀ rows : List (List Int), (∀ row ∈ rows, row ∈ ordF ns.length ns.length) → ∀ s : List Int, s.length = ns.length → (rows.foldl (fun s row => oneS ps ns row row.length s) s).sum = s.sum + pr ps ns.sum.toNat * (rows.length : Int)
  | [], _, s, _ => by simp
  | row :: rows, h, s, hs => by
    have hr := h row (by simp)
    obtain ⟨r1, r2⟩ := ord_ok ns.length ns.length row hr
    rw [List.foldl_cons, allS_sum n3 rows (fun x hx => h x (by simp [hx])) _ (by rw [oneS_len]; exact hs), oneS_sum r1 r2 _ _ (Nat.le_refl _) hs, List.length_cons, r1, tkn_all ns n3 row hr]
    have e : ((rows.length + 1 : Nat) : Int) = (rows.length : Int) + 1 := by omega
    rw [e, Int.mul_add]
    omega
theorem sub_get (xs ys : List Int) (h : xs.length = ys.length) : ((rngI 0 xs.length).map fun k => xs.getD k.toNat 0 - ys.getD k.toNat 0) = subF xs ys := by
  refine List.ext_getElem? fun k => ?_
  unfold subF
  rw [List.getElem?_map, List.getElem?_map]
  by_cases hk : k < xs.length
  · have e : (List.zip xs ys)[k]? = some (xs.getD k 0, ys.getD k 0) := List.getElem?_zip_eq_some.mpr ⟨get_D (a := 0) hk, get_D (a := 0) (by omega)⟩
    rw [rngI_get hk, e]
    simp
  · rw [List.getElem?_eq_none (by rw [rngI_len]; omega), List.getElem?_eq_none (by rw [List.length_zip]; omega)]
    rfl
theorem sub_sum : ∀ (xs ys : List Int), xs.length = ys.length → (subF xs ys).sum = xs.sum - ys.sum
  | [], [], _ => rfl
  | x :: xs, y :: ys, h => by
    have ih := sub_sum xs ys (by simpa using h)
    unfold subF at ih ⊢
    rw [List.zip_cons_cons, List.map_cons, List.sum_cons, List.sum_cons, List.sum_cons, ih]
    omega
  | [], _ :: _, h => by simp at h
  | _ :: _, [], h => by simp at h
theorem optI_deep (o : Option Int) : (optI o).depth ≤ 60 := by cases o <;> simp [optI, PyData.depth]
theorem faultF_deep (ps : List (Int × Int)) (m : Nat) (cs : List Int) (cost : Int) (T : List Int) : (faultF ps m cs cost T).depth ≤ 60 := by
  unfold faultF
  split
  · decide +kernel
  · split
    · decide +kernel
    · split
      · decide +kernel
      · split
        · decide +kernel
        · unfold tailD
          cases e : (List.range m).findSome? (rowS ps T) with
          | none =>
            show (if _ then _ else _ : D).depth ≤ 60
            split <;> decide +kernel
          | some d =>
            obtain ⟨k, hk, he⟩ := List.exists_of_findSome?_eq_some e
            obtain ⟨j, hj, he⟩ := List.exists_of_findSome?_eq_some he
            unfold needS at he
            split at he
            · cases he
              simp [PyData.depth, PyData.depthAll]
            · cases he
end Law_k75
namespace Law_k75
open PySem L2 Pu
local macro_rules | `(tactic| walk_at "e") => `(tactic| first
  | ((with_reducible refine nx_seq ?_); (try dsimp only [List.set_cons_succ, List.set_cons_zero]))
  | ((with_reducible refine ex_vr ?_); dsimp only [VQ, List.set_cons_succ, List.set_cons_zero, List.getElem?_cons_zero, List.getElem?_cons_succ]; (fail_if_success (with_reducible show False)))
  | (with_reducible refine sx_seq ?_)
  | (with_reducible refine sx_if ?_)
  | (with_reducible refine sx_next ?_)
  | (with_reducible refine sx_ret ?_)
  | ((fail_if_success (with_reducible refine sx_asgO (eo_lst ?_))); (with_reducible refine sx_asg ?_))
  | (with_reducible refine ex_int ?_)
  | (with_reducible refine ex_str ?_)
  | (with_reducible refine ex_bl ?_)
  | (with_reducible refine ex_non ?_)
  | (with_reducible refine ex_op ?_)
  | (with_reducible refine ex_un ?_)
  | (with_reducible refine ex_chain ?_)
  | (with_reducible refine ex_call ?_)
  | (with_reducible refine ex_isT ?_)
  | (with_reducible refine ex_cb ?_)
  | (with_reducible refine ex_sl ?_)
  | (with_reducible refine ex_tup ?_)
  | (with_reducible refine ex_if ?_)
  | (with_reducible refine ex_of (eo_lst ?_))
  | (with_reducible refine ex_notV ?_)
  | (with_reducible refine ea_nil ?_)
  | (with_reducible refine ea_cons ?_)
  | (with_reducible refine ep_no ?_)
  | (with_reducible refine ep_some ?_)
  | (with_reducible refine et_test ?_)
  | (with_reducible refine et_B ?_)
  | (with_reducible refine et_ch3 ?_)
  | (with_reducible refine et_and ?_)
  | (with_reducible refine et_or ?_)
  | (with_reducible refine et_not ?_)
  | (with_reducible refine et_yes ?_)
  | (with_reducible refine et_truL ?_)
  | (with_reducible refine opd_plusI ?_)
  | (with_reducible refine opd_I0 ?_)
  | (with_reducible refine opd_B0 ?_)
  | (with_reducible refine opd_eqI ?_)
  | (with_reducible refine opd_neI ?_)
  | (with_reducible refine opd_eqS ?_)
  | (with_reducible refine opd_neS ?_)
  | (with_reducible refine opd_is ?_)
  | (with_reducible refine opd_isnt ?_)
  | (with_reducible refine opd_ixT rfl ?_)
  | (with_reducible refine opd_ixL rfl ?_)
  | (with_reducible refine und_neg ?_)
  | (with_reducible refine cbd_lenL ?_)
  | (with_reducible refine cbd_lenT ?_)
  | (with_reducible refine cbd_min2 ?_)
  | (with_reducible refine cbd_max2 ?_)
  | (with_reducible refine cbd_abs ?_)
  | (with_reducible refine cbd_int ?_)
  | (with_reducible refine cbd_tupL ?_)
  | (with_reducible refine cbd_listL ?_)
  | (with_reducible refine cbd_listT ?_)
  | (with_reducible refine cbd_sum ?_)
  | (with_reducible refine sld_T ?_)
  | (with_reducible refine sld_L ?_)
  | (with_reducible refine ex_revL ?_)
  | (with_reducible refine ex_bmL ?_)
  | (with_reducible refine ex_andV ?_)
  | (with_reducible refine ei_list ?_)
  | (with_reducible refine ei_rng1 ?_)
  | (with_reducible refine ei_rng2 ?_)
  | (with_reducible refine ei_enum ?_)
  | (with_reducible refine ei_enumT ?_)
  | (with_reducible refine ei_zip ?_)
  | (with_reducible refine sx_par ?_)
  | (with_reducible refine Exists.intro _ (And.intro rfl ?_))
  | (with_reducible refine Exists.intro _ (Exists.intro _ (And.intro rfl ?_)))
  | ((with_reducible show EX (tCall (spS _) [] _ (tCons (tVar _) _)) _ _); refine ex_callS rfl ?_)
  | ((with_reducible refine And.intro (show (_ : Nat) ≤ 100000 from ?_) ?_); (focus (simp; done)))
  | ((with_reducible refine opd_I ?_ ?_); focus (first | omega | (show CDiv _ _; exact ⟨by omega, by omega⟩) | (show CMul _ _; first | exact Or.inl ⟨by omega, by omega⟩ | exact Or.inr ⟨by omega, by omega⟩))))
local macro_rules | `(tactic| walk_at "es") => `(tactic| repeat walk_at "e")
local macro_rules | `(tactic| walk_at "w") => `(tactic| try dsimp only [wipeE, List.foldl_cons, List.foldl_nil, List.set_cons_succ, List.set_cons_zero])
local macro_rules | `(tactic| walk_at "le") => `(tactic| repeat' first | exact LeE.nil | (refine LeE.eq rfl ?_) | (refine LeE.emp ?_) | (refine LeE.eq ?_ ?_))
local macro_rules | `(tactic| walk_at "no") => `(tactic| ((refine And.intro (fun hb => absurd hb ?_) (fun _ => ?_)); (focus (first | (exact Bool.false_ne_true) | (simp; done) | (simp; omega) | (simp only [decide_eq_true_eq]; omega)))))
local macro_rules | `(tactic| walk_at "yes") => `(tactic| ((refine And.intro (fun _ => ?_) (fun hb => absurd hb ?_)); (rotate_left); (focus (first | (exact Bool.noConfusion) | (simp; done) | (simp; omega) | (simp only [decide_eq_false_iff_not]; omega)))))
local macro_rules | `(tactic| walk_at "ei") => `(tactic| repeat ((fail_if_success (with_reducible show SX (tSeq (tIfS _ _ _) _) _ _)); (fail_if_success (with_reducible show SX (tIfS _ _ _) _ _)); (fail_if_success (with_reducible show SX (tSeq (tAsg (tIf _ _ _) _) _) _ _)); walk_at "e"))
local macro_rules | `(tactic| walk_at "tv") => `(tactic| repeat' first | walk_at "e" | ((with_reducible show (_ = true → _) ∧ (_ = false → _)); refine And.intro (fun _ => ?_) (fun _ => ?_)))
def R_law : List D → (D → Prop) → Prop := fun ds Z => ∃ ns : List Int, ds = [.list (ns.map .int)] ∧ Z (.bool true)
theorem packs_deep (ws : List (Int × Int)) : (PyData.list (ws.map encP)).depth ≤ 60 := by
  have h : DpN 3 (PyData.list (ws.map encP)) := dpn_list (dpn_map fun x _ => dpn_tup (dpn_cons dpn_int (dpn_cons dpn_int dpn_nil)))
  exact Nat.le_trans h (by decide)
theorem pair_deep (xs : List Int) (x : Int) : (PyData.tuple [.list (xs.map .int), .int x]).depth ≤ 60 := by
  have h : DpN 4 (PyData.tuple [.list (xs.map .int), .int x]) := dpn_tup (dpn_cons (dpn_list (dpn_map fun x _ => dpn_int)) (dpn_cons dpn_int dpn_nil))
  exact Nat.le_trans h (by decide)
theorem sx_law (K : PySem.W.Frag) (ds : List D) (Z : D → Prop) (h : R_law ds Z) : SX (T_law K R_state R_cheapest R_least R_orders R_packs R_take R_worth R_cfault R_cfault R_one_more R_steady R_fair R_refunds R_right) (startE N_law ds) { nx := fun _ => Z .none, rt := fun d _ => Z d } := by
  obtain ⟨ss, rfl, z⟩ := h
  show SX (T_law K R_state R_cheapest R_least R_orders R_packs R_take R_worth R_cfault R_cfault R_one_more R_steady R_fair R_refunds R_right) [.val (.list (ss.map .int)), .emp, .emp, .emp, .emp, .emp, .emp, .emp, .emp, .emp, .emp, .emp, .emp, .emp, .emp, .emp, .emp, .emp, .emp, .emp, .emp, .emp, .emp, .emp, .emp, .emp] _
  unfold T_law
  refine sx_seq (sx_asgN (by decide) ?_)
  walk_at "es"
  refine ⟨ss, rfl, fun S0 ok0 => ?_⟩
  walk_at "es"
  refine sx_asgT (J := [2, 3]) ?_
  walk_at "es"
  refine ⟨rfl, ok0, fun ps S1 pk ok1 => ?_⟩
  walk_at "es"
  refine ⟨13, rfl, by omega, by omega, ok1, fun mI S2 m0 m1 ok2 => ?_⟩
  obtain ⟨m, rfl⟩ : ∃ m : Nat, mI = (m : Int) := ⟨mI.toNat, by omega⟩
  have m12 : m ≤ 12 := by omega
  walk_at "es"
  refine sg_tup rfl (sgs_cons (sg_name (by simp) (sgs_cons (sg_name (by simp) (sgs_nil ?_)))))
  walk_at "w"
  walk_at "es"
  refine ⟨ps, m, rfl, pk, m12, fun cs okc => ?_⟩
  have tl := tab_len ps m
  walk_at "es"
  refine ex_of (eo_lcP (α := Int) (fun _ => true) (fun k => .int (pr ps k.toNat)) (ei_rng1 ?_))
  walk_at "es"
  have em : ((m : Int) + 1).toNat = m + 1 := by omega
  rw [em]
  refine ⟨by omega, rngI 0 (m + 1), PyData.int, rfl, by rw [rngI_len]; omega, fun i hi => by simp at hi; subst hi; rfl, fun k hk => sg_name (by simp) ⟨rfl, ?_⟩, ?_⟩
  · have hk := rngI_mem.mp hk
    walk_at "w"
    walk_at "es"
    refine ⟨rfl, rfl, fun _ => ?_⟩
    walk_at "es"
    refine ⟨ps, k.toNat, by rw [Int.toNat_of_nonneg hk.1], pk, by omega, ?_⟩
    exact ⟨rfl, rfl⟩
  have ec : (((rngI 0 (m + 1)).filter fun _ => true).map fun k => PyData.int (pr ps k.toNat)) = (tabF ps m).map .int := by
    rw [List.filter_eq_self.mpr (fun _ _ => rfl), ← tab_rng, List.map_map]; rfl
  rw [ec]
  walk_at "ei"
  refine sx_seq (sx_if (et_val false ?_ ?_))
  · walk_at "es"
    refine ⟨fun q => absurd q (by decide), fun _ => ?_⟩
    walk_at "es"
    refine opd_ixL (last_D (tabF ps m) m tl) ?_
    walk_at "es"
    refine ⟨fun q => absurd q (by rw [tab_get ps (Nat.le_refl m)]; simp), fun _ => ?_⟩
    walk_at "es"
    refine ⟨ps, m, cs, pr ps m, tabF ps m, rfl, pk, m12, by rw [okc.1]; have := pk.1; omega, by omega, ?_⟩
    rw [fault_ok pk okc]
    walk_at "es"
    refine ⟨fun q => absurd q (by decide), fun _ => ?_⟩
    walk_at "es"
    refine ⟨ps, m, cs, pr ps m, tabF ps m, rfl, pk, m12, by rw [okc.1]; have := pk.1; omega, by omega, ?_⟩
    rw [fault_ok pk okc]
    walk_at "es"
    exact ⟨by decide, rfl⟩
  walk_at "no"
  walk_at "es"
  refine ex_of (eo_lcP (α := Int) (fun _ => true) (fun k => .int (pr ps (k.toNat + 1) - pr ps k.toNat)) (ei_rng1 ?_))
  walk_at "es"
  rw [Int.toNat_natCast]
  refine ⟨by omega, rngI 0 m, PyData.int, rfl, by rw [rngI_len]; omega, fun i hi => by simp at hi; subst hi; rfl, fun k hk => sg_name (by simp) ⟨rfl, ?_⟩, ?_⟩
  · have hk := rngI_mem.mp hk
    have e1 : (k + 1).toNat = k.toNat + 1 := by omega
    have g1 := tab_get ps (j := k.toNat + 1) (n := m) (by omega)
    have g2 := tab_get ps (j := k.toNat) (n := m) (by omega)
    walk_at "w"
    walk_at "es"
    refine ⟨rfl, rfl, fun _ => ?_⟩
    walk_at "es"
    refine opd_ixM (f := PyData.int) 0 (by omega) (by omega) ?_
    walk_at "es"
    refine opd_ixM (f := PyData.int) 0 (by omega) (by omega) ?_
    walk_at "es"
    rw [e1, g1, g2]
    exact ⟨rfl, rfl⟩
  have es1 : (((rngI 0 m).filter fun _ => true).map fun k => PyData.int (pr ps (k.toNat + 1) - pr ps k.toNat)) = (stepsF ps m).map .int := by
    rw [List.filter_eq_self.mpr (fun _ _ => rfl)]; unfold stepsF; rw [List.map_map]; rfl
  rw [es1]
  have sl := steps_len ps m
  walk_at "es"
  refine ex_of (eo_lcP (α := Int) (upB (stepsF ps m)) PyData.int (ei_rng2 ?_))
  walk_at "es"
  have em2 : ((m : Int) - 1).toNat = m - 1 := by omega
  rw [em2]
  refine ⟨by omega, rngI 1 (m - 1), PyData.int, rfl, by rw [rngI_len]; omega, fun i hi => by simp at hi; subst hi; rfl, fun k hk => sg_name (by simp) ⟨rfl, ?_⟩, ?_⟩
  · have hk := rngI_mem.mp hk
    walk_at "w"
    walk_at "es"
    refine opd_ixM (f := PyData.int) 0 (by omega) (by omega) ?_
    walk_at "es"
    refine opd_ixM (f := PyData.int) 0 (by omega) (by omega) ?_
    walk_at "es"
    refine ⟨rfl, rfl, fun _ => ?_⟩
    walk_at "es"
    exact ⟨rfl, rfl⟩
  have eu : upF ps m = ((rngI 1 (m - 1)).filter (upB (stepsF ps m))).head? := by unfold upF; rw [List.head?_filter]
  generalize (rngI 1 (m - 1)).filter (upB (stepsF ps m)) = dear at eu ⊢
  walk_at "ei"
  refine sx_seq (sx_if (et_val false ?_ ?_))
  · walk_at "es"
    refine ⟨ps, m, rfl, pk, m12, ?_⟩
    walk_at "es"
    refine opd_neSelf (ints_deep _) ?_
    walk_at "es"
    walk_at "no"
    walk_at "es"
    refine ⟨ps, m, rfl, pk, m12, ?_⟩
    rw [eu]
    cases dear with
    | nil =>
      walk_at "es"
      walk_at "no"
      walk_at "es"
      refine opd_neSelf (optI_deep none) ⟨_, rfl, rfl, rfl⟩
    | cons x L =>
      walk_at "es"
      refine ⟨fun _ => ?_, fun q => absurd q (by simp)⟩
      walk_at "es"
      refine opd_ixM (xs := x :: L) (f := PyData.int) 0 (by omega) (by simp) ?_
      refine opd_neSelf (optI_deep (some x)) ⟨_, rfl, rfl, rfl⟩
  walk_at "no"
  refine sx_next ⟨_, LeE.refl _, ?_⟩
  refine sx_weak (ρ' := [.val (.list (ss.map .int)), .st S2, .val (.list (ps.map encP)), .val (.int (m : Int)), .val (.list (ps.map encP)), .val (.tuple [.list (cs.map .int), .int (pr ps m), .list ((tabF ps m).map .int)]), .emp, .emp, .emp, .emp, .emp, .emp, .emp, .emp, .emp, .emp, .emp, .emp, .emp, .emp, .emp, .emp, .emp, .emp, .emp, .emp]) (by walk_at "le") ?_
  refine sx_seq (sx_asg (ex_of (eo_lc (ei_rng1 ?_))))
  walk_at "es"
  refine ⟨4, rfl, by omega, by omega, ok2, fun n S3 n0 n1 ok3 => ?_⟩
  walk_at "es"
  refine ⟨by omega, fun k acc ρ' => ∃ (ns : List Int) (S : Stt), ns.length = k ∧ (∀ x ∈ ns, 0 ≤ x ∧ x ≤ 3) ∧ Ok S ∧ acc = ns.map .int ∧ ρ' = [.val (.list (ss.map .int)), .st S, .val (.list (ps.map encP)), .val (.int (m : Int)), .val (.list (ps.map encP)), .val (.tuple [.list (cs.map .int), .int (pr ps m), .list ((tabF ps m).map .int)]), .emp, .emp, .emp, .emp, .emp, .emp, .emp, .emp, .emp, .emp, .emp, .emp, .emp, .emp, .emp, .emp, .emp, .emp, .emp, .emp], ⟨[], S3, rfl, by simp, ok3, rfl, rfl⟩, ?_, ?_⟩
  · rintro k dd acc ρ' hd0 ⟨ns, S, hl, hg, ok, rfl, rfl⟩
    obtain ⟨hk, rfl⟩ := rng_at hd0
    refine ⟨(fun i hi => by simp at hi; subst hi; rfl), by rw [List.length_map]; omega, sg_name (by simp) ?_⟩
    walk_at "w"
    refine et_yes ⟨fun _ => ?_, (fun q => by cases q)⟩
    walk_at "es"
    refine ⟨4, rfl, by omega, by omega, ok, fun x S4 x0 x1 ok4 => ?_⟩
    refine ⟨ns ++ [x], S4, by simp [hl], fun y hy => ?_, ok4, by rw [List.map_append]; rfl, rfl⟩
    rcases List.mem_append.mp hy with hy | hy
    · exact hg y hy
    · rw [List.mem_singleton.mp hy]; omega
  rintro acc ρ' ⟨ns, S4, hl, hg, ok4, rfl, rfl⟩
  rw [rng_size] at hl
  have nd : Nds ns := ⟨by omega, hg⟩
  have n3 := nd.1
  have sm := nds_sum ns hg
  walk_at "es"
  refine ⟨ps, ns.sum.toNat, by rw [Int.toNat_of_nonneg sm.1], pk, by omega, ?_⟩
  walk_at "ei"
  refine sx_seq (sx_if (et_val false ?_ ?_))
  · walk_at "es"
    refine ⟨ps, ns, rfl, pk, nd, ?_⟩
    walk_at "es"
    refine ex_of (eo_lcP (α := Int) (fun _ => true) (fun n => .int (pr ps n.toNat)) (ei_list ?_))
    walk_at "es"
    refine ⟨by omega, fun i hi => by simp at hi; subst hi; rfl, fun n hn => sg_name (by simp) ⟨rfl, ?_⟩, ?_⟩
    · have hn := nd.2 n hn
      walk_at "w"
      walk_at "es"
      refine ⟨rfl, rfl, fun _ => ?_⟩
      walk_at "es"
      refine ⟨ps, n.toNat, by rw [Int.toNat_of_nonneg hn.1], pk, by omega, ?_⟩
      exact ⟨rfl, rfl⟩
    have e : ((ns.filter fun _ => true).map fun n => PyData.int (pr ps n.toNat)) = (ns.map fun n => pr ps n.toNat).map .int := by
      rw [List.filter_eq_self.mpr (fun _ _ => rfl), List.map_map]; rfl
    rw [e]
    walk_at "es"
    refine opd_neSelf (pair_deep _ _) ⟨_, rfl, rfl, rfl⟩
  walk_at "no"
  walk_at "es"
  refine ⟨(ns.map PyData.int).length, rfl, by rw [List.length_map]; exact n3, ?_⟩
  rw [List.length_map]
  have ol := ord_27 ns.length n3 ns.length n3
  have ook := ord_ok ns.length ns.length
  generalize hrows : ordF ns.length ns.length = rows at ol ook ⊢
  refine nx_seq ?_
  walk_at "w"
  refine sx_seq (sx_asgO (eo_lcP (α := Int) (fun _ => true) (fun _ => .int 0) (ei_list ?_)))
  walk_at "es"
  refine ⟨by omega, fun i hi => by simp at hi; subst hi; rfl, fun q hq => sg_name (by simp) ⟨rfl, ?_⟩, ?_⟩
  · walk_at "w"
    walk_at "es"
    refine ⟨rfl, rfl, fun _ => ?_⟩
    walk_at "es"
    exact ⟨rfl, rfl⟩
  rw [zeros]
  walk_at "es"
  refine sx_for (J := [15]) (ei_list ?_)
  walk_at "es"
  refine ⟨fun k ρ' => ρ' = [.val (.list (ss.map .int)), .st S4, .val (.list (ps.map encP)), .val (.int (m : Int)), .val (.list (ps.map encP)), .val (.tuple [.list (cs.map .int), .int (pr ps m), .list ((tabF ps m).map .int)]), .emp, .emp, .emp, .emp, .emp, .val (.list (ns.map .int)), .val (.int (pr ps ns.sum.toNat)), .val (.list (rows.map encR)), .own ((allS ps ns (rows.take k)).map .int), .emp, .emp, .emp, .emp, .emp, .emp, .emp, .emp, .emp, .emp, .emp], rfl, ?_, ?_⟩
  · rintro k dd ρ' hd0 rfl
    obtain ⟨row, hr, rfl⟩ := map_at hd0
    obtain ⟨r1, r2⟩ := ook row (List.mem_of_getElem? hr)
    have hs : allS ps ns (rows.take (k + 1)) = oneS ps ns row row.length (allS ps ns (rows.take k)) := by
      rw [take_snoc' hr]; unfold allS; rw [List.foldl_append]; rfl
    have sl0 := allS_len ps ns (rows.take k)
    generalize allS ps ns (rows.take k) = s0 at hs sl0 ⊢
    refine sg_name (by simp) ?_
    rw [show encR row = PyData.list (row.map PyData.int) from rfl]
    walk_at "w"
    refine sx_for (J := [16]) (ei_rng1 ?_)
    walk_at "es"
    rw [List.length_map, Int.toNat_natCast]
    refine ⟨by omega, fun j ρ' => ρ' = [.val (.list (ss.map .int)), .st S4, .val (.list (ps.map encP)), .val (.int (m : Int)), .val (.list (ps.map encP)), .val (.tuple [.list (cs.map .int), .int (pr ps m), .list ((tabF ps m).map .int)]), .emp, .emp, .emp, .emp, .emp, .val (.list (ns.map .int)), .val (.int (pr ps ns.sum.toNat)), .val (.list (rows.map encR)), .own ((oneS ps ns row j s0).map .int), .val (.list (row.map .int)), .emp, .emp, .emp, .emp, .emp, .emp, .emp, .emp, .emp, .emp], rfl, ?_, ?_⟩
    · rintro j dd ρ' hd1 rfl
      obtain ⟨hj, rfl⟩ := rng_at hd1
      rw [Int.zero_add]
      generalize ha' : row.getD j 0 = a
      have ha : row[j]? = some a := by rw [← ha']; exact get_D hj
      obtain ⟨a0, a1⟩ := r2 a (List.mem_of_getElem? ha)
      have ts := tkn_succ (ns := ns) ha
      have ti := tkn_in nd row (j + 1) (by omega)
      have ti0 := tkn_in nd row j (by omega)
      have ol2 := oneS_len ps ns row j s0
      have hst : oneS ps ns row (j + 1) s0 = (oneS ps ns row j s0).set a.toNat ((oneS ps ns row j s0).getD a.toNat 0 + pr ps (tkn ns row (j + 1)).toNat - pr ps (tkn ns row j).toNat) := by
        rw [oneS, ha', Int.add_sub_assoc]
      refine sg_name (by simp) ?_
      walk_at "w"
      refine sx_seq (sx_asg (ex_cb (ea_cons (ex_of (eo_lcP (α := Int) (fun _ => true) (fun k => .int (ns.getD k.toNat 0)) (ei_list ?_))))))
      walk_at "es"
      rw [cutD_nat _ _ _ (by omega), Int.toNat_natCast]
      walk_at "es"
      refine ⟨by rw [List.length_take]; omega, fun i hi => by simp at hi; subst hi; rfl, fun k hk => sg_name (by simp) ⟨rfl, ?_⟩, ?_⟩
      · have hk := r2 k (List.mem_of_mem_take hk)
        walk_at "w"
        walk_at "es"
        refine ⟨rfl, rfl, fun _ => ?_⟩
        walk_at "es"
        refine opd_ixM (f := PyData.int) 0 (by omega) (by omega) ?_
        exact ⟨rfl, rfl⟩
      have et : (((row.take j).filter fun _ => true).map fun k => PyData.int (ns.getD k.toNat 0)) = ((row.take j).map fun k => ns.getD k.toNat 0).map .int := by
        rw [List.filter_eq_self.mpr (fun _ _ => rfl), List.map_map]; rfl
      rw [et]
      refine ea_nil ?_
      refine cbd_sum ?_
      have ek : ((row.take j).map fun k => ns.getD k.toNat 0).sum = tkn ns row j := rfl
      rw [ek]
      refine nx_seq ?_
      walk_at "w"
      generalize oneS ps ns row j s0 = s at hst ol2 ⊢
      refine sx_setO (es := s.map .int) (ex_op (ex_op (ex_ixO rfl ?_)))
      walk_at "es"
      refine opd_ixM (f := PyData.int) 0 (by omega) (by omega) ?_
      rw [Int.toNat_natCast, ha']
      refine ⟨_, a, .int (s.getD a.toNat 0), rfl, rfl, atI_map (f := PyData.int) 0 a0 (by omega), ?_⟩
      walk_at "es"
      refine opd_ixM (f := PyData.int) 0 (by omega) (by omega) ?_
      rw [Int.toNat_natCast, ha']
      refine opd_ixM (f := PyData.int) 0 (by omega) (by omega) ?_
      walk_at "es"
      rw [← ts]
      refine ⟨ps, (tkn ns row (j + 1)).toNat, by rw [Int.toNat_of_nonneg ti.1], pk, by omega, ?_⟩
      walk_at "es"
      refine ⟨ps, (tkn ns row j).toNat, by rw [Int.toNat_of_nonneg ti0.1], pk, by omega, ?_⟩
      walk_at "es"
      refine ⟨rfl, ?_⟩
      walk_at "es"
      refine opd_ixM (f := PyData.int) 0 (by omega) (by omega) ?_
      rw [Int.toNat_natCast, ha']
      refine ⟨_, a, a.toNat, rfl, rfl, by rw [List.length_map]; exact ixN_in a0 (by omega), ?_⟩
      rw [hst]
      refine ⟨_, ?_, rfl⟩
      rw [List.map_set]
      walk_at "le"
    · rintro ρ' rfl
      rw [rng_size, ← hs]
      refine ⟨_, ?_, rfl⟩
      walk_at "le"
  rintro ρ' rfl
  rw [List.length_map, List.take_length]
  have al := allS_len ps ns rows
  have asum : (allS ps ns rows).sum = pr ps ns.sum.toNat * (rows.length : Int) := by
    unfold allS
    rw [allS_sum n3 rows (fun row h => by rw [hrows]; exact h) _ List.length_replicate]
    have : (List.replicate ns.length (0 : Int)).sum = 0 := by simp
    omega
  have hfair : ∀ Z : D → Prop, Z (.tuple [.list ((allS ps ns rows).map .int), .int (rows.length : Int)]) → R_fair [.list (ps.map encP), .list (ns.map .int)] Z := fun Z z => ⟨ps, ns, rfl, pk, nd, by rw [hrows]; exact z⟩
  generalize allS ps ns rows = sums at al asum hfair ⊢
  refine nx_seq (sx_freeze 14 rfl ?_)
  walk_at "w"
  refine sx_seq (sx_if (et_val false ?_ ?_))
  · walk_at "es"
    refine hfair _ ?_
    walk_at "es"
    rw [List.length_map]
    refine opd_neSelf (pair_deep _ _) ?_
    walk_at "es"
    walk_at "no"
    walk_at "es"
    rw [List.length_map]
    walk_at "es"
    rw [asum]
    refine ⟨by simp, rfl⟩
  walk_at "no"
  refine sx_next ⟨_, LeE.refl _, ?_⟩
  refine sx_weak (ρ' := [.val (.list (ss.map .int)), .st S4, .val (.list (ps.map encP)), .val (.int (m : Int)), .val (.list (ps.map encP)), .val (.tuple [.list (cs.map .int), .int (pr ps m), .list ((tabF ps m).map .int)]), .emp, .emp, .emp, .emp, .emp, .val (.list (ns.map .int)), .emp, .emp, .val (.list (sums.map .int)), .emp, .emp, .emp, .emp, .emp, .emp, .emp, .emp, .emp, .emp, .emp]) (by walk_at "le") ?_
  refine sx_seq (sx_asg (ex_of (eo_lc (ei_list ?_))))
  walk_at "es"
  refine ⟨fun k acc ρ' => ∃ (xs : List Int) (S : Stt), xs.length = k ∧ Ok S ∧ acc = xs.map .int ∧ ρ' = [.val (.list (ss.map .int)), .st S, .val (.list (ps.map encP)), .val (.int (m : Int)), .val (.list (ps.map encP)), .val (.tuple [.list (cs.map .int), .int (pr ps m), .list ((tabF ps m).map .int)]), .emp, .emp, .emp, .emp, .emp, .val (.list (ns.map .int)), .emp, .emp, .val (.list (sums.map .int)), .emp, .emp, .emp, .emp, .emp, .emp, .emp, .emp, .emp, .emp, .emp], ⟨[], S4, rfl, ok4, rfl, rfl⟩, ?_, ?_⟩
  · rintro k dd acc ρ' hd0 ⟨xs, S, hl, ok, rfl, rfl⟩
    obtain ⟨x, hx, rfl⟩ := map_at hd0
    have hk : k < ns.length := (List.getElem?_eq_some_iff.mp hx).1
    refine ⟨(fun i hi => by simp at hi; subst hi; rfl), by rw [List.length_map]; omega, sg_name (by simp) ?_⟩
    walk_at "w"
    refine et_yes ⟨fun _ => ?_, (fun q => by cases q)⟩
    walk_at "es"
    refine ⟨50, rfl, by omega, by omega, ok, fun x S5 x0 x1 ok5 => ?_⟩
    exact ⟨xs ++ [x], S5, by simp [hl], ok5, by rw [List.map_append]; rfl, rfl⟩
  rintro acc ρ' ⟨paid, S5, hl, ok5, rfl, rfl⟩
  rw [List.length_map] at hl
  refine nx_seq ?_
  walk_at "w"
  refine sx_seq (sx_if (et_imp (Q := fun b ρ' => b = false ∧ ∃ S', Ok S' ∧ ρ' = ([.val (.list (ss.map .int)), .st S', .val (.list (ps.map encP)), .val (.int (m : Int)), .val (.list (ps.map encP)), .val (.tuple [.list (cs.map .int), .int (pr ps m), .list ((tabF ps m).map .int)]), .emp, .emp, .emp, .emp, .emp, .val (.list (ns.map .int)), .emp, .emp, .val (.list (sums.map .int)), .emp, .emp, .emp, .val (.list (paid.map .int)), .emp, .emp, .emp, .emp, .emp, .emp, .emp] : Pu.Env)) ?_ ?_))
  · walk_at "es"
    refine ⟨paid, sums, rfl, by omega, ?_⟩
    walk_at "es"
    refine ex_of (eo_lcP (α := Int) (fun _ => true) (fun k => .int (paid.getD k.toNat 0 - sums.getD k.toNat 0)) (ei_rng1 ?_))
    walk_at "es"
    rw [List.length_map, Int.toNat_natCast]
    refine ⟨by omega, rngI 0 paid.length, PyData.int, rfl, by rw [rngI_len]; omega, fun i hi => by simp at hi; subst hi; rfl, fun k hk => sg_name (by simp) ⟨rfl, ?_⟩, ?_⟩
    · have hk := rngI_mem.mp hk
      walk_at "w"
      walk_at "es"
      refine ⟨rfl, rfl, fun _ => ?_⟩
      walk_at "es"
      refine opd_ixM (f := PyData.int) 0 (by omega) (by omega) ?_
      walk_at "es"
      refine opd_ixM (f := PyData.int) 0 (by omega) (by omega) ?_
      walk_at "es"
      exact ⟨rfl, rfl⟩
    have e : (((rngI 0 paid.length).filter fun _ => true).map fun k => PyData.int (paid.getD k.toNat 0 - sums.getD k.toNat 0)) = (subF paid sums).map .int := by
      rw [List.filter_eq_self.mpr (fun _ _ => rfl), ← sub_get paid sums (by omega), List.map_map]; rfl
    rw [e]
    walk_at "es"
    rw [← sub_sum paid sums (by omega)]
    refine opd_neSelf (pair_deep _ _) ?_
    walk_at "es"
    refine ⟨(fun q => by cases q), fun _ => ?_⟩
    walk_at "es"
    refine ⟨rfl, ok5, fun S6 ok6 => ?_⟩
    walk_at "es"
    exact ⟨rfl, S6, ok6, rfl⟩
  rintro b ρ' ⟨rfl, S6, ok6, rfl⟩
  refine ⟨(fun q => by cases q), fun _ => ?_⟩
  refine sx_next ⟨_, LeE.refl _, ?_⟩
  refine sx_weak (ρ' := [.val (.list (ss.map .int)), .st S6, .val (.list (ps.map encP)), .val (.int (m : Int)), .val (.list (ps.map encP)), .val (.tuple [.list (cs.map .int), .int (pr ps m), .list ((tabF ps m).map .int)]), .emp, .emp, .emp, .emp, .emp, .emp, .emp, .emp, .emp, .emp, .emp, .emp, .emp, .emp, .emp, .emp, .emp, .emp, .emp, .emp]) (by walk_at "le") ?_
  refine sx_seq (sx_for (J := [19]) (ei_rng1 ?_))
  walk_at "es"
  refine ⟨by omega, fun k ρ' => ∃ S, Ok S ∧ ρ' = [.val (.list (ss.map .int)), .st S, .val (.list (ps.map encP)), .val (.int (m : Int)), .val (.list (ps.map encP)), .val (.tuple [.list (cs.map .int), .int (pr ps m), .list ((tabF ps m).map .int)]), .emp, .emp, .emp, .emp, .emp, .emp, .emp, .emp, .emp, .emp, .emp, .emp, .emp, .emp, .emp, .emp, .emp, .emp, .emp, .emp], ⟨S6, ok6, rfl⟩, ?_, ?_⟩
  · rintro k dd ρ' hd0 ⟨S, ok, rfl⟩
    obtain ⟨-, rfl⟩ := rng_at hd0
    have cl := okc.1
    have p4 := pk.1
    refine sg_name (by simp) ?_
    walk_at "w"
    refine sx_seq (sx_parOVO (eo_cb ?_))
    walk_at "es"
    refine cbo_listL ?_
    walk_at "es"
    refine eo_cb ?_
    walk_at "es"
    refine cbo_listL ?_
    refine nx_seq ?_
    walk_at "w"
    walk_at "es"
    refine ⟨5, rfl, by omega, by omega, ok, fun kind S1 k0 k1 ok1 => ?_⟩
    refine nx_seq ?_
    walk_at "w"
    generalize tabF ps m = T0 at tl ⊢
    refine sx_midP (fun ρ' => ∃ (S : Stt) (cs1 : List Int) (cost : Int) (T1 : List Int) (s22 : Slot), Ok S ∧ cs1.length ≤ 100 ∧ T1.length ≤ 100 ∧ (s22 = .own (T1.map .int) ∨ s22 = .val (.list (T1.map .int))) ∧ ρ' = [.val (.list (ss.map .int)), .st S, .val (.list (ps.map encP)), .val (.int (m : Int)), .val (.list (ps.map encP)), .val (.tuple [.list (cs.map .int), .int (pr ps m), .list (T0.map .int)]), .emp, .emp, .emp, .emp, .emp, .emp, .emp, .emp, .emp, .emp, .emp, .emp, .emp, .emp, .val (.list (cs1.map .int)), .val (.int cost), s22, .emp, .emp, .emp]) ?_ ?_
    · walk_at "es"
      refine ⟨fun _ => ?_, fun _ => ?_⟩
      · refine sx_freeze 22 rfl ?_
        walk_at "w"
        refine sx_seq (sx_asg (ex_callS rfl (ea_cons (ex_lenO rfl ?_))))
        walk_at "es"
        refine ⟨(cs.length : Int), by rw [List.length_map], by omega, by omega, ok1, fun a S2 a0 a1 ok2 => ?_⟩
        refine nx_seq ?_
        walk_at "w"
        refine sx_seq (sx_setO (es := cs.map .int) (ex_op (ex_ixO rfl ?_)))
        walk_at "es"
        refine ⟨_, a, .int (cs.getD a.toNat 0), rfl, rfl, atI_map (f := PyData.int) 0 a0 a1, ?_⟩
        walk_at "es"
        refine ⟨2, rfl, by omega, by omega, ok2, fun x S3 x0 x1 ok3 => ?_⟩
        show OpD (rIxA K) (.list ([(1 : Int), 0 - 1].map PyData.int)) (.int x) _
        refine opd_ixM (xs := [(1 : Int), 0 - 1]) (f := PyData.int) 0 x0 (by simp; omega) ?_
        generalize [(1 : Int), 0 - 1].getD x.toNat 0 = v
        walk_at "es"
        refine ⟨rfl, ?_⟩
        walk_at "w"
        walk_at "es"
        refine ⟨_, a, a.toNat, rfl, rfl, by rw [List.length_map]; exact ixN_in a0 a1, ?_⟩
        have es2 : (cs.map PyData.int).set a.toNat (.int (cs.getD a.toNat 0 + v)) = (cs.set a.toNat (cs.getD a.toNat 0 + v)).map .int := by rw [List.map_set]
        rw [es2]
        have l2 : (cs.set a.toNat (cs.getD a.toNat 0 + v)).length = ps.length := by rw [List.length_set, cl]
        generalize cs.set a.toNat (cs.getD a.toNat 0 + v) = cs1 at l2 ⊢
        refine nx_seq ?_
        walk_at "w"
        refine sx_freeze 20 rfl ?_
        walk_at "w"
        refine sx_asg (ex_cb (ea_cons (ex_of (eo_lcP (α := Int) (fun _ => true) (fun k => .int (cs1.getD k.toNat 0 * (ps.getD k.toNat (0, 0)).2)) (ei_rng1 ?_)))))
        walk_at "es"
        rw [List.length_map, Int.toNat_natCast]
        refine ⟨by omega, rngI 0 ps.length, PyData.int, rfl, by rw [rngI_len]; omega, fun i hi => by simp at hi; subst hi; rfl, fun k hk => sg_name (by simp) ⟨rfl, ?_⟩, ?_⟩
        · have hk := rngI_mem.mp hk
          have gx := pk.at_ (k := k.toNat) (by omega)
          walk_at "w"
          walk_at "es"
          refine ⟨rfl, rfl, fun _ => ?_⟩
          walk_at "es"
          refine opd_ixM (f := PyData.int) 0 (by omega) (by omega) ?_
          walk_at "es"
          refine opd_ixM (0, 0) (by omega) (by omega) ?_
          walk_at "es"
          refine opd_ixT (d := .int (ps.getD k.toNat (0, 0)).2) rfl ?_
          walk_at "es"
          exact ⟨rfl, rfl⟩
        have e2 : (((rngI 0 ps.length).filter fun _ => true).map fun k => PyData.int (cs1.getD k.toNat 0 * (ps.getD k.toNat (0, 0)).2)) = ((rngI 0 ps.length).map fun k => cs1.getD k.toNat 0 * (ps.getD k.toNat (0, 0)).2).map .int := by
          rw [List.filter_eq_self.mpr (fun _ _ => rfl), List.map_map]; rfl
        rw [e2]
        refine ea_nil (cbd_sum ?_)
        generalize ((rngI 0 ps.length).map fun k => cs1.getD k.toNat 0 * (ps.getD k.toNat (0, 0)).2).sum = cost1
        refine ⟨_, ?_, S3, cs1, cost1, T0, _, ok3, by omega, by omega, Or.inr rfl, rfl⟩
        walk_at "le"
      · refine sx_freeze 20 rfl ?_
        walk_at "w"
        refine sx_if ?_
        walk_at "es"
        refine ⟨fun _ => ?_, fun _ => ?_⟩
        · walk_at "es"
          refine ⟨2, rfl, by omega, by omega, ok1, fun x S3 x0 x1 ok3 => ?_⟩
          show OpD (rIxA K) (.list ([(1 : Int), 0 - 1].map PyData.int)) (.int x) _
          refine opd_ixM (xs := [(1 : Int), 0 - 1]) (f := PyData.int) 0 x0 (by simp; omega) ?_
          generalize [(1 : Int), 0 - 1].getD x.toNat 0 = v
          walk_at "es"
          refine ⟨_, ?_, S3, cs, pr ps m + v, T0, _, ok3, by omega, by omega, Or.inl rfl, rfl⟩
          walk_at "le"
        · refine sx_if ?_
          walk_at "es"
          refine ⟨fun _ => ?_, fun _ => ?_⟩
          · refine sx_setO (es := T0.map .int) ?_
            walk_at "es"
            refine ⟨40, rfl, by omega, by omega, ok1, fun x S3 x0 x1 ok3 => ?_⟩
            walk_at "es"
            refine ⟨rfl, ?_⟩
            refine ex_callS rfl (ea_cons (ex_lenO rfl ?_))
            walk_at "es"
            refine ⟨(T0.length : Int), by rw [List.length_map], by omega, by omega, ok3, fun a S4 a0 a1 ok4 => ?_⟩
            refine ⟨_, a, a.toNat, rfl, rfl, by rw [List.length_map]; exact ixN_in a0 a1, ?_⟩
            refine ⟨_, ?_, S4, cs, pr ps m, T0.set a.toNat (x - 3), _, ok4, by omega, by rw [List.length_set]; omega, Or.inl rfl, rfl⟩
            rw [List.map_set]
            walk_at "le"
          · refine sx_freeze 22 rfl ?_
            walk_at "w"
            walk_at "es"
            have ec : Pu.cutD (T0.map PyData.int) (some 1) none = (T0.drop 1).map PyData.int := by
              unfold Pu.cutD
              rw [List.length_map, List.map_drop]
              simp only [HT.sIx]
              have q : (1 : Int).toNat = 1 := rfl
              rw [if_neg (by omega), q, Nat.min_eq_left (by omega)]
              exact List.take_of_length_le (by rw [List.length_drop, List.length_map]; omega)
            rw [ec]
            refine ⟨_, ?_, S1, cs, pr ps m, T0.drop 1, _, ok1, by omega, by rw [List.length_drop]; omega, Or.inr rfl, rfl⟩
            walk_at "le"
    · rintro ρ1 ⟨S2, cs1, cost, T1, s22, ok2, c1, t1, h22, rfl⟩
      rcases h22 with rfl | rfl
      · refine sx_freeze 22 rfl ?_
        walk_at "w"
        walk_at "es"
        refine ⟨ps, m, cs1, cost, T1, rfl, pk, m12, by omega, by omega, ?_⟩
        walk_at "es"
        refine ⟨ps, m, cs1, cost, T1, rfl, pk, m12, by omega, by omega, ?_⟩
        refine opd_neSelf (faultF_deep _ _ _ _ _) ?_
        walk_at "es"
        walk_at "no"
        walk_at "es"
        refine ⟨_, ?_, S2, ok2, rfl⟩
        walk_at "le"
      · walk_at "es"
        refine ⟨ps, m, cs1, cost, T1, rfl, pk, m12, by omega, by omega, ?_⟩
        walk_at "es"
        refine ⟨ps, m, cs1, cost, T1, rfl, pk, m12, by omega, by omega, ?_⟩
        refine opd_neSelf (faultF_deep _ _ _ _ _) ?_
        walk_at "es"
        walk_at "no"
        walk_at "es"
        refine ⟨_, ?_, S2, ok2, rfl⟩
        walk_at "le"
  rintro ρ' ⟨S7, ok7, rfl⟩
  walk_at "es"
  refine opd_eqSelf (packs_deep ps) ?_
  exact z
end Law_k75
namespace Law_k75
open PySem L2 Pu

def topS (i : Nat) : Stmt := PySem.Challenge.pw_firescore_k75_packs_by_all_counts.main.body.getD i (.Pass ⟨0, 0, 0, 0⟩)
abbrev s_cheapest : Stmt := topS 1
abbrev s_cheapest_fault : Stmt := topS 2
abbrev s_one_more : Stmt := topS 3
abbrev s_steady : Stmt := topS 4
abbrev s_shared : Stmt := topS 5
abbrev s_shared_fault : Stmt := topS 6
abbrev s_worth_alone : Stmt := topS 7
abbrev s_orders_of : Stmt := topS 8
abbrev s_fair_parts : Stmt := topS 9
abbrev s_refunds : Stmt := topS 10
abbrev s_l_state : Stmt := topS 12
abbrev s_l_take : Stmt := topS 13
abbrev s_l_packs : Stmt := topS 14
abbrev s_l_least : Stmt := topS 15
abbrev s_l_fault : Stmt := topS 16
abbrev s_l_orders : Stmt := topS 17
abbrev s_l_shares_right : Stmt := topS 18
abbrev s_law : Stmt := topS 19
theorem sc_cheapest : FnScope N_cheapest ["packs", "many"] (defScope s_cheapest) := ⟨rfl, rfl, rfl, by decide +kernel, rfl, by decide +kernel, by decide +kernel⟩
theorem sc_cheapest_fault : FnScope N_cheapest_fault ["packs", "many", "told"] (defScope s_cheapest_fault) := ⟨rfl, rfl, rfl, by decide +kernel, rfl, by decide +kernel, by decide +kernel⟩
theorem sc_one_more : FnScope N_one_more ["packs", "many"] (defScope s_one_more) := ⟨rfl, rfl, rfl, by decide +kernel, rfl, by decide +kernel, by decide +kernel⟩
theorem sc_steady : FnScope N_steady ["packs", "many"] (defScope s_steady) := ⟨rfl, rfl, rfl, by decide +kernel, rfl, by decide +kernel, by decide +kernel⟩
theorem sc_shared : FnScope N_shared ["cents", "weights"] (defScope s_shared) := ⟨rfl, rfl, rfl, by decide +kernel, rfl, by decide +kernel, by decide +kernel⟩
theorem sc_shared_fault : FnScope N_shared_fault ["cents", "weights", "parts"] (defScope s_shared_fault) := ⟨rfl, rfl, rfl, by decide +kernel, rfl, by decide +kernel, by decide +kernel⟩
theorem sc_worth_alone : FnScope N_worth_alone ["packs", "needs"] (defScope s_worth_alone) := ⟨rfl, rfl, rfl, by decide +kernel, rfl, by decide +kernel, by decide +kernel⟩
theorem sc_orders_of : FnScope N_orders_of ["many"] (defScope s_orders_of) := ⟨rfl, rfl, rfl, by decide +kernel, rfl, by decide +kernel, by decide +kernel⟩
theorem sc_fair_parts : FnScope N_fair_parts ["packs", "needs"] (defScope s_fair_parts) := ⟨rfl, rfl, rfl, by decide +kernel, rfl, by decide +kernel, by decide +kernel⟩
theorem sc_refunds : FnScope N_refunds ["paid", "due"] (defScope s_refunds) := ⟨rfl, rfl, rfl, by decide +kernel, rfl, by decide +kernel, by decide +kernel⟩
theorem sc_l_state : FnScope N_l_state ["script"] (defScope s_l_state) := ⟨rfl, rfl, rfl, by decide +kernel, rfl, by decide +kernel, by decide +kernel⟩
theorem sc_l_take : FnScope N_l_take ["state", "most"] (defScope s_l_take) := ⟨rfl, rfl, rfl, by decide +kernel, rfl, by decide +kernel, by decide +kernel⟩
theorem sc_l_packs : FnScope N_l_packs ["state"] (defScope s_l_packs) := ⟨rfl, rfl, rfl, by decide +kernel, rfl, by decide +kernel, by decide +kernel⟩
theorem sc_l_least : FnScope N_l_least ["packs", "many"] (defScope s_l_least) := ⟨rfl, rfl, rfl, by decide +kernel, rfl, by decide +kernel, by decide +kernel⟩
theorem sc_l_fault : FnScope N_l_fault ["packs", "many", "told"] (defScope s_l_fault) := ⟨rfl, rfl, rfl, by decide +kernel, rfl, by decide +kernel, by decide +kernel⟩
theorem sc_l_orders : FnScope N_l_orders ["many"] (defScope s_l_orders) := ⟨rfl, rfl, rfl, by decide +kernel, rfl, by decide +kernel, by decide +kernel⟩
theorem sc_l_shares_right : FnScope N_l_shares_right ["state"] (defScope s_l_shares_right) := ⟨rfl, rfl, rfl, by decide +kernel, rfl, by decide +kernel, by decide +kernel⟩
theorem sc_law : FnScope N_law ["script"] (defScope s_law) := ⟨rfl, rfl, rfl, by decide +kernel, rfl, by decide +kernel, by decide +kernel⟩
section
variable {P : Program} {w : World} {K : PySem.W.Frag} {mg : Str → Option Value} {base : Heap} {f : Addr} {fd : FuncData} {k : Nat}
theorem ps_cheapest {cdv : Value} {A : Around} {outer : List PySem.Env} {s : Shared} {H : Hp} {E : XK} (bn : Bn mg) (hr : Room k (A.deeper (PyProof.Rows.envOfC "cheapest" (defScope s_cheapest) s.heap.objs.size f cdv))) :
    PSs (cxOf CX0 P w K mg base N_cheapest "cheapest" (defScope s_cheapest) f cdv A outer s H E).nox (defBody s_cheapest) (T_cheapest K) :=
  have nd := sc_cheapest.nd
  (pss_cons (ps_set (i := 2) nd rfl (by first | exact Or.inl rfl | exact Or.inr rfl) (pe_lst (pa_cons pe_int pa_nil)))
    (pss_cons (ps_set (i := 3) nd rfl (by first | exact Or.inl rfl | exact Or.inr rfl) (pe_lst (pa_cons pe_non pa_nil)))
    (pss_cons (ps_for PassesOwn.never rfl (pi_range2 (by rfl) bn.range_ (pa_cons pe_int (pa_cons (pe_op op_plus (pv 1) pe_int) pa_nil))) (pg_name (i := 4) nd rfl (by first | exact Or.inl rfl | exact Or.inr rfl))
      (pss_cons (ps_setLc (i := 5) (own := [("kind", 8), ("shells", 6), ("price", 7)]) (g := (gTup K 2 (gCons (gName 8) (gCons (gTup K 2 (gCons (gName 6) (gCons (gName 7) gNil))) gNil)))) (tt := tYes) rfl nd rfl rfl (sw_true rfl rfl rfl (by decide +kernel)) (pi_enum (by rfl) bn.enumerate_ (pa_cons (pv 0) pa_nil)) (blkOk_by (N := N_cheapest) (sc := defScope s_cheapest) (by decide +kernel)) (fun _ _ _ _ _ => (pg_tup (n := 2) rfl (pgs_cons (pg_name (i := 8) nd rfl (by first | exact Or.inl rfl | exact Or.inr rfl)) (pgs_cons (pg_tup (n := 2) rfl (pgs_cons (pg_name (i := 6) nd rfl (by first | exact Or.inl rfl | exact Or.inr rfl)) (pgs_cons (pg_name (i := 7) nd rfl (by first | exact Or.inl rfl | exact Or.inr rfl)) pgs_nil))) pgs_nil)))) (fun _ _ _ _ _ => pts_nil) (fun _ _ _ _ _ => (pe_tup (pa_cons (pe_op op_plus (pe_ix ix_any (pv 2) (pe_callB (cb_max2 rfl) (by rfl) bn.max_ (by decide +kernel) (pa_cons pe_int (pa_cons (pe_op op_sub (pv 4) (pv 6)) pa_nil))) (fun _ _ => rfl)) (pv 7)) (pa_cons (pv 8) pa_nil)))))
    (pss_cons (ps_expr (pe_bm PySem.F.plainAttrs_list PySem.F.slot_list_append PySem.F.type_list_append mt_append (pv 2) (pa_cons (pe_ix ix_any (pe_callB (cb_minD rfl hr.units) (by rfl) bn.min_ (by decide +kernel) (pa_cons (pv 5) pa_nil)) pe_int (fun _ _ => rfl)) pa_nil)))
    (pss_one (ps_expr (pe_bm PySem.F.plainAttrs_list PySem.F.slot_list_append PySem.F.type_list_append mt_append (pv 3) (pa_cons (pe_ix ix_any (pe_callB (cb_minD rfl hr.units) (by rfl) bn.min_ (by decide +kernel) (pa_cons (pv 5) pa_nil)) pe_int (fun _ _ => rfl)) pa_nil)))))))
    (pss_cons (ps_setLc (i := 9) (own := [("_", 10)]) (g := (gName 10)) (tt := tYes) rfl nd rfl rfl (sw_true rfl rfl rfl (by decide +kernel)) (pi_list (pv 0)) (blkOk_by (N := N_cheapest) (sc := defScope s_cheapest) (by decide +kernel)) (fun _ _ _ _ _ => (pg_name (i := 10) nd rfl (by first | exact Or.inl rfl | exact Or.inr rfl))) (fun _ _ _ _ _ => pts_nil) (fun _ _ _ _ _ => pe_int))
    (pss_cons (ps_set (i := 4) nd rfl (by first | exact Or.inl rfl | exact Or.inr rfl) (pv 1))
    (pss_cons (ps_while PassesOwn.never (pt_cmpR op_gt (pv 4) pe_int (nomark _))
      (pss_cons (ps_set (i := 8) nd rfl (by first | exact Or.inl rfl | exact Or.inr rfl) (pe_ix ix_any (pv 3) (pv 4) (fun _ _ => rfl)))
    (pss_cons (ps_asg (pe_op op_plus (pe_ix ix_any (pv 9) (pv 8) (fun _ _ => rfl)) pe_int) (pg_sub (pv 9) (pv 8) set_list))
    (pss_one (ps_set (i := 4) nd rfl (by first | exact Or.inl rfl | exact Or.inr rfl) (pe_callB (cb_max2 rfl) (by rfl) bn.max_ (by decide +kernel) (pa_cons pe_int (pa_cons (pe_op op_sub (pv 4) (pe_ix ix_any (pe_ix ix_any (pv 0) (pv 8) (fun _ _ => rfl)) pe_int (fun _ _ => rfl))) pa_nil))))))))
    (pss_one (ps_ret (pe_tup (pa_cons (pv 9) (pa_cons (pe_ix ix_any (pv 2) (pe_un un_neg pe_int) (fun _ _ => rfl)) (pa_cons (pv 2) pa_nil))))))))))))
theorem ok_cheapest {R : List D → (D → Prop) → Prop} (F : Fun K "cheapest" "cheapest" s_cheapest f fd) (bn : Bn mg) (len : ∀ ds Z, R ds Z → ds.length = 2) (sx : ∀ ds Z, R ds Z → SX (T_cheapest K) (startE N_cheapest ds) { nx := fun _ => Z .none, rt := fun d _ => Z d }) :
    FnOk P w K mg base CX0 (k + 1) f fd ["packs", "many"] (spP R) := fn_pure F sc_cheapest len fun cdv A outer s H E hr => ⟨_, ps_cheapest bn hr, sx⟩
theorem ps_cheapest_fault {cdv : Value} {A : Around} {outer : List PySem.Env} {s : Shared} {H : Hp} {E : XK} (bn : Bn mg) (hr : Room k (A.deeper (PyProof.Rows.envOfC "cheapest_fault" (defScope s_cheapest_fault) s.heap.objs.size f cdv))) :
    PSs (cxOf CX0 P w K mg base N_cheapest_fault "cheapest_fault" (defScope s_cheapest_fault) f cdv A outer s H E).nox (defBody s_cheapest_fault) (T_cheapest_fault K) :=
  have nd := sc_cheapest_fault.nd
  (pss_cons (ps_asg (pv 2) (pg_tup (n := 3) rfl (pgs_cons (pg_name (i := 3) nd rfl (by first | exact Or.inl rfl | exact Or.inr rfl)) (pgs_cons (pg_name (i := 4) nd rfl (by first | exact Or.inl rfl | exact Or.inr rfl)) (pgs_cons (pg_name (i := 5) nd rfl (by first | exact Or.inl rfl | exact Or.inr rfl)) pgs_nil)))))
    (pss_cons (ps_if (PW.pt (pw_or (pt_cmpR (op_neP hr.units) (pe_callB cb_len (by rfl) bn.len_ (by decide +kernel) (pa_cons (pv 3) pa_nil)) (pe_callB cb_len (by rfl) bn.len_ (by decide +kernel) (pa_cons (pv 0) pa_nil)) (nomark _)) (pw_or1 (pt_cmpR op_lt (pe_callB (cb_minD rfl hr.units) (by rfl) bn.min_ (by decide +kernel) (pa_cons (pe_op op_plus (pv 3) (pe_lst (pa_cons pe_int pa_nil))) pa_nil)) pe_int (nomark _)))))
      (pss_one (ps_ret (pe_tup (pa_cons pe_str pa_nil))))
      pss_nil)
    (pss_cons (ps_if (pt_cmpR op_lt (pe_callB (cr_sum rfl) (by rfl) bn.sum_ (by decide +kernel) (pa_cons (pe_lc (own := [("count", 6), ("pack", 7)]) (g := (gTup K 2 (gCons (gName 6) (gCons (gName 7) gNil)))) (tt := tYes) rfl nd (pi_zip (by rfl) bn.zip_ (pa_cons (pv 3) (pa_cons (pv 0) pa_nil))) (blkOk_by (N := N_cheapest_fault) (sc := defScope s_cheapest_fault) (by decide +kernel)) (fun _ _ _ _ _ => (pg_tup (n := 2) rfl (pgs_cons (pg_name (i := 6) nd rfl (by first | exact Or.inl rfl | exact Or.inr rfl)) (pgs_cons (pg_name (i := 7) nd rfl (by first | exact Or.inl rfl | exact Or.inr rfl)) pgs_nil)))) (fun _ _ _ _ _ => pts_nil) (fun _ _ _ _ _ => (pe_op op_mul (pv 6) (pe_ix ix_any (pv 7) pe_int (fun _ _ => rfl))))) pa_nil)) (pv 1) (nomark _))
      (pss_one (ps_ret (pe_tup (pa_cons pe_str pa_nil))))
      pss_nil)
    (pss_cons (ps_if (pt_cmpR (op_neP hr.units) (pe_callB (cr_sum rfl) (by rfl) bn.sum_ (by decide +kernel) (pa_cons (pe_lc (own := [("count", 6), ("pack", 7)]) (g := (gTup K 2 (gCons (gName 6) (gCons (gName 7) gNil)))) (tt := tYes) rfl nd (pi_zip (by rfl) bn.zip_ (pa_cons (pv 3) (pa_cons (pv 0) pa_nil))) (blkOk_by (N := N_cheapest_fault) (sc := defScope s_cheapest_fault) (by decide +kernel)) (fun _ _ _ _ _ => (pg_tup (n := 2) rfl (pgs_cons (pg_name (i := 6) nd rfl (by first | exact Or.inl rfl | exact Or.inr rfl)) (pgs_cons (pg_name (i := 7) nd rfl (by first | exact Or.inl rfl | exact Or.inr rfl)) pgs_nil)))) (fun _ _ _ _ _ => pts_nil) (fun _ _ _ _ _ => (pe_op op_mul (pv 6) (pe_ix ix_any (pv 7) pe_int (fun _ _ => rfl))))) pa_nil)) (pv 4) (nomark _))
      (pss_one (ps_ret (pe_tup (pa_cons pe_str pa_nil))))
      pss_nil)
    (pss_cons (ps_if (PW.pt (pw_or (pt_cmpR (op_neP hr.units) (pe_callB cb_len (by rfl) bn.len_ (by decide +kernel) (pa_cons (pv 5) pa_nil)) (pe_op op_plus (pv 1) pe_int) (nomark _)) (pw_or1 (pt_cmpR op_gt (pe_ix ix_any (pv 5) pe_int (fun _ _ => rfl)) pe_int (nomark _)))))
      (pss_one (ps_ret (pe_tup (pa_cons pe_str pa_nil))))
      pss_nil)
    (pss_cons (ps_for PassesOwn.never rfl (pi_range2 (by rfl) bn.range_ (pa_cons pe_int (pa_cons (pe_op op_plus (pv 1) pe_int) pa_nil))) (pg_name (i := 8) nd rfl (by first | exact Or.inl rfl | exact Or.inr rfl))
      (pss_one (ps_for PassesOwn.never rfl (pi_enum (by rfl) bn.enumerate_ (pa_cons (pv 0) pa_nil)) (pg_tup (n := 2) rfl (pgs_cons (pg_name (i := 9) nd rfl (by first | exact Or.inl rfl | exact Or.inr rfl)) (pgs_cons (pg_tup (n := 2) rfl (pgs_cons (pg_name (i := 10) nd rfl (by first | exact Or.inl rfl | exact Or.inr rfl)) (pgs_cons (pg_name (i := 11) nd rfl (by first | exact Or.inl rfl | exact Or.inr rfl)) pgs_nil))) pgs_nil)))
      (pss_one (ps_if (pt_cmpR op_gt (pe_ix ix_any (pv 5) (pv 8) (fun _ _ => rfl)) (pe_op op_plus (pe_ix ix_any (pv 5) (pe_callB (cb_max2 rfl) (by rfl) bn.max_ (by decide +kernel) (pa_cons pe_int (pa_cons (pe_op op_sub (pv 8) (pv 10)) pa_nil))) (fun _ _ => rfl)) (pv 11)) (nomark _))
      (pss_one (ps_ret (pe_tup (pa_cons pe_str (pa_cons (pv 8) (pa_cons (pv 9) pa_nil))))))
      pss_nil)))))
    (pss_one (ps_ret (pe_ifExp (pt_cmpR op_ge (pe_ix ix_any (pv 5) (pe_un un_neg pe_int) (fun _ _ => rfl)) (pv 4) (nomark _)) pe_non (pe_tup (pa_cons pe_str pa_nil)))))))))))
theorem ok_cheapest_fault {R : List D → (D → Prop) → Prop} (F : Fun K "cheapest_fault" "cheapest_fault" s_cheapest_fault f fd) (bn : Bn mg) (len : ∀ ds Z, R ds Z → ds.length = 3) (sx : ∀ ds Z, R ds Z → SX (T_cheapest_fault K) (startE N_cheapest_fault ds) { nx := fun _ => Z .none, rt := fun d _ => Z d }) :
    FnOk P w K mg base CX0 (k + 1) f fd ["packs", "many", "told"] (spP R) := fn_pure F sc_cheapest_fault len fun cdv A outer s H E hr => ⟨_, ps_cheapest_fault bn hr, sx⟩
theorem ps_one_more {cdv : Value} {A : Around} {outer : List PySem.Env} {s : Shared} {H : Hp} {E : XK} (bn : Bn mg) (hr : Room k (A.deeper (PyProof.Rows.envOfC "one_more" (defScope s_one_more) s.heap.objs.size f cdv))) {R_cheapest : List D → (D → Prop) → Prop} {k_cheapest : Nat} (C_cheapest : Cal P w K mg base "cheapest" ["packs", "many"] (spP R_cheapest) k_cheapest) (h_cheapest : k_cheapest ≤ k) :
    PSs (cxOf CX0 P w K mg base N_one_more "one_more" (defScope s_one_more) f cdv A outer s H E).nox (defBody s_one_more) (T_one_more K R_cheapest) :=
  have nd := sc_one_more.nd
  (pss_cons (ps_set (i := 2) nd rfl (by first | exact Or.inl rfl | exact Or.inr rfl) (pe_ix ix_any (pe_cal C_cheapest (hr.mono h_cheapest) (by rfl) (pa_cons (pv 0) (pa_cons (pv 1) pa_nil))) pe_int (fun _ _ => rfl)))
    (pss_one (ps_ret (pe_lc (own := [("at", 3)]) (g := (gName 3)) (tt := tYes) rfl nd (pi_range1 (by rfl) bn.range_ (pa_cons (pv 1) pa_nil)) (blkOk_by (N := N_one_more) (sc := defScope s_one_more) (by decide +kernel)) (fun _ _ _ _ _ => (pg_name (i := 3) nd rfl (by first | exact Or.inl rfl | exact Or.inr rfl))) (fun _ _ _ _ _ => pts_nil) (fun _ _ _ _ _ => (pe_op op_sub (pe_ix ix_any (pv 2) (pe_op op_plus (pv 3) pe_int) (fun _ _ => rfl)) (pe_ix ix_any (pv 2) (pv 3) (fun _ _ => rfl))))))))
theorem ok_one_more {R : List D → (D → Prop) → Prop} (F : Fun K "one_more" "one_more" s_one_more f fd) (bn : Bn mg) {R_cheapest : List D → (D → Prop) → Prop} {k_cheapest : Nat} (C_cheapest : Cal P w K mg base "cheapest" ["packs", "many"] (spP R_cheapest) k_cheapest) (h_cheapest : k_cheapest ≤ k) (len : ∀ ds Z, R ds Z → ds.length = 2) (sx : ∀ ds Z, R ds Z → SX (T_one_more K R_cheapest) (startE N_one_more ds) { nx := fun _ => Z .none, rt := fun d _ => Z d }) :
    FnOk P w K mg base CX0 (k + 1) f fd ["packs", "many"] (spP R) := fn_pure F sc_one_more len fun cdv A outer s H E hr => ⟨_, ps_one_more bn hr C_cheapest h_cheapest, sx⟩
theorem ps_steady {cdv : Value} {A : Around} {outer : List PySem.Env} {s : Shared} {H : Hp} {E : XK} (bn : Bn mg) (hr : Room k (A.deeper (PyProof.Rows.envOfC "steady" (defScope s_steady) s.heap.objs.size f cdv))) {R_one_more : List D → (D → Prop) → Prop} {k_one_more : Nat} (C_one_more : Cal P w K mg base "one_more" ["packs", "many"] (spP R_one_more) k_one_more) (h_one_more : k_one_more ≤ k) :
    PSs (cxOf CX0 P w K mg base N_steady "steady" (defScope s_steady) f cdv A outer s H E).nox (defBody s_steady) (T_steady K R_one_more) :=
  have nd := sc_steady.nd
  (pss_cons (ps_set (i := 2) nd rfl (by first | exact Or.inl rfl | exact Or.inr rfl) (pe_cal C_one_more (hr.mono h_one_more) (by rfl) (pa_cons (pv 0) (pa_cons (pv 1) pa_nil))))
    (pss_cons (ps_for PassesOwn.never rfl (pi_range2 (by rfl) bn.range_ (pa_cons pe_int (pa_cons (pe_callB cb_len (by rfl) bn.len_ (by decide +kernel) (pa_cons (pv 2) pa_nil)) pa_nil))) (pg_name (i := 3) nd rfl (by first | exact Or.inl rfl | exact Or.inr rfl))
      (pss_one (ps_if (pt_cmpR op_gt (pe_ix ix_any (pv 2) (pv 3) (fun _ _ => rfl)) (pe_ix ix_any (pv 2) (pe_op op_sub (pv 3) pe_int) (fun _ _ => rfl)) (nomark _))
      (pss_one (ps_ret (pv 3)))
      pss_nil)))
    (pss_one (ps_ret pe_non))))
theorem ok_steady {R : List D → (D → Prop) → Prop} (F : Fun K "steady" "steady" s_steady f fd) (bn : Bn mg) {R_one_more : List D → (D → Prop) → Prop} {k_one_more : Nat} (C_one_more : Cal P w K mg base "one_more" ["packs", "many"] (spP R_one_more) k_one_more) (h_one_more : k_one_more ≤ k) (len : ∀ ds Z, R ds Z → ds.length = 2) (sx : ∀ ds Z, R ds Z → SX (T_steady K R_one_more) (startE N_steady ds) { nx := fun _ => Z .none, rt := fun d _ => Z d }) :
    FnOk P w K mg base CX0 (k + 1) f fd ["packs", "many"] (spP R) := fn_pure F sc_steady len fun cdv A outer s H E hr => ⟨_, ps_steady bn hr C_one_more h_one_more, sx⟩
theorem ps_shared {cdv : Value} {A : Around} {outer : List PySem.Env} {s : Shared} {H : Hp} {E : XK} (bn : Bn mg) (hr : Room k (A.deeper (PyProof.Rows.envOfC "shared" (defScope s_shared) s.heap.objs.size f cdv))) :
    PSs (cxOf CX0 P w K mg base N_shared "shared" (defScope s_shared) f cdv A outer s H E).nox (defBody s_shared) (T_shared K) :=
  have nd := sc_shared.nd
  (pss_cons (ps_set (i := 2) nd rfl (by first | exact Or.inl rfl | exact Or.inr rfl) (pe_callB (cr_sum rfl) (by rfl) bn.sum_ (by decide +kernel) (pa_cons (pv 1) pa_nil)))
    (pss_cons (ps_if (pt_cmpR (op_eqP hr.units) (pv 2) pe_int (nomark _))
      (pss_one (ps_ret (pe_lc (own := [("_", 3)]) (g := (gName 3)) (tt := tYes) rfl nd (pi_list (pv 1)) (blkOk_by (N := N_shared) (sc := defScope s_shared) (by decide +kernel)) (fun _ _ _ _ _ => (pg_name (i := 3) nd rfl (by first | exact Or.inl rfl | exact Or.inr rfl))) (fun _ _ _ _ _ => pts_nil) (fun _ _ _ _ _ => pe_int))))
      pss_nil)
    (pss_cons (ps_set (i := 4) nd rfl (by first | exact Or.inl rfl | exact Or.inr rfl) (pe_lc (own := [("weight", 5)]) (g := (gName 5)) (tt := tYes) rfl nd (pi_list (pv 1)) (blkOk_by (N := N_shared) (sc := defScope s_shared) (by decide +kernel)) (fun _ _ _ _ _ => (pg_name (i := 5) nd rfl (by first | exact Or.inl rfl | exact Or.inr rfl))) (fun _ _ _ _ _ => pts_nil) (fun _ _ _ _ _ => (pe_op op_fdiv (pe_op op_mul (pv 0) (pv 5)) (pv 2)))))
    (pss_cons (ps_set (i := 6) nd rfl (by first | exact Or.inl rfl | exact Or.inr rfl) (pe_callB (cb_sortD hr.units) (by rfl) bn.sorted_ (by decide +kernel) (pa_cons (pe_lc (own := [("at", 7), ("weight", 5)]) (g := (gTup K 2 (gCons (gName 7) (gCons (gName 5) gNil)))) (tt := tYes) rfl nd (pi_enum (by rfl) bn.enumerate_ (pa_cons (pv 1) pa_nil)) (blkOk_by (N := N_shared) (sc := defScope s_shared) (by decide +kernel)) (fun _ _ _ _ _ => (pg_tup (n := 2) rfl (pgs_cons (pg_name (i := 7) nd rfl (by first | exact Or.inl rfl | exact Or.inr rfl)) (pgs_cons (pg_name (i := 5) nd rfl (by first | exact Or.inl rfl | exact Or.inr rfl)) pgs_nil)))) (fun _ _ _ _ _ => pts_nil) (fun _ _ _ _ _ => (pe_tup (pa_cons (pe_op op_sub (pe_op op_mul (pe_ix ix_any (pv 4) (pv 7) (fun _ _ => rfl)) (pv 2)) (pe_op op_mul (pv 0) (pv 5))) (pa_cons (pv 7) pa_nil))))) pa_nil)))
    (pss_cons (ps_for PassesOwn.never rfl (pi_list (pe_slice sl_any (pv 6) po_none (po_some (pe_op op_sub (pv 0) (pe_callB (cr_sum rfl) (by rfl) bn.sum_ (by decide +kernel) (pa_cons (pv 4) pa_nil)))))) (pg_tup (n := 2) rfl (pgs_cons (pg_name (i := 8) nd rfl (by first | exact Or.inl rfl | exact Or.inr rfl)) (pgs_cons (pg_name (i := 7) nd rfl (by first | exact Or.inl rfl | exact Or.inr rfl)) pgs_nil)))
      (pss_one (ps_asg (pe_op op_plus (pe_ix ix_any (pv 4) (pv 7) (fun _ _ => rfl)) pe_int) (pg_sub (pv 4) (pv 7) set_list))))
    (pss_one (ps_ret (pv 4))))))))
theorem ok_shared {R : List D → (D → Prop) → Prop} (F : Fun K "shared" "shared" s_shared f fd) (bn : Bn mg) (len : ∀ ds Z, R ds Z → ds.length = 2) (sx : ∀ ds Z, R ds Z → SX (T_shared K) (startE N_shared ds) { nx := fun _ => Z .none, rt := fun d _ => Z d }) :
    FnOk P w K mg base CX0 (k + 1) f fd ["cents", "weights"] (spP R) := fn_pure F sc_shared len fun cdv A outer s H E hr => ⟨_, ps_shared bn hr, sx⟩
theorem ps_shared_fault {cdv : Value} {A : Around} {outer : List PySem.Env} {s : Shared} {H : Hp} {E : XK} (bn : Bn mg) (hr : Room k (A.deeper (PyProof.Rows.envOfC "shared_fault" (defScope s_shared_fault) s.heap.objs.size f cdv))) :
    PSs (cxOf CX0 P w K mg base N_shared_fault "shared_fault" (defScope s_shared_fault) f cdv A outer s H E).nox (defBody s_shared_fault) (T_shared_fault K) :=
  have nd := sc_shared_fault.nd
  (pss_cons (ps_set (i := 3) nd rfl (by first | exact Or.inl rfl | exact Or.inr rfl) (pe_callB (cr_sum rfl) (by rfl) bn.sum_ (by decide +kernel) (pa_cons (pv 1) pa_nil)))
    (pss_cons (ps_if (PW.pt (pw_or (pt_cmpR (op_neP hr.units) (pe_callB cb_len (by rfl) bn.len_ (by decide +kernel) (pa_cons (pv 2) pa_nil)) (pe_callB cb_len (by rfl) bn.len_ (by decide +kernel) (pa_cons (pv 1) pa_nil)) (nomark _)) (pw_or1 (pt_cmpR op_lt (pe_callB (cb_minD rfl hr.units) (by rfl) bn.min_ (by decide +kernel) (pa_cons (pe_op op_plus (pv 2) (pe_lst (pa_cons pe_int pa_nil))) pa_nil)) pe_int (nomark _)))))
      (pss_one (ps_ret (pe_tup (pa_cons pe_str pa_nil))))
      pss_nil)
    (pss_cons (ps_if (pt_cmpR (op_eqP hr.units) (pv 3) pe_int (nomark _))
      (pss_one (ps_ret (pe_ifExp (pt_cmpR (op_eqP hr.units) (pe_callB (cr_sum rfl) (by rfl) bn.sum_ (by decide +kernel) (pa_cons (pv 2) pa_nil)) pe_int (nomark _)) pe_non (pe_tup (pa_cons pe_str pa_nil)))))
      pss_nil)
    (pss_cons (ps_if (pt_cmpR (op_neP hr.units) (pe_callB (cr_sum rfl) (by rfl) bn.sum_ (by decide +kernel) (pa_cons (pv 2) pa_nil)) (pv 0) (nomark _))
      (pss_one (ps_ret (pe_tup (pa_cons pe_str pa_nil))))
      pss_nil)
    (pss_cons (ps_setLc (i := 4) (own := [("at", 5), ("weight", 6)]) (g := (gTup K 2 (gCons (gName 5) (gCons (gName 6) gNil)))) (tt := tYes) rfl nd rfl rfl (sw_true rfl rfl rfl (by decide +kernel)) (pi_enum (by rfl) bn.enumerate_ (pa_cons (pv 1) pa_nil)) (blkOk_by (N := N_shared_fault) (sc := defScope s_shared_fault) (by decide +kernel)) (fun _ _ _ _ _ => (pg_tup (n := 2) rfl (pgs_cons (pg_name (i := 5) nd rfl (by first | exact Or.inl rfl | exact Or.inr rfl)) (pgs_cons (pg_name (i := 6) nd rfl (by first | exact Or.inl rfl | exact Or.inr rfl)) pgs_nil)))) (fun _ _ _ _ _ => pts_nil) (fun _ _ _ _ _ => (pe_op op_sub (pe_op op_mul (pe_ix ix_any (pv 2) (pv 5) (fun _ _ => rfl)) (pv 3)) (pe_op op_mul (pv 0) (pv 6)))))
    (pss_cons (ps_for PassesOwn.never rfl (pi_range1 (by rfl) bn.range_ (pa_cons (pe_callB cb_len (by rfl) bn.len_ (by decide +kernel) (pa_cons (pv 2) pa_nil)) pa_nil)) (pg_name (i := 7) nd rfl (by first | exact Or.inl rfl | exact Or.inr rfl))
      (pss_one (ps_for PassesOwn.never rfl (pi_range1 (by rfl) bn.range_ (pa_cons (pe_callB cb_len (by rfl) bn.len_ (by decide +kernel) (pa_cons (pv 2) pa_nil)) pa_nil)) (pg_name (i := 8) nd rfl (by first | exact Or.inl rfl | exact Or.inr rfl))
      (pss_one (ps_if (PW.pt (pw_or (pt_cmpR op_gt (pe_op op_sub (pe_ix ix_any (pv 4) (pv 7) (fun _ _ => rfl)) (pe_ix ix_any (pv 4) (pv 8) (fun _ _ => rfl))) (pv 3) (nomark _)) (pw_or1 (PW.pt (pw_and (pt_cmpR (op_eqP hr.units) (pe_op op_sub (pe_ix ix_any (pv 4) (pv 7) (fun _ _ => rfl)) (pe_ix ix_any (pv 4) (pv 8) (fun _ _ => rfl))) (pv 3) (nomark _)) (pw_and1 (pt_cmpR op_gt (pv 7) (pv 8) (nomark _))))))))
      (pss_one (ps_ret (pe_tup (pa_cons pe_str (pa_cons (pv 7) (pa_cons (pv 8) pa_nil))))))
      pss_nil)))))
    (pss_one (ps_ret pe_non))))))))
theorem ok_shared_fault {R : List D → (D → Prop) → Prop} (F : Fun K "shared_fault" "shared_fault" s_shared_fault f fd) (bn : Bn mg) (len : ∀ ds Z, R ds Z → ds.length = 3) (sx : ∀ ds Z, R ds Z → SX (T_shared_fault K) (startE N_shared_fault ds) { nx := fun _ => Z .none, rt := fun d _ => Z d }) :
    FnOk P w K mg base CX0 (k + 1) f fd ["cents", "weights", "parts"] (spP R) := fn_pure F sc_shared_fault len fun cdv A outer s H E hr => ⟨_, ps_shared_fault bn hr, sx⟩
theorem ps_worth_alone {cdv : Value} {A : Around} {outer : List PySem.Env} {s : Shared} {H : Hp} {E : XK} (bn : Bn mg) (hr : Room k (A.deeper (PyProof.Rows.envOfC "worth_alone" (defScope s_worth_alone) s.heap.objs.size f cdv))) {R_cheapest : List D → (D → Prop) → Prop} {k_cheapest : Nat} (C_cheapest : Cal P w K mg base "cheapest" ["packs", "many"] (spP R_cheapest) k_cheapest) (h_cheapest : k_cheapest ≤ k) :
    PSs (cxOf CX0 P w K mg base N_worth_alone "worth_alone" (defScope s_worth_alone) f cdv A outer s H E).nox (defBody s_worth_alone) (T_worth_alone K R_cheapest) :=
  have nd := sc_worth_alone.nd
  (pss_one (ps_ret (pe_tup (pa_cons (pe_lc (own := [("need", 2)]) (g := (gName 2)) (tt := tYes) rfl nd (pi_list (pv 1)) (blkOk_by (N := N_worth_alone) (sc := defScope s_worth_alone) (by decide +kernel)) (fun _ _ _ _ _ => (pg_name (i := 2) nd rfl (by first | exact Or.inl rfl | exact Or.inr rfl))) (fun _ _ _ _ _ => pts_nil) (fun _ _ _ _ _ => (pe_ix ix_any (pe_cal C_cheapest (hr.mono h_cheapest) (by rfl) (pa_cons (pv 0) (pa_cons (pv 2) pa_nil))) pe_int (fun _ _ => rfl)))) (pa_cons (pe_ix ix_any (pe_cal C_cheapest (hr.mono h_cheapest) (by rfl) (pa_cons (pv 0) (pa_cons (pe_callB (cr_sum rfl) (by rfl) bn.sum_ (by decide +kernel) (pa_cons (pv 1) pa_nil)) pa_nil))) pe_int (fun _ _ => rfl)) pa_nil)))))
theorem ok_worth_alone {R : List D → (D → Prop) → Prop} (F : Fun K "worth_alone" "worth_alone" s_worth_alone f fd) (bn : Bn mg) {R_cheapest : List D → (D → Prop) → Prop} {k_cheapest : Nat} (C_cheapest : Cal P w K mg base "cheapest" ["packs", "many"] (spP R_cheapest) k_cheapest) (h_cheapest : k_cheapest ≤ k) (len : ∀ ds Z, R ds Z → ds.length = 2) (sx : ∀ ds Z, R ds Z → SX (T_worth_alone K R_cheapest) (startE N_worth_alone ds) { nx := fun _ => Z .none, rt := fun d _ => Z d }) :
    FnOk P w K mg base CX0 (k + 1) f fd ["packs", "needs"] (spP R) := fn_pure F sc_worth_alone len fun cdv A outer s H E hr => ⟨_, ps_worth_alone bn hr C_cheapest h_cheapest, sx⟩
theorem ps_orders_of {cdv : Value} {A : Around} {outer : List PySem.Env} {s : Shared} {H : Hp} {E : XK} (bn : Bn mg) (hr : Room k (A.deeper (PyProof.Rows.envOfC "orders_of" (defScope s_orders_of) s.heap.objs.size f cdv))) :
    PSs (cxOf CX0 P w K mg base N_orders_of "orders_of" (defScope s_orders_of) f cdv A outer s H E).nox (defBody s_orders_of) (T_orders_of K) :=
  have nd := sc_orders_of.nd
  (pss_cons (ps_set (i := 1) nd rfl (by first | exact Or.inl rfl | exact Or.inr rfl) (pe_lst (pa_cons (pe_lst pa_nil) pa_nil)))
    (pss_cons (ps_for PassesOwn.never rfl (pi_range1 (by rfl) bn.range_ (pa_cons (pv 0) pa_nil)) (pg_name (i := 2) nd rfl (by first | exact Or.inl rfl | exact Or.inr rfl))
      (pss_one (ps_setLc2 (i := 1) (own := [("row", 3), ("one", 4)]) (vs1 := [4]) (g := (gName 3)) (tt := tYes) (wi1 := (iRng1 (tCons (tVar 0) tNil))) (g1 := (gName 4)) (tt1 := (tTest (tOp (rNinP K) (tVar 4) (tVar 3)))) (te := (tOp (rPlus K) (tVar 3) (tLst (tCons (tVar 4) tNil)))) rfl nd rfl rfl (sw_true rfl rfl rfl (by decide +kernel)) (pi_list (pv 1)) (blkOk_by (N := N_orders_of) (sc := defScope s_orders_of) (by decide +kernel)) (by decide) (fun _ _ _ _ _ => (pg_name (i := 3) nd rfl (by first | exact Or.inl rfl | exact Or.inr rfl))) (fun _ _ _ _ _ => pts_nil) (fun _ _ _ _ _ => (pi_range1 (by rfl) bn.range_ (pa_cons (pv 0) pa_nil))) (fun _ _ _ _ _ => (pg_name (i := 4) nd rfl (by first | exact Or.inl rfl | exact Or.inr rfl))) (fun _ _ _ _ _ => (pts_one (pt_cmpR (op_ninP hr.units) (pv 4) (pv 3) (by rfl)))) (fun _ _ _ _ _ => (pe_op op_plus (pv 3) (pe_lst (pa_cons (pv 4) pa_nil)))))))
    (pss_one (ps_ret (pv 1)))))
theorem ok_orders_of {R : List D → (D → Prop) → Prop} (F : Fun K "orders_of" "orders_of" s_orders_of f fd) (bn : Bn mg) (len : ∀ ds Z, R ds Z → ds.length = 1) (sx : ∀ ds Z, R ds Z → SX (T_orders_of K) (startE N_orders_of ds) { nx := fun _ => Z .none, rt := fun d _ => Z d }) :
    FnOk P w K mg base CX0 (k + 1) f fd ["many"] (spP R) := fn_pure F sc_orders_of len fun cdv A outer s H E hr => ⟨_, ps_orders_of bn hr, sx⟩
theorem ps_fair_parts {cdv : Value} {A : Around} {outer : List PySem.Env} {s : Shared} {H : Hp} {E : XK} (bn : Bn mg) (hr : Room k (A.deeper (PyProof.Rows.envOfC "fair_parts" (defScope s_fair_parts) s.heap.objs.size f cdv))) {R_orders_of : List D → (D → Prop) → Prop} {k_orders_of : Nat} (C_orders_of : Cal P w K mg base "orders_of" ["many"] (spP R_orders_of) k_orders_of) (h_orders_of : k_orders_of ≤ k) {R_cheapest : List D → (D → Prop) → Prop} {k_cheapest : Nat} (C_cheapest : Cal P w K mg base "cheapest" ["packs", "many"] (spP R_cheapest) k_cheapest) (h_cheapest : k_cheapest ≤ k) :
    PSs (cxOf CX0 P w K mg base N_fair_parts "fair_parts" (defScope s_fair_parts) f cdv A outer s H E).nox (defBody s_fair_parts) (T_fair_parts K R_orders_of R_cheapest) :=
  have nd := sc_fair_parts.nd
  (pss_cons (ps_setLc (i := 2) (own := [("_", 3)]) (g := (gName 3)) (tt := tYes) rfl nd rfl rfl (sw_true rfl rfl rfl (by decide +kernel)) (pi_list (pv 1)) (blkOk_by (N := N_fair_parts) (sc := defScope s_fair_parts) (by decide +kernel)) (fun _ _ _ _ _ => (pg_name (i := 3) nd rfl (by first | exact Or.inl rfl | exact Or.inr rfl))) (fun _ _ _ _ _ => pts_nil) (fun _ _ _ _ _ => pe_int))
    (pss_cons (ps_set (i := 4) nd rfl (by first | exact Or.inl rfl | exact Or.inr rfl) (pe_cal C_orders_of (hr.mono h_orders_of) (by rfl) (pa_cons (pe_callB cb_len (by rfl) bn.len_ (by decide +kernel) (pa_cons (pv 1) pa_nil)) pa_nil)))
    (pss_cons (ps_for PassesOwn.never rfl (pi_list (pv 4)) (pg_name (i := 5) nd rfl (by first | exact Or.inl rfl | exact Or.inr rfl))
      (pss_cons (ps_set (i := 6) nd rfl (by first | exact Or.inl rfl | exact Or.inr rfl) pe_int)
    (pss_cons (ps_set (i := 7) nd rfl (by first | exact Or.inl rfl | exact Or.inr rfl) pe_int)
    (pss_one (ps_for PassesOwn.never rfl (pi_list (pv 5)) (pg_name (i := 8) nd rfl (by first | exact Or.inl rfl | exact Or.inr rfl))
      (pss_cons (ps_set (i := 6) nd rfl (by first | exact Or.inl rfl | exact Or.inr rfl) (pe_op op_plus (pv 6) (pe_ix ix_any (pv 1) (pv 8) (fun _ _ => rfl))))
    (pss_cons (ps_set (i := 9) nd rfl (by first | exact Or.inl rfl | exact Or.inr rfl) (pe_ix ix_any (pe_cal C_cheapest (hr.mono h_cheapest) (by rfl) (pa_cons (pv 0) (pa_cons (pv 6) pa_nil))) pe_int (fun _ _ => rfl)))
    (pss_cons (ps_asg (pe_op op_sub (pe_op op_plus (pe_ix ix_any (pv 2) (pv 8) (fun _ _ => rfl)) (pv 9)) (pv 7)) (pg_sub (pv 2) (pv 8) set_list))
    (pss_one (ps_set (i := 7) nd rfl (by first | exact Or.inl rfl | exact Or.inr rfl) (pv 9)))))))))))
    (pss_one (ps_ret (pe_tup (pa_cons (pv 2) (pa_cons (pe_callB cb_len (by rfl) bn.len_ (by decide +kernel) (pa_cons (pv 4) pa_nil)) pa_nil))))))))
theorem ok_fair_parts {R : List D → (D → Prop) → Prop} (F : Fun K "fair_parts" "fair_parts" s_fair_parts f fd) (bn : Bn mg) {R_orders_of : List D → (D → Prop) → Prop} {k_orders_of : Nat} (C_orders_of : Cal P w K mg base "orders_of" ["many"] (spP R_orders_of) k_orders_of) (h_orders_of : k_orders_of ≤ k) {R_cheapest : List D → (D → Prop) → Prop} {k_cheapest : Nat} (C_cheapest : Cal P w K mg base "cheapest" ["packs", "many"] (spP R_cheapest) k_cheapest) (h_cheapest : k_cheapest ≤ k) (len : ∀ ds Z, R ds Z → ds.length = 2) (sx : ∀ ds Z, R ds Z → SX (T_fair_parts K R_orders_of R_cheapest) (startE N_fair_parts ds) { nx := fun _ => Z .none, rt := fun d _ => Z d }) :
    FnOk P w K mg base CX0 (k + 1) f fd ["packs", "needs"] (spP R) := fn_pure F sc_fair_parts len fun cdv A outer s H E hr => ⟨_, ps_fair_parts bn hr C_orders_of h_orders_of C_cheapest h_cheapest, sx⟩
theorem ps_refunds {cdv : Value} {A : Around} {outer : List PySem.Env} {s : Shared} {H : Hp} {E : XK} (bn : Bn mg) (hr : Room k (A.deeper (PyProof.Rows.envOfC "refunds" (defScope s_refunds) s.heap.objs.size f cdv))) :
    PSs (cxOf CX0 P w K mg base N_refunds "refunds" (defScope s_refunds) f cdv A outer s H E).nox (defBody s_refunds) (T_refunds K) :=
  have nd := sc_refunds.nd
  (pss_cons (ps_setLc (i := 2) (own := [("one", 3), ("other", 4)]) (g := (gTup K 2 (gCons (gName 3) (gCons (gName 4) gNil)))) (tt := tYes) rfl nd rfl rfl (sw_true rfl rfl rfl (by decide +kernel)) (pi_zip (by rfl) bn.zip_ (pa_cons (pv 0) (pa_cons (pv 1) pa_nil))) (blkOk_by (N := N_refunds) (sc := defScope s_refunds) (by decide +kernel)) (fun _ _ _ _ _ => (pg_tup (n := 2) rfl (pgs_cons (pg_name (i := 3) nd rfl (by first | exact Or.inl rfl | exact Or.inr rfl)) (pgs_cons (pg_name (i := 4) nd rfl (by first | exact Or.inl rfl | exact Or.inr rfl)) pgs_nil)))) (fun _ _ _ _ _ => pts_nil) (fun _ _ _ _ _ => (pe_op op_sub (pv 3) (pv 4))))
    (pss_one (ps_ret (pe_tup (pa_cons (pv 2) (pa_cons (pe_callB (cr_sum rfl) (by rfl) bn.sum_ (by decide +kernel) (pa_cons (pv 2) pa_nil)) pa_nil))))))
theorem ok_refunds {R : List D → (D → Prop) → Prop} (F : Fun K "refunds" "refunds" s_refunds f fd) (bn : Bn mg) (len : ∀ ds Z, R ds Z → ds.length = 2) (sx : ∀ ds Z, R ds Z → SX (T_refunds K) (startE N_refunds ds) { nx := fun _ => Z .none, rt := fun d _ => Z d }) :
    FnOk P w K mg base CX0 (k + 1) f fd ["paid", "due"] (spP R) := fn_pure F sc_refunds len fun cdv A outer s H E hr => ⟨_, ps_refunds bn hr, sx⟩
theorem ps_l_state {cdv : Value} {A : Around} {outer : List PySem.Env} {s : Shared} {H : Hp} {E : XK} (bn : Bn mg) (hr : Room k (A.deeper (PyProof.Rows.envOfC "_law_state" (defScope s_l_state) s.heap.objs.size f cdv))) :
    PSs (cxOf CX0 P w K mg base N_l_state "_law_state" (defScope s_l_state) f cdv A outer s H E).nox (defBody s_l_state) (T_l_state K) :=
  have nd := sc_l_state.nd
  (pss_cons (ps_setLc (i := 1) (own := [("cell", 2)]) (g := (gName 2)) (tt := tYes) rfl nd rfl rfl (sw_true rfl rfl rfl (by decide +kernel)) (pi_list (pe_slice sl_any (pv 0) po_none (po_some pe_int))) (blkOk_by (N := N_l_state) (sc := defScope s_l_state) (by decide +kernel)) (fun _ _ _ _ _ => (pg_name (i := 2) nd rfl (by first | exact Or.inl rfl | exact Or.inr rfl))) (fun _ _ _ _ _ => pts_nil) (fun _ _ _ _ _ => (pe_callB cb_abs (by rfl) bn.abs_ (by decide +kernel) (pa_cons (pv 2) pa_nil))))
    (pss_cons (ps_if (pt_cmpR (op_eqP hr.units) (pe_callB cb_len (by rfl) bn.len_ (by decide +kernel) (pa_cons (pv 1) pa_nil)) pe_int (nomark _))
      (pss_one (ps_set (i := 1) nd rfl (by first | exact Or.inl rfl | exact Or.inr rfl) (pe_lst (pa_cons pe_int pa_nil))))
      pss_nil)
    (pss_one (ps_ret (pe_lst (pa_cons pe_int (pa_cons (pv 1) pa_nil)))))))
theorem ps_l_take {cdv : Value} {A : Around} {outer : List PySem.Env} {s : Shared} {H : Hp} {E : XK} (bn : Bn mg) (hr : Room k (A.deeper (PyProof.Rows.envOfC "_law_take" (defScope s_l_take) s.heap.objs.size f cdv))) :
    PSs (cxOf CX0 P w K mg base N_l_take "_law_take" (defScope s_l_take) f cdv A outer s H E).nox (defBody s_l_take) (T_l_take K) :=
  have nd := sc_l_take.nd
  (pss_cons (ps_set (i := 2) nd rfl (by first | exact Or.inl rfl | exact Or.inr rfl) (pe_ix ix_any (pv 0) pe_int (fun _ _ => rfl)))
    (pss_cons (ps_set (i := 3) nd rfl (by first | exact Or.inl rfl | exact Or.inr rfl) (pe_op op_mod (pe_ix ix_any (pv 0) pe_int (fun _ _ => rfl)) (pe_callB cb_len (by rfl) bn.len_ (by decide +kernel) (pa_cons (pv 2) pa_nil))))
    (pss_cons (ps_set (i := 4) nd rfl (by first | exact Or.inl rfl | exact Or.inr rfl) (pe_ix ix_any (pv 2) (pv 3) (fun _ _ => rfl)))
    (pss_cons (ps_if (pt_cmpR op_ge (pv 4) pe_int (nomark _))
      (pss_cons (ps_asg (pe_op op_fdiv (pv 4) (pv 1)) (pg_sub (pv 2) (pv 3) set_list))
    (pss_one (ps_ret (pe_op op_mod (pv 4) (pv 1)))))
      pss_nil)
    (pss_cons (ps_asg (pe_op op_plus (pe_ix ix_any (pv 0) pe_int (fun _ _ => rfl)) pe_int) (pg_sub (pv 0) pe_int set_list))
    (pss_cons (ps_set (i := 5) nd rfl (by first | exact Or.inl rfl | exact Or.inr rfl) (pe_op op_mod (pe_callTy cb_int (by rfl) bn.int_ (by decide +kernel) (pa_cons (pe_op op_plus (pe_op op_mul (pv 4) pe_int) (pe_op op_mul (pe_ix ix_any (pv 0) pe_int (fun _ _ => rfl)) pe_int)) pa_nil)) pe_int))
    (pss_cons (ps_set (i := 5) nd rfl (by first | exact Or.inl rfl | exact Or.inr rfl) (pe_op op_mod (pe_callTy cb_int (by rfl) bn.int_ (by decide +kernel) (pa_cons (pe_op op_plus (pe_op op_mul (pv 5) pe_int) (pe_op op_mul (pe_ix ix_any (pv 0) pe_int (fun _ _ => rfl)) pe_int)) pa_nil)) pe_int))
    (pss_one (ps_ret (pe_op op_mod (pe_op op_fdiv (pv 5) pe_int) (pv 1)))))))))))
theorem ps_l_packs {cdv : Value} {A : Around} {outer : List PySem.Env} {s : Shared} {H : Hp} {E : XK} (bn : Bn mg) (hr : Room k (A.deeper (PyProof.Rows.envOfC "_law_packs" (defScope s_l_packs) s.heap.objs.size f cdv))) {R_l_take : Stt → List D → (D → Stt → Prop) → Prop} {k_l_take : Nat} (C_l_take : Cal P w K mg base "_law_take" ["state", "most"] (spS R_l_take) k_l_take) (h_l_take : k_l_take ≤ k) :
    PSs (cxOf CX0 P w K mg base N_l_packs "_law_packs" (defScope s_l_packs) f cdv A outer s H E).nox (defBody s_l_packs) (T_l_packs K R_l_take) :=
  have nd := sc_l_packs.nd
  (pss_one (ps_ret (pe_lc (own := [("k", 1)]) (g := (gName 1)) (tt := tYes) rfl nd (pi_range1 (by rfl) bn.range_ (pa_cons (pe_op op_plus pe_int (pe_cal C_l_take (hr.mono h_l_take) (by rfl) (pa_cons (pv 0) (pa_cons pe_int pa_nil)))) pa_nil)) (blkOk_by (N := N_l_packs) (sc := defScope s_l_packs) (by decide +kernel)) (fun _ _ _ _ _ => (pg_name (i := 1) nd rfl (by first | exact Or.inl rfl | exact Or.inr rfl))) (fun _ _ _ _ _ => pts_nil) (fun _ _ _ _ _ => (pe_tup (pa_cons (pe_op op_plus pe_int (pe_cal C_l_take (hr.mono h_l_take) (by rfl) (pa_cons (pv 0) (pa_cons pe_int pa_nil)))) (pa_cons (pe_cal C_l_take (hr.mono h_l_take) (by rfl) (pa_cons (pv 0) (pa_cons pe_int pa_nil))) pa_nil)))))))
theorem ok_l_packs {R : Stt → List D → (D → Stt → Prop) → Prop} (F : Fun K "_law_packs" "_law_packs" s_l_packs f fd) (bn : Bn mg) {R_l_take : Stt → List D → (D → Stt → Prop) → Prop} {k_l_take : Nat} (C_l_take : Cal P w K mg base "_law_take" ["state", "most"] (spS R_l_take) k_l_take) (h_l_take : k_l_take ≤ k) (len : ∀ S ds Z, R S ds Z → ds.length + 1 = 1) (sx : ∀ S ds Z, R S ds Z → SX (T_l_packs K R_l_take) (.st S :: (ds.map .val ++ List.replicate (N_l_packs.length - (ds.length + 1)) .emp)) { nx := fun ρ' => ∃ S', ρ'[0]? = some (.st S') ∧ Z .none S', rt := fun d ρ' => ∃ S', ρ'[0]? = some (.st S') ∧ Z d S' }) :
    FnOk P w K mg base CX0 (k + 1) f fd ["state"] (spS R) := fn_state F sc_l_packs len fun cdv A outer s H E hr => ⟨_, ps_l_packs bn hr C_l_take h_l_take, sx⟩
theorem ps_l_least {cdv : Value} {A : Around} {outer : List PySem.Env} {s : Shared} {H : Hp} {E : XK} (bn : Bn mg) (hr : Room k (A.deeper (PyProof.Rows.envOfC "_law_least" (defScope s_l_least) s.heap.objs.size f cdv))) :
    PSs (cxOf CX0 P w K mg base N_l_least "_law_least" (defScope s_l_least) f cdv A outer s H E).nox (defBody s_l_least) (T_l_least K) :=
  have nd := sc_l_least.nd
  (pss_cons (ps_set (i := 2) nd rfl (by first | exact Or.inl rfl | exact Or.inr rfl) (pe_lst (pa_cons (pe_tup (pa_cons pe_int (pa_cons pe_int pa_nil))) pa_nil)))
    (pss_cons (ps_for PassesOwn.never rfl (pi_list (pv 0)) (pg_tup (n := 2) rfl (pgs_cons (pg_name (i := 3) nd rfl (by first | exact Or.inl rfl | exact Or.inr rfl)) (pgs_cons (pg_name (i := 4) nd rfl (by first | exact Or.inl rfl | exact Or.inr rfl)) pgs_nil)))
      (pss_cons (ps_set (i := 5) nd rfl (by first | exact Or.inl rfl | exact Or.inr rfl) (pe_lst pa_nil))
    (pss_cons (ps_for PassesOwn.never rfl (pi_list (pv 2)) (pg_tup (n := 2) rfl (pgs_cons (pg_name (i := 6) nd rfl (by first | exact Or.inl rfl | exact Or.inr rfl)) (pgs_cons (pg_name (i := 7) nd rfl (by first | exact Or.inl rfl | exact Or.inr rfl)) pgs_nil)))
      (pss_one (ps_expr (pe_bm PySem.F.plainAttrs_list PySem.F.slot_list_extend PySem.F.type_list_extend mt_extR (pv 5) (pa_cons (pe_lc (own := [("k", 8)]) (g := (gName 8)) (tt := tYes) rfl nd (pi_range1 (by rfl) bn.range_ (pa_cons (pe_op op_plus (pe_op op_fdiv (pv 1) (pv 3)) pe_int) pa_nil)) (blkOk_by (N := N_l_least) (sc := defScope s_l_least) (by decide +kernel)) (fun _ _ _ _ _ => (pg_name (i := 8) nd rfl (by first | exact Or.inl rfl | exact Or.inr rfl))) (fun _ _ _ _ _ => pts_nil) (fun _ _ _ _ _ => (pe_tup (pa_cons (pe_op op_plus (pv 6) (pe_op op_mul (pv 8) (pv 3))) (pa_cons (pe_op op_plus (pv 7) (pe_op op_mul (pv 8) (pv 4))) pa_nil))))) pa_nil)))))
    (pss_one (ps_set (i := 2) nd rfl (by first | exact Or.inl rfl | exact Or.inr rfl) (pv 5))))))
    (pss_one (ps_ret (pe_callB (cb_minD rfl hr.units) (by rfl) bn.min_ (by decide +kernel) (pa_cons (pe_lc (own := [("have", 6), ("cost", 7)]) (g := (gTup K 2 (gCons (gName 6) (gCons (gName 7) gNil)))) (tt := (tTest (tOp (rI0 fun i j => .bl (decide (j ≤ i))) (tVar 6) (tVar 1)))) rfl nd (pi_list (pv 2)) (blkOk_by (N := N_l_least) (sc := defScope s_l_least) (by decide +kernel)) (fun _ _ _ _ _ => (pg_tup (n := 2) rfl (pgs_cons (pg_name (i := 6) nd rfl (by first | exact Or.inl rfl | exact Or.inr rfl)) (pgs_cons (pg_name (i := 7) nd rfl (by first | exact Or.inl rfl | exact Or.inr rfl)) pgs_nil)))) (fun _ _ _ _ _ => (pts_one (pt_cmpR op_ge (pv 6) (pv 1) (nomark _)))) (fun _ _ _ _ _ => (pv 7))) pa_nil))))))
theorem ok_l_least {R : List D → (D → Prop) → Prop} (F : Fun K "_law_least" "_law_least" s_l_least f fd) (bn : Bn mg) (len : ∀ ds Z, R ds Z → ds.length = 2) (sx : ∀ ds Z, R ds Z → SX (T_l_least K) (startE N_l_least ds) { nx := fun _ => Z .none, rt := fun d _ => Z d }) :
    FnOk P w K mg base CX0 (k + 1) f fd ["packs", "many"] (spP R) := fn_pure F sc_l_least len fun cdv A outer s H E hr => ⟨_, ps_l_least bn hr, sx⟩
theorem ps_l_fault {cdv : Value} {A : Around} {outer : List PySem.Env} {s : Shared} {H : Hp} {E : XK} (bn : Bn mg) (hr : Room k (A.deeper (PyProof.Rows.envOfC "_law_fault" (defScope s_l_fault) s.heap.objs.size f cdv))) :
    PSs (cxOf CX0 P w K mg base N_l_fault "_law_fault" (defScope s_l_fault) f cdv A outer s H E).nox (defBody s_l_fault) (T_l_fault K) :=
  have nd := sc_l_fault.nd
  (pss_cons (ps_asg (pv 2) (pg_tup (n := 3) rfl (pgs_cons (pg_name (i := 3) nd rfl (by first | exact Or.inl rfl | exact Or.inr rfl)) (pgs_cons (pg_name (i := 4) nd rfl (by first | exact Or.inl rfl | exact Or.inr rfl)) (pgs_cons (pg_name (i := 5) nd rfl (by first | exact Or.inl rfl | exact Or.inr rfl)) pgs_nil)))))
    (pss_cons (ps_if (PW.pt (pw_or (pt_cmpR (op_neP hr.units) (pe_callB cb_len (by rfl) bn.len_ (by decide +kernel) (pa_cons (pv 3) pa_nil)) (pe_callB cb_len (by rfl) bn.len_ (by decide +kernel) (pa_cons (pv 0) pa_nil)) (nomark _)) (pw_or1 (pt_cmpR op_gt (pe_callB cb_len (by rfl) bn.len_ (by decide +kernel) (pa_cons (pe_lc (own := [("one", 6)]) (g := (gName 6)) (tt := (tTest (tOp (rI0 fun i j => .bl (decide (i < j))) (tVar 6) (tC (.int 0))))) rfl nd (pi_list (pv 3)) (blkOk_by (N := N_l_fault) (sc := defScope s_l_fault) (by decide +kernel)) (fun _ _ _ _ _ => (pg_name (i := 6) nd rfl (by first | exact Or.inl rfl | exact Or.inr rfl))) (fun _ _ _ _ _ => (pts_one (pt_cmpR op_lt (pv 6) pe_int (nomark _)))) (fun _ _ _ _ _ => (pv 6))) pa_nil)) pe_int (nomark _)))))
      (pss_one (ps_ret (pe_tup (pa_cons pe_str pa_nil))))
      pss_nil)
    (pss_cons (ps_if (pt_cmpR op_lt (pe_callB (cr_sum rfl) (by rfl) bn.sum_ (by decide +kernel) (pa_cons (pe_lc (own := [("k", 7)]) (g := (gName 7)) (tt := tYes) rfl nd (pi_range1 (by rfl) bn.range_ (pa_cons (pe_callB cb_len (by rfl) bn.len_ (by decide +kernel) (pa_cons (pv 0) pa_nil)) pa_nil)) (blkOk_by (N := N_l_fault) (sc := defScope s_l_fault) (by decide +kernel)) (fun _ _ _ _ _ => (pg_name (i := 7) nd rfl (by first | exact Or.inl rfl | exact Or.inr rfl))) (fun _ _ _ _ _ => pts_nil) (fun _ _ _ _ _ => (pe_op op_mul (pe_ix ix_any (pv 3) (pv 7) (fun _ _ => rfl)) (pe_ix ix_any (pe_ix ix_any (pv 0) (pv 7) (fun _ _ => rfl)) pe_int (fun _ _ => rfl))))) pa_nil)) (pv 1) (nomark _))
      (pss_one (ps_ret (pe_tup (pa_cons pe_str pa_nil))))
      pss_nil)
    (pss_cons (ps_if (pt_cmpR (op_neP hr.units) (pe_callB (cr_sum rfl) (by rfl) bn.sum_ (by decide +kernel) (pa_cons (pe_lc (own := [("k", 7)]) (g := (gName 7)) (tt := tYes) rfl nd (pi_range1 (by rfl) bn.range_ (pa_cons (pe_callB cb_len (by rfl) bn.len_ (by decide +kernel) (pa_cons (pv 0) pa_nil)) pa_nil)) (blkOk_by (N := N_l_fault) (sc := defScope s_l_fault) (by decide +kernel)) (fun _ _ _ _ _ => (pg_name (i := 7) nd rfl (by first | exact Or.inl rfl | exact Or.inr rfl))) (fun _ _ _ _ _ => pts_nil) (fun _ _ _ _ _ => (pe_op op_mul (pe_ix ix_any (pv 3) (pv 7) (fun _ _ => rfl)) (pe_ix ix_any (pe_ix ix_any (pv 0) (pv 7) (fun _ _ => rfl)) pe_int (fun _ _ => rfl))))) pa_nil)) (pv 4) (nomark _))
      (pss_one (ps_ret (pe_tup (pa_cons pe_str pa_nil))))
      pss_nil)
    (pss_cons (ps_if (PW.pt (pw_or (pt_cmpR (op_neP hr.units) (pe_callB cb_len (by rfl) bn.len_ (by decide +kernel) (pa_cons (pv 5) pa_nil)) (pe_op op_plus (pv 1) pe_int) (nomark _)) (pw_or1 (pt_cmpR op_gt (pe_ix ix_any (pv 5) pe_int (fun _ _ => rfl)) pe_int (nomark _)))))
      (pss_one (ps_ret (pe_tup (pa_cons pe_str pa_nil))))
      pss_nil)
    (pss_cons (ps_for PassesOwn.never rfl (pi_range2 (by rfl) bn.range_ (pa_cons pe_int (pa_cons (pe_op op_plus (pv 1) pe_int) pa_nil))) (pg_name (i := 8) nd rfl (by first | exact Or.inl rfl | exact Or.inr rfl))
      (pss_one (ps_for PassesOwn.never rfl (pi_range1 (by rfl) bn.range_ (pa_cons (pe_callB cb_len (by rfl) bn.len_ (by decide +kernel) (pa_cons (pv 0) pa_nil)) pa_nil)) (pg_name (i := 7) nd rfl (by first | exact Or.inl rfl | exact Or.inr rfl))
      (pss_one (ps_if (pt_cmpR op_gt (pe_ix ix_any (pv 5) (pv 8) (fun _ _ => rfl)) (pe_op op_plus (pe_ix ix_any (pv 5) (pe_callB (cb_max2 rfl) (by rfl) bn.max_ (by decide +kernel) (pa_cons pe_int (pa_cons (pe_op op_sub (pv 8) (pe_ix ix_any (pe_ix ix_any (pv 0) (pv 7) (fun _ _ => rfl)) pe_int (fun _ _ => rfl))) pa_nil))) (fun _ _ => rfl)) (pe_ix ix_any (pe_ix ix_any (pv 0) (pv 7) (fun _ _ => rfl)) pe_int (fun _ _ => rfl))) (nomark _))
      (pss_one (ps_ret (pe_tup (pa_cons pe_str (pa_cons (pv 8) (pa_cons (pv 7) pa_nil))))))
      pss_nil)))))
    (pss_one (ps_ret (pe_ifExp (pt_cmpR op_ge (pe_ix ix_any (pv 5) (pe_un un_neg pe_int) (fun _ _ => rfl)) (pv 4) (nomark _)) pe_non (pe_tup (pa_cons pe_str pa_nil)))))))))))
theorem ok_l_fault {R : List D → (D → Prop) → Prop} (F : Fun K "_law_fault" "_law_fault" s_l_fault f fd) (bn : Bn mg) (len : ∀ ds Z, R ds Z → ds.length = 3) (sx : ∀ ds Z, R ds Z → SX (T_l_fault K) (startE N_l_fault ds) { nx := fun _ => Z .none, rt := fun d _ => Z d }) :
    FnOk P w K mg base CX0 (k + 1) f fd ["packs", "many", "told"] (spP R) := fn_pure F sc_l_fault len fun cdv A outer s H E hr => ⟨_, ps_l_fault bn hr, sx⟩
theorem ps_l_orders {cdv : Value} {A : Around} {outer : List PySem.Env} {s : Shared} {H : Hp} {E : XK} (bn : Bn mg) (hr : Room k (A.deeper (PyProof.Rows.envOfC "_law_orders" (defScope s_l_orders) s.heap.objs.size f cdv))) :
    PSs (cxOf CX0 P w K mg base N_l_orders "_law_orders" (defScope s_l_orders) f cdv A outer s H E).nox (defBody s_l_orders) (T_l_orders K) :=
  have nd := sc_l_orders.nd
  (pss_cons (ps_set (i := 1) nd rfl (by first | exact Or.inl rfl | exact Or.inr rfl) (pe_lst (pa_cons (pe_lst pa_nil) pa_nil)))
    (pss_cons (ps_for PassesOwn.never rfl (pi_range1 (by rfl) bn.range_ (pa_cons (pv 0) pa_nil)) (pg_name (i := 2) nd rfl (by first | exact Or.inl rfl | exact Or.inr rfl))
      (pss_cons (ps_set (i := 3) nd rfl (by first | exact Or.inl rfl | exact Or.inr rfl) (pe_lst pa_nil))
    (pss_cons (ps_for PassesOwn.never rfl (pi_list (pv 1)) (pg_name (i := 4) nd rfl (by first | exact Or.inl rfl | exact Or.inr rfl))
      (pss_one (ps_expr (pe_bm PySem.F.plainAttrs_list PySem.F.slot_list_extend PySem.F.type_list_extend mt_extR (pv 3) (pa_cons (pe_lc (own := [("one", 5)]) (g := (gName 5)) (tt := (tTest (tOp (rNinP K) (tVar 5) (tVar 4)))) rfl nd (pi_range1 (by rfl) bn.range_ (pa_cons (pv 0) pa_nil)) (blkOk_by (N := N_l_orders) (sc := defScope s_l_orders) (by decide +kernel)) (fun _ _ _ _ _ => (pg_name (i := 5) nd rfl (by first | exact Or.inl rfl | exact Or.inr rfl))) (fun _ _ _ _ _ => (pts_one (pt_cmpR (op_ninP hr.units) (pv 5) (pv 4) (by rfl)))) (fun _ _ _ _ _ => (pe_op op_plus (pv 4) (pe_lst (pa_cons (pv 5) pa_nil))))) pa_nil)))))
    (pss_one (ps_set (i := 1) nd rfl (by first | exact Or.inl rfl | exact Or.inr rfl) (pv 3))))))
    (pss_one (ps_ret (pv 1)))))
theorem ok_l_orders {R : List D → (D → Prop) → Prop} (F : Fun K "_law_orders" "_law_orders" s_l_orders f fd) (bn : Bn mg) (len : ∀ ds Z, R ds Z → ds.length = 1) (sx : ∀ ds Z, R ds Z → SX (T_l_orders K) (startE N_l_orders ds) { nx := fun _ => Z .none, rt := fun d _ => Z d }) :
    FnOk P w K mg base CX0 (k + 1) f fd ["many"] (spP R) := fn_pure F sc_l_orders len fun cdv A outer s H E hr => ⟨_, ps_l_orders bn hr, sx⟩
theorem ps_l_shares_right {cdv : Value} {A : Around} {outer : List PySem.Env} {s : Shared} {H : Hp} {E : XK} (bn : Bn mg) (hr : Room k (A.deeper (PyProof.Rows.envOfC "_law_shares_right" (defScope s_l_shares_right) s.heap.objs.size f cdv))) {R_l_take : Stt → List D → (D → Stt → Prop) → Prop} {k_l_take : Nat} (C_l_take : Cal P w K mg base "_law_take" ["state", "most"] (spS R_l_take) k_l_take) (h_l_take : k_l_take ≤ k) {R_shared : List D → (D → Prop) → Prop} {k_shared : Nat} (C_shared : Cal P w K mg base "shared" ["cents", "weights"] (spP R_shared) k_shared) (h_shared : k_shared ≤ k) {R_shared_fault : List D → (D → Prop) → Prop} {k_shared_fault : Nat} (C_shared_fault : Cal P w K mg base "shared_fault" ["cents", "weights", "parts"] (spP R_shared_fault) k_shared_fault) (h_shared_fault : k_shared_fault ≤ k) :
    PSs (cxOf CX0 P w K mg base N_l_shares_right "_law_shares_right" (defScope s_l_shares_right) f cdv A outer s H E).nox (defBody s_l_shares_right) (T_l_shares_right K R_l_take R_shared R_shared_fault) :=
  have nd := sc_l_shares_right.nd
  (pss_cons (ps_set (i := 1) nd rfl (by first | exact Or.inl rfl | exact Or.inr rfl) (pe_cal C_l_take (hr.mono h_l_take) (by rfl) (pa_cons (pv 0) (pa_cons pe_int pa_nil))))
    (pss_cons (ps_set (i := 2) nd rfl (by first | exact Or.inl rfl | exact Or.inr rfl) (pe_lc (own := [("k", 3)]) (g := (gName 3)) (tt := tYes) rfl nd (pi_range1 (by rfl) bn.range_ (pa_cons (pe_cal C_l_take (hr.mono h_l_take) (by rfl) (pa_cons (pv 0) (pa_cons pe_int pa_nil))) pa_nil)) (blkOk_by (N := N_l_shares_right) (sc := defScope s_l_shares_right) (by decide +kernel)) (fun _ _ _ _ _ => (pg_name (i := 3) nd rfl (by first | exact Or.inl rfl | exact Or.inr rfl))) (fun _ _ _ _ _ => pts_nil) (fun _ _ _ _ _ => (pe_cal C_l_take (hr.mono h_l_take) (by rfl) (pa_cons (pv 0) (pa_cons (pe_ix ix_any (pe_lst (pa_cons pe_int (pa_cons pe_int pa_nil))) (pe_cal C_l_take (hr.mono h_l_take) (by rfl) (pa_cons (pv 0) (pa_cons pe_int pa_nil))) (fun _ _ => rfl)) pa_nil))))))
    (pss_cons (ps_set (i := 4) nd rfl (by first | exact Or.inl rfl | exact Or.inr rfl) (pe_callB (cr_sum rfl) (by rfl) bn.sum_ (by decide +kernel) (pa_cons (pv 2) pa_nil)))
    (pss_cons (ps_set (i := 5) nd rfl (by first | exact Or.inl rfl | exact Or.inr rfl) (pe_lc (own := [("one", 6)]) (g := (gName 6)) (tt := tYes) rfl nd (pi_list (pv 2)) (blkOk_by (N := N_l_shares_right) (sc := defScope s_l_shares_right) (by decide +kernel)) (fun _ _ _ _ _ => (pg_name (i := 6) nd rfl (by first | exact Or.inl rfl | exact Or.inr rfl))) (fun _ _ _ _ _ => pts_nil) (fun _ _ _ _ _ => (pe_ifExp (pt_cmpR (op_eqP hr.units) (pv 4) pe_int (nomark _)) pe_int (pe_op op_fdiv (pe_op op_mul (pv 1) (pv 6)) (pv 4))))))
    (pss_cons (ps_while PassesOwn.never (PW.pt (pw_and (pt_cmpR op_gt (pv 4) pe_int (nomark _)) (pw_and1 (pt_cmpR op_lt (pe_callB (cr_sum rfl) (by rfl) bn.sum_ (by decide +kernel) (pa_cons (pv 5) pa_nil)) (pv 1) (nomark _)))))
      (pss_cons (ps_setLc (i := 7) (own := [("k", 3)]) (g := (gName 3)) (tt := tYes) rfl nd rfl rfl (sw_true rfl rfl rfl (by decide +kernel)) (pi_range1 (by rfl) bn.range_ (pa_cons (pe_callB cb_len (by rfl) bn.len_ (by decide +kernel) (pa_cons (pv 2) pa_nil)) pa_nil)) (blkOk_by (N := N_l_shares_right) (sc := defScope s_l_shares_right) (by decide +kernel)) (fun _ _ _ _ _ => (pg_name (i := 3) nd rfl (by first | exact Or.inl rfl | exact Or.inr rfl))) (fun _ _ _ _ _ => pts_nil) (fun _ _ _ _ _ => (pe_tup (pa_cons (pe_op op_sub (pe_op op_mul (pe_ix ix_any (pv 5) (pv 3) (fun _ _ => rfl)) (pv 4)) (pe_op op_mul (pv 1) (pe_ix ix_any (pv 2) (pv 3) (fun _ _ => rfl)))) (pa_cons (pv 3) pa_nil)))))
    (pss_one (ps_asg (pe_op op_plus (pe_ix ix_any (pv 5) (pe_ix ix_any (pe_callB (cb_minD rfl hr.units) (by rfl) bn.min_ (by decide +kernel) (pa_cons (pv 7) pa_nil)) pe_int (fun _ _ => rfl)) (fun _ _ => rfl)) pe_int) (pg_sub (pv 5) (pe_ix ix_any (pe_callB (cb_minD rfl hr.units) (by rfl) bn.min_ (by decide +kernel) (pa_cons (pv 7) pa_nil)) pe_int (fun _ _ => rfl)) set_list)))))
    (pss_one (ps_ret (pe_and (pe_cmpR (op_eqP hr.units) (pe_cal C_shared (hr.mono h_shared) (by rfl) (pa_cons (pv 1) (pa_cons (pv 2) pa_nil))) (pv 5) (nomark _)) (pe_and (pe_cmpR op_is (pe_cal C_shared_fault (hr.mono h_shared_fault) (by rfl) (pa_cons (pv 1) (pa_cons (pv 2) (pa_cons (pv 5) pa_nil)))) pe_non (nomark _)) (pe_one (pe_cmpR (op_eqP hr.units) (pe_cal C_shared_fault (hr.mono h_shared_fault) (by rfl) (pa_cons (pv 1) (pa_cons (pv 2) (pa_cons (pe_op op_plus (pv 5) (pe_lst (pa_cons pe_int pa_nil))) pa_nil)))) (pe_tup (pa_cons pe_str pa_nil)) (nomark _))))))))))))
theorem ok_l_shares_right {R : Stt → List D → (D → Stt → Prop) → Prop} (F : Fun K "_law_shares_right" "_law_shares_right" s_l_shares_right f fd) (bn : Bn mg) {R_l_take : Stt → List D → (D → Stt → Prop) → Prop} {k_l_take : Nat} (C_l_take : Cal P w K mg base "_law_take" ["state", "most"] (spS R_l_take) k_l_take) (h_l_take : k_l_take ≤ k) {R_shared : List D → (D → Prop) → Prop} {k_shared : Nat} (C_shared : Cal P w K mg base "shared" ["cents", "weights"] (spP R_shared) k_shared) (h_shared : k_shared ≤ k) {R_shared_fault : List D → (D → Prop) → Prop} {k_shared_fault : Nat} (C_shared_fault : Cal P w K mg base "shared_fault" ["cents", "weights", "parts"] (spP R_shared_fault) k_shared_fault) (h_shared_fault : k_shared_fault ≤ k) (len : ∀ S ds Z, R S ds Z → ds.length + 1 = 1) (sx : ∀ S ds Z, R S ds Z → SX (T_l_shares_right K R_l_take R_shared R_shared_fault) (.st S :: (ds.map .val ++ List.replicate (N_l_shares_right.length - (ds.length + 1)) .emp)) { nx := fun ρ' => ∃ S', ρ'[0]? = some (.st S') ∧ Z .none S', rt := fun d ρ' => ∃ S', ρ'[0]? = some (.st S') ∧ Z d S' }) :
    FnOk P w K mg base CX0 (k + 1) f fd ["state"] (spS R) := fn_state F sc_l_shares_right len fun cdv A outer s H E hr => ⟨_, ps_l_shares_right bn hr C_l_take h_l_take C_shared h_shared C_shared_fault h_shared_fault, sx⟩
theorem ps_law {cdv : Value} {A : Around} {outer : List PySem.Env} {s : Shared} {H : Hp} {E : XK} (bn : Bn mg) (hr : Room k (A.deeper (PyProof.Rows.envOfC "law" (defScope s_law) s.heap.objs.size f cdv))) {R_l_state : List D → (Stt → Prop) → Prop} {k_l_state : Nat} (C_l_state : Cal P w K mg base "_law_state" ["script"] (spN R_l_state) k_l_state) (h_l_state : k_l_state ≤ k) {R_cheapest : List D → (D → Prop) → Prop} {k_cheapest : Nat} (C_cheapest : Cal P w K mg base "cheapest" ["packs", "many"] (spP R_cheapest) k_cheapest) (h_cheapest : k_cheapest ≤ k) {R_l_least : List D → (D → Prop) → Prop} {k_l_least : Nat} (C_l_least : Cal P w K mg base "_law_least" ["packs", "many"] (spP R_l_least) k_l_least) (h_l_least : k_l_least ≤ k) {R_l_orders : List D → (D → Prop) → Prop} {k_l_orders : Nat} (C_l_orders : Cal P w K mg base "_law_orders" ["many"] (spP R_l_orders) k_l_orders) (h_l_orders : k_l_orders ≤ k) {R_l_packs : Stt → List D → (D → Stt → Prop) → Prop} {k_l_packs : Nat} (C_l_packs : Cal P w K mg base "_law_packs" ["state"] (spS R_l_packs) k_l_packs) (h_l_packs : k_l_packs ≤ k) {R_l_take : Stt → List D → (D → Stt → Prop) → Prop} {k_l_take : Nat} (C_l_take : Cal P w K mg base "_law_take" ["state", "most"] (spS R_l_take) k_l_take) (h_l_take : k_l_take ≤ k) {R_worth_alone : List D → (D → Prop) → Prop} {k_worth_alone : Nat} (C_worth_alone : Cal P w K mg base "worth_alone" ["packs", "needs"] (spP R_worth_alone) k_worth_alone) (h_worth_alone : k_worth_alone ≤ k) {R_l_fault : List D → (D → Prop) → Prop} {k_l_fault : Nat} (C_l_fault : Cal P w K mg base "_law_fault" ["packs", "many", "told"] (spP R_l_fault) k_l_fault) (h_l_fault : k_l_fault ≤ k) {R_cheapest_fault : List D → (D → Prop) → Prop} {k_cheapest_fault : Nat} (C_cheapest_fault : Cal P w K mg base "cheapest_fault" ["packs", "many", "told"] (spP R_cheapest_fault) k_cheapest_fault) (h_cheapest_fault : k_cheapest_fault ≤ k) {R_one_more : List D → (D → Prop) → Prop} {k_one_more : Nat} (C_one_more : Cal P w K mg base "one_more" ["packs", "many"] (spP R_one_more) k_one_more) (h_one_more : k_one_more ≤ k) {R_steady : List D → (D → Prop) → Prop} {k_steady : Nat} (C_steady : Cal P w K mg base "steady" ["packs", "many"] (spP R_steady) k_steady) (h_steady : k_steady ≤ k) {R_fair_parts : List D → (D → Prop) → Prop} {k_fair_parts : Nat} (C_fair_parts : Cal P w K mg base "fair_parts" ["packs", "needs"] (spP R_fair_parts) k_fair_parts) (h_fair_parts : k_fair_parts ≤ k) {R_refunds : List D → (D → Prop) → Prop} {k_refunds : Nat} (C_refunds : Cal P w K mg base "refunds" ["paid", "due"] (spP R_refunds) k_refunds) (h_refunds : k_refunds ≤ k) {R_l_shares_right : Stt → List D → (D → Stt → Prop) → Prop} {k_l_shares_right : Nat} (C_l_shares_right : Cal P w K mg base "_law_shares_right" ["state"] (spS R_l_shares_right) k_l_shares_right) (h_l_shares_right : k_l_shares_right ≤ k) :
    PSs (cxOf CX0 P w K mg base N_law "law" (defScope s_law) f cdv A outer s H E).nox (defBody s_law) (T_law K R_l_state R_cheapest R_l_least R_l_orders R_l_packs R_l_take R_worth_alone R_l_fault R_cheapest_fault R_one_more R_steady R_fair_parts R_refunds R_l_shares_right) :=
  have nd := sc_law.nd
  (pss_cons (ps_set (i := 1) nd rfl (by first | exact Or.inl rfl | exact Or.inr rfl) (pe_cal C_l_state (hr.mono h_l_state) (by rfl) (pa_cons (pv 0) pa_nil)))
    (pss_cons (ps_asg (pe_tup (pa_cons (pe_cal C_l_packs (hr.mono h_l_packs) (by rfl) (pa_cons (pv 1) pa_nil)) (pa_cons (pe_cal C_l_take (hr.mono h_l_take) (by rfl) (pa_cons (pv 1) (pa_cons pe_int pa_nil))) pa_nil))) (pg_tup (n := 2) rfl (pgs_cons (pg_name (i := 2) nd rfl (by first | exact Or.inl rfl | exact Or.inr rfl)) (pgs_cons (pg_name (i := 3) nd rfl (by first | exact Or.inl rfl | exact Or.inr rfl)) pgs_nil))))
    (pss_cons (ps_set (i := 4) nd rfl (by first | exact Or.inl rfl | exact Or.inr rfl) (pe_callTy cb_list (by rfl) bn.list_ (by decide +kernel) (pa_cons (pv 2) pa_nil)))
    (pss_cons (ps_set (i := 5) nd rfl (by first | exact Or.inl rfl | exact Or.inr rfl) (pe_cal C_cheapest (hr.mono h_cheapest) (by rfl) (pa_cons (pv 2) (pa_cons (pv 3) pa_nil))))
    (pss_cons (ps_set (i := 6) nd rfl (by first | exact Or.inl rfl | exact Or.inr rfl) (pe_lc (own := [("need", 7)]) (g := (gName 7)) (tt := tYes) rfl nd (pi_range1 (by rfl) bn.range_ (pa_cons (pe_op op_plus (pv 3) pe_int) pa_nil)) (blkOk_by (N := N_law) (sc := defScope s_law) (by decide +kernel)) (fun _ _ _ _ _ => (pg_name (i := 7) nd rfl (by first | exact Or.inl rfl | exact Or.inr rfl))) (fun _ _ _ _ _ => pts_nil) (fun _ _ _ _ _ => (pe_cal C_l_least (hr.mono h_l_least) (by rfl) (pa_cons (pv 2) (pa_cons (pv 7) pa_nil))))))
    (pss_cons (ps_if (PW.pt (pw_or (pt_not (pt_val (pe_callB RZ.call_isTy (by rfl) bn.isinstance_ (by decide +kernel) (pa_cons (pv 5) (pa_cons (pe_bltn (v := .ty "tuple") (u := .type "tuple") (by rfl) bn.tuple_ (by decide +kernel) rfl) pa_nil))))) (pw_or (pt_cmpR (op_neP hr.units) (pe_ix ix_any (pv 5) pe_int (fun _ _ => rfl)) (pe_ix ix_any (pv 6) (pe_un un_neg pe_int) (fun _ _ => rfl)) (nomark _)) (pw_or (pt_cmpR op_isnt (pe_cal C_l_fault (hr.mono h_l_fault) (by rfl) (pa_cons (pv 2) (pa_cons (pv 3) (pa_cons (pv 5) pa_nil)))) pe_non (nomark _)) (pw_or1 (pt_cmpR op_isnt (pe_cal C_cheapest_fault (hr.mono h_cheapest_fault) (by rfl) (pa_cons (pv 2) (pa_cons (pv 3) (pa_cons (pv 5) pa_nil)))) pe_non (nomark _)))))))
      (pss_one (ps_ret pe_bl))
      pss_nil)
    (pss_cons (ps_set (i := 8) nd rfl (by first | exact Or.inl rfl | exact Or.inr rfl) (pe_lc (own := [("k", 9)]) (g := (gName 9)) (tt := tYes) rfl nd (pi_range1 (by rfl) bn.range_ (pa_cons (pv 3) pa_nil)) (blkOk_by (N := N_law) (sc := defScope s_law) (by decide +kernel)) (fun _ _ _ _ _ => (pg_name (i := 9) nd rfl (by first | exact Or.inl rfl | exact Or.inr rfl))) (fun _ _ _ _ _ => pts_nil) (fun _ _ _ _ _ => (pe_op op_sub (pe_ix ix_any (pv 6) (pe_op op_plus (pv 9) pe_int) (fun _ _ => rfl)) (pe_ix ix_any (pv 6) (pv 9) (fun _ _ => rfl))))))
    (pss_cons (ps_setLc (i := 10) (own := [("k", 9)]) (g := (gName 9)) (tt := (tTest (tOp (rI0 fun i j => .bl (decide (j < i))) (tOp (rIxA K) (tVar 8) (tVar 9)) (tOp (rIxA K) (tVar 8) (tOp (rI0 fun i j => .int (i - j)) (tVar 9) (tC (.int 1))))))) rfl nd rfl rfl (sw_true rfl rfl rfl (by decide +kernel)) (pi_range2 (by rfl) bn.range_ (pa_cons pe_int (pa_cons (pv 3) pa_nil))) (blkOk_by (N := N_law) (sc := defScope s_law) (by decide +kernel)) (fun _ _ _ _ _ => (pg_name (i := 9) nd rfl (by first | exact Or.inl rfl | exact Or.inr rfl))) (fun _ _ _ _ _ => (pts_one (pt_cmpR op_gt (pe_ix ix_any (pv 8) (pv 9) (fun _ _ => rfl)) (pe_ix ix_any (pv 8) (pe_op op_sub (pv 9) pe_int) (fun _ _ => rfl)) (nomark _)))) (fun _ _ _ _ _ => (pv 9)))
    (pss_cons (ps_if (PW.pt (pw_or (pt_cmpR (op_neP hr.units) (pe_cal C_one_more (hr.mono h_one_more) (by rfl) (pa_cons (pv 2) (pa_cons (pv 3) pa_nil))) (pv 8) (nomark _)) (pw_or1 (pt_cmpR (op_neP hr.units) (pe_cal C_steady (hr.mono h_steady) (by rfl) (pa_cons (pv 2) (pa_cons (pv 3) pa_nil))) (pe_ifExp (pt_cmpR op_gt (pe_callB cb_len (by rfl) bn.len_ (by decide +kernel) (pa_cons (pv 10) pa_nil)) pe_int (nomark _)) (pe_ix ix_any (pv 10) pe_int (fun _ _ => rfl)) pe_non) (nomark _)))))
      (pss_one (ps_ret pe_bl))
      pss_nil)
    (pss_cons (ps_set (i := 11) nd rfl (by first | exact Or.inl rfl | exact Or.inr rfl) (pe_lc (own := [("k", 9)]) (g := (gName 9)) (tt := tYes) rfl nd (pi_range1 (by rfl) bn.range_ (pa_cons (pe_cal C_l_take (hr.mono h_l_take) (by rfl) (pa_cons (pv 1) (pa_cons pe_int pa_nil))) pa_nil)) (blkOk_by (N := N_law) (sc := defScope s_law) (by decide +kernel)) (fun _ _ _ _ _ => (pg_name (i := 9) nd rfl (by first | exact Or.inl rfl | exact Or.inr rfl))) (fun _ _ _ _ _ => pts_nil) (fun _ _ _ _ _ => (pe_cal C_l_take (hr.mono h_l_take) (by rfl) (pa_cons (pv 1) (pa_cons pe_int pa_nil))))))
    (pss_cons (ps_set (i := 12) nd rfl (by first | exact Or.inl rfl | exact Or.inr rfl) (pe_cal C_l_least (hr.mono h_l_least) (by rfl) (pa_cons (pv 2) (pa_cons (pe_callB (cr_sum rfl) (by rfl) bn.sum_ (by decide +kernel) (pa_cons (pv 11) pa_nil)) pa_nil))))
    (pss_cons (ps_if (pt_cmpR (op_neP hr.units) (pe_cal C_worth_alone (hr.mono h_worth_alone) (by rfl) (pa_cons (pv 2) (pa_cons (pv 11) pa_nil))) (pe_tup (pa_cons (pe_lc (own := [("need", 7)]) (g := (gName 7)) (tt := tYes) rfl nd (pi_list (pv 11)) (blkOk_by (N := N_law) (sc := defScope s_law) (by decide +kernel)) (fun _ _ _ _ _ => (pg_name (i := 7) nd rfl (by first | exact Or.inl rfl | exact Or.inr rfl))) (fun _ _ _ _ _ => pts_nil) (fun _ _ _ _ _ => (pe_cal C_l_least (hr.mono h_l_least) (by rfl) (pa_cons (pv 2) (pa_cons (pv 7) pa_nil))))) (pa_cons (pv 12) pa_nil))) (nomark _))
      (pss_one (ps_ret pe_bl))
      pss_nil)
    (pss_cons (ps_set (i := 13) nd rfl (by first | exact Or.inl rfl | exact Or.inr rfl) (pe_cal C_l_orders (hr.mono h_l_orders) (by rfl) (pa_cons (pe_callB cb_len (by rfl) bn.len_ (by decide +kernel) (pa_cons (pv 11) pa_nil)) pa_nil)))
    (pss_cons (ps_set (i := 14) nd rfl (by first | exact Or.inl rfl | exact Or.inr rfl) (pe_lc (own := [("need", 7)]) (g := (gName 7)) (tt := tYes) rfl nd (pi_list (pv 11)) (blkOk_by (N := N_law) (sc := defScope s_law) (by decide +kernel)) (fun _ _ _ _ _ => (pg_name (i := 7) nd rfl (by first | exact Or.inl rfl | exact Or.inr rfl))) (fun _ _ _ _ _ => pts_nil) (fun _ _ _ _ _ => pe_int)))
    (pss_cons (ps_for PassesOwn.never rfl (pi_list (pv 13)) (pg_name (i := 15) nd rfl (by first | exact Or.inl rfl | exact Or.inr rfl))
      (pss_one (ps_for PassesOwn.never rfl (pi_range1 (by rfl) bn.range_ (pa_cons (pe_callB cb_len (by rfl) bn.len_ (by decide +kernel) (pa_cons (pv 15) pa_nil)) pa_nil)) (pg_name (i := 16) nd rfl (by first | exact Or.inl rfl | exact Or.inr rfl))
      (pss_cons (ps_set (i := 17) nd rfl (by first | exact Or.inl rfl | exact Or.inr rfl) (pe_callB (cr_sum rfl) (by rfl) bn.sum_ (by decide +kernel) (pa_cons (pe_lc (own := [("k", 9)]) (g := (gName 9)) (tt := tYes) rfl nd (pi_list (pe_slice sl_any (pv 15) po_none (po_some (pv 16)))) (blkOk_by (N := N_law) (sc := defScope s_law) (by decide +kernel)) (fun _ _ _ _ _ => (pg_name (i := 9) nd rfl (by first | exact Or.inl rfl | exact Or.inr rfl))) (fun _ _ _ _ _ => pts_nil) (fun _ _ _ _ _ => (pe_ix ix_any (pv 11) (pv 9) (fun _ _ => rfl)))) pa_nil)))
    (pss_one (ps_asg (pe_op op_sub (pe_op op_plus (pe_ix ix_any (pv 14) (pe_ix ix_any (pv 15) (pv 16) (fun _ _ => rfl)) (fun _ _ => rfl)) (pe_cal C_l_least (hr.mono h_l_least) (by rfl) (pa_cons (pv 2) (pa_cons (pe_op op_plus (pv 17) (pe_ix ix_any (pv 11) (pe_ix ix_any (pv 15) (pv 16) (fun _ _ => rfl)) (fun _ _ => rfl))) pa_nil)))) (pe_cal C_l_least (hr.mono h_l_least) (by rfl) (pa_cons (pv 2) (pa_cons (pv 17) pa_nil)))) (pg_sub (pv 14) (pe_ix ix_any (pv 15) (pv 16) (fun _ _ => rfl)) set_list)))))))
    (pss_cons (ps_if (PW.pt (pw_or (pt_cmpR (op_neP hr.units) (pe_cal C_fair_parts (hr.mono h_fair_parts) (by rfl) (pa_cons (pv 2) (pa_cons (pv 11) pa_nil))) (pe_tup (pa_cons (pv 14) (pa_cons (pe_callB cb_len (by rfl) bn.len_ (by decide +kernel) (pa_cons (pv 13) pa_nil)) pa_nil))) (nomark _)) (pw_or1 (pt_cmpR (op_neP hr.units) (pe_callB (cr_sum rfl) (by rfl) bn.sum_ (by decide +kernel) (pa_cons (pv 14) pa_nil)) (pe_op op_mul (pv 12) (pe_callB cb_len (by rfl) bn.len_ (by decide +kernel) (pa_cons (pv 13) pa_nil))) (nomark _)))))
      (pss_one (ps_ret pe_bl))
      pss_nil)
    (pss_cons (ps_set (i := 18) nd rfl (by first | exact Or.inl rfl | exact Or.inr rfl) (pe_lc (own := [("need", 7)]) (g := (gName 7)) (tt := tYes) rfl nd (pi_list (pv 11)) (blkOk_by (N := N_law) (sc := defScope s_law) (by decide +kernel)) (fun _ _ _ _ _ => (pg_name (i := 7) nd rfl (by first | exact Or.inl rfl | exact Or.inr rfl))) (fun _ _ _ _ _ => pts_nil) (fun _ _ _ _ _ => (pe_cal C_l_take (hr.mono h_l_take) (by rfl) (pa_cons (pv 1) (pa_cons pe_int pa_nil))))))
    (pss_cons (ps_if (PW.pt (pw_or (pt_cmpR (op_neP hr.units) (pe_cal C_refunds (hr.mono h_refunds) (by rfl) (pa_cons (pv 18) (pa_cons (pv 14) pa_nil))) (pe_tup (pa_cons (pe_lc (own := [("k", 9)]) (g := (gName 9)) (tt := tYes) rfl nd (pi_range1 (by rfl) bn.range_ (pa_cons (pe_callB cb_len (by rfl) bn.len_ (by decide +kernel) (pa_cons (pv 18) pa_nil)) pa_nil)) (blkOk_by (N := N_law) (sc := defScope s_law) (by decide +kernel)) (fun _ _ _ _ _ => (pg_name (i := 9) nd rfl (by first | exact Or.inl rfl | exact Or.inr rfl))) (fun _ _ _ _ _ => pts_nil) (fun _ _ _ _ _ => (pe_op op_sub (pe_ix ix_any (pv 18) (pv 9) (fun _ _ => rfl)) (pe_ix ix_any (pv 14) (pv 9) (fun _ _ => rfl))))) (pa_cons (pe_op op_sub (pe_callB (cr_sum rfl) (by rfl) bn.sum_ (by decide +kernel) (pa_cons (pv 18) pa_nil)) (pe_callB (cr_sum rfl) (by rfl) bn.sum_ (by decide +kernel) (pa_cons (pv 14) pa_nil))) pa_nil))) (nomark _)) (pw_or1 (pt_not (pt_val (pe_cal C_l_shares_right (hr.mono h_l_shares_right) (by rfl) (pa_cons (pv 1) pa_nil)))))))
      (pss_one (ps_ret pe_bl))
      pss_nil)
    (pss_cons (ps_for PassesOwn.never rfl (pi_range1 (by rfl) bn.range_ (pa_cons pe_int pa_nil)) (pg_name (i := 19) nd rfl (by first | exact Or.inl rfl | exact Or.inr rfl))
      (pss_cons (ps_asg (pe_tup (pa_cons (pe_callTy cb_list (by rfl) bn.list_ (by decide +kernel) (pa_cons (pe_ix ix_any (pv 5) pe_int (fun _ _ => rfl)) pa_nil)) (pa_cons (pe_ix ix_any (pv 5) pe_int (fun _ _ => rfl)) (pa_cons (pe_callTy cb_list (by rfl) bn.list_ (by decide +kernel) (pa_cons (pe_ix ix_any (pv 5) pe_int (fun _ _ => rfl)) pa_nil)) pa_nil)))) (pg_tup (n := 3) rfl (pgs_cons (pg_name (i := 20) nd rfl (by first | exact Or.inl rfl | exact Or.inr rfl)) (pgs_cons (pg_name (i := 21) nd rfl (by first | exact Or.inl rfl | exact Or.inr rfl)) (pgs_cons (pg_name (i := 22) nd rfl (by first | exact Or.inl rfl | exact Or.inr rfl)) pgs_nil)))))
    (pss_cons (ps_set (i := 23) nd rfl (by first | exact Or.inl rfl | exact Or.inr rfl) (pe_cal C_l_take (hr.mono h_l_take) (by rfl) (pa_cons (pv 1) (pa_cons pe_int pa_nil))))
    (pss_cons (ps_if (pt_cmpR (op_eqP hr.units) (pv 23) pe_int (nomark _))
      (pss_cons (ps_set (i := 24) nd rfl (by first | exact Or.inl rfl | exact Or.inr rfl) (pe_cal C_l_take (hr.mono h_l_take) (by rfl) (pa_cons (pv 1) (pa_cons (pe_callB cb_len (by rfl) bn.len_ (by decide +kernel) (pa_cons (pv 20) pa_nil)) pa_nil))))
    (pss_cons (ps_asg (pe_op op_plus (pe_ix ix_any (pv 20) (pv 24) (fun _ _ => rfl)) (pe_ix ix_any (pe_lst (pa_cons pe_int (pa_cons (pe_op op_sub pe_int pe_int) pa_nil))) (pe_cal C_l_take (hr.mono h_l_take) (by rfl) (pa_cons (pv 1) (pa_cons pe_int pa_nil))) (fun _ _ => rfl))) (pg_sub (pv 20) (pv 24) set_list))
    (pss_one (ps_set (i := 21) nd rfl (by first | exact Or.inl rfl | exact Or.inr rfl) (pe_callB (cr_sum rfl) (by rfl) bn.sum_ (by decide +kernel) (pa_cons (pe_lc (own := [("k", 9)]) (g := (gName 9)) (tt := tYes) rfl nd (pi_range1 (by rfl) bn.range_ (pa_cons (pe_callB cb_len (by rfl) bn.len_ (by decide +kernel) (pa_cons (pv 2) pa_nil)) pa_nil)) (blkOk_by (N := N_law) (sc := defScope s_law) (by decide +kernel)) (fun _ _ _ _ _ => (pg_name (i := 9) nd rfl (by first | exact Or.inl rfl | exact Or.inr rfl))) (fun _ _ _ _ _ => pts_nil) (fun _ _ _ _ _ => (pe_op op_mul (pe_ix ix_any (pv 20) (pv 9) (fun _ _ => rfl)) (pe_ix ix_any (pe_ix ix_any (pv 2) (pv 9) (fun _ _ => rfl)) pe_int (fun _ _ => rfl))))) pa_nil))))))
      (pss_one (ps_if (pt_cmpR (op_eqP hr.units) (pv 23) pe_int (nomark _))
      (pss_one (ps_set (i := 21) nd rfl (by first | exact Or.inl rfl | exact Or.inr rfl) (pe_op op_plus (pv 21) (pe_ix ix_any (pe_lst (pa_cons pe_int (pa_cons (pe_op op_sub pe_int pe_int) pa_nil))) (pe_cal C_l_take (hr.mono h_l_take) (by rfl) (pa_cons (pv 1) (pa_cons pe_int pa_nil))) (fun _ _ => rfl)))))
      (pss_one (ps_if (pt_cmpR op_lt (pv 23) pe_int (nomark _))
      (pss_one (ps_asg (pe_op op_sub (pe_cal C_l_take (hr.mono h_l_take) (by rfl) (pa_cons (pv 1) (pa_cons pe_int pa_nil))) pe_int) (pg_sub (pv 22) (pe_cal C_l_take (hr.mono h_l_take) (by rfl) (pa_cons (pv 1) (pa_cons (pe_callB cb_len (by rfl) bn.len_ (by decide +kernel) (pa_cons (pv 22) pa_nil)) pa_nil))) set_list)))
      (pss_one (ps_set (i := 22) nd rfl (by first | exact Or.inl rfl | exact Or.inr rfl) (pe_slice sl_any (pv 22) (po_some pe_int) po_none))))))))
    (pss_cons (ps_set (i := 25) nd rfl (by first | exact Or.inl rfl | exact Or.inr rfl) (pe_tup (pa_cons (pv 20) (pa_cons (pv 21) (pa_cons (pv 22) pa_nil)))))
    (pss_one (ps_if (pt_cmpR (op_neP hr.units) (pe_cal C_cheapest_fault (hr.mono h_cheapest_fault) (by rfl) (pa_cons (pv 2) (pa_cons (pv 3) (pa_cons (pv 25) pa_nil)))) (pe_cal C_l_fault (hr.mono h_l_fault) (by rfl) (pa_cons (pv 2) (pa_cons (pv 3) (pa_cons (pv 25) pa_nil)))) (nomark _))
      (pss_one (ps_ret pe_bl))
      pss_nil)))))))
    (pss_one (ps_ret (pe_cmpR (op_eqP hr.units) (pv 2) (pv 4) (nomark _)))))))))))))))))))))))
theorem ok_law {R : List D → (D → Prop) → Prop} (F : Fun K "law" "law" s_law f fd) (bn : Bn mg) {R_l_state : List D → (Stt → Prop) → Prop} {k_l_state : Nat} (C_l_state : Cal P w K mg base "_law_state" ["script"] (spN R_l_state) k_l_state) (h_l_state : k_l_state ≤ k) {R_cheapest : List D → (D → Prop) → Prop} {k_cheapest : Nat} (C_cheapest : Cal P w K mg base "cheapest" ["packs", "many"] (spP R_cheapest) k_cheapest) (h_cheapest : k_cheapest ≤ k) {R_l_least : List D → (D → Prop) → Prop} {k_l_least : Nat} (C_l_least : Cal P w K mg base "_law_least" ["packs", "many"] (spP R_l_least) k_l_least) (h_l_least : k_l_least ≤ k) {R_l_orders : List D → (D → Prop) → Prop} {k_l_orders : Nat} (C_l_orders : Cal P w K mg base "_law_orders" ["many"] (spP R_l_orders) k_l_orders) (h_l_orders : k_l_orders ≤ k) {R_l_packs : Stt → List D → (D → Stt → Prop) → Prop} {k_l_packs : Nat} (C_l_packs : Cal P w K mg base "_law_packs" ["state"] (spS R_l_packs) k_l_packs) (h_l_packs : k_l_packs ≤ k) {R_l_take : Stt → List D → (D → Stt → Prop) → Prop} {k_l_take : Nat} (C_l_take : Cal P w K mg base "_law_take" ["state", "most"] (spS R_l_take) k_l_take) (h_l_take : k_l_take ≤ k) {R_worth_alone : List D → (D → Prop) → Prop} {k_worth_alone : Nat} (C_worth_alone : Cal P w K mg base "worth_alone" ["packs", "needs"] (spP R_worth_alone) k_worth_alone) (h_worth_alone : k_worth_alone ≤ k) {R_l_fault : List D → (D → Prop) → Prop} {k_l_fault : Nat} (C_l_fault : Cal P w K mg base "_law_fault" ["packs", "many", "told"] (spP R_l_fault) k_l_fault) (h_l_fault : k_l_fault ≤ k) {R_cheapest_fault : List D → (D → Prop) → Prop} {k_cheapest_fault : Nat} (C_cheapest_fault : Cal P w K mg base "cheapest_fault" ["packs", "many", "told"] (spP R_cheapest_fault) k_cheapest_fault) (h_cheapest_fault : k_cheapest_fault ≤ k) {R_one_more : List D → (D → Prop) → Prop} {k_one_more : Nat} (C_one_more : Cal P w K mg base "one_more" ["packs", "many"] (spP R_one_more) k_one_more) (h_one_more : k_one_more ≤ k) {R_steady : List D → (D → Prop) → Prop} {k_steady : Nat} (C_steady : Cal P w K mg base "steady" ["packs", "many"] (spP R_steady) k_steady) (h_steady : k_steady ≤ k) {R_fair_parts : List D → (D → Prop) → Prop} {k_fair_parts : Nat} (C_fair_parts : Cal P w K mg base "fair_parts" ["packs", "needs"] (spP R_fair_parts) k_fair_parts) (h_fair_parts : k_fair_parts ≤ k) {R_refunds : List D → (D → Prop) → Prop} {k_refunds : Nat} (C_refunds : Cal P w K mg base "refunds" ["paid", "due"] (spP R_refunds) k_refunds) (h_refunds : k_refunds ≤ k) {R_l_shares_right : Stt → List D → (D → Stt → Prop) → Prop} {k_l_shares_right : Nat} (C_l_shares_right : Cal P w K mg base "_law_shares_right" ["state"] (spS R_l_shares_right) k_l_shares_right) (h_l_shares_right : k_l_shares_right ≤ k) (len : ∀ ds Z, R ds Z → ds.length = 1) (sx : ∀ ds Z, R ds Z → SX (T_law K R_l_state R_cheapest R_l_least R_l_orders R_l_packs R_l_take R_worth_alone R_l_fault R_cheapest_fault R_one_more R_steady R_fair_parts R_refunds R_l_shares_right) (startE N_law ds) { nx := fun _ => Z .none, rt := fun d _ => Z d }) :
    FnOk P w K mg base CX0 (k + 1) f fd ["script"] (spP R) := fn_pure F sc_law len fun cdv A outer s H E hr => ⟨_, ps_law bn hr C_l_state h_l_state C_cheapest h_cheapest C_l_least h_l_least C_l_orders h_l_orders C_l_packs h_l_packs C_l_take h_l_take C_worth_alone h_worth_alone C_l_fault h_l_fault C_cheapest_fault h_cheapest_fault C_one_more h_one_more C_steady h_steady C_fair_parts h_fair_parts C_refunds h_refunds C_l_shares_right h_l_shares_right, sx⟩
end
end Law_k75
namespace Law_k75
open PySem L2 Pu
section
variable {P : Program} {w : World} {K : PySem.W.Frag} {mg : Str → Option Value} {base : Heap} {f : Addr} {fd : FuncData} {k : Nat}
theorem len_cheapest : ∀ ds Z, R_cheapest ds Z → ds.length = 2 := by
  intro ds Z h
  unfold R_cheapest at h
  repeat (obtain ⟨e, h⟩ := h; try subst e)
  all_goals rfl
theorem len_l_least : ∀ ds Z, R_least ds Z → ds.length = 2 := by
  intro ds Z h
  unfold R_least at h
  repeat (obtain ⟨e, h⟩ := h; try subst e)
  all_goals rfl
theorem len_l_orders : ∀ ds Z, R_orders ds Z → ds.length = 1 := by
  intro ds Z h
  unfold R_orders at h
  repeat (obtain ⟨e, h⟩ := h; try subst e)
  all_goals rfl
theorem len_l_packs : ∀ S ds Z, R_packs S ds Z → ds.length + 1 = 1 := by
  intro S ds Z h
  unfold R_packs at h
  repeat (obtain ⟨e, h⟩ := h; try subst e)
  all_goals rfl
theorem len_worth_alone : ∀ ds Z, R_worth ds Z → ds.length = 2 := by
  intro ds Z h
  unfold R_worth at h
  repeat (obtain ⟨e, h⟩ := h; try subst e)
  all_goals rfl
theorem len_l_fault : ∀ ds Z, R_cfault ds Z → ds.length = 3 := by
  intro ds Z h
  unfold R_cfault at h
  repeat (obtain ⟨e, h⟩ := h; try subst e)
  all_goals rfl
theorem len_cheapest_fault : ∀ ds Z, R_cfault ds Z → ds.length = 3 := by
  intro ds Z h
  unfold R_cfault at h
  repeat (obtain ⟨e, h⟩ := h; try subst e)
  all_goals rfl
theorem len_one_more : ∀ ds Z, R_one_more ds Z → ds.length = 2 := by
  intro ds Z h
  unfold R_one_more at h
  repeat (obtain ⟨e, h⟩ := h; try subst e)
  all_goals rfl
theorem len_steady : ∀ ds Z, R_steady ds Z → ds.length = 2 := by
  intro ds Z h
  unfold R_steady at h
  repeat (obtain ⟨e, h⟩ := h; try subst e)
  all_goals rfl
theorem len_orders_of : ∀ ds Z, R_orders ds Z → ds.length = 1 := by
  intro ds Z h
  unfold R_orders at h
  repeat (obtain ⟨e, h⟩ := h; try subst e)
  all_goals rfl
theorem len_fair_parts : ∀ ds Z, R_fair ds Z → ds.length = 2 := by
  intro ds Z h
  unfold R_fair at h
  repeat (obtain ⟨e, h⟩ := h; try subst e)
  all_goals rfl
theorem len_refunds : ∀ ds Z, R_refunds ds Z → ds.length = 2 := by
  intro ds Z h
  unfold R_refunds at h
  repeat (obtain ⟨e, h⟩ := h; try subst e)
  all_goals rfl
theorem len_shared : ∀ ds Z, R_shared ds Z → ds.length = 2 := by
  intro ds Z h
  unfold R_shared at h
  repeat (obtain ⟨e, h⟩ := h; try subst e)
  all_goals rfl
theorem len_shared_fault : ∀ ds Z, R_sfault ds Z → ds.length = 3 := by
  intro ds Z h
  unfold R_sfault at h
  repeat (obtain ⟨e, h⟩ := h; try subst e)
  all_goals rfl
theorem len_l_shares_right : ∀ S ds Z, R_right S ds Z → ds.length + 1 = 1 := by
  intro S ds Z h
  unfold R_right at h
  repeat (obtain ⟨e, h⟩ := h; try subst e)
  all_goals rfl
theorem len_law : ∀ ds Z, R_law ds Z → ds.length = 1 := by
  intro ds Z h
  unfold R_law at h
  repeat (obtain ⟨e, h⟩ := h; try subst e)
  all_goals rfl
end
theorem all_mk {l : PySem.W.OpenLaw} {w : World} {K : PySem.W.Frag} {h : Heap} {mg : Str → Option Value} {fa f1 f2 f3 f4 f5 f6 f7 f8 f9 f10 f11 f12 f13 f14 f15 f16 f17 f18 : Addr} (X : K.In h) (G : h.Ns mainGlobals mg) (hfa : mg "law" = some (.ref fa))
    {od1 an1 od2 an2 od3 an3 od4 an4 od5 an5 od6 an6 od7 an7 od8 an8 od9 an9 od10 an10 od11 an11 od12 an12 od13 an13 od14 an14 od15 an15 od16 an16 od17 an17 od18 an18 : Option Addr} {sl1 sl2 sl3 sl4 sl5 sl6 sl7 sl8 sl9 sl10 sl11 sl12 sl13 sl14 sl15 sl16 sl17 sl18 : Array (Option Value)}
    {oc1 kV1 dc1 pm1 cd1 ct1 oc2 kV2 dc2 pm2 cd2 ct2 oc3 kV3 dc3 pm3 cd3 ct3 oc4 kV4 dc4 pm4 cd4 ct4 oc5 kV5 dc5 pm5 cd5 ct5 oc6 kV6 dc6 pm6 cd6 ct6 oc7 kV7 dc7 pm7 cd7 ct7 oc8 kV8 dc8 pm8 cd8 ct8 oc9 kV9 dc9 pm9 cd9 ct9 oc10 kV10 dc10 pm10 cd10 ct10 oc11 kV11 dc11 pm11 cd11 ct11 oc12 kV12 dc12 pm12 cd12 ct12 oc13 kV13 dc13 pm13 cd13 ct13 oc14 kV14 dc14 pm14 cd14 ct14 oc15 kV15 dc15 pm15 cd15 ct15 oc16 kV16 dc16 pm16 cd16 ct16 oc17 kV17 dc17 pm17 cd17 ct17 oc18 kV18 dc18 pm18 cd18 ct18 : Value}
    (a1 : PySem.W.nsIn K mainGlobals "cheapest" = some (some (.ref f1))) (l1 : K.lookup f1 = some ⟨oc1, od1, .func (PySem.W.fnOf "cheapest" "cheapest" (defArgs s_cheapest) (defBody s_cheapest) (defScope s_cheapest) .none kV1 dc1 pm1 an1 cd1 ct1), sl1⟩) (c1 : PySem.W.codeIn K cd1 "cheapest" = true) (k1 : PySem.W.keepIn K (.ref f1) = true)
    (a2 : PySem.W.nsIn K mainGlobals "cheapest_fault" = some (some (.ref f2))) (l2 : K.lookup f2 = some ⟨oc2, od2, .func (PySem.W.fnOf "cheapest_fault" "cheapest_fault" (defArgs s_cheapest_fault) (defBody s_cheapest_fault) (defScope s_cheapest_fault) .none kV2 dc2 pm2 an2 cd2 ct2), sl2⟩) (c2 : PySem.W.codeIn K cd2 "cheapest_fault" = true) (k2 : PySem.W.keepIn K (.ref f2) = true)
    (a3 : PySem.W.nsIn K mainGlobals "one_more" = some (some (.ref f3))) (l3 : K.lookup f3 = some ⟨oc3, od3, .func (PySem.W.fnOf "one_more" "one_more" (defArgs s_one_more) (defBody s_one_more) (defScope s_one_more) .none kV3 dc3 pm3 an3 cd3 ct3), sl3⟩) (c3 : PySem.W.codeIn K cd3 "one_more" = true) (k3 : PySem.W.keepIn K (.ref f3) = true)
    (a4 : PySem.W.nsIn K mainGlobals "steady" = some (some (.ref f4))) (l4 : K.lookup f4 = some ⟨oc4, od4, .func (PySem.W.fnOf "steady" "steady" (defArgs s_steady) (defBody s_steady) (defScope s_steady) .none kV4 dc4 pm4 an4 cd4 ct4), sl4⟩) (c4 : PySem.W.codeIn K cd4 "steady" = true) (k4 : PySem.W.keepIn K (.ref f4) = true)
    (a5 : PySem.W.nsIn K mainGlobals "shared" = some (some (.ref f5))) (l5 : K.lookup f5 = some ⟨oc5, od5, .func (PySem.W.fnOf "shared" "shared" (defArgs s_shared) (defBody s_shared) (defScope s_shared) .none kV5 dc5 pm5 an5 cd5 ct5), sl5⟩) (c5 : PySem.W.codeIn K cd5 "shared" = true) (k5 : PySem.W.keepIn K (.ref f5) = true)
    (a6 : PySem.W.nsIn K mainGlobals "shared_fault" = some (some (.ref f6))) (l6 : K.lookup f6 = some ⟨oc6, od6, .func (PySem.W.fnOf "shared_fault" "shared_fault" (defArgs s_shared_fault) (defBody s_shared_fault) (defScope s_shared_fault) .none kV6 dc6 pm6 an6 cd6 ct6), sl6⟩) (c6 : PySem.W.codeIn K cd6 "shared_fault" = true) (k6 : PySem.W.keepIn K (.ref f6) = true)
    (a7 : PySem.W.nsIn K mainGlobals "worth_alone" = some (some (.ref f7))) (l7 : K.lookup f7 = some ⟨oc7, od7, .func (PySem.W.fnOf "worth_alone" "worth_alone" (defArgs s_worth_alone) (defBody s_worth_alone) (defScope s_worth_alone) .none kV7 dc7 pm7 an7 cd7 ct7), sl7⟩) (c7 : PySem.W.codeIn K cd7 "worth_alone" = true) (k7 : PySem.W.keepIn K (.ref f7) = true)
    (a8 : PySem.W.nsIn K mainGlobals "orders_of" = some (some (.ref f8))) (l8 : K.lookup f8 = some ⟨oc8, od8, .func (PySem.W.fnOf "orders_of" "orders_of" (defArgs s_orders_of) (defBody s_orders_of) (defScope s_orders_of) .none kV8 dc8 pm8 an8 cd8 ct8), sl8⟩) (c8 : PySem.W.codeIn K cd8 "orders_of" = true) (k8 : PySem.W.keepIn K (.ref f8) = true)
    (a9 : PySem.W.nsIn K mainGlobals "fair_parts" = some (some (.ref f9))) (l9 : K.lookup f9 = some ⟨oc9, od9, .func (PySem.W.fnOf "fair_parts" "fair_parts" (defArgs s_fair_parts) (defBody s_fair_parts) (defScope s_fair_parts) .none kV9 dc9 pm9 an9 cd9 ct9), sl9⟩) (c9 : PySem.W.codeIn K cd9 "fair_parts" = true) (k9 : PySem.W.keepIn K (.ref f9) = true)
    (a10 : PySem.W.nsIn K mainGlobals "refunds" = some (some (.ref f10))) (l10 : K.lookup f10 = some ⟨oc10, od10, .func (PySem.W.fnOf "refunds" "refunds" (defArgs s_refunds) (defBody s_refunds) (defScope s_refunds) .none kV10 dc10 pm10 an10 cd10 ct10), sl10⟩) (c10 : PySem.W.codeIn K cd10 "refunds" = true) (k10 : PySem.W.keepIn K (.ref f10) = true)
    (a11 : PySem.W.nsIn K mainGlobals "_law_state" = some (some (.ref f11))) (l11 : K.lookup f11 = some ⟨oc11, od11, .func (PySem.W.fnOf "_law_state" "_law_state" (defArgs s_l_state) (defBody s_l_state) (defScope s_l_state) .none kV11 dc11 pm11 an11 cd11 ct11), sl11⟩) (c11 : PySem.W.codeIn K cd11 "_law_state" = true) (k11 : PySem.W.keepIn K (.ref f11) = true)
    (a12 : PySem.W.nsIn K mainGlobals "_law_take" = some (some (.ref f12))) (l12 : K.lookup f12 = some ⟨oc12, od12, .func (PySem.W.fnOf "_law_take" "_law_take" (defArgs s_l_take) (defBody s_l_take) (defScope s_l_take) .none kV12 dc12 pm12 an12 cd12 ct12), sl12⟩) (c12 : PySem.W.codeIn K cd12 "_law_take" = true) (k12 : PySem.W.keepIn K (.ref f12) = true)
    (a13 : PySem.W.nsIn K mainGlobals "_law_packs" = some (some (.ref f13))) (l13 : K.lookup f13 = some ⟨oc13, od13, .func (PySem.W.fnOf "_law_packs" "_law_packs" (defArgs s_l_packs) (defBody s_l_packs) (defScope s_l_packs) .none kV13 dc13 pm13 an13 cd13 ct13), sl13⟩) (c13 : PySem.W.codeIn K cd13 "_law_packs" = true) (k13 : PySem.W.keepIn K (.ref f13) = true)
    (a14 : PySem.W.nsIn K mainGlobals "_law_least" = some (some (.ref f14))) (l14 : K.lookup f14 = some ⟨oc14, od14, .func (PySem.W.fnOf "_law_least" "_law_least" (defArgs s_l_least) (defBody s_l_least) (defScope s_l_least) .none kV14 dc14 pm14 an14 cd14 ct14), sl14⟩) (c14 : PySem.W.codeIn K cd14 "_law_least" = true) (k14 : PySem.W.keepIn K (.ref f14) = true)
    (a15 : PySem.W.nsIn K mainGlobals "_law_fault" = some (some (.ref f15))) (l15 : K.lookup f15 = some ⟨oc15, od15, .func (PySem.W.fnOf "_law_fault" "_law_fault" (defArgs s_l_fault) (defBody s_l_fault) (defScope s_l_fault) .none kV15 dc15 pm15 an15 cd15 ct15), sl15⟩) (c15 : PySem.W.codeIn K cd15 "_law_fault" = true) (k15 : PySem.W.keepIn K (.ref f15) = true)
    (a16 : PySem.W.nsIn K mainGlobals "_law_orders" = some (some (.ref f16))) (l16 : K.lookup f16 = some ⟨oc16, od16, .func (PySem.W.fnOf "_law_orders" "_law_orders" (defArgs s_l_orders) (defBody s_l_orders) (defScope s_l_orders) .none kV16 dc16 pm16 an16 cd16 ct16), sl16⟩) (c16 : PySem.W.codeIn K cd16 "_law_orders" = true) (k16 : PySem.W.keepIn K (.ref f16) = true)
    (a17 : PySem.W.nsIn K mainGlobals "_law_shares_right" = some (some (.ref f17))) (l17 : K.lookup f17 = some ⟨oc17, od17, .func (PySem.W.fnOf "_law_shares_right" "_law_shares_right" (defArgs s_l_shares_right) (defBody s_l_shares_right) (defScope s_l_shares_right) .none kV17 dc17 pm17 an17 cd17 ct17), sl17⟩) (c17 : PySem.W.codeIn K cd17 "_law_shares_right" = true) (k17 : PySem.W.keepIn K (.ref f17) = true)
    (a18 : PySem.W.nsIn K mainGlobals "law" = some (some (.ref f18))) (l18 : K.lookup f18 = some ⟨oc18, od18, .func (PySem.W.fnOf "law" "law" (defArgs s_law) (defBody s_law) (defScope s_law) .none kV18 dc18 pm18 an18 cd18 ct18), sl18⟩) (c18 : PySem.W.codeIn K cd18 "law" = true) (k18 : PySem.W.keepIn K (.ref f18) = true)
    (z1 : PySem.W.nsIn K mainGlobals "len" = some none) (z2 : PySem.W.nsIn K mainGlobals "range" = some none) (z3 : PySem.W.nsIn K mainGlobals "min" = some none) (z4 : PySem.W.nsIn K mainGlobals "max" = some none) (z5 : PySem.W.nsIn K mainGlobals "abs" = some none) (z6 : PySem.W.nsIn K mainGlobals "sum" = some none) (z7 : PySem.W.nsIn K mainGlobals "int" = some none) (z8 : PySem.W.nsIn K mainGlobals "list" = some none) (z9 : PySem.W.nsIn K mainGlobals "tuple" = some none) (z10 : PySem.W.nsIn K mainGlobals "sorted" = some none) (z11 : PySem.W.nsIn K mainGlobals "isinstance" = some none) (z12 : PySem.W.nsIn K mainGlobals "enumerate" = some none) (z13 : PySem.W.nsIn K mainGlobals "zip" = some none) (z14 : PySem.W.nsIn K mainGlobals "set" = some none) (z15 : PySem.W.nsIn K mainGlobals "repr" = some none) (z16 : PySem.W.nsIn K mainGlobals "all" = some none) (z17 : PySem.W.nsIn K mainGlobals "any" = some none) (z18 : PySem.W.nsIn K mainGlobals "dict" = some none) (z19 : PySem.W.nsIn K mainGlobals "reversed" = some none) (z20 : PySem.W.nsIn K mainGlobals "str" = some none) :
    ∃ fd : FuncData, (∀ (s : Shared) (v : Value), BindsTo s fd ⟨[v], []⟩ [("script", v)]) ∧ ∀ base : Heap, K.In base → base.Ns mainGlobals mg → FnOk l.prog w K mg base CX0 4 fa fd ["script"] (spP R_law) := by
  have e := hfa.symm.trans (PySem.W.mg_of X G a18)
  cases e
  have bn : Bn mg := ⟨PySem.W.mg_none_of X G z1, PySem.W.mg_none_of X G z2, PySem.W.mg_none_of X G z3, PySem.W.mg_none_of X G z4, PySem.W.mg_none_of X G z5, PySem.W.mg_none_of X G z6, PySem.W.mg_none_of X G z7, PySem.W.mg_none_of X G z8, PySem.W.mg_none_of X G z9, PySem.W.mg_none_of X G z10, PySem.W.mg_none_of X G z11, PySem.W.mg_none_of X G z12, PySem.W.mg_none_of X G z13, PySem.W.mg_none_of X G z14, PySem.W.mg_none_of X G z15, PySem.W.mg_none_of X G z16, PySem.W.mg_none_of X G z17, PySem.W.mg_none_of X G z18, PySem.W.mg_none_of X G z19, PySem.W.mg_none_of X G z20⟩
  have F1 := fun_mk (st := s_cheapest) l1 c1 k1
  have b1 := F1.binds (ps := ["packs", "many"]) fun _ _ _ _ _ _ us hl => match us, hl with | [_, _], _ => rfl
  have F2 := fun_mk (st := s_cheapest_fault) l2 c2 k2
  have b2 := F2.binds (ps := ["packs", "many", "told"]) fun _ _ _ _ _ _ us hl => match us, hl with | [_, _, _], _ => rfl
  have F3 := fun_mk (st := s_one_more) l3 c3 k3
  have b3 := F3.binds (ps := ["packs", "many"]) fun _ _ _ _ _ _ us hl => match us, hl with | [_, _], _ => rfl
  have F4 := fun_mk (st := s_steady) l4 c4 k4
  have b4 := F4.binds (ps := ["packs", "many"]) fun _ _ _ _ _ _ us hl => match us, hl with | [_, _], _ => rfl
  have F5 := fun_mk (st := s_shared) l5 c5 k5
  have b5 := F5.binds (ps := ["cents", "weights"]) fun _ _ _ _ _ _ us hl => match us, hl with | [_, _], _ => rfl
  have F6 := fun_mk (st := s_shared_fault) l6 c6 k6
  have b6 := F6.binds (ps := ["cents", "weights", "parts"]) fun _ _ _ _ _ _ us hl => match us, hl with | [_, _, _], _ => rfl
  have F7 := fun_mk (st := s_worth_alone) l7 c7 k7
  have b7 := F7.binds (ps := ["packs", "needs"]) fun _ _ _ _ _ _ us hl => match us, hl with | [_, _], _ => rfl
  have F8 := fun_mk (st := s_orders_of) l8 c8 k8
  have b8 := F8.binds (ps := ["many"]) fun _ _ _ _ _ _ us hl => match us, hl with | [_], _ => rfl
  have F9 := fun_mk (st := s_fair_parts) l9 c9 k9
  have b9 := F9.binds (ps := ["packs", "needs"]) fun _ _ _ _ _ _ us hl => match us, hl with | [_, _], _ => rfl
  have F10 := fun_mk (st := s_refunds) l10 c10 k10
  have b10 := F10.binds (ps := ["paid", "due"]) fun _ _ _ _ _ _ us hl => match us, hl with | [_, _], _ => rfl
  have F11 := fun_mk (st := s_l_state) l11 c11 k11
  have b11 := F11.binds (ps := ["script"]) fun _ _ _ _ _ _ us hl => match us, hl with | [_], _ => rfl
  have F12 := fun_mk (st := s_l_take) l12 c12 k12
  have b12 := F12.binds (ps := ["state", "most"]) fun _ _ _ _ _ _ us hl => match us, hl with | [_, _], _ => rfl
  have F13 := fun_mk (st := s_l_packs) l13 c13 k13
  have b13 := F13.binds (ps := ["state"]) fun _ _ _ _ _ _ us hl => match us, hl with | [_], _ => rfl
  have F14 := fun_mk (st := s_l_least) l14 c14 k14
  have b14 := F14.binds (ps := ["packs", "many"]) fun _ _ _ _ _ _ us hl => match us, hl with | [_, _], _ => rfl
  have F15 := fun_mk (st := s_l_fault) l15 c15 k15
  have b15 := F15.binds (ps := ["packs", "many", "told"]) fun _ _ _ _ _ _ us hl => match us, hl with | [_, _, _], _ => rfl
  have F16 := fun_mk (st := s_l_orders) l16 c16 k16
  have b16 := F16.binds (ps := ["many"]) fun _ _ _ _ _ _ us hl => match us, hl with | [_], _ => rfl
  have F17 := fun_mk (st := s_l_shares_right) l17 c17 k17
  have b17 := F17.binds (ps := ["state"]) fun _ _ _ _ _ _ us hl => match us, hl with | [_], _ => rfl
  have F18 := fun_mk (st := s_law) l18 c18 k18
  have b18 := F18.binds (ps := ["script"]) fun _ _ _ _ _ _ us hl => match us, hl with | [_], _ => rfl
  refine ⟨PySem.W.fnOf "law" "law" (defArgs s_law) (defBody s_law) (defScope s_law) .none kV18 dc18 pm18 an18 cd18 ct18, fun s v => .of_eq rfl, fun base _ _ => ?_⟩
  have C_l_state : Cal l.prog w K mg base "_law_state" ["script"] (spN R_state) 1 := ⟨_, _, fn_newstate (k := 0) F11 sc_l_state fun cdv A outer s H E hr => ps_l_state bn hr, PySem.W.mg_of X G a11, F11.kp, b11⟩
  have C_cheapest : Cal l.prog w K mg base "cheapest" ["packs", "many"] (spP R_cheapest) 1 := ⟨_, _, ok_cheapest (k := 0) F1 bn len_cheapest (sx_cheapest K), PySem.W.mg_of X G a1, F1.kp, b1⟩
  have C_l_least : Cal l.prog w K mg base "_law_least" ["packs", "many"] (spP R_least) 1 := ⟨_, _, ok_l_least (k := 0) F14 bn len_l_least (sx_l_least K), PySem.W.mg_of X G a14, F14.kp, b14⟩
  have C_l_orders : Cal l.prog w K mg base "_law_orders" ["many"] (spP R_orders) 1 := ⟨_, _, ok_l_orders (k := 0) F16 bn len_l_orders (sx_l_orders K), PySem.W.mg_of X G a16, F16.kp, b16⟩
  have C_l_take : Cal l.prog w K mg base "_law_take" ["state", "most"] (spS R_take) 1 := ⟨_, _, fn_take (k := 0) F12 sc_l_take fun cdv A outer s H E hr => ps_l_take bn hr, PySem.W.mg_of X G a12, F12.kp, b12⟩
  have C_l_packs : Cal l.prog w K mg base "_law_packs" ["state"] (spS R_packs) 2 := ⟨_, _, ok_l_packs (k := 1) F13 bn C_l_take (by decide) len_l_packs (sx_l_packs K), PySem.W.mg_of X G a13, F13.kp, b13⟩
  have C_worth_alone : Cal l.prog w K mg base "worth_alone" ["packs", "needs"] (spP R_worth) 2 := ⟨_, _, ok_worth_alone (k := 1) F7 bn C_cheapest (by decide) len_worth_alone (sx_worth_alone K), PySem.W.mg_of X G a7, F7.kp, b7⟩
  have C_l_fault : Cal l.prog w K mg base "_law_fault" ["packs", "many", "told"] (spP R_cfault) 1 := ⟨_, _, ok_l_fault (k := 0) F15 bn len_l_fault (sx_l_fault K), PySem.W.mg_of X G a15, F15.kp, b15⟩
  have C_cheapest_fault : Cal l.prog w K mg base "cheapest_fault" ["packs", "many", "told"] (spP R_cfault) 1 := ⟨_, _, ok_cheapest_fault (k := 0) F2 bn len_cheapest_fault (sx_cheapest_fault K), PySem.W.mg_of X G a2, F2.kp, b2⟩
  have C_one_more : Cal l.prog w K mg base "one_more" ["packs", "many"] (spP R_one_more) 2 := ⟨_, _, ok_one_more (k := 1) F3 bn C_cheapest (by decide) len_one_more (sx_one_more K), PySem.W.mg_of X G a3, F3.kp, b3⟩
  have C_steady : Cal l.prog w K mg base "steady" ["packs", "many"] (spP R_steady) 3 := ⟨_, _, ok_steady (k := 2) F4 bn C_one_more (by decide) len_steady (sx_steady K), PySem.W.mg_of X G a4, F4.kp, b4⟩
  have C_orders_of : Cal l.prog w K mg base "orders_of" ["many"] (spP R_orders) 1 := ⟨_, _, ok_orders_of (k := 0) F8 bn len_orders_of (sx_orders_of K), PySem.W.mg_of X G a8, F8.kp, b8⟩
  have C_fair_parts : Cal l.prog w K mg base "fair_parts" ["packs", "needs"] (spP R_fair) 2 := ⟨_, _, ok_fair_parts (k := 1) F9 bn C_orders_of (by decide) C_cheapest (by decide) len_fair_parts (sx_fair_parts K), PySem.W.mg_of X G a9, F9.kp, b9⟩
  have C_refunds : Cal l.prog w K mg base "refunds" ["paid", "due"] (spP R_refunds) 1 := ⟨_, _, ok_refunds (k := 0) F10 bn len_refunds (sx_refunds K), PySem.W.mg_of X G a10, F10.kp, b10⟩
  have C_shared : Cal l.prog w K mg base "shared" ["cents", "weights"] (spP R_shared) 1 := ⟨_, _, ok_shared (k := 0) F5 bn len_shared (sx_shared K), PySem.W.mg_of X G a5, F5.kp, b5⟩
  have C_shared_fault : Cal l.prog w K mg base "shared_fault" ["cents", "weights", "parts"] (spP R_sfault) 1 := ⟨_, _, ok_shared_fault (k := 0) F6 bn len_shared_fault (sx_shared_fault K), PySem.W.mg_of X G a6, F6.kp, b6⟩
  have C_l_shares_right : Cal l.prog w K mg base "_law_shares_right" ["state"] (spS R_right) 2 := ⟨_, _, ok_l_shares_right (k := 1) F17 bn C_l_take (by decide) C_shared (by decide) C_shared_fault (by decide) len_l_shares_right (sx_l_shares_right K), PySem.W.mg_of X G a17, F17.kp, b17⟩
  exact ok_law (k := 3) F18 bn C_l_state (by decide) C_cheapest (by decide) C_l_least (by decide) C_l_orders (by decide) C_l_packs (by decide) C_l_take (by decide) C_worth_alone (by decide) C_l_fault (by decide) C_cheapest_fault (by decide) C_one_more (by decide) C_steady (by decide) C_fair_parts (by decide) C_refunds (by decide) C_l_shares_right (by decide) len_law (sx_law K)
theorem walk {l : PySem.W.OpenLaw} {q : Program} {loose : List Str} {XP : (Str → Option Value) → Heap → Prop} {YP : World → Heap → Prop} {d : DefRec} {K : Params → PySem.W.Frag} (hn : l.most = some 63) (hdf : d.params.defaults = [])
    (hY : ∀ (w : World) (h : Heap), YP w h → (K w.params).In h) (nl : ∀ w : World, noLs (K w.params) = true)
    (F : ∀ (w : World) (mg : Str → Option Value) (fa : Addr) (h : Heap), (K w.params).In h → h.Ns mainGlobals mg → mg d.name = some (.ref fa) →
      ∃ fd : FuncData, (∀ (s : Shared) (u : Value), BindsTo s fd ⟨[u], []⟩ [("script", u)]) ∧ ∀ base : Heap, (K w.params).In base → base.Ns mainGlobals mg → FnOk l.prog w (K w.params) mg base CX0 4 fa fd ["script"] (spP R_law)) :
    PySem.W.WalkO q loose XP YP l.row.toRowW d [] (fun f vs => PySem.call f vs) :=
  L2.walk_of (n := 63) (k := 4) (x := "script") (CX := fun _ => CX0) (sp := fun w => spP R_law) hn (by decide) hdf ⟨rfl, by decide, by decide⟩ hY F (fun w _ a ns hl _ hS => sp_law (nl w) hS ⟨ns, rfl, rfl⟩) fun _ _ _ _ _ z => z
end Law_k75
open PySem PySem.W PyProof.Rows
set_option maxHeartbeats 0 in
theorem PySem.Challenge.cw_firescore_k75_packs_by_all_counts_holds : PySem.Challenge.rw_firescore_k75_packs_by_all_counts.Holds := by
  w_on; o_law; k_head; (case hw => w_witness2)
  k_fill
  refine Law_k75.walk (l := PySem.Challenge.rw_firescore_k75_packs_by_all_counts) rfl rfl (fun w h Y => PySem.W.kIn_of Y) (fun w => ?NL) ?F
  case NL => rfl
  case F =>
    intro w mg fa h KX G hmg
    refine' Law_k75.all_mk KX G hmg ?a1 ?l1 ?c1 ?k1 ?a2 ?l2 ?c2 ?k2 ?a3 ?l3 ?c3 ?k3 ?a4 ?l4 ?c4 ?k4 ?a5 ?l5 ?c5 ?k5 ?a6 ?l6 ?c6 ?k6 ?a7 ?l7 ?c7 ?k7 ?a8 ?l8 ?c8 ?k8 ?a9 ?l9 ?c9 ?k9 ?a10 ?l10 ?c10 ?k10 ?a11 ?l11 ?c11 ?k11 ?a12 ?l12 ?c12 ?k12 ?a13 ?l13 ?c13 ?k13 ?a14 ?l14 ?c14 ?k14 ?a15 ?l15 ?c15 ?k15 ?a16 ?l16 ?c16 ?k16 ?a17 ?l17 ?c17 ?k17 ?a18 ?l18 ?c18 ?k18 ?z1 ?z2 ?z3 ?z4 ?z5 ?z6 ?z7 ?z8 ?z9 ?z10 ?z11 ?z12 ?z13 ?z14 ?z15 ?z16 ?z17 ?z18 ?z19 ?z20
    (case a1 => k_is); (case l1 => k_is); (case c1 => k_is); (case k1 => k_is)
    (case a2 => k_is); (case l2 => k_is); (case c2 => k_is); (case k2 => k_is)
    (case a3 => k_is); (case l3 => k_is); (case c3 => k_is); (case k3 => k_is)
    (case a4 => k_is); (case l4 => k_is); (case c4 => k_is); (case k4 => k_is)
    (case a5 => k_is); (case l5 => k_is); (case c5 => k_is); (case k5 => k_is)
    (case a6 => k_is); (case l6 => k_is); (case c6 => k_is); (case k6 => k_is)
    (case a7 => k_is); (case l7 => k_is); (case c7 => k_is); (case k7 => k_is)
    (case a8 => k_is); (case l8 => k_is); (case c8 => k_is); (case k8 => k_is)
    (case a9 => k_is); (case l9 => k_is); (case c9 => k_is); (case k9 => k_is)
    (case a10 => k_is); (case l10 => k_is); (case c10 => k_is); (case k10 => k_is)
    (case a11 => k_is); (case l11 => k_is); (case c11 => k_is); (case k11 => k_is)
    (case a12 => k_is); (case l12 => k_is); (case c12 => k_is); (case k12 => k_is)
    (case a13 => k_is); (case l13 => k_is); (case c13 => k_is); (case k13 => k_is)
    (case a14 => k_is); (case l14 => k_is); (case c14 => k_is); (case k14 => k_is)
    (case a15 => k_is); (case l15 => k_is); (case c15 => k_is); (case k15 => k_is)
    (case a16 => k_is); (case l16 => k_is); (case c16 => k_is); (case k16 => k_is)
    (case a17 => k_is); (case l17 => k_is); (case c17 => k_is); (case k17 => k_is)
    (case a18 => k_is); (case l18 => k_is); (case c18 => k_is); (case k18 => k_is)
    (case z1 => k_is)
    (case z2 => k_is)
    (case z3 => k_is)
    (case z4 => k_is)
    (case z5 => k_is)
    (case z6 => k_is)
    (case z7 => k_is)
    (case z8 => k_is)
    (case z9 => k_is)
    (case z10 => k_is)
    (case z11 => k_is)
    (case z12 => k_is)
    (case z13 => k_is)
    (case z14 => k_is)
    (case z15 => k_is)
    (case z16 => k_is)
    (case z17 => k_is)
    (case z18 => k_is)
    (case z19 => k_is)
    (case z20 => k_is)
