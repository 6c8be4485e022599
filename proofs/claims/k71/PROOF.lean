import PyProof.Rows.All
import Wide.All
import OpenK.AllK
import Wide.FinOn
import HandS.ForMost
import HandS.TupAny
import HandS.Zip
import KE.SortData
import KE.DataMinMax
import KE.DataEq
import KE.DataFind
import HandS.Style
import HandS.Dict
import KE.DatumIndex
import KE.GoesMore
import PySem.Challenge.RW_firescore_k71_whole_sounds
set_option Elab.async false
set_option linter.all false
set_option autoImplicit false
set_option maxRecDepth 100000
set_option maxHeartbeats 4000000
/-! Pu: the hand layer's readings over pure data: slots hold data, own lists, a state; no addresses. -/
namespace Pu
open PySem L2

abbrev D := PyData
mutual
/-- the value v reads as the datum d in the frozen part F of the heap -/
inductive Rp (F : Hp) : V → D → Prop
  | non : Rp F .non .none
  | bl (b : Bool) : Rp F (.bl b) (.bool b)
  | int (i : Int) : Rp F (.int i) (.int i)
  | str (x : Str) : Rp F (.str x) (.str x)
  | lst {a : Addr} {xs : List V} {ds : List D} : Rd F a (.lst xs) → RpA F xs ds → Rp F (.ref a) (.list ds)
  | tup {a : Addr} {xs : List V} {ds : List D} : F a = some (.tup xs) → RpA F xs ds → Rp F (.ref a) (.tuple ds)
inductive RpA (F : Hp) : List V → List D → Prop
  | nil : RpA F [] []
  | cons {v : V} {vs : List V} {d : D} {ds : List D} : Rp F v d → RpA F vs ds → RpA F (v :: vs) (d :: ds)
end
theorem rd_mono {F G : Hp} {a : Addr} {u : HO} (e : Same F G) (h : Rd F a u) : Rd G a u := by
  rcases h with h | ⟨o, h⟩
  · exact .inl (e _ _ h)
  · exact .inr ⟨o, e _ _ h⟩
mutual
theorem Rp.mono {F G : Hp} (e : Same F G) : ∀ (d : D) {v : V}, Rp F v d → Rp G v d
  | .none, _, h => by cases h; exact .non
  | .bool b, _, h => by cases h; exact .bl b
  | .int i, _, h => by cases h; exact .int i
  | .str x, _, h => by cases h; exact .str x
  | .list ds, _, h => by
    cases h with
    | lst h1 h2 => exact .lst (rd_mono e h1) (RpA.mono e ds h2)
  | .tuple ds, _, h => by
    cases h with
    | tup h1 h2 => exact .tup (e _ _ h1) (RpA.mono e ds h2)
  | .dict _, _, h => by cases h
theorem RpA.mono {F G : Hp} (e : Same F G) : ∀ (ds : List D) {vs : List V}, RpA F vs ds → RpA G vs ds
  | [], _, h => by cases h; exact .nil
  | d :: ds, _, h => by
    cases h with
    | cons h1 h2 => exact .cons (Rp.mono e d h1) (RpA.mono e ds h2)
end
theorem Rp.up {F G : Hp} {d : D} {v : V} (h : Rp F v d) (e : Same F G) : Rp G v d := Rp.mono e d h
theorem RpA.up {F G : Hp} {ds : List D} {vs : List V} (h : RpA F vs ds) (e : Same F G) : RpA G vs ds := RpA.mono e ds h
theorem sqL_rd {K : PySem.W.Frag} {F H : Hp} {a : Addr} {xs : List V} (h : Rd F a (.lst xs)) (e : Same F H) : SqL K H a xs := .inl (rd_mono e h)
theorem sqT_rd {K : PySem.W.Frag} {F H : Hp} {a : Addr} {xs : List V} (h : F a = some (.tup xs)) (e : Same F H) : SqT K H a xs := .inl (.inl (e _ _ h))
mutual
theorem Rp.dp {K : PySem.W.Frag} {F H : Hp} (e : Same F H) : ∀ (d : D) {v : V}, Rp F v d → Dp K H v d
  | .none, _, h => by cases h; exact .non
  | .bool b, _, h => by cases h; exact .bl b
  | .int i, _, h => by cases h; exact .int i
  | .str x, _, h => by cases h; exact .str x
  | .list ds, _, h => by
    cases h with
    | lst h1 h2 => exact .lst (sqL_rd h1 e) (RpA.dp e ds h2)
  | .tuple ds, _, h => by
    cases h with
    | tup h1 h2 => exact .tup (sqT_rd h1 e) (RpA.dp e ds h2)
  | .dict _, _, h => by cases h
theorem RpA.dp {K : PySem.W.Frag} {F H : Hp} (e : Same F H) : ∀ (ds : List D) {vs : List V}, RpA F vs ds → DpAll K H vs ds
  | [], _, h => by cases h; exact .nil
  | d :: ds, _, h => by
    cases h with
    | cons h1 h2 => exact .cons (Rp.dp e d h1) (RpA.dp e ds h2)
end
section
variable {F : Hp}
theorem Rp.int_inv {v : V} {i : Int} (h : Rp F v (.int i)) : v = .int i := by cases h; rfl
theorem Rp.bl_inv {v : V} {b : Bool} (h : Rp F v (.bool b)) : v = .bl b := by cases h; rfl
theorem Rp.str_inv {v : V} {x : Str} (h : Rp F v (.str x)) : v = .str x := by cases h; rfl
theorem Rp.non_inv {v : V} (h : Rp F v .none) : v = .non := by cases h; rfl
theorem Rp.lst_inv {v : V} {ds : List D} (h : Rp F v (.list ds)) : ∃ a xs, v = .ref a ∧ Rd F a (.lst xs) ∧ RpA F xs ds := by
  cases h with
  | lst h1 h2 => exact ⟨_, _, rfl, h1, h2⟩
theorem Rp.tup_inv {v : V} {ds : List D} (h : Rp F v (.tuple ds)) : ∃ a xs, v = .ref a ∧ F a = some (.tup xs) ∧ RpA F xs ds := by
  cases h with
  | tup h1 h2 => exact ⟨_, _, rfl, h1, h2⟩
theorem RpA.len : ∀ {vs : List V} {ds : List D}, RpA F vs ds → vs.length = ds.length
  | _, [], h => by cases h; rfl
  | _, d :: ds, h => by
    cases h with
    | cons h1 h2 => simp [RpA.len h2]
theorem RpA.get : ∀ {vs : List V} {ds : List D} {k : Nat} {d : D}, RpA F vs ds → ds[k]? = some d → ∃ v, vs[k]? = some v ∧ Rp F v d
  | _, [], k, d, h, e => by simp at e
  | _, a :: ds, 0, d, h, e => by
    cases h with
    | cons h1 h2 =>
      simp at e
      subst e
      exact ⟨_, rfl, h1⟩
  | _, a :: ds, k + 1, d, h, e => by
    cases h with
    | cons h1 h2 =>
      obtain ⟨v, e1, e2⟩ := RpA.get (k := k) h2 (by simpa using e)
      exact ⟨v, by simpa using e1, e2⟩
theorem RpA.get' : ∀ {vs : List V} {ds : List D} {k : Nat} {v : V}, RpA F vs ds → vs[k]? = some v → ∃ d, ds[k]? = some d ∧ Rp F v d := fun {vs ds k v} h e => by
  have hk : k < ds.length := by rw [← h.len]; exact (List.getElem?_eq_some_iff.mp e).1
  obtain ⟨w, e1, e2⟩ := h.get (List.getElem?_eq_getElem hk)
  rw [e] at e1
  cases e1
  exact ⟨_, List.getElem?_eq_getElem hk, e2⟩
theorem RpA.app : ∀ {vs ws : List V} {ds es : List D}, RpA F vs ds → RpA F ws es → RpA F (vs ++ ws) (ds ++ es)
  | _, _, [], es, h, g => by cases h; exact g
  | _, _, d :: ds, es, h, g => by
    cases h with
    | cons h1 h2 => exact .cons h1 (RpA.app h2 g)
theorem RpA.take : ∀ {vs : List V} {ds : List D} (n : Nat), RpA F vs ds → RpA F (vs.take n) (ds.take n)
  | _, _, 0, h => by simp; exact .nil
  | _, [], n + 1, h => by cases h; exact .nil
  | _, d :: ds, n + 1, h => by
    cases h with
    | cons h1 h2 => exact .cons h1 (RpA.take n h2)
theorem RpA.drop : ∀ {vs : List V} {ds : List D} (n : Nat), RpA F vs ds → RpA F (vs.drop n) (ds.drop n)
  | _, _, 0, h => by simpa using h
  | _, [], n + 1, h => by cases h; exact .nil
  | _, d :: ds, n + 1, h => by
    cases h with
    | cons h1 h2 => exact RpA.drop n h2
theorem RpA.set : ∀ {vs : List V} {ds : List D} {v : V} {d : D} (n : Nat), RpA F vs ds → Rp F v d → RpA F (vs.set n v) (ds.set n d)
  | _, [], _, _, n, h, g => by cases h; exact .nil
  | _, e :: ds, _, _, 0, h, g => by
    cases h with
    | cons h1 h2 => exact .cons g h2
  | _, e :: ds, _, _, n + 1, h, g => by
    cases h with
    | cons h1 h2 => exact .cons h1 (RpA.set n h2 g)
theorem RpA.ints : ∀ (ns : List Int), RpA F (ns.map V.int) (ns.map PyData.int)
  | [] => .nil
  | n :: ns => .cons (.int n) (RpA.ints ns)
theorem RpA.ints_inv : ∀ {ns : List Int} {vs : List V}, RpA F vs (ns.map PyData.int) → vs = ns.map V.int
  | [], _, h => by cases h; rfl
  | n :: ns, _, h => by
    cases h with
    | cons h1 h2 =>
      rw [h1.int_inv, RpA.ints_inv h2]
      rfl
theorem RpA.rev {vs : List V} {ds : List D} (h : RpA F vs ds) : RpA F vs.reverse ds.reverse := by
  induction ds generalizing vs with
  | nil => cases h; exact .nil
  | cons d ds ih =>
    cases h with
    | cons h1 h2 =>
      rw [List.reverse_cons, List.reverse_cons]
      exact (ih h2).app (.cons h1 .nil)
end

/-! ### state, slots, the world -/
inductive Stt where
  | two (a b : Int)
  | cel (a : Int) (cs : List Int)
  | dct (kvs : List (Int × Int))
def StAt (H : Hp) : Stt → Addr → List Addr → Prop
  | .two a b, s, as => as = [s] ∧ H s = some (.lst [.int a, .int b])
  | .cel a cs, s, as => ∃ c, as = [s, c] ∧ s ≠ c ∧ H s = some (.lst [.int a, .ref c]) ∧ H c = some (.lst (cs.map V.int))
  | .dct kvs, s, as => as = [s] ∧ H s = some (.dK (kvs.map fun p => ((.inl p.1 : Key), V.int p.2)))
inductive Slot where
  | emp
  | val (d : D)
  | own (ds : List D)
  | st (S : Stt)
abbrev Env := List Slot
structure Base where
  F0 : Hp
  H0 : Hp
  M : Addr → Prop
  pin : Option (Addr × List Addr) := none
/-- from (F, H) to (F', H'): all is kept but what M has -/
structure Gr (M : Addr → Prop) (F H F' H' : Hp) : Prop where
  ff : Same F F'
  fh : Same F' H'
  kp : ∀ a o, H a = some o → ¬ M a → H' a = some o
  al : ∀ a, H a ≠ none → H' a ≠ none
  fr : ∀ a, H a ≠ none → F a = none → F' a = none
theorem Gr.refl {M : Addr → Prop} {F H : Hp} (e : Same F H) : Gr M F H F H := ⟨Same.refl F, e, fun _ _ h _ => h, fun _ h => h, fun _ _ h => h⟩
theorem Gr.trans {M M1 M2 : Addr → Prop} {F H F1 H1 F2 H2 : Hp} (a : Gr M1 F H F1 H1) (b : Gr M2 F1 H1 F2 H2) (i1 : ∀ x, H x ≠ none → M1 x → M x) (i2 : ∀ x, H x ≠ none → M2 x → M x) : Gr M F H F2 H2 :=
  ⟨a.ff.trans b.ff, b.fh, fun x o h m => b.kp x o (a.kp x o h fun z => m (i1 x (by rw [h]; intro q; cases q) z)) fun z => m (i2 x (by rw [h]; intro q; cases q) z), fun x h => b.al x (a.al x h), fun x h e => b.fr x (a.al x h) (a.fr x h e)⟩
/-- nothing changes -/
abbrev Non : Addr → Prop := fun _ => False

def SlotOk (B : Base) (F H : Hp) : Slot → Option (Option V) → List Addr → Prop
  | .emp, _, as => as = []
  | .val d, x, as => as = [] ∧ ∃ v, x = some (some v) ∧ Rp F v d
  | .own ds, x, as => ∃ p vs, as = [p] ∧ B.H0 p = none ∧ x = some (some (.ref p)) ∧ H p = some (.lst vs) ∧ RpA F vs ds
  | .st S, x, as => ∃ s, x = some (some (.ref s)) ∧ StAt H S s as
/-- a state that came as the first argument stays where it is -/
def PinOk (B : Base) (ad : Nat → List Addr) (ρ : Env) (σ : St) : Prop := ∀ s as, B.pin = some (s, as) → ∀ S, ρ[0]? = some (Slot.st S) → σ[0]? = some (some (.ref s)) ∧ ad 0 = as
theorem PinOk.to {B : Base} {ad ad' : Nat → List Addr} {ρ ρ' : Env} {σ σ' : St} (h : PinOk B ad ρ σ) (k : ∀ S, ρ'[0]? = some (Slot.st S) → (∃ S', ρ[0]? = some (Slot.st S')) ∧ σ'[0]? = σ[0]? ∧ ad' 0 = ad 0) : PinOk B ad' ρ' σ' := fun s as e S q => by
  obtain ⟨⟨S', e1⟩, e2, e3⟩ := k S q
  rw [e2, e3]
  exact h s as e S' e1
structure WA (B : Base) (ad : Nat → List Addr) (ρ : Env) (σ : St) (F H : Hp) : Prop where
  gr : Gr B.M B.F0 B.H0 F H
  len : σ.length = ρ.length
  sl : ∀ i s, ρ[i]? = some s → SlotOk B F H s σ[i]? (ad i)
  fz : ∀ i p, p ∈ ad i → F p = none ∧ (B.H0 p = none ∨ B.M p)
  dj : ∀ i j p, p ∈ ad i → p ∈ ad j → i = j
  out : ∀ i, ρ[i]? = none → ad i = []
  pin : PinOk B ad ρ σ
def W (B : Base) (ρ : Env) (σ : St) (F H : Hp) : Prop := ∃ ad, WA B ad ρ σ F H
/-- the addresses of the states -/
def MS (ad : Nat → List Addr) (ρ : Env) (a : Addr) : Prop := ∃ (i : Nat) (S : Stt), ρ[i]? = some (Slot.st S) ∧ a ∈ ad i
/-- behind an expression -/
structure Post (B : Base) (ad : Nat → List Addr) (σ : St) (ρ : Env) (F H : Hp) (ρ' : Env) (F' H' : Hp) : Prop where
  wa : WA B ad ρ' σ F' H'
  gr : Gr (MS ad ρ) F H F' H'
  sh : ∀ (i : Nat) (S' : Stt), ρ'[i]? = some (Slot.st S') → ∃ S, ρ[i]? = some (Slot.st S)
section
variable {B : Base} {ad : Nat → List Addr} {ρ ρ' ρ1 ρ2 : Env} {σ : St} {F H F' H' F1 H1 F2 H2 : Hp}
theorem Post.refl (w : WA B ad ρ σ F H) : Post B ad σ ρ F H ρ F H := ⟨w, Gr.refl w.gr.fh, fun i S h => ⟨S, h⟩⟩
theorem Post.trans (a : Post B ad σ ρ F H ρ1 F1 H1) (b : Post B ad σ ρ1 F1 H1 ρ2 F2 H2) : Post B ad σ ρ F H ρ2 F2 H2 :=
  ⟨b.wa, a.gr.trans b.gr (fun _ _ h => h) fun x _ ⟨i, S, h, m⟩ => let ⟨S', h'⟩ := a.sh i S h; ⟨i, S', h', m⟩, fun i S h => let ⟨S1, h1⟩ := b.sh i S h; a.sh i S1 h1⟩
theorem WA.lv (w : WA B ad ρ σ F H) {i : Nat} {p : Addr} (h : p ∈ ad i) : H p ≠ none := by
  cases e : ρ[i]? with
  | none => rw [w.out i e] at h; cases h
  | some s =>
    have k := w.sl i s e
    cases s with
    | emp => have k : ad i = [] := k; rw [k] at h; cases h
    | val d => have k : ad i = [] := k.1; rw [k] at h; cases h
    | own ds =>
      obtain ⟨q, vs, k, _, _, k2, _⟩ := k
      rw [k] at h
      have e : p = q := by simpa using h
      rw [e, k2]
      intro z; cases z
    | st S =>
      obtain ⟨s, _, k⟩ := k
      cases S with
      | two a b =>
        obtain ⟨k, k2⟩ := k
        rw [k] at h
        have e : p = s := by simpa using h
        rw [e, k2]
        intro z; cases z
      | dct kvs =>
        obtain ⟨k, k2⟩ := k
        rw [k] at h
        have e : p = s := by simpa using h
        rw [e, k2]
        intro z; cases z
      | cel a cs =>
        obtain ⟨c, k, _, k2, k3⟩ := k
        rw [k] at h
        have e : p = s ∨ p = c := by simpa using h
        rcases e with e | e
        · rw [e, k2]
          intro z; cases z
        · rw [e, k3]
          intro z; cases z
/-- nothing tracked changes, F grows -/
theorem WA.grow (w : WA B ad ρ σ F H) (g : Gr Non F H F' H') : WA B ad ρ σ F' H' where
  gr := w.gr.trans g (fun _ _ h => h) fun _ _ h => h.elim
  len := w.len
  sl := fun i s h => by
    have k := w.sl i s h
    cases s with
    | emp => exact k
    | val d =>
      obtain ⟨k, v, e, r⟩ := k
      exact ⟨k, v, e, r.up g.ff⟩
    | own ds =>
      obtain ⟨p, vs, k, k0, k1, k2, r⟩ := k
      exact ⟨p, vs, k, k0, k1, g.kp _ _ k2 id, r.up g.ff⟩
    | st S =>
      obtain ⟨s, k1, k⟩ := k
      refine ⟨s, k1, ?_⟩
      cases S with
      | two a b => exact ⟨k.1, g.kp _ _ k.2 id⟩
      | dct kvs => exact ⟨k.1, g.kp _ _ k.2 id⟩
      | cel a cs =>
        obtain ⟨c, k, kn, k2, k3⟩ := k
        exact ⟨c, k, kn, g.kp _ _ k2 id, g.kp _ _ k3 id⟩
  fz := fun i p h => ⟨g.fr p (w.lv h) (w.fz i p h).1, (w.fz i p h).2⟩
  dj := w.dj
  out := w.out
  pin := w.pin
theorem Post.of (w : WA B ad ρ σ F H) (g : Gr Non F H F' H') : Post B ad σ ρ F H ρ F' H' := ⟨w.grow g, ⟨g.ff, g.fh, fun a o h _ => g.kp a o h id, g.al, g.fr⟩, fun i S h => ⟨S, h⟩⟩
theorem Gr.heap (e : Same F H) (g : Same H H') : Gr Non F H F H' where
  ff := Same.refl F
  fh := e.trans g
  kp := fun a o h _ => g a o h
  al := fun a h => by
    cases q : H a with
    | none => exact absurd q h
    | some o =>
      rw [g a o q]
      intro z
      cases z
  fr := fun _ _ h => h
theorem same_upd {p : Addr} {o : HO} (h : H p = none) : Same H (upd H p o) := fun b u q => by rw [upd_ne (ne_of_none q h)]; exact q
/-- a new object is laid and frozen -/
theorem Gr.new {p : Addr} {o : HO} (e : Same F H) (h : H p = none) : Gr Non F H (upd F p o) (upd H p o) where
  ff := same_upd (by
    cases q : F p with
    | none => rfl
    | some u => rw [e p u q] at h; cases h)
  fh := fun a u q => by
    by_cases ha : a = p
    · subst ha; rw [upd_same] at q ⊢; exact q
    · rw [upd_ne ha] at q ⊢; exact e a u q
  kp := fun a u q _ => by rw [upd_ne (ne_of_none q h)]; exact q
  al := fun a q => by
    by_cases ha : a = p
    · subst ha; rw [upd_same]; intro z; cases z
    · rw [upd_ne ha]; exact q
  fr := fun a q z => by
    have ha : a ≠ p := fun z => q (z ▸ h)
    rw [upd_ne ha]
    exact z
end

/-! ### expressions over pure data -/
def EX (te : TE) (ρ : Env) (Q : D → Env → Prop) : Prop := ∀ B ad σ F H, WA B ad ρ σ F H → ∀ Z : VK, (∀ d ρ' v F' H', Q d ρ' → Post B ad σ ρ F H ρ' F' H' → Rp F' v d → Z v H') → te σ H Z
def EA (ta : TA) (ρ : Env) (Q : List D → Env → Prop) : Prop := ∀ B ad σ F H, WA B ad ρ σ F H → ∀ Z : List V → Hp → Prop, (∀ ds ρ' vs F' H', Q ds ρ' → Post B ad σ ρ F H ρ' F' H' → RpA F' vs ds → Z vs H') → ta σ H Z
def ET (tt : TT) (ρ : Env) (Q : Bool → Env → Prop) : Prop := ∀ B ad σ F H, WA B ad ρ σ F H → ∀ Z : Bool → Hp → Prop, (∀ b ρ' F' H', Q b ρ' → Post B ad σ ρ F H ρ' F' H' → Z b H') → tt σ H Z
/-- a new list, not yet frozen -/
def EO (te : TE) (ρ : Env) (Q : List D → Env → Prop) : Prop := ∀ B ad σ F H, WA B ad ρ σ F H → ∀ Z : VK,
  (∀ ds ρ' p vs F' H', Q ds ρ' → Post B ad σ ρ F H ρ' F' H' → F' p = none → H p = none → H' p = some (.lst vs) → RpA F' vs ds → Z (.ref p) H') → te σ H Z
def EPt (to : TO) (ρ : Env) (Q : Option Int → Env → Prop) : Prop := ∀ B ad σ F H, WA B ad ρ σ F H → ∀ Z : Option Int → Hp → Prop, (∀ o ρ' F' H', Q o ρ' → Post B ad σ ρ F H ρ' F' H' → Z o H') → to σ H Z
/-- operations by data -/
def OpD (r : R2) (d1 d2 : D) (K : D → Prop) : Prop := ∀ F H x y, Same F H → Rp F x d1 → Rp F y d2 → ∀ Z : VK, (∀ d v F' H', K d → Gr Non F H F' H' → Rp F' v d → Z v H') → r x y H Z
def OpO (r : R2) (d1 d2 : D) (K : List D → Prop) : Prop := ∀ F H x y, Same F H → Rp F x d1 → Rp F y d2 → ∀ Z : VK, (∀ ds p vs H', K ds → Same H H' → H p = none → H' p = some (.lst vs) → RpA F vs ds → Z (.ref p) H') → r x y H Z
def UnD (r : V → Hp → VK → Prop) (d1 : D) (K : D → Prop) : Prop := ∀ F H x, Same F H → Rp F x d1 → ∀ Z : VK, (∀ d v F' H', K d → Gr Non F H F' H' → Rp F' v d → Z v H') → r x H Z
def CbD (r : List V → Hp → VK → Prop) (ds : List D) (K : D → Prop) : Prop := ∀ F H vs, Same F H → RpA F vs ds → ∀ Z : VK, (∀ d v F' H', K d → Gr Non F H F' H' → Rp F' v d → Z v H') → r vs H Z
def CbO (r : List V → Hp → VK → Prop) (ds : List D) (K : List D → Prop) : Prop := ∀ F H vs, Same F H → RpA F vs ds → ∀ Z : VK, (∀ es p ws H', K es → Same H H' → H p = none → H' p = some (.lst ws) → RpA F ws es → Z (.ref p) H') → r vs H Z
def SlD (r : V → Option Int → Option Int → Hp → VK → Prop) (d1 : D) (lo hi : Option Int) (K : D → Prop) : Prop := ∀ F H x, Same F H → Rp F x d1 → ∀ Z : VK, (∀ d v F' H', K d → Gr Non F H F' H' → Rp F' v d → Z v H') → r x lo hi H Z
def SlO (r : V → Option Int → Option Int → Hp → VK → Prop) (d1 : D) (lo hi : Option Int) (K : List D → Prop) : Prop := ∀ F H x, Same F H → Rp F x d1 → ∀ Z : VK, (∀ ds p vs H', K ds → Same H H' → H p = none → H' p = some (.lst vs) → RpA F vs ds → Z (.ref p) H') → r x lo hi H Z

section
variable {B : Base} {ad : Nat → List Addr} {ρ ρ' ρ1 ρ2 : Env} {σ : St} {F H F' H' F1 H1 F2 H2 : Hp} {te ta tb tc : TE} {tt tu : TT} {t : TA} {Q Q' : D → Env → Prop}
theorem WA.newp (w : WA B ad ρ σ F H) {p : Addr} (h : H p = none) : F p = none ∧ B.H0 p = none ∧ ∀ i, p ∉ ad i := by
  refine ⟨w.gr.fh.free h, ?_, fun i m => w.lv m h⟩
  cases q : B.H0 p with
  | none => rfl
  | some o => exact absurd h (w.gr.al p (by rw [q]; intro z; cases z))
/-- a list that nobody owns is frozen -/
theorem WA.freeze (w : WA B ad ρ σ F H) {p : Addr} {vs : List V} (hF : F p = none) (h0 : B.H0 p = none) (hn : ∀ i, p ∉ ad i) (hp : H p = some (.lst vs)) : WA B ad ρ σ (upd F p (.lst vs)) H where
  gr := ⟨w.gr.ff.trans (same_upd hF), fun a o e => by
    by_cases ha : a = p
    · subst ha; rw [upd_same] at e; rw [hp]; exact e
    · rw [upd_ne ha] at e; exact w.gr.fh a o e, w.gr.kp, w.gr.al, fun a e z => by
    have ha : a ≠ p := fun q => e (by rw [q]; exact h0)
    rw [upd_ne ha]
    exact w.gr.fr a e z⟩
  len := w.len
  sl := fun i s e => by
    have k := w.sl i s e
    have up := same_upd (o := .lst vs) hF
    cases s with
    | emp => exact k
    | val d =>
      obtain ⟨k, v, e, r⟩ := k
      exact ⟨k, v, e, r.up up⟩
    | own ds =>
      obtain ⟨q, ws, k, k0, k1, k2, r⟩ := k
      exact ⟨q, ws, k, k0, k1, k2, r.up up⟩
    | st S => exact k
  fz := fun i q m => by
    have ne : q ≠ p := fun z => hn i (z ▸ m)
    rw [upd_ne ne]
    exact w.fz i q m
  dj := w.dj
  out := w.out
  pin := w.pin
theorem Post.freeze (w : Post B ad σ ρ F H ρ' F' H') (w0 : WA B ad ρ σ F H) {p : Addr} {vs : List V} (hF : F' p = none) (hH : H p = none) (hp : H' p = some (.lst vs)) : Post B ad σ ρ F H ρ' (upd F' p (.lst vs)) H' :=
  have n := w0.newp hH
  have f := w.wa.freeze hF n.2.1 n.2.2 hp
  ⟨f, ⟨w.gr.ff.trans (same_upd hF), f.gr.fh, w.gr.kp, w.gr.al, fun a e z => by
    have ha : a ≠ p := fun q => e (by rw [q]; exact hH)
    rw [upd_ne ha]
    exact w.gr.fr a e z⟩, w.sh⟩

/-! #### the rules -/
theorem EX.imp (h : EX te ρ Q) (k : ∀ d ρ', Q d ρ' → Q' d ρ') : EX te ρ Q' := fun B ad σ F H w Z z => h B ad σ F H w Z fun d ρ' v F' H' q p r => z d ρ' v F' H' (k d ρ' q) p r
theorem ex_of {Q : D → Env → Prop} (h : EO te ρ fun ds ρ' => Q (.list ds) ρ') : EX te ρ Q := fun B ad σ F H w Z z => h B ad σ F H w Z fun ds ρ' p vs F' H' q P hF hH hp r =>
  z _ ρ' _ (upd F' p (.lst vs)) H' q (P.freeze w hF hH hp) (.lst (.inl upd_same) (r.up (same_upd hF)))
theorem ex_var {i : Nat} {d : D} (h : ρ[i]? = some (.val d)) (q : Q d ρ) : EX (tVar i) ρ Q := fun B ad σ F H w Z z => by
  obtain ⟨_, v, e, r⟩ := w.sl i _ h
  exact ⟨v, e, z d ρ v F H q (Post.refl w) r⟩
theorem ex_c {v : V} {d : D} (r : ∀ F, Rp F v d) (q : Q d ρ) : EX (tC v) ρ Q := fun B ad σ F H w Z z => z d ρ v F H q (Post.refl w) (r F)
theorem ex_int {i : Int} (q : Q (.int i) ρ) : EX (tC (.int i)) ρ Q := ex_c (fun _ => .int i) q
theorem ex_str {x : Str} (q : Q (.str x) ρ) : EX (tC (.str x)) ρ Q := ex_c (fun _ => .str x) q
theorem ex_bl {b : Bool} (q : Q (.bool b) ρ) : EX (tC (.bl b)) ρ Q := ex_c (fun _ => .bl b) q
theorem ex_non (q : Q .none ρ) : EX (tC .non) ρ Q := ex_c (fun _ => .non) q
theorem ex_op {r : R2} (h : EX ta ρ fun d1 ρ1 => EX tb ρ1 fun d2 ρ2 => OpD r d1 d2 fun d => Q d ρ2) : EX (tOp r ta tb) ρ Q := fun B ad σ F H w Z z =>
  h B ad σ F H w _ fun d1 ρ1 x F1 H1 q1 p1 r1 => q1 B ad σ F1 H1 p1.wa _ fun d2 ρ2 y F2 H2 q2 p2 r2 =>
    q2 F2 H2 x y p2.wa.gr.fh (r1.up p2.gr.ff) r2 Z fun d v F' H' kd g rv => z d ρ2 v F' H' kd ((p1.trans p2).trans (Post.of p2.wa g)) rv
theorem eo_op {r : R2} {Q : List D → Env → Prop} (h : EX ta ρ fun d1 ρ1 => EX tb ρ1 fun d2 ρ2 => OpO r d1 d2 fun d => Q d ρ2) : EO (tOp r ta tb) ρ Q := fun B ad σ F H w Z z =>
  h B ad σ F H w _ fun d1 ρ1 x F1 H1 q1 p1 r1 => q1 B ad σ F1 H1 p1.wa _ fun d2 ρ2 y F2 H2 q2 p2 r2 =>
    q2 F2 H2 x y p2.wa.gr.fh (r1.up p2.gr.ff) r2 Z fun ds p vs H' kd e hn hp rv => z ds ρ2 p vs F2 H' kd ((p1.trans p2).trans (Post.of p2.wa (Gr.heap p2.wa.gr.fh e))) (p2.wa.newp hn).1 (by
      cases q : H p with
      | none => rfl
      | some o => exact absurd hn (p2.gr.al p (p1.gr.al p (by rw [q]; intro z; cases z)))) hp rv
theorem ex_un {r : V → Hp → VK → Prop} (h : EX ta ρ fun d1 ρ1 => UnD r d1 fun d => Q d ρ1) : EX (tUn r ta) ρ Q := fun B ad σ F H w Z z =>
  h B ad σ F H w _ fun d1 ρ1 x F1 H1 q1 p1 r1 => q1 F1 H1 x p1.wa.gr.fh r1 Z fun d v F' H' kd g rv => z d ρ1 v F' H' kd (p1.trans (Post.of p1.wa g)) rv
theorem ea_nil {Q : List D → Env → Prop} (q : Q [] ρ) : EA tNil ρ Q := fun B ad σ F H w Z z => z [] ρ [] F H q (Post.refl w) .nil
theorem ea_cons {Q : List D → Env → Prop} (h : EX te ρ fun d ρ1 => EA t ρ1 fun ds ρ2 => Q (d :: ds) ρ2) : EA (tCons te t) ρ Q := fun B ad σ F H w Z z =>
  h B ad σ F H w _ fun d ρ1 v F1 H1 q1 p1 r1 => q1 B ad σ F1 H1 p1.wa _ fun ds ρ2 vs F2 H2 q2 p2 r2 => z (d :: ds) ρ2 (v :: vs) F2 H2 q2 (p1.trans p2) (.cons (r1.up p2.gr.ff) r2)
theorem ex_cb {r : List V → Hp → VK → Prop} (h : EA t ρ fun ds ρ1 => CbD r ds fun d => Q d ρ1) : EX (tCB r t) ρ Q := fun B ad σ F H w Z z =>
  h B ad σ F H w _ fun ds ρ1 vs F1 H1 q1 p1 r1 => q1 F1 H1 vs p1.wa.gr.fh r1 Z fun d v F' H' kd g rv => z d ρ1 v F' H' kd (p1.trans (Post.of p1.wa g)) rv
theorem eo_cb {r : List V → Hp → VK → Prop} {Q : List D → Env → Prop} (h : EA t ρ fun ds ρ1 => CbO r ds fun d => Q d ρ1) : EO (tCB r t) ρ Q := fun B ad σ F H w Z z =>
  h B ad σ F H w _ fun ds ρ1 vs F1 H1 q1 p1 r1 => q1 F1 H1 vs p1.wa.gr.fh r1 Z fun es p ws H' kd e hn hp rv => z es ρ1 p ws F1 H' kd (p1.trans (Post.of p1.wa (Gr.heap p1.wa.gr.fh e))) (p1.wa.newp hn).1 (by
      cases q : H p with
      | none => rfl
      | some o => exact absurd hn (p1.gr.al p (by rw [q]; intro z; cases z))) hp rv
theorem ex_tup (h : EA t ρ fun ds ρ1 => ds.length ≤ 100000 ∧ Q (.tuple ds) ρ1) : EX (tTup t) ρ Q := fun B ad σ F H w Z z =>
  h B ad σ F H w _ fun ds ρ1 vs F1 H1 q1 p1 r1 => ⟨Nat.le_trans (by rw [r1.len]; exact q1.1) (by decide), fun p hp =>
    z _ ρ1 _ (upd F1 p (.tup vs)) _ q1.2 (p1.trans (Post.of p1.wa (Gr.new p1.wa.gr.fh hp))) (.tup upd_same (r1.up (Gr.new p1.wa.gr.fh hp).ff))⟩
theorem eo_lst {Q : List D → Env → Prop} (h : EA t ρ fun ds ρ1 => ds.length ≤ 100000 ∧ Q ds ρ1) : EO (tLst t) ρ Q := fun B ad σ F H w Z z =>
  h B ad σ F H w _ fun ds ρ1 vs F1 H1 q1 p1 r1 => ⟨Nat.le_trans (by rw [r1.len]; exact q1.1) (by decide), fun p hp =>
    z _ ρ1 p vs F1 _ q1.2 (p1.trans (Post.of p1.wa (Gr.heap p1.wa.gr.fh (same_upd hp)))) (p1.wa.newp hp).1 (by
      cases q : H p with
      | none => rfl
      | some o => exact absurd hp (p1.gr.al p (by rw [q]; intro z; cases z))) upd_same r1⟩
/-! slices -/
theorem ep_no {Q : Option Int → Env → Prop} (q : Q none ρ) : EPt tNoPart ρ Q := fun B ad σ F H w Z z => z none ρ F H q (Post.refl w)
theorem ep_some {Q : Option Int → Env → Prop} (h : EX te ρ fun d ρ1 => ∃ i, d = .int i ∧ Q (some i) ρ1) : EPt (tPart te) ρ Q := fun B ad σ F H w Z z =>
  h B ad σ F H w _ fun d ρ1 v F1 H1 q1 p1 r1 => by
    obtain ⟨i, rfl, q⟩ := q1
    exact ⟨i, r1.int_inv, z _ ρ1 F1 H1 q p1⟩
theorem ex_sl {r : V → Option Int → Option Int → Hp → VK → Prop} {tl th : TO} (h : EX te ρ fun d1 ρ1 => EPt tl ρ1 fun lo ρ2 => EPt th ρ2 fun hi ρ3 => SlD r d1 lo hi fun d => Q d ρ3) : EX (tSl r te tl th) ρ Q := fun B ad σ F H w Z z =>
  h B ad σ F H w _ fun d1 ρ1 x F1 H1 q1 p1 r1 => q1 B ad σ F1 H1 p1.wa _ fun lo ρ2 F2 H2 q2 p2 => q2 B ad σ F2 H2 p2.wa _ fun hi ρ3 F3 H3 q3 p3 =>
    q3 F3 H3 x p3.wa.gr.fh ((r1.up p2.gr.ff).up p3.gr.ff) Z fun d v F' H' kd g rv => z d ρ3 v F' H' kd (((p1.trans p2).trans p3).trans (Post.of p3.wa g)) rv
theorem eo_sl {r : V → Option Int → Option Int → Hp → VK → Prop} {tl th : TO} {Q : List D → Env → Prop} (h : EX te ρ fun d1 ρ1 => EPt tl ρ1 fun lo ρ2 => EPt th ρ2 fun hi ρ3 => SlO r d1 lo hi fun d => Q d ρ3) : EO (tSl r te tl th) ρ Q := fun B ad σ F H w Z z =>
  h B ad σ F H w _ fun d1 ρ1 x F1 H1 q1 p1 r1 => q1 B ad σ F1 H1 p1.wa _ fun lo ρ2 F2 H2 q2 p2 => q2 B ad σ F2 H2 p2.wa _ fun hi ρ3 F3 H3 q3 p3 =>
    q3 F3 H3 x p3.wa.gr.fh ((r1.up p2.gr.ff).up p3.gr.ff) Z fun ds p vs H' kd e hn hp rv => z ds ρ3 p vs F3 H' kd (((p1.trans p2).trans p3).trans (Post.of p3.wa (Gr.heap p3.wa.gr.fh e))) (p3.wa.newp hn).1 (by
      cases q : H p with
      | none => rfl
      | some o => exact absurd hn (p3.gr.al p (p2.gr.al p (p1.gr.al p (by rw [q]; intro z; cases z))))) hp rv
/-! tests -/
theorem et_imp {Q Q' : Bool → Env → Prop} (h : ET tt ρ Q) (k : ∀ b ρ', Q b ρ' → Q' b ρ') : ET tt ρ Q' := fun B ad σ F H w Z z => h B ad σ F H w Z fun b ρ' F' H' q p => z b ρ' F' H' (k b ρ' q) p
theorem et_test {Q : Bool → Env → Prop} (h : EX te ρ fun d ρ1 => ∃ b, d = .bool b ∧ Q b ρ1) : ET (tTest te) ρ Q := fun B ad σ F H w Z z =>
  h B ad σ F H w _ fun d ρ1 v F1 H1 q1 p1 r1 => by
    obtain ⟨b, rfl, q⟩ := q1
    exact ⟨b, r1.bl_inv, z b ρ1 F1 H1 q p1⟩
theorem et_B {Q : Bool → Env → Prop} (h : EX te ρ fun d ρ1 => ∃ b, d = .bool b ∧ Q b ρ1) : ET (tB te) ρ Q := et_test h
theorem et_and {Q : Bool → Env → Prop} (h : ET tt ρ fun b ρ1 => (b = true → ET tu ρ1 Q) ∧ (b = false → Q false ρ1)) : ET (tAnd tt tu) ρ Q := fun B ad σ F H w Z z =>
  h B ad σ F H w _ fun b ρ1 F1 H1 q1 p1 => by
    cases b with
    | true =>
      show tu σ H1 Z
      exact q1.1 rfl B ad σ F1 H1 p1.wa Z fun b ρ' F' H' q p => z b ρ' F' H' q (p1.trans p)
    | false =>
      show Z false H1
      exact z false ρ1 F1 H1 (q1.2 rfl) p1
theorem et_or {Q : Bool → Env → Prop} (h : ET tt ρ fun b ρ1 => (b = true → Q true ρ1) ∧ (b = false → ET tu ρ1 Q)) : ET (tOr tt tu) ρ Q := fun B ad σ F H w Z z =>
  h B ad σ F H w _ fun b ρ1 F1 H1 q1 p1 => by
    cases b with
    | true =>
      show Z true H1
      exact z true ρ1 F1 H1 (q1.1 rfl) p1
    | false =>
      show tu σ H1 Z
      exact q1.2 rfl B ad σ F1 H1 p1.wa Z fun b ρ' F' H' q p => z b ρ' F' H' q (p1.trans p)
theorem et_not {Q : Bool → Env → Prop} (h : ET tt ρ fun b ρ1 => Q (!b) ρ1) : ET (tNot tt) ρ Q := fun B ad σ F H w Z z => h B ad σ F H w _ fun b ρ1 F1 H1 q p => z (!b) ρ1 F1 H1 q p
theorem ex_andV (h : EX ta ρ fun d ρ1 => ∃ b, d = .bool b ∧ (b = true → EX tb ρ1 Q) ∧ (b = false → Q (.bool false) ρ1)) : EX (tAndV ta tb) ρ Q := fun B ad σ F H w Z z =>
  h B ad σ F H w _ fun d ρ1 v F1 H1 q1 p1 r1 => by
    obtain ⟨b, rfl, k1, k2⟩ := q1
    refine ⟨b, r1.bl_inv, ?_⟩
    cases b with
    | true =>
      show tb σ H1 Z
      exact k1 rfl B ad σ F1 H1 p1.wa Z fun d ρ' v F' H' q p r => z d ρ' v F' H' q (p1.trans p) r
    | false =>
      show Z (.bl false) H1
      exact z _ ρ1 _ F1 H1 (k2 rfl) p1 (.bl false)
theorem ex_orV (h : EX ta ρ fun d ρ1 => ∃ b, d = .bool b ∧ (b = true → Q (.bool true) ρ1) ∧ (b = false → EX tb ρ1 Q)) : EX (tOrV ta tb) ρ Q := fun B ad σ F H w Z z =>
  h B ad σ F H w _ fun d ρ1 v F1 H1 q1 p1 r1 => by
    obtain ⟨b, rfl, k1, k2⟩ := q1
    refine ⟨b, r1.bl_inv, ?_⟩
    cases b with
    | true =>
      show Z (.bl true) H1
      exact z _ ρ1 _ F1 H1 (k1 rfl) p1 (.bl true)
    | false =>
      show tb σ H1 Z
      exact k2 rfl B ad σ F1 H1 p1.wa Z fun d ρ' v F' H' q p r => z d ρ' v F' H' q (p1.trans p) r
theorem ex_notV (h : EX ta ρ fun d ρ1 => ∃ b, d = .bool b ∧ Q (.bool !b) ρ1) : EX (tNotV ta) ρ Q := fun B ad σ F H w Z z =>
  h B ad σ F H w _ fun d ρ1 v F1 H1 q1 p1 r1 => by
    obtain ⟨b, rfl, k⟩ := q1
    exact ⟨b, r1.bl_inv, z _ ρ1 _ F1 H1 k p1 (.bl _)⟩
theorem ex_if (h : ET tt ρ fun b ρ1 => (b = true → EX ta ρ1 Q) ∧ (b = false → EX tb ρ1 Q)) : EX (tIf tt ta tb) ρ Q := fun B ad σ F H w Z z =>
  h B ad σ F H w _ fun b ρ1 F1 H1 q1 p1 => by
    cases b with
    | true =>
      show ta σ H1 Z
      exact q1.1 rfl B ad σ F1 H1 p1.wa Z fun d ρ' v F' H' q p r => z d ρ' v F' H' q (p1.trans p) r
    | false =>
      show tb σ H1 Z
      exact q1.2 rfl B ad σ F1 H1 p1.wa Z fun d ρ' v F' H' q p r => z d ρ' v F' H' q (p1.trans p) r
theorem ex_chain {r r' : R2} (h : EX ta ρ fun d1 ρ1 => EX tb ρ1 fun d2 ρ2 => OpD r d1 d2 fun d => ∃ b, d = .bool b ∧ (b = true → EX tc ρ2 fun d3 ρ3 => OpD r' d2 d3 fun d => Q d ρ3) ∧ (b = false → Q (.bool false) ρ2)) : EX (tChain r r' ta tb tc) ρ Q := fun B ad σ F H w Z z =>
  h B ad σ F H w _ fun d1 ρ1 x F1 H1 q1 p1 r1 => q1 B ad σ F1 H1 p1.wa _ fun d2 ρ2 y F2 H2 q2 p2 r2 =>
    q2 F2 H2 x y p2.wa.gr.fh (r1.up p2.gr.ff) r2 _ fun d v F3 H3 kd g rv => by
      obtain ⟨b, rfl, k1, k2⟩ := kd
      refine ⟨b, rv.bl_inv, ?_⟩
      have p3 := (p1.trans p2).trans (Post.of p2.wa g)
      cases b with
      | true =>
        show tc σ H3 fun w' H4 => r' y w' H4 Z
        exact k1 rfl B ad σ F3 H3 p3.wa _ fun d3 ρ3 u F4 H4 q4 p4 r4 => q4 F4 H4 y u p4.wa.gr.fh ((r2.up g.ff).up p4.gr.ff) r4 Z fun d v F' H' kd g rv => z d ρ3 v F' H' kd ((p3.trans p4).trans (Post.of p4.wa g)) rv
      | false =>
        show Z (.bl false) H3
        exact z _ ρ2 _ F3 H3 (k2 rfl) p3 (.bl false)
end
/-! ### operations -/
section
variable {K : PySem.W.Frag} {Q : D → Prop} {i j : Int} {d d1 d2 : D} {ds es : List D}
theorem opd_I0 {g : Int → Int → Int} (k : Q (.int (g i j))) : OpD (rI0 fun i j => .int (g i j)) (.int i) (.int j) Q := fun F H x y e rx ry Z z => ⟨i, j, rx.int_inv, ry.int_inv, z _ _ F H k (Gr.refl e) (.int _)⟩
theorem opd_B0 {g : Int → Int → Bool} (k : Q (.bool (g i j))) : OpD (rI0 fun i j => .bl (g i j)) (.int i) (.int j) Q := fun F H x y e rx ry Z z => ⟨i, j, rx.int_inv, ry.int_inv, z _ _ F H k (Gr.refl e) (.bl _)⟩
theorem opd_I {C : Int → Int → Prop} {g : Int → Int → Int} (c : C i j) (k : Q (.int (g i j))) : OpD (rI C fun i j => .int (g i j)) (.int i) (.int j) Q := fun F H x y e rx ry Z z => ⟨i, j, rx.int_inv, ry.int_inv, c, z _ _ F H k (Gr.refl e) (.int _)⟩
theorem und_neg (k : Q (.int (-i))) : UnD (rU fun i => .int (-i)) (.int i) Q := fun F H x e rx Z z => ⟨i, rx.int_inv, z _ _ F H k (Gr.refl e) (.int _)⟩
theorem opd_eq (s1 : SeqAt.shaped d1 = true) (s2 : SeqAt.shaped d2 = true) (k : Q (.bool (PyData.eqv d1 d2))) : OpD (rEqD K) d1 d2 Q := fun F H x y e rx ry Z z => ⟨d1, d2, rx.dp e, ry.dp e, s1, s2, z _ _ F H k (Gr.refl e) (.bl _)⟩
theorem opd_ne (s1 : SeqAt.shaped d1 = true) (s2 : SeqAt.shaped d2 = true) (k : Q (.bool (!PyData.eqv d1 d2))) : OpD (rNeD K) d1 d2 Q := fun F H x y e rx ry Z z => ⟨d1, d2, rx.dp e, ry.dp e, s1, s2, z _ _ F H k (Gr.refl e) (.bl _)⟩
def isN : D → Bool
  | .none => true
  | _ => false
theorem isN_of {F : Hp} {x : V} (r : Rp F x d) : decide (x = .non) = isN d := by cases r <;> rfl
def rIs : R2 := fun x y H Q => y = .non ∧ Q (.bl (decide (x = .non))) H
def rIsnt : R2 := fun x y H Q => y = .non ∧ Q (.bl (!decide (x = .non))) H
theorem op_is {X : Cx} : OpR X (compareOp .Is) rIs := op_isN
theorem op_isnt {X : Cx} : OpR X (compareOp .IsNot) rIsnt := op_notN
theorem opd_is (k : Q (.bool (isN d))) : OpD rIs d .none Q := fun F H x y e rx ry Z z => ⟨ry.non_inv, by rw [isN_of rx]; exact z _ _ F H k (Gr.refl e) (.bl _)⟩
theorem opd_isnt (k : Q (.bool (!isN d))) : OpD rIsnt d .none Q := fun F H x y e rx ry Z z => ⟨ry.non_inv, by rw [isN_of rx]; exact z _ _ F H k (Gr.refl e) (.bl _)⟩
/-! an item -/
theorem RpA.at_ {F : Hp} {vs : List V} (r : RpA F vs ds) (h : atI ds i = some d) : ∃ v, atI vs i = some v ∧ Rp F v d := by
  unfold atI at h ⊢
  rw [r.len]
  cases e : ixN ds.length i with
  | none => rw [e] at h; cases h
  | some k =>
    rw [e] at h
    exact r.get (k := k) h
def rIxA (K : PySem.W.Frag) : R2 := fun x y H Q => rIxL K x y H Q ∨ rIxT K x y H Q
theorem ix_any {X : Cx} : IxR X (rIxA X.K) := IxR.or ix_list ix_tup
theorem opd_ixL (h : atI ds i = some d) (k : Q d) : OpD (rIxA K) (.list ds) (.int i) Q := fun F H x y e rx ry Z z => by
  obtain ⟨a, xs, rfl, h1, h2⟩ := rx.lst_inv
  obtain ⟨v, hv, rv⟩ := h2.at_ h
  exact .inl ⟨a, xs, i, v, rfl, ry.int_inv, sqL_rd h1 e, hv, z _ _ F H k (Gr.refl e) rv⟩
theorem opd_ixT (h : atI ds i = some d) (k : Q d) : OpD (rIxA K) (.tuple ds) (.int i) Q := fun F H x y e rx ry Z z => by
  obtain ⟨a, xs, rfl, h1, h2⟩ := rx.tup_inv
  obtain ⟨v, hv, rv⟩ := h2.at_ h
  exact .inr ⟨a, xs, i, v, rfl, ry.int_inv, sqT_rd h1 e, hv, z _ _ F H k (Gr.refl e) rv⟩
/-! + -/
def rCatR : R2 := fun x y H Q => ∃ l b xs zs, x = .ref l ∧ y = .ref b ∧ Rd H l (.lst xs) ∧ Rd H b (.lst zs) ∧ xs.length + zs.length ≤ sizeLine ∧ ∀ p, H p = none → Q (.ref p) (upd H p (.lst (xs ++ zs)))
theorem op_catR {X : Cx} : OpR X (binaryOp .Add) rCatR := by
  intro pins s σ H x y v u Q I rx ry h
  obtain ⟨l, b, xs, zs, rfl, rfl, hH, hB, hz, q⟩ := h
  cases rx
  cases ry
  obtain ⟨z, its, n, r, e⟩ := hH.ok I.hok
  obtain ⟨z2, its2, n2, r2, e2⟩ := hB.ok I.hok
  have hl := r.length
  have hl2 := r2.length
  refine PySem.P.add_list e e2 ?_ (by rw [List.size_toArray, List.size_toArray]; omega)
  have ea : its.toArray ++ its2.toArray = (its ++ its2).toArray := by simp
  rw [ea]
  exact ⟨.ref _, _, I.lnew (t' := s.toks) (r.append r2) (by rw [List.length_append]; omega), rfl, q _ I.fresh⟩
def rPlus (K : PySem.W.Frag) : R2 := fun x y H Q => (fun x y H Q => rI0 (fun i j => .int (i + j)) x y H Q ∨ rCatR x y H Q) x y H Q ∨ rCatA K x y H Q
theorem op_plus {X : Cx} : OpR X (binaryOp .Add) (rPlus X.K) := OpR.or (OpR.or op_add op_catR) op_catA
theorem opd_plusI (k : Q (.int (i + j))) : OpD (rPlus K) (.int i) (.int j) Q := fun F H x y e rx ry Z z => .inl (.inl (opd_I0 k F H x y e rx ry Z z))
theorem opo_plusL {Q : List D → Prop} (hz : ds.length + es.length ≤ 1000000) (k : Q (ds ++ es)) : OpO (rPlus K) (.list ds) (.list es) Q := fun F H x y e rx ry Z z => by
  obtain ⟨a, xs, rfl, h1, h2⟩ := rx.lst_inv
  obtain ⟨b, ys, rfl, g1, g2⟩ := ry.lst_inv
  exact .inl (.inr ⟨a, b, xs, ys, rfl, rfl, rd_mono e h1, rd_mono e g1, Nat.le_trans (by rw [h2.len, g2.len]; exact hz) (by decide), fun p hp => z _ p _ _ k (same_upd hp) hp upd_same (h2.app g2)⟩)
theorem opd_plusT (hz : ds.length + es.length ≤ 1000000) (k : Q (.tuple (ds ++ es))) : OpD (rPlus K) (.tuple ds) (.tuple es) Q := fun F H x y e rx ry Z z => by
  obtain ⟨a, xs, rfl, h1, h2⟩ := rx.tup_inv
  obtain ⟨b, ys, rfl, g1, g2⟩ := ry.tup_inv
  refine .inr ⟨a, b, xs, ys, rfl, rfl, sqT_rd h1 e, sqT_rd g1 e, Nat.le_trans (by rw [h2.len, g2.len]; exact hz) (by decide), fun q => ?_, fun _ q => ?_, fun _ _ p hp => ?_⟩
  · subst q
    cases h2
    exact z _ _ F H k (Gr.refl e) ry
  · subst q
    cases g2
    rw [List.append_nil] at k
    exact z _ _ F H k (Gr.refl e) rx
  · exact z _ _ _ _ k (Gr.new e hp) (.tup upd_same ((h2.app g2).up (Gr.new e hp).ff))
/-! slices -/
def rSl (K : PySem.W.Frag) : V → Option Int → Option Int → Hp → VK → Prop := fun x lo hi H Q => rSlL K x lo hi H Q ∨ rSlA K x lo hi H Q
theorem sl_any {X : Cx} : SlR X (rSl X.K) := SlR.or sl_list sl_tupA
def cutD (xs : List D) (lo hi : Option Int) : List D := (xs.drop (HT.sIx xs.length 0 lo)).take (HT.sIx xs.length xs.length hi - HT.sIx xs.length 0 lo)
theorem RpA.cut {F : Hp} {vs : List V} (r : RpA F vs ds) (lo hi : Option Int) : RpA F (cutV vs lo hi) (cutD ds lo hi) := by
  unfold cutV cutD
  rw [r.len]
  exact (r.drop _).take _
theorem slo_L {Q : List D → Prop} {lo hi : Option Int} (k : Q (cutD ds lo hi)) : SlO (rSl K) (.list ds) lo hi Q := fun F H x e rx Z z => by
  obtain ⟨a, xs, rfl, h1, h2⟩ := rx.lst_inv
  exact .inl ⟨a, xs, rfl, sqL_rd h1 e, fun p hp => z _ p _ _ k (same_upd hp) hp upd_same (h2.cut lo hi)⟩
theorem sld_T {lo hi : Option Int} (k : Q (.tuple (cutD ds lo hi))) : SlD (rSl K) (.tuple ds) lo hi Q := fun F H x e rx Z z => by
  obtain ⟨a, xs, rfl, h1, h2⟩ := rx.tup_inv
  refine .inr ⟨a, xs, rfl, sqT_rd h1 e, fun w => ?_, fun w p hp => z _ _ _ _ k (Gr.new e hp) (.tup upd_same ((h2.cut lo hi).up (Gr.new e hp).ff))⟩
  have ec : cutD ds lo hi = ds := by
    rw [h2.len] at w
    unfold cutD
    rw [w.1, w.2, List.drop_zero, Nat.sub_zero, List.take_length]
  rw [ec] at k
  exact z _ _ F H k (Gr.refl e) rx
/-! built-ins -/
def rLen (K : PySem.W.Frag) : List V → Hp → VK → Prop := fun xs H Q => ∃ x n, xs = [x] ∧ LenV K x H n ∧ Q (.int (n : Int)) H
theorem cb_len {X : Cx} : CallR X (.builtin "len") (rLen X.K) := call_len
theorem RpA.one {F : Hp} {vs : List V} (h : RpA F vs [d]) : ∃ v, vs = [v] ∧ Rp F v d := by
  cases h with
  | cons h1 h2 => cases h2; exact ⟨_, rfl, h1⟩
theorem RpA.two {F : Hp} {vs : List V} (h : RpA F vs [d1, d2]) : ∃ v u, vs = [v, u] ∧ Rp F v d1 ∧ Rp F u d2 := by
  cases h with
  | cons h1 h2 => obtain ⟨u, rfl, r⟩ := h2.one; exact ⟨_, _, rfl, h1, r⟩
theorem cbd_lenL (k : Q (.int (ds.length : Int))) : CbD (rLen K) [.list ds] Q := fun F H vs e r Z z => by
  obtain ⟨v, rfl, rv⟩ := r.one
  obtain ⟨a, xs, rfl, h1, h2⟩ := rv.lst_inv
  exact ⟨_, ds.length, rfl, .inl ⟨xs, sqL_rd h1 e, h2.len.symm⟩, z _ _ F H k (Gr.refl e) (.int _)⟩
theorem cbd_lenT (k : Q (.int (ds.length : Int))) : CbD (rLen K) [.tuple ds] Q := fun F H vs e r Z z => by
  obtain ⟨v, rfl, rv⟩ := r.one
  obtain ⟨a, xs, rfl, h1, h2⟩ := rv.tup_inv
  exact ⟨_, ds.length, rfl, .inr ⟨xs, sqT_rd h1 e, h2.len.symm⟩, z _ _ F H k (Gr.refl e) (.int _)⟩
def rAbs : List V → Hp → VK → Prop := fun xs H Q => ∃ i, xs = [.int i] ∧ Q (.int (if i < 0 then -i else i)) H
theorem cb_abs {X : Cx} : CallR X (.builtin "abs") rAbs := call_abs
theorem cbd_abs (k : Q (.int (i.natAbs : Int))) : CbD rAbs [.int i] Q := fun F H vs e r Z z => by
  obtain ⟨v, rfl, rv⟩ := r.one
  refine ⟨i, by rw [rv.int_inv], ?_⟩
  have e2 : (if i < 0 then -i else i) = (i.natAbs : Int) := by
    by_cases h : i < 0
    · rw [if_pos h]; omega
    · rw [if_neg h]; omega
  rw [e2]
  exact z _ _ F H k (Gr.refl e) (.int _)
def rMx2 : List V → Hp → VK → Prop := fun xs H Q => ∃ i j, xs = [.int i, .int j] ∧ Q (.int (if j > i then j else i)) H
def rMn2 : List V → Hp → VK → Prop := fun xs H Q => ∃ i j, xs = [.int i, .int j] ∧ Q (.int (if j < i then j else i)) H
theorem cb_max2 {X : Cx} (hc : X.calm = true) : CallR X (.builtin "max") rMx2 := call_max2 hc
theorem cb_min2 {X : Cx} (hc : X.calm = true) : CallR X (.builtin "min") rMn2 := call_min2 hc
theorem cbd_max2 (k : Q (.int (max i j))) : CbD rMx2 [.int i, .int j] Q := fun F H vs e r Z z => by
  obtain ⟨v, u, rfl, rv, ru⟩ := r.two
  refine ⟨i, j, by rw [rv.int_inv, ru.int_inv], ?_⟩
  have e2 : (if j > i then j else i) = max i j := by
    by_cases h : j > i
    · rw [if_pos h]; omega
    · rw [if_neg h]; omega
  rw [e2]
  exact z _ _ F H k (Gr.refl e) (.int _)
theorem cbd_min2 (k : Q (.int (min i j))) : CbD rMn2 [.int i, .int j] Q := fun F H vs e r Z z => by
  obtain ⟨v, u, rfl, rv, ru⟩ := r.two
  refine ⟨i, j, by rw [rv.int_inv, ru.int_inv], ?_⟩
  have e2 : (if j < i then j else i) = min i j := by
    by_cases h : j < i
    · rw [if_pos h]; omega
    · rw [if_neg h]; omega
  rw [e2]
  exact z _ _ F H k (Gr.refl e) (.int _)
def rInt : List V → Hp → VK → Prop := fun xs H Q => (∃ i, xs = [.int i] ∧ Q (.int i) H) ∨ ∃ k, xs = [.bl k] ∧ Q (.int (if k then 1 else 0)) H
theorem cb_int {X : Cx} : CallR X (.type "int") rInt := call_int1
theorem cbd_int (k : Q (.int i)) : CbD rInt [.int i] Q := fun F H vs e r Z z => by
  obtain ⟨v, rfl, rv⟩ := r.one
  exact .inl ⟨i, by rw [rv.int_inv], z _ _ F H k (Gr.refl e) (.int _)⟩
def rList (K : PySem.W.Frag) : List V → Hp → VK → Prop := fun xs H Q => ∃ p ys, xs = [.ref p] ∧ (SqL K H p ys ∨ SqT K H p ys) ∧ ∀ l, H l = none → Q (.ref l) (upd H l (.lst ys))
theorem cb_list {X : Cx} : CallR X (.type "list") (rList X.K) := call_list_of
theorem cbo_listL {Q : List D → Prop} (k : Q ds) : CbO (rList K) [.list ds] Q := fun F H vs e r Z z => by
  obtain ⟨v, rfl, rv⟩ := r.one
  obtain ⟨a, xs, rfl, h1, h2⟩ := rv.lst_inv
  exact ⟨a, xs, rfl, .inl (sqL_rd h1 e), fun p hp => z _ p _ _ k (same_upd hp) hp upd_same h2⟩
theorem cbo_listT {Q : List D → Prop} (k : Q ds) : CbO (rList K) [.tuple ds] Q := fun F H vs e r Z z => by
  obtain ⟨v, rfl, rv⟩ := r.one
  obtain ⟨a, xs, rfl, h1, h2⟩ := rv.tup_inv
  exact ⟨a, xs, rfl, .inr (sqT_rd h1 e), fun p hp => z _ p _ _ k (same_upd hp) hp upd_same h2⟩
def rTup (K : PySem.W.Frag) : List V → Hp → VK → Prop := fun xs H Q => ∃ p ys, xs = [.ref p] ∧ ((SqL K H p ys ∧ ∀ l, H l = none → Q (.ref l) (upd H l (.tup ys))) ∨ (SqT K H p ys ∧ Q (.ref p) H))
theorem cb_tuple {X : Cx} : CallR X (.type "tuple") (rTup X.K) := call_tuple_of
theorem cbd_tupL (k : Q (.tuple ds)) : CbD (rTup K) [.list ds] Q := fun F H vs e r Z z => by
  obtain ⟨v, rfl, rv⟩ := r.one
  obtain ⟨a, xs, rfl, h1, h2⟩ := rv.lst_inv
  exact ⟨a, xs, rfl, .inl ⟨sqL_rd h1 e, fun p hp => z _ _ _ _ k (Gr.new e hp) (.tup upd_same (h2.up (Gr.new e hp).ff))⟩⟩
theorem cbd_sum {ns : List Int} (k : Q (.int ns.sum)) : CbD (rSum K) [.list (ns.map .int)] Q := fun F H vs e r Z z => by
  obtain ⟨v, rfl, rv⟩ := r.one
  obtain ⟨a, xs, rfl, h1, h2⟩ := rv.lst_inv
  exact ⟨a, ns, rfl, by rw [← h2.ints_inv]; exact sqL_rd h1 e, z _ _ F H k (Gr.refl e) (.int _)⟩
/-- isinstance(x, tuple) -/
theorem ex_isT {te : TE} {ρ : Env} {Q : D → Env → Prop} (h : EX te ρ fun d ρ1 => ∃ ds, d = .tuple ds ∧ Q (.bool true) ρ1) : EX (tCB RZ.rIsTy (tCons te (tCons (tC (.ty "tuple")) tNil))) ρ Q := fun B ad σ F H w Z z =>
  h B ad σ F H w _ fun d ρ1 v F1 H1 q1 p1 r1 => by
    obtain ⟨ds, rfl, q⟩ := q1
    obtain ⟨a, xs, rfl, h1, h2⟩ := r1.tup_inv
    exact ⟨.ref a, "tuple", rfl, .tup (p1.wa.gr.fh _ _ h1), z _ ρ1 _ F1 H1 q p1 (.bl true)⟩
end

/-! ### own lists -/
section
variable {B : Base} {ad : Nat → List Addr} {ρ ρ' : Env} {σ : St} {F H F' H' : Hp} {te tb : TE} {Q : D → Env → Prop}
theorem get_set {α : Type} {l : List α} {i j : Nat} {x y : α} (h : (l.set i x)[j]? = some y) : (j = i ∧ y = x) ∨ (j ≠ i ∧ l[j]? = some y) := by
  by_cases e : j = i
  · subst e
    by_cases hl : j < l.length
    · rw [List.getElem?_set_self hl] at h
      exact .inl ⟨rfl, (Option.some.inj h).symm⟩
    · rw [List.getElem?_eq_none (by simpa using hl)] at h
      cases h
  · rw [List.getElem?_set_ne (Ne.symm e)] at h
    exact .inr ⟨e, h⟩
theorem get_set' {α : Type} {l : List α} {i j : Nat} {x : α} (h : (l.set i x)[j]? = none) : l[j]? = none := by
  rw [List.getElem?_eq_none_iff] at h ⊢
  simpa using h
/-- slot i's own list is frozen where it stands -/
theorem WA.lend (w : WA B ad ρ σ F H) {i : Nat} {ds : List D} (h : ρ[i]? = some (.own ds)) : ∃ p vs, ad i = [p] ∧ F p = none ∧ H p = some (.lst vs) ∧ RpA F vs ds ∧ B.H0 p = none ∧ σ[i]? = some (some (.ref p)) ∧
    WA B (fun k => if k = i then [] else ad k) (ρ.set i (.val (.list ds))) σ (upd F p (.lst vs)) H := by
  obtain ⟨p, vs, k, k0, k1, k2, r⟩ := w.sl i _ h
  have hF : F p = none := (w.fz i p (by rw [k]; simp)).1
  have up := same_upd (o := .lst vs) hF
  refine ⟨p, vs, k, hF, k2, r, k0, k1, ?_⟩
  have hn : ∀ j, j ≠ i → p ∉ ad j := fun j hj m => hj (w.dj j i p m (by rw [k]; simp))
  refine ⟨⟨w.gr.ff.trans up, fun a o e => ?_, w.gr.kp, w.gr.al, fun a e z => ?_⟩, by rw [List.length_set]; exact w.len, fun j s e => ?_, fun j q m => ?_, fun j1 j2 q m1 m2 => ?_, fun j e => ?_, w.pin.to fun S e => by
    rcases get_set e with ⟨_, q⟩ | ⟨hj, e⟩
    · cases q
    · exact ⟨⟨S, e⟩, rfl, if_neg hj⟩⟩
  · by_cases ha : a = p
    · subst ha; rw [upd_same] at e; rw [k2]; exact e
    · rw [upd_ne ha] at e; exact w.gr.fh a o e
  · have ha : a ≠ p := fun q => e (by rw [q]; exact k0)
    rw [upd_ne ha]
    exact w.gr.fr a e z
  · rcases get_set e with ⟨rfl, rfl⟩ | ⟨hj, e⟩
    · exact ⟨if_pos rfl, _, k1, .lst (.inl upd_same) (r.up up)⟩
    · have q := w.sl j s e
      rw [if_neg hj]
      cases s with
      | emp => exact q
      | val d =>
        obtain ⟨k, v, e, r⟩ := q
        exact ⟨k, v, e, r.up up⟩
      | own es =>
        obtain ⟨q, ws, k, k0, k1, k2, r⟩ := q
        exact ⟨q, ws, k, k0, k1, k2, r.up up⟩
      | st S => exact q
  · by_cases hj : j = i
    · simp [hj] at m
    · simp only [if_neg hj] at m
      have ne : q ≠ p := fun z => hn j hj (z ▸ m)
      rw [upd_ne ne]
      exact w.fz j q m
  · by_cases h1 : j1 = i
    · simp [h1] at m1
    · by_cases h2 : j2 = i
      · simp [h2] at m2
      · simp only [if_neg h1] at m1
        simp only [if_neg h2] at m2
        exact w.dj j1 j2 q m1 m2
  · by_cases hj : j = i
    · show (if j = i then [] else ad j) = []
      rw [if_pos hj]
    · show (if j = i then [] else ad j) = []
      rw [if_neg hj]
      exact w.out j (get_set' e)
def scalD : D → Bool
  | .none => true
  | .bool _ => true
  | .int _ => true
  | .str _ => true
  | _ => false
theorem scal_any {d : D} {v : V} (h : scalD d = true) (r : Rp F v d) : Rp F' v d := by
  cases r with
  | non => exact .non
  | bl b => exact .bl b
  | int i => exact .int i
  | str x => exact .str x
  | lst _ _ => cases h
  | tup _ _ => cases h
/-- behind a loan, with nothing changed but the heap's new objects -/
theorem WA.back (w : WA B ad ρ σ F H) {i : Nat} {ds : List D} (h : ρ[i]? = some (.own ds)) {F1 : Hp} {ad1 : Nat → List Addr} {ρ1 : Env} (e1 : ρ1 = ρ.set i (.val (.list ds))) (ea : ad1 = fun k => if k = i then [] else ad k)
    (hF1 : Same F F1) (p : Post B ad1 σ ρ1 F1 H ρ1 F' H') : Post B ad σ ρ F H ρ F H' := by
  subst e1 ea
  have hi : i < ρ.length := (List.getElem?_eq_some_iff.mp h).1
  have ms : ∀ a, MS (fun k => if k = i then [] else ad k) (ρ.set i (.val (.list ds))) a → MS ad ρ a := fun a ⟨j, S, e, m⟩ => by
    rcases get_set e with ⟨_, q⟩ | ⟨hj, e⟩
    · cases q
    · simp only [if_neg hj] at m
      exact ⟨j, S, e, m⟩
  have fh : Same F H' := (hF1.trans p.gr.ff).trans p.gr.fh
  have nms : ∀ j q, q ∈ ad j → (∀ S, ρ[j]? ≠ some (Slot.st S)) → ¬ MS ad ρ q := fun j q m hj ⟨j', S, e, m'⟩ => by
    have := w.dj j j' q m m'
    subst this
    exact hj S e
  refine ⟨⟨⟨w.gr.ff, fh, p.wa.gr.kp, p.wa.gr.al, w.gr.fr⟩, w.len, fun j s e => ?_, w.fz, w.dj, w.out, w.pin⟩, ⟨Same.refl F, fh, fun a o e m => p.gr.kp a o e fun z => m (ms a z), p.gr.al, fun _ _ z => z⟩, fun j S e => ⟨S, e⟩⟩
  have k := w.sl j s e
  cases s with
  | emp => exact k
  | val d => exact k
  | own es =>
    obtain ⟨q, ws, k, k0, k1, k2, r⟩ := k
    refine ⟨q, ws, k, k0, k1, p.gr.kp q _ k2 fun z => nms j q (by rw [k]; simp) (fun S z => by rw [e] at z; cases z) (ms q z), r⟩
  | st S =>
    have hj : j ≠ i := fun z => by subst z; rw [h] at e; cases e
    have k' := p.wa.sl j (.st S) (by rw [List.getElem?_set_ne (Ne.symm hj)]; exact e)
    simp only [if_neg hj] at k'
    exact k'
theorem ex_lend (i : Nat) {ds : List D} (h : ρ[i]? = some (.own ds)) (k : EX te (ρ.set i (.val (.list ds))) fun d ρ' => ρ' = ρ.set i (.val (.list ds)) ∧ scalD d = true ∧ Q d ρ) : EX te ρ Q := fun B ad σ F H w Z z => by
  obtain ⟨p, vs, k1, k2, k3, k4, k5, k6, w2⟩ := w.lend h
  refine k B _ σ _ H w2 Z fun d ρ' v F' H' q P r => ?_
  obtain ⟨rfl, sc, q⟩ := q
  exact z d ρ v F H' q (w.back h rfl rfl (same_upd k2) P) (scal_any sc r)
theorem et_lend (i : Nat) {tt : TT} {Q : Bool → Env → Prop} {ds : List D} (h : ρ[i]? = some (.own ds)) (k : ET tt (ρ.set i (.val (.list ds))) fun b ρ' => ρ' = ρ.set i (.val (.list ds)) ∧ Q b ρ) : ET tt ρ Q := fun B ad σ F H w Z z => by
  obtain ⟨p, vs, k1, k2, k3, k4, k5, k6, w2⟩ := w.lend h
  refine k B _ σ _ H w2 Z fun d ρ' F' H' q P => ?_
  obtain ⟨rfl, q⟩ := q
  exact z d ρ F H' q (w.back h rfl rfl (same_upd k2) P)
/-- x[k], x an own list -/
theorem ex_ixO {K : PySem.W.Frag} {i : Nat} {es : List D} (h : ρ[i]? = some (.own es)) (k : EX tb ρ fun d ρ2 => ∃ ds j e, ρ2[i]? = some (.own ds) ∧ d = .int j ∧ atI ds j = some e ∧ Q e ρ2) : EX (tOp (rIxA K) (tVar i) tb) ρ Q := fun B ad σ F H w Z z => by
  obtain ⟨p0, _, _, _, k1, _⟩ := w.sl i _ h
  refine ⟨_, k1, k B ad σ F H w _ fun d ρ2 y F2 H2 q2 p2 r2 => ?_⟩
  obtain ⟨ds, j, e, h2, rfl, hj, q⟩ := q2
  obtain ⟨p, vs, _, _, k2, k3, rr⟩ := p2.wa.sl i _ h2
  rw [k1] at k2
  cases k2
  obtain ⟨v, hv, rv⟩ := rr.at_ hj
  exact .inl ⟨_, vs, j, v, rfl, r2.int_inv, .inl (.inl k3), hv, z e ρ2 v F2 H2 q p2 rv⟩
theorem ex_lenO {K : PySem.W.Frag} {i : Nat} {ds : List D} (h : ρ[i]? = some (.own ds)) (q : Q (.int (ds.length : Int)) ρ) : EX (tCB (rLen K) (tCons (tVar i) tNil)) ρ Q := fun B ad σ F H w Z z => by
  obtain ⟨p, vs, _, _, k1, k3, rr⟩ := w.sl i _ h
  exact ⟨_, k1, _, ds.length, rfl, .inl ⟨vs, .inl (.inl k3), rr.len.symm⟩, z _ ρ _ F H q (Post.refl w) (.int _)⟩
end

/-! ### statements -/
structure Po where
  nx : Env → Prop
  rt : D → Env → Prop
  bk : Env → Prop := fun _ => False
  ct : Env → Prop := fun _ => False
def SX (ts : TS) (ρ : Env) (P : Po) : Prop := ∀ B σ F H, W B ρ σ F H → ∀ Dn : Ends, (∀ ρ' σ' F' H', P.nx ρ' → W B ρ' σ' F' H' → Dn.nx σ' H') → (∀ d ρ' σ' v F' H', P.rt d ρ' → W B ρ' σ' F' H' → Rp F' v d → Dn.rt v H') →
  (∀ ρ' σ' F' H', P.bk ρ' → W B ρ' σ' F' H' → Dn.bk σ' H') → (∀ ρ' σ' F' H', P.ct ρ' → W B ρ' σ' F' H' → Dn.ct σ' H') → ts Dn σ H
/-- ρ' knows no more than ρ -/
inductive LeE : Env → Env → Prop
  | nil : LeE [] []
  | emp {s : Slot} {ρ' ρ : Env} : LeE ρ' ρ → LeE (.emp :: ρ') (s :: ρ)
  | eq {s s' : Slot} {ρ' ρ : Env} : s = s' → LeE ρ' ρ → LeE (s :: ρ') (s' :: ρ)
theorem LeE.refl : ∀ ρ, LeE ρ ρ
  | [] => .nil
  | _ :: ρ => .eq rfl (LeE.refl ρ)
theorem LeE.len {ρ' ρ : Env} (h : LeE ρ' ρ) : ρ'.length = ρ.length := by
  induction h with
  | nil => rfl
  | emp _ ih => simp [ih]
  | eq _ _ ih => simp [ih]
theorem LeE.get {ρ' ρ : Env} (h : LeE ρ' ρ) : ∀ {i : Nat} {s : Slot}, ρ'[i]? = some s → s = .emp ∨ ρ[i]? = some s := by
  induction h with
  | nil => intro i s e; simp at e
  | emp _ ih =>
    intro i s e
    cases i with
    | zero => simp at e; exact .inl e.symm
    | succ i => exact ih (by simpa using e)
  | eq q _ ih =>
    intro i s e
    cases i with
    | zero => simp at e; subst e; subst q; exact .inr rfl
    | succ i => exact ih (by simpa using e)
theorem WA.weak {B : Base} {ad : Nat → List Addr} {ρ ρ' : Env} {σ : St} {F H : Hp} (w : WA B ad ρ σ F H) (l : LeE ρ' ρ) : W B ρ' σ F H := by
  refine ⟨fun i => match ρ'[i]? with | some .emp => [] | _ => ad i, w.gr, by rw [l.len]; exact w.len, fun i s e => ?_, fun i p m => ?_, fun i j p m1 m2 => ?_, fun i e => ?_, w.pin.to fun S e => by
    rcases l.get e with h | h
    · cases h
    · exact ⟨⟨S, h⟩, rfl, by
        show (match ρ'[0]? with | some .emp => [] | _ => ad 0) = ad 0
        rw [e]⟩⟩
  · rcases l.get e with h | h
    · subst h
      show (match ρ'[i]? with | some .emp => [] | _ => ad i) = []
      rw [e]
    · have k := w.sl i s h
      show SlotOk B F H s σ[i]? (match ρ'[i]? with | some .emp => [] | _ => ad i)
      rw [e]
      cases s with
      | emp => rfl
      | _ => exact k
  · exact w.fz i p (by
      revert m
      show p ∈ (match ρ'[i]? with | some .emp => [] | _ => ad i) → p ∈ ad i
      split <;> simp)
  · have g : ∀ i, p ∈ (match ρ'[i]? with | some .emp => [] | _ => ad i) → p ∈ ad i := fun i => by split <;> simp
    exact w.dj i j p (g i m1) (g j m2)
  · show (match ρ'[i]? with | some .emp => [] | _ => ad i) = []
    rw [e]
    exact w.out i (by
      rw [List.getElem?_eq_none_iff] at e ⊢
      rw [← l.len]; exact e)
theorem W.weak {B : Base} {ρ ρ' : Env} {σ : St} {F H : Hp} (w : W B ρ σ F H) (l : LeE ρ' ρ) : W B ρ' σ F H := let ⟨_, w⟩ := w; w.weak l
/-- a slot is stored -/
theorem WA.setVal {B : Base} {ad : Nat → List Addr} {ρ : Env} {σ : St} {F H : Hp} (w : WA B ad ρ σ F H) (i : Nat) {d : D} {v : V} (r : Rp F v d) : W B (ρ.set i (.val d)) (σ.set i (some v)) F H := by
  refine ⟨fun k => if k = i then [] else ad k, w.gr, by rw [List.length_set, List.length_set]; exact w.len, fun j s e => ?_, fun j p m => ?_, fun j1 j2 q m1 m2 => ?_, fun j e => ?_, w.pin.to fun S e => by
    rcases get_set e with ⟨_, q⟩ | ⟨hj, e⟩
    · cases q
    · exact ⟨⟨S, e⟩, List.getElem?_set_ne (Ne.symm hj), if_neg hj⟩⟩
  · rcases get_set e with ⟨rfl, rfl⟩ | ⟨hj, e'⟩
    · have hi : j < σ.length := by
        have := (List.getElem?_eq_some_iff.mp e).1
        rw [List.length_set] at this
        rw [w.len]; exact this
      exact ⟨if_pos rfl, v, List.getElem?_set_self hi, r⟩
    · rw [if_neg hj, List.getElem?_set_ne (Ne.symm hj)]
      exact w.sl j s e'
  · by_cases hj : j = i
    · simp [hj] at m
    · simp only [if_neg hj] at m
      exact w.fz j p m
  · by_cases h1 : j1 = i
    · simp [h1] at m1
    · by_cases h2 : j2 = i
      · simp [h2] at m2
      · simp only [if_neg h1] at m1
        simp only [if_neg h2] at m2
        exact w.dj j1 j2 q m1 m2
  · show (if j = i then [] else ad j) = []
    by_cases hj : j = i
    · rw [if_pos hj]
    · rw [if_neg hj]
      exact w.out j (get_set' e)
theorem WA.setOwn {B : Base} {ad : Nat → List Addr} {ρ : Env} {σ : St} {F H : Hp} (w : WA B ad ρ σ F H) (i : Nat) {ds : List D} {p : Addr} {vs : List V} (hF : F p = none) (h0 : B.H0 p = none) (hn : ∀ i, p ∉ ad i) (hp : H p = some (.lst vs)) (r : RpA F vs ds) :
    W B (ρ.set i (.own ds)) (σ.set i (some (.ref p))) F H := by
  refine ⟨fun k => if k = i then (if i < ρ.length then [p] else []) else ad k, w.gr, by rw [List.length_set, List.length_set]; exact w.len, fun j s e => ?_, fun j q m => ?_, fun j1 j2 q m1 m2 => ?_, fun j e => ?_, w.pin.to fun S e => by
    rcases get_set e with ⟨_, q⟩ | ⟨hj, e⟩
    · cases q
    · exact ⟨⟨S, e⟩, List.getElem?_set_ne (Ne.symm hj), if_neg hj⟩⟩
  · rcases get_set e with ⟨rfl, rfl⟩ | ⟨hj, e'⟩
    · have hi : j < ρ.length := by
        have := (List.getElem?_eq_some_iff.mp e).1
        rwa [List.length_set] at this
      exact ⟨p, vs, by rw [if_pos rfl, if_pos hi], h0, List.getElem?_set_self (by rw [w.len]; exact hi), hp, r⟩
    · rw [if_neg hj, List.getElem?_set_ne (Ne.symm hj)]
      exact w.sl j s e'
  · by_cases hj : j = i
    · simp only [if_pos hj] at m
      by_cases hi : i < ρ.length
      · simp only [if_pos hi, List.mem_singleton] at m
        subst m
        exact ⟨hF, .inl h0⟩
      · simp [if_neg hi] at m
    · simp only [if_neg hj] at m
      exact w.fz j q m
  · have g : ∀ j, q ∈ (if j = i then (if i < ρ.length then [p] else []) else ad j) → (j = i ∧ q = p) ∨ (j ≠ i ∧ q ∈ ad j) := fun j m => by
      by_cases hj : j = i
      · simp only [if_pos hj] at m
        by_cases hi : i < ρ.length
        · simp only [if_pos hi, List.mem_singleton] at m
          exact .inl ⟨hj, m⟩
        · simp [if_neg hi] at m
      · simp only [if_neg hj] at m
        exact .inr ⟨hj, m⟩
    rcases g j1 m1 with ⟨a1, b1⟩ | ⟨a1, b1⟩ <;> rcases g j2 m2 with ⟨a2, b2⟩ | ⟨a2, b2⟩
    · rw [a1, a2]
    · exact absurd (b1 ▸ b2) (hn j2)
    · exact absurd (b2 ▸ b1) (hn j1)
    · exact w.dj j1 j2 q b1 b2
  · show (if j = i then (if i < ρ.length then [p] else []) else ad j) = []
    have e' := get_set' e
    by_cases hj : j = i
    · subst hj
      rw [if_pos rfl, if_neg (by rw [List.getElem?_eq_none_iff] at e'; omega)]
    · rw [if_neg hj]
      exact w.out j e'
/-- an own list is changed in place -/
theorem WA.mut {B : Base} {ad : Nat → List Addr} {ρ : Env} {σ : St} {F H : Hp} (w : WA B ad ρ σ F H) {i : Nat} {ds es : List D} {p : Addr} {ws : List V} (h : ρ[i]? = some (.own ds)) (hp : σ[i]? = some (some (.ref p))) (r : RpA F ws es) :
    W B (ρ.set i (.own es)) σ F (upd H p (.lst ws)) := by
  obtain ⟨p', vs, k, k0, k1, k2, _⟩ := w.sl i _ h
  rw [hp] at k1
  cases k1
  have hF : F p = none := (w.fz i p (by rw [k]; simp)).1
  have hn : ∀ j, j ≠ i → p ∉ ad j := fun j hj m => hj (w.dj j i p m (by rw [k]; simp))
  have ne0 : ∀ a o, B.H0 a = some o → a ≠ p := fun a o e z => by rw [z, k0] at e; cases e
  refine ⟨ad, ⟨w.gr.ff, fun a o e => ?_, fun a o e m => ?_, fun a e => ?_, w.gr.fr⟩, by rw [List.length_set]; exact w.len, fun j s e => ?_, w.fz, w.dj, fun j e => w.out j (get_set' e), w.pin.to fun S e => by
    rcases get_set e with ⟨_, q⟩ | ⟨hj, e⟩
    · cases q
    · exact ⟨⟨S, e⟩, rfl, rfl⟩⟩
  · rw [upd_ne (fun z => by rw [z, hF] at e; cases e)]
    exact w.gr.fh a o e
  · rw [upd_ne (ne0 a o e)]
    exact w.gr.kp a o e m
  · by_cases ha : a = p
    · rw [ha, upd_same]; intro z; cases z
    · rw [upd_ne ha]; exact w.gr.al a e
  · rcases get_set e with ⟨rfl, rfl⟩ | ⟨hj, e⟩
    · exact ⟨p, ws, k, k0, hp, upd_same, r⟩
    · have q := w.sl j s e
      cases s with
      | emp => exact q
      | val d => exact q
      | own es =>
        obtain ⟨q, vs, k1, k2, k3, k4, k5⟩ := q
        refine ⟨q, vs, k1, k2, k3, ?_, k5⟩
        rw [upd_ne (fun z => hn j hj (by rw [k1, z]; simp))]
        exact k4
      | st S =>
        obtain ⟨s, k1, q⟩ := q
        refine ⟨s, k1, ?_⟩
        cases S with
        | two a b =>
          refine ⟨q.1, ?_⟩
          rw [upd_ne (fun z => hn j hj (by rw [q.1, z]; simp))]
          exact q.2
        | dct kvs =>
          refine ⟨q.1, ?_⟩
          rw [upd_ne (fun z => hn j hj (by rw [q.1, z]; simp))]
          exact q.2
        | cel a cs =>
          obtain ⟨c, q1, q2, q3, q4⟩ := q
          refine ⟨c, q1, q2, ?_, ?_⟩
          · rw [upd_ne (fun z => hn j hj (by rw [q1, z]; simp))]
            exact q3
          · rw [upd_ne (fun z => hn j hj (by rw [q1, z]; simp))]
            exact q4

/-! #### the rules for statements -/
section
variable {ρ ρ' : Env} {P : Po} {te ta tb : TE} {tt : TT} {t u : TS}
/-- what follows, perhaps with less known -/
def NX (P : Po) (ρ : Env) : Prop := ∃ ρ', LeE ρ' ρ ∧ P.nx ρ'
theorem nx_same (h : P.nx ρ) : NX P ρ := ⟨ρ, LeE.refl ρ, h⟩
theorem nx_le (l : LeE ρ' ρ) (h : P.nx ρ') : NX P ρ := ⟨ρ', l, h⟩
def CTn (P : Po) (ρ : Env) : Prop := ∃ ρ', LeE ρ' ρ ∧ P.ct ρ'
theorem sx_weak (l : LeE ρ' ρ) (h : SX t ρ' P) : SX t ρ P := fun B σ F H w => h B σ F H (w.weak l)
/-- then u -/
def Po.seq (P : Po) (u : TS) : Po := { P with nx := fun ρ' => SX u ρ' P }
theorem nx_seq (h : SX u ρ P) : NX (P.seq u) ρ := nx_same h
theorem nx_seqw (l : LeE ρ' ρ) (h : SX u ρ' P) : NX (P.seq u) ρ := nx_le l h
theorem sx_seq (h : SX t ρ (P.seq u)) : SX (tSeq t u) ρ P := fun B σ F H w Dn n r b c =>
  h B σ F H w { Dn with nx := u Dn } (fun ρ' σ' F' H' q w' => q B σ' F' H' w' Dn n r b c) r b c
theorem sx_next (h : NX P ρ) : SX tNext ρ P := fun B σ F H w Dn n r b c => let ⟨ρ', l, q⟩ := h; n ρ' σ F H q (w.weak l)
theorem sx_asg {i : Nat} (h : EX te ρ fun d ρ1 => NX P (ρ1.set i (.val d))) : SX (tAsg te (gName i)) ρ P := fun B σ F H w Dn n r b c => by
  obtain ⟨ad, w⟩ := w
  exact h B ad σ F H w _ fun d ρ1 v F1 H1 q p rv => let ⟨ρ', l, q⟩ := q; n ρ' _ F1 H1 q ((p.wa.setVal i rv).weak l)
theorem sx_asgO {i : Nat} (h : EO te ρ fun ds ρ1 => NX P (ρ1.set i (.own ds))) : SX (tAsg te (gName i)) ρ P := fun B σ F H w Dn n r b c => by
  obtain ⟨ad, w⟩ := w
  refine h B ad σ F H w _ fun ds ρ1 p vs F1 H1 q P hF hH hp rv => ?_
  obtain ⟨ρ', l, q⟩ := q
  have k := w.newp hH
  exact n ρ' _ F1 H1 q ((P.wa.setOwn i hF k.2.1 k.2.2 hp rv).weak l)
theorem sx_if (h : ET tt ρ fun b ρ1 => (b = true → SX t ρ1 P) ∧ (b = false → SX u ρ1 P)) : SX (tIfS tt t u) ρ P := fun B σ F H w Dn n r bk c => by
  obtain ⟨ad, w⟩ := w
  refine h B ad σ F H w _ fun b ρ1 F1 H1 q p => ?_
  cases b with
  | true =>
    show t Dn σ H1
    exact q.1 rfl B σ F1 H1 ⟨ad, p.wa⟩ Dn n r bk c
  | false =>
    show u Dn σ H1
    exact q.2 rfl B σ F1 H1 ⟨ad, p.wa⟩ Dn n r bk c
theorem sx_ret (h : EX te ρ fun d ρ1 => P.rt d ρ1) : SX (tRet te) ρ P := fun B σ F H w Dn n r b c => by
  obtain ⟨ad, w⟩ := w
  exact h B ad σ F H w _ fun d ρ1 v F1 H1 q p rv => r d ρ1 σ v F1 H1 q ⟨ad, p.wa⟩ rv
theorem sx_retN (h : P.rt .none ρ) : SX tRetN ρ P := fun B σ F H w Dn n r b c => r .none ρ σ .non F H h w .non
theorem sx_brk (h : P.bk ρ) : SX tBreak ρ P := fun B σ F H w Dn n r b c => b ρ σ F H h w
theorem sx_cont (h : CTn P ρ) : SX tCont ρ P := fun B σ F H w Dn n r b c => let ⟨ρ', l, q⟩ := h; c ρ' σ F H q (w.weak l)
theorem sx_drop (h : EX te ρ fun _ ρ1 => NX P ρ1) : SX (tDrop te) ρ P := fun B σ F H w Dn n r b c => by
  obtain ⟨ad, w⟩ := w
  exact h B ad σ F H w _ fun d ρ1 v F1 H1 q p rv => let ⟨ρ', l, q⟩ := q; n ρ' σ F1 H1 q (p.wa.weak l)
theorem W.freeze {B : Base} {σ : St} {F H : Hp} (w : W B ρ σ F H) {i : Nat} {ds : List D} (h : ρ[i]? = some (.own ds)) : ∃ F', W B (ρ.set i (.val (.list ds))) σ F' H := by
  obtain ⟨ad, w⟩ := w
  obtain ⟨p, vs, _, _, _, _, _, _, w2⟩ := w.lend h
  exact ⟨_, _, w2⟩
theorem sx_freeze (i : Nat) {ds : List D} (h : ρ[i]? = some (.own ds)) (k : SX t (ρ.set i (.val (.list ds))) P) : SX t ρ P := fun B σ F H w => by
  obtain ⟨F', w2⟩ := w.freeze h
  exact k B σ F' H w2
/-- x.append(e), x an own list -/
theorem sx_app {K : PySem.W.Frag} {i : Nat} {es : List D} (h : ρ[i]? = some (.own es)) (k : EX te ρ fun d ρ1 => ∃ ds, ρ1[i]? = some (.own ds) ∧ ds.length < 1000000 ∧ NX P (ρ1.set i (.own (ds ++ [d])))) : SX (tDrop (tBM K "list" rAppend (tVar i) (tCons te tNil))) ρ P := fun B σ F H w Dn n r b c => by
  obtain ⟨ad, w⟩ := w
  obtain ⟨p0, vs0, _, _, k1, k0, _⟩ := w.sl i _ h
  refine ⟨_, k1, .inl ⟨rfl, _, .inl (.inl k0)⟩, k B ad σ F H w _ fun d ρ1 v F1 H1 q1 p1 r1 => ?_⟩
  obtain ⟨ds, h1, hz, ρ', l, q⟩ := q1
  obtain ⟨p, vs, _, _, k2, k3, rr⟩ := p1.wa.sl i _ h1
  have e := k1.symm.trans k2
  cases e
  exact ⟨_, vs, v, rfl, rfl, k3, Nat.lt_of_lt_of_le (by rw [rr.len]; exact hz) (by decide), n ρ' σ F1 _ q ((p1.wa.mut h1 k2 (rr.app (.cons r1 .nil))).weak l)⟩
/-- x[j] = e, x an own list -/
theorem sx_setO {i : Nat} {es : List D} (h : EX te ρ fun d ρ1 => ρ1[i]? = some (.own es) ∧ EX tb ρ1 fun j ρ2 => ∃ ds k m, ρ2[i]? = some (.own ds) ∧ j = .int k ∧ ixN ds.length k = some m ∧ NX P (ρ2.set i (.own (ds.set m d)))) : SX (tAsg te (gSub (tVar i) tb rSetL)) ρ P := fun B σ F H w Dn n r b c => by
  obtain ⟨ad, w⟩ := w
  refine h B ad σ F H w _ fun d ρ1 v F1 H1 q1 p1 r1 => ?_
  obtain ⟨h1, q1⟩ := q1
  obtain ⟨p0, vs0, _, _, k1, k0, _⟩ := p1.wa.sl i _ h1
  refine ⟨_, k1, q1 B ad σ F1 H1 p1.wa _ fun j ρ2 y F2 H2 q2 p2 r2 => ?_⟩
  obtain ⟨ds, k, m, h2, rfl, hm, ρ', l, q⟩ := q2
  obtain ⟨p, vs, _, _, k2, k3, rr⟩ := p2.wa.sl i _ h2
  have e := k1.symm.trans k2
  cases e
  exact ⟨_, vs, k, m, rfl, r2.int_inv, k3, by rw [rr.len]; exact hm, n ρ' σ F2 _ q ((p2.wa.mut h2 k2 (rr.set m (r1.up p2.gr.ff))).weak l)⟩
/-- a, b = e, f -/
theorem sx_par {i j : Nat} {t : TA} (h : EA t ρ fun ds ρ1 => ∃ d e, ds = [d, e] ∧ NX P ((ρ1.set i (.val d)).set j (.val e))) : SX (tPar i j t) ρ P := fun B σ F H w Dn n r b c => by
  obtain ⟨ad, w⟩ := w
  refine h B ad σ F H w _ fun ds ρ1 vs F1 H1 q p rv => ?_
  obtain ⟨d, e, rfl, ρ', l, q⟩ := q
  obtain ⟨v, u, rfl, r1, r2⟩ := rv.two
  obtain ⟨ad2, w2⟩ := p.wa.setVal i r1
  exact ⟨v, u, rfl, n ρ' _ F1 H1 q ((w2.setVal j r2).weak l)⟩
/-! targets -/
def SG (J : List Nat) (g : TG) (d : D) (ρ : Env) (Qn : Env → Prop) : Prop := ∀ B ad σ F H v, WA B ad ρ σ F H → (∀ j ∈ J, ad j = []) → Rp F v d → ∀ Z : St → Hp → Prop, (∀ ρ' σ', Qn ρ' → WA B ad ρ' σ' F H → wipe σ' J = wipe σ J → (∀ i, i ∉ J → ρ'[i]? = ρ[i]?) → Z σ' H) → g v σ H Z
def SGs (J : List Nat) (g : TGs) (ds : List D) (ρ : Env) (Qn : Env → Prop) : Prop := ∀ B ad σ F H vs, WA B ad ρ σ F H → (∀ j ∈ J, ad j = []) → RpA F vs ds → ∀ Z : St → Hp → Prop, (∀ ρ' σ', Qn ρ' → WA B ad ρ' σ' F H → wipe σ' J = wipe σ J → (∀ i, i ∉ J → ρ'[i]? = ρ[i]?) → Z σ' H) → g vs σ H Z
theorem wipe_get {σ : St} {i : Nat} : ∀ {vs : List Nat}, (wipe σ vs)[i]? = if i ∈ vs ∧ i < σ.length then some none else σ[i]?
  | [] => by simp [wipe]
  | v :: vs => by
    unfold wipe
    by_cases h : i = v
    · subst h
      by_cases hl : i < σ.length
      · rw [List.getElem?_set_self (by rw [wipe_length]; exact hl)]
        simp [hl]
      · rw [List.getElem?_eq_none (by rw [List.length_set, wipe_length]; omega)]
        simp [hl]
    · rw [List.getElem?_set_ne (Ne.symm h), wipe_get]
      simp [h]
theorem wipe_set {σ : St} {i : Nat} {x : Option V} {J : List Nat} (h : i ∈ J) : wipe (σ.set i x) J = wipe σ J := by
  apply List.ext_getElem?
  intro k
  rw [wipe_get, wipe_get, List.length_set]
  by_cases hk : k ∈ J ∧ k < σ.length
  · rw [if_pos hk, if_pos hk]
  · rw [if_neg hk, if_neg hk]
    by_cases e : k = i
    · subst e
      have : ¬ k < σ.length := fun z => hk ⟨h, z⟩
      rw [List.getElem?_eq_none (by rw [List.length_set]; omega), List.getElem?_eq_none (by omega)]
    · rw [List.getElem?_set_ne (Ne.symm e)]
theorem WA.setVal' {B : Base} {ad : Nat → List Addr} {σ : St} {F H : Hp} (w : WA B ad ρ σ F H) (i : Nat) (hi : ad i = []) {d : D} {v : V} (r : Rp F v d) : WA B ad (ρ.set i (.val d)) (σ.set i (some v)) F H := by
  refine ⟨w.gr, by rw [List.length_set, List.length_set]; exact w.len, fun j s e => ?_, w.fz, w.dj, fun j e => w.out j (get_set' e), w.pin.to fun S e => by
    rcases get_set e with ⟨_, q⟩ | ⟨hj, e⟩
    · cases q
    · exact ⟨⟨S, e⟩, List.getElem?_set_ne (Ne.symm hj), rfl⟩⟩
  rcases get_set e with ⟨rfl, rfl⟩ | ⟨hj, e'⟩
  · have hl : j < σ.length := by
      have := (List.getElem?_eq_some_iff.mp e).1
      rw [List.length_set] at this
      rw [w.len]; exact this
    exact ⟨hi, v, List.getElem?_set_self hl, r⟩
  · rw [List.getElem?_set_ne (Ne.symm hj)]
    exact w.sl j s e'
theorem sg_name {J : List Nat} {i : Nat} {d : D} {Qn : Env → Prop} (hj : i ∈ J) (q : Qn (ρ.set i (.val d))) : SG J (gName i) d ρ Qn := fun B ad σ F H v w hJ r Z z => z _ _ q (w.setVal' i (hJ i hj) r) (wipe_set hj) fun k hk => List.getElem?_set_ne fun e => hk (by rw [← e]; exact hj)
theorem sgs_nil {J : List Nat} {Qn : Env → Prop} (q : Qn ρ) : SGs J gNil [] ρ Qn := fun B ad σ F H vs w hJ r Z z => by
  cases r
  exact ⟨rfl, z ρ σ q w rfl fun _ _ => rfl⟩
theorem sgs_cons {J : List Nat} {g : TG} {gs : TGs} {d : D} {ds : List D} {Qn : Env → Prop} (h : SG J g d ρ fun ρ1 => SGs J gs ds ρ1 Qn) : SGs J (gCons g gs) (d :: ds) ρ Qn := fun B ad σ F H vs w hJ r Z z => by
  cases r with
  | cons r1 r2 =>
    exact ⟨_, _, rfl, h B ad σ F H _ w hJ r1 _ fun ρ1 σ1 q w1 e1 f1 => q B ad σ1 F H _ w1 hJ r2 Z fun ρ2 σ2 q w2 e2 f2 => z ρ2 σ2 q w2 (e2.trans e1) fun i hi => (f2 i hi).trans (f1 i hi)⟩
theorem sg_tup {K : PySem.W.Frag} {J : List Nat} {n : Nat} {gs : TGs} {ds : List D} {Qn : Env → Prop} (hn : ds.length = n) (h : SGs J gs ds ρ Qn) : SG J (gTup K n gs) (.tuple ds) ρ Qn := fun B ad σ F H v w hJ r Z z => by
  obtain ⟨a, xs, rfl, h1, h2⟩ := r.tup_inv
  exact ⟨a, xs, rfl, sqT_rd h1 w.gr.fh, h2.len.trans hn, h B ad σ F H xs w hJ h2 Z z⟩
/-- the slots at vs forgotten -/
def wipeE (ρ : Env) (vs : List Nat) : Env := vs.foldl (fun r v => r.set v .emp) ρ
theorem wipeE_len (ρ : Env) (vs : List Nat) : (wipeE ρ vs).length = ρ.length := by
  unfold wipeE
  induction vs generalizing ρ with
  | nil => rfl
  | cons v vs ih => rw [List.foldl_cons, ih, List.length_set]
theorem wipeE_get : ∀ {vs : List Nat} {ρ : Env} {i : Nat}, (wipeE ρ vs)[i]? = if i ∈ vs ∧ i < ρ.length then some .emp else ρ[i]?
  | [], ρ, i => by simp [wipeE]
  | v :: vs, ρ, i => by
    have e : wipeE ρ (v :: vs) = wipeE (ρ.set v .emp) vs := rfl
    rw [e, wipeE_get, List.length_set]
    by_cases h : i ∈ vs ∧ i < ρ.length
    · rw [if_pos h, if_pos ⟨List.mem_cons_of_mem _ h.1, h.2⟩]
    · rw [if_neg h]
      by_cases hv : i = v
      · subst hv
        by_cases hl : i < ρ.length
        · rw [List.getElem?_set_self hl, if_pos ⟨by simp, hl⟩]
        · rw [List.getElem?_eq_none (by rw [List.length_set]; omega), if_neg (fun z => hl z.2), List.getElem?_eq_none (by omega)]
      · rw [List.getElem?_set_ne (Ne.symm hv)]
        rw [if_neg (fun z => h ⟨(List.mem_cons.mp z.1).resolve_left hv, z.2⟩)]
theorem WA.weakJ {B : Base} {ad : Nat → List Addr} {σ : St} {F H : Hp} (w : WA B ad ρ σ F H) (J : List Nat) : WA B (fun k => if k ∈ J then [] else ad k) (wipeE ρ J) σ F H := by
  have g : ∀ i p, p ∈ (if i ∈ J then [] else ad i) → p ∈ ad i := fun i p m => by
    by_cases h : i ∈ J
    · rw [if_pos h] at m; cases m
    · rw [if_neg h] at m; exact m
  refine ⟨w.gr, by rw [wipeE_len]; exact w.len, fun i s e => ?_, fun i p m => w.fz i p (g i p m), fun i j p m1 m2 => w.dj i j p (g i p m1) (g j p m2), fun i e => ?_, w.pin.to fun S e => by
    rw [wipeE_get] at e
    by_cases h : 0 ∈ J ∧ 0 < ρ.length
    · rw [if_pos h] at e; cases e
    · rw [if_neg h] at e
      have hi : 0 < ρ.length := (List.getElem?_eq_some_iff.mp e).1
      exact ⟨⟨S, e⟩, rfl, if_neg fun z => h ⟨z, hi⟩⟩⟩
  · rw [wipeE_get] at e
    by_cases h : i ∈ J ∧ i < ρ.length
    · rw [if_pos h] at e
      cases e
      exact if_pos h.1
    · rw [if_neg h] at e
      have hi : i < ρ.length := (List.getElem?_eq_some_iff.mp e).1
      have hJ : i ∉ J := fun z => h ⟨z, hi⟩
      simp only [if_neg hJ]
      exact w.sl i s e
  · rw [wipeE_get] at e
    by_cases hJ : i ∈ J
    · exact if_pos hJ
    · show (if i ∈ J then [] else ad i) = []
      rw [if_neg hJ]
      rw [if_neg (fun z => hJ z.1)] at e
      exact w.out i e
theorem sg_go {B : Base} {ad : Nat → List Addr} {σ : St} {F H : Hp} {J : List Nat} {g : TG} {d : D} {v : V} {Qn : Env → Prop} (h : SG J g d (wipeE ρ J) Qn) (w : WA B ad ρ σ F H) (r : Rp F v d) (Z : St → Hp → Prop) (z : ∀ ρ' σ', Qn ρ' → W B ρ' σ' F H → Z σ' H) : g v σ H Z :=
  h B _ σ F H v (w.weakJ J) (fun j hj => if_pos hj) r Z fun ρ' σ' q w' _ _ => z ρ' σ' q ⟨_, w'⟩
/-- (a, b) = e by a target -/
theorem sx_asgT {J : List Nat} {g : TG} (h : EX te ρ fun d ρ1 => SG J g d (wipeE ρ1 J) fun ρ2 => NX P ρ2) : SX (tAsg te g) ρ P := fun B σ F H w Dn n r b c => by
  obtain ⟨ad, w⟩ := w
  exact h B ad σ F H w _ fun d ρ1 v F1 H1 q p rv => sg_go q p.wa rv _ fun ρ2 σ2 q w2 => let ⟨ρ', l, q⟩ := q; n ρ' σ2 F1 H1 q (w2.weak l)
/-! loops -/
structure ItD (J : It) (F : Hp) (ds : List D) : Prop where
  go : ∀ i H, Same F H → i < ds.length → J.go i H
  stop : ∀ i H, Same F H → ds.length ≤ i → J.stop i H
  yld : ∀ i H x H' F1, Same F F1 → Same F1 H → J.yld i H x H' → i < ds.length → ∃ d F2, ds[i]? = some d ∧ Gr Non F1 H F2 H' ∧ Rp F2 x d
/-- what is walked -/
def EI (wi : TI) (ρ : Env) (Q : List D → Env → Prop) : Prop := ∀ B ad σ F H, WA B ad ρ σ F H → ∀ R : It → Hp → Prop, (∀ ds ρ' J F' H', Q ds ρ' → Post B ad σ ρ F H ρ' F' H' → ItD J F' ds → R J H') → wi σ H R
theorem W.rebase {B : Base} {σ : St} {F H : Hp} (w : W B ρ σ F H) : W { F0 := F, H0 := B.H0, M := B.M, pin := B.pin } ρ σ F H := by
  obtain ⟨ad, w⟩ := w
  refine ⟨ad, ⟨Same.refl F, w.gr.fh, w.gr.kp, w.gr.al, fun _ _ z => z⟩, w.len, fun i s e => ?_, w.fz, w.dj, w.out, w.pin⟩
  have k := w.sl i s e
  cases s <;> exact k
theorem W.unbase {B : Base} {σ σ' : St} {F H F' H' : Hp} (w : W B ρ σ F H) (w' : W { F0 := F, H0 := B.H0, M := B.M, pin := B.pin } ρ' σ' F' H') : W B ρ' σ' F' H' ∧ Same F F' := by
  obtain ⟨ad, w⟩ := w
  obtain ⟨ad', w'⟩ := w'
  refine ⟨⟨ad', ⟨w.gr.ff.trans w'.gr.ff, w'.gr.fh, w'.gr.kp, w'.gr.al, fun a e z => w'.gr.fr a e (w.gr.fr a e z)⟩, w'.len, fun i s e => ?_, w'.fz, w'.dj, w'.out, w'.pin⟩, w'.gr.ff⟩
  have k := w'.sl i s e
  cases s <;> exact k
theorem sx_for {wi : TI} {J : List Nat} {g : TG} (h : EI wi ρ fun ds ρ1 => ∃ I : Nat → Env → Prop, I 0 ρ1 ∧ (∀ k d ρ', ds[k]? = some d → I k ρ' → SG J g d (wipeE ρ' J) fun ρ2 => SX t ρ2 { nx := I (k + 1), ct := I (k + 1), bk := NX P, rt := P.rt }) ∧ ∀ ρ', I ds.length ρ' → NX P ρ') :
    SX (tFor wi g t) ρ P := fun B σ F H w Dn n r b c => by
  obtain ⟨ad, w⟩ := w
  refine h B ad σ F H w _ fun ds ρ1 J F1 H1 q1 p1 it => ?_
  obtain ⟨I, i0, turn, done⟩ := q1
  refine ⟨fun i m σ' H' => m = ds.length - i ∧ i ≤ ds.length ∧ ∃ ρ' F', I i ρ' ∧ W B ρ' σ' F' H' ∧ Same F1 F', ⟨_, rfl, Nat.zero_le _, ρ1, F1, i0, ⟨ad, p1.wa⟩, Same.refl _⟩, ?_⟩
  rintro i m σ' H' ⟨rfl, hi, ρ', F', iv, ⟨ad', w'⟩, sf⟩
  by_cases hlt : i < ds.length
  · refine .inr ⟨it.go i H' (sf.trans w'.gr.fh) hlt, fun σ2 H2 => ∃ ρ2 F2, I (i + 1) ρ2 ∧ W B ρ2 σ2 F2 H2 ∧ Same F1 F2, fun σ2 H2 ⟨ρ2, F2, a, b, c⟩ => ⟨ds.length - (i + 1), by omega, rfl, hlt, ρ2, F2, a, b, c⟩, fun x H2 y => ?_⟩
    obtain ⟨d, F2, e, gr, rx⟩ := it.yld i H' x H2 F' sf w'.gr.fh y hlt
    refine sg_go (turn i d ρ' e iv) (w'.grow gr) rx _ fun ρ2 σ2 q w2 => ?_
    exact q _ σ2 F2 H2 w2.rebase _ (fun ρ3 σ3 F3 H3 q3 w3 => let k := w2.unbase w3; ⟨ρ3, F3, q3, k.1, (sf.trans gr.ff).trans k.2⟩) (fun d ρ3 σ3 v F3 H3 q3 w3 rv => r d ρ3 σ3 v F3 H3 q3 (w2.unbase w3).1 rv) (fun ρ3 σ3 F3 H3 q3 w3 => let ⟨ρ4, l, q4⟩ := q3; n ρ4 σ3 F3 H3 q4 ((w2.unbase w3).1.weak l)) (fun ρ3 σ3 F3 H3 q3 w3 => let k := w2.unbase w3; ⟨ρ3, F3, q3, k.1, (sf.trans gr.ff).trans k.2⟩)
  · have e : i = ds.length := by omega
    subst e
    obtain ⟨ρ2, l, q⟩ := done ρ' iv
    exact .inl ⟨it.stop _ H' (sf.trans w'.gr.fh) (Nat.le_refl _), n ρ2 σ' F' H' q (w'.weak l)⟩
theorem sx_while (I : Nat → Env → Prop) (m0 : Nat) (i0 : I m0 ρ) (h : ∀ m ρ', I m ρ' → ET tt ρ' fun b ρ1 => (b = true → SX t ρ1 { nx := fun ρ2 => ∃ m', m' < m ∧ I m' ρ2, ct := fun ρ2 => ∃ m', m' < m ∧ I m' ρ2, bk := NX P, rt := P.rt }) ∧ (b = false → NX P ρ1)) : SX (tWhile tt t) ρ P := fun B σ F H w Dn n r b c => by
  refine ⟨fun m σ' H' => ∃ ρ' F', I m ρ' ∧ W B ρ' σ' F' H', ⟨m0, ρ, F, i0, w⟩, ?_⟩
  rintro m σ' H' ⟨ρ', F', iv, ⟨ad, w'⟩⟩
  refine h m ρ' iv B ad σ' F' H' w' _ fun b1 ρ1 F1 H1 q p => ?_
  cases b1 with
  | true =>
    refine ⟨fun σ2 H2 => ∃ m' ρ2 F2, m' < m ∧ I m' ρ2 ∧ W B ρ2 σ2 F2 H2, fun σ2 H2 ⟨m', ρ2, F2, a, b, c⟩ => ⟨m', a, ρ2, F2, b, c⟩, ?_⟩
    exact q.1 rfl B σ' F1 H1 ⟨ad, p.wa⟩ _ (fun ρ3 σ3 F3 H3 q3 w3 => let ⟨m', a, b⟩ := q3; ⟨m', ρ3, F3, a, b, w3⟩) r (fun ρ3 σ3 F3 H3 q3 w3 => let ⟨ρ4, l, q4⟩ := q3; n ρ4 σ3 F3 H3 q4 (w3.weak l)) (fun ρ3 σ3 F3 H3 q3 w3 => let ⟨m', a, b⟩ := q3; ⟨m', ρ3, F3, a, b, w3⟩)
  | false =>
    show Dn.nx σ' H1
    obtain ⟨ρ2, l, q2⟩ := q.2 rfl
    exact n ρ2 σ' F1 H1 q2 (W.weak ⟨ad, p.wa⟩ l)
/-! what is walked -/
theorem ei_list {K : PySem.W.Frag} {Q : List D → Env → Prop} (h : EX te ρ fun d ρ1 => ∃ ds, d = .list ds ∧ Q ds ρ1) : EI (iList K te) ρ Q := fun B ad σ F H w R z =>
  h B ad σ F H w _ fun d ρ1 v F1 H1 q p r => by
    obtain ⟨ds, rfl, q⟩ := q
    obtain ⟨a, xs, rfl, h1, h2⟩ := r.lst_inv
    refine ⟨a, rfl, ⟨xs, sqL_rd h1 p.wa.gr.fh⟩, z ds ρ1 _ F1 H1 q p ⟨fun i H' e hi => ⟨xs, xs[i]'(by rw [h2.len]; exact hi), sqL_rd h1 e, by simp⟩, fun i H' e hi => ⟨xs, sqL_rd h1 e, by rw [h2.len]; exact hi⟩, fun i H' x H2 F2 e1 e2 y hi => ?_⟩⟩
    obtain ⟨rfl, y⟩ := y
    obtain ⟨d, hd, rd⟩ := h2.get' (y xs (sqL_rd h1 (e1.trans e2)))
    exact ⟨d, F2, hd, Gr.refl e2, rd.up e1⟩
theorem ei_tup {K : PySem.W.Frag} {Q : List D → Env → Prop} (h : EX te ρ fun d ρ1 => ∃ ds, d = .tuple ds ∧ Q ds ρ1) : EI (iTup K te) ρ Q := fun B ad σ F H w R z =>
  h B ad σ F H w _ fun d ρ1 v F1 H1 q p r => by
    obtain ⟨ds, rfl, q⟩ := q
    obtain ⟨a, xs, rfl, h1, h2⟩ := r.tup_inv
    refine ⟨a, rfl, ⟨xs, sqT_rd h1 p.wa.gr.fh⟩, z ds ρ1 _ F1 H1 q p ⟨fun i H' e hi => ⟨xs, xs[i]'(by rw [h2.len]; exact hi), sqT_rd h1 e, by simp⟩, fun i H' e hi => ⟨xs, sqT_rd h1 e, by rw [h2.len]; exact hi⟩, fun i H' x H2 F2 e1 e2 y hi => ?_⟩⟩
    obtain ⟨rfl, y⟩ := y
    obtain ⟨d, hd, rd⟩ := h2.get' (y xs (sqT_rd h1 (e1.trans e2)))
    exact ⟨d, F2, hd, Gr.refl e2, rd.up e1⟩
/-- lo, lo + 1, .., n of them -/
def rngI (lo : Int) (n : Nat) : List Int := (List.range n).map fun k : Nat => lo + (k : Int)
theorem rngI_len (lo : Int) (n : Nat) : (rngI lo n).length = n := by simp [rngI]
theorem rngI_get {lo : Int} {n k : Nat} (h : k < n) : (rngI lo n)[k]? = some (lo + (k : Int)) := by simp [rngI, h]
theorem rngI_mem {lo x : Int} {n : Nat} : x ∈ rngI lo n ↔ lo ≤ x ∧ x < lo + (n : Int) := by
  unfold rngI
  rw [List.mem_map]
  constructor
  · rintro ⟨k, hk, rfl⟩
    rw [List.mem_range] at hk
    omega
  · intro h
    exact ⟨(x - lo).toNat, by rw [List.mem_range]; omega, by omega⟩
theorem itd_rng {F : Hp} (lo : Int) (n : Nat) : ItD (Itr lo n) F ((rngI lo n).map .int) where
  go := fun i H _ h => by rw [List.length_map, rngI_len] at h; exact h
  stop := fun i H _ h => by rw [List.length_map, rngI_len] at h; exact h
  yld := fun i H x H' F1 _ e2 y h => by
    rw [List.length_map, rngI_len] at h
    obtain ⟨rfl, rfl⟩ := y
    exact ⟨.int (lo + (i : Int)), F1, by rw [List.getElem?_map, rngI_get h]; rfl, Gr.refl e2, .int _⟩
theorem ei_rng1 {t : TA} {Q : List D → Env → Prop} (h : EA t ρ fun ds ρ1 => ∃ n, ds = [.int n] ∧ (-1000000000000 ≤ n ∧ n ≤ 1000000000000) ∧ Q ((rngI 0 n.toNat).map .int) ρ1) : EI (iRng1 t) ρ Q := fun B ad σ F H w R z =>
  h B ad σ F H w _ fun ds ρ1 vs F1 H1 q p r => by
    obtain ⟨n, rfl, ⟨hn1, hn2⟩, q⟩ := q
    obtain ⟨v, rfl, rv⟩ := r.one
    exact ⟨n, by rw [rv.int_inv], by omega, by omega, z _ ρ1 _ F1 H1 q p (itd_rng 0 _)⟩
theorem ei_rng2 {t : TA} {Q : List D → Env → Prop} (h : EA t ρ fun ds ρ1 => ∃ l n, ds = [.int l, .int n] ∧ (-1000000000000 ≤ l ∧ l ≤ 1000000000000 ∧ -1000000000000 ≤ n ∧ n ≤ 1000000000000) ∧ Q ((rngI l (n - l).toNat).map .int) ρ1) : EI (iRng2 t) ρ Q := fun B ad σ F H w R z =>
  h B ad σ F H w _ fun ds ρ1 vs F1 H1 q p r => by
    obtain ⟨l, n, rfl, ⟨hl1, hl2, hn1, hn2⟩, q⟩ := q
    obtain ⟨v, u, rfl, rv, ru⟩ := r.two
    exact ⟨l, n, by rw [rv.int_inv, ru.int_inv], ⟨by omega, by omega, by omega, by omega⟩, z _ ρ1 _ F1 H1 q p (itd_rng l _)⟩
/-- enumerate: pairs (index, item) -/
def enumD (k : Nat) : List D → List D
  | [] => []
  | d :: ds => .tuple [.int (k : Int), d] :: enumD (k + 1) ds
theorem enumD_len : ∀ (ds : List D) (k : Nat), (enumD k ds).length = ds.length
  | [], _ => rfl
  | d :: ds, k => by simp [enumD, enumD_len ds]
theorem enumD_get : ∀ (ds : List D) (k i : Nat) {d : D}, ds[i]? = some d → (enumD k ds)[i]? = some (.tuple [.int ((k + i : Nat) : Int), d])
  | [], _, i, _, h => by simp at h
  | e :: ds, k, 0, d, h => by simp at h; subst h; rfl
  | e :: ds, k, i + 1, d, h => by
    have q := enumD_get ds (k + 1) i (by simpa using h)
    show (enumD (k + 1) ds)[i]? = _
    rw [q, show k + 1 + i = k + (i + 1) by omega]
theorem ei_enum {K : PySem.W.Frag} {t : TA} {Q : List D → Env → Prop} (h : EA t ρ fun es ρ1 => ∃ ds, es = [.list ds] ∧ Q (enumD 0 ds) ρ1) : EI (iEnum K t) ρ Q := fun B ad σ F H w R z =>
  h B ad σ F H w _ fun es ρ1 vs F1 H1 q p r => by
    obtain ⟨ds, rfl, q⟩ := q
    obtain ⟨v, rfl, rv⟩ := r.one
    obtain ⟨a, xs, rfl, h1, h2⟩ := rv.lst_inv
    refine ⟨a, xs, rfl, sqL_rd h1 p.wa.gr.fh, z _ ρ1 _ F1 H1 q p ⟨fun i H' e hi => ?_, fun i H' e hi => ?_, fun i H' x H2 F2 e1 e2 y hi => ?_⟩⟩
    · rw [enumD_len] at hi
      exact ⟨xs, xs[i]'(by rw [h2.len]; exact hi), sqL_rd h1 e, by simp⟩
    · rw [enumD_len] at hi
      exact ⟨xs, sqL_rd h1 e, by rw [h2.len]; exact hi⟩
    · obtain ⟨T, x, rfl, hT, rfl, y⟩ := y
      obtain ⟨d, hd, rd⟩ := h2.get' (y xs (sqL_rd h1 (e1.trans e2)))
      have g := Gr.new (o := .tup [.int (i : Nat), x]) e2 hT
      refine ⟨_, upd F2 T (.tup [.int (i : Nat), x]), enumD_get ds 0 i hd, g, .tup upd_same (.cons ?_ (.cons ((rd.up e1).up g.ff) .nil))⟩
      rw [Nat.zero_add]
      exact .int _
theorem ei_zip {K : PySem.W.Frag} {t : TA} {Q : List D → Env → Prop} (h : EA t ρ fun es ρ1 => ∃ ds fs, es = [.list ds, .list fs] ∧ Q (List.zipWith (fun d f => PyData.tuple [d, f]) ds fs) ρ1) : EI (iZip K t) ρ Q := fun B ad σ F H w R z =>
  h B ad σ F H w _ fun es ρ1 vs F1 H1 q p r => by
    obtain ⟨ds, fs, rfl, q⟩ := q
    obtain ⟨v, u, rfl, rv, ru⟩ := r.two
    obtain ⟨a, xs, rfl, h1, h2⟩ := rv.lst_inv
    obtain ⟨b, ys, rfl, g1, g2⟩ := ru.lst_inv
    refine ⟨a, b, xs, ys, rfl, sqL_rd h1 p.wa.gr.fh, sqL_rd g1 p.wa.gr.fh, z _ ρ1 _ F1 H1 q p ⟨fun i H' e hi => ?_, fun i H' e hi => ?_, fun i H' x H2 F2 e1 e2 y hi => ?_⟩⟩
    · rw [List.length_zipWith] at hi
      exact ⟨xs, ys, xs[i]'(by rw [h2.len]; omega), ys[i]'(by rw [g2.len]; omega), sqL_rd h1 e, sqL_rd g1 e, by simp, by simp⟩
    · rw [List.length_zipWith] at hi
      exact ⟨xs, ys, sqL_rd h1 e, sqL_rd g1 e, by rw [h2.len, g2.len]; omega⟩
    · obtain ⟨T, x, y', rfl, hT, rfl, y1, y2⟩ := y
      obtain ⟨d, hd, rd⟩ := h2.get' (y1 xs (sqL_rd h1 (e1.trans e2)))
      obtain ⟨f, hf, rf⟩ := g2.get' (y2 ys (sqL_rd g1 (e1.trans e2)))
      have g := Gr.new (o := .tup [x, y']) e2 hT
      exact ⟨_, upd F2 T (.tup [x, y']), by rw [List.getElem?_zipWith, hd, hf], g, .tup upd_same (.cons ((rd.up e1).up g.ff) (.cons ((rf.up e1).up g.ff) .nil))⟩
end

/-! ### comprehensions -/
section
variable {ρ ρ' : Env} {te : TE} {tt : TT} {wi : TI} {g : TG}
/-- vs's slots as in the first, the others as in the second -/
def unwA : Nat → List Nat → Env → Env → Env
  | k, vs, a :: ρ, b :: ρ' => (if vs.contains k = true then a else b) :: unwA (k + 1) vs ρ ρ'
  | _, _, _, _ => []
abbrev unw (vs : List Nat) (ρ ρ' : Env) : Env := unwA 0 vs ρ ρ'
theorem unwA_len : ∀ {k : Nat} {vs : List Nat} {ρ ρ' : Env}, ρ'.length = ρ.length → (unwA k vs ρ ρ').length = ρ.length
  | _, _, [], [], _ => rfl
  | _, _, [], _ :: _, h => by simp at h
  | _, _, _ :: _, [], h => by simp at h
  | k, vs, a :: ρ, b :: ρ', h => by
    show (unwA (k + 1) vs ρ ρ').length + 1 = ρ.length + 1
    rw [unwA_len (by simpa using h)]
theorem unwA_get : ∀ {k : Nat} {vs : List Nat} {ρ ρ' : Env} {i : Nat}, ρ'.length = ρ.length → (unwA k vs ρ ρ')[i]? = if k + i ∈ vs then ρ[i]? else ρ'[i]?
  | _, _, [], [], i, _ => by simp [unwA]
  | _, _, [], _ :: _, _, h => by simp at h
  | _, _, _ :: _, [], _, h => by simp at h
  | k, vs, a :: ρ, b :: ρ', 0, h => by
    show some (if vs.contains k = true then a else b) = if k + 0 ∈ vs then some a else some b
    by_cases hk : k ∈ vs
    · rw [if_pos (by simpa using hk), if_pos (by simpa using hk)]
    · rw [if_neg (by simpa using hk), if_neg (by simpa using hk)]
  | k, vs, a :: ρ, b :: ρ', i + 1, h => by
    show (unwA (k + 1) vs ρ ρ')[i]? = if k + (i + 1) ∈ vs then ρ[i]? else ρ'[i]?
    rw [unwA_get (by simpa using h), show k + 1 + i = k + (i + 1) by omega]
/-- the slots at vs hold nothing that is owned -/
def isPl : Option Slot → Bool
  | some (.own _) => false
  | some (.st _) => false
  | _ => true
def Plain (ρ : Env) (vs : List Nat) : Prop := ∀ i ∈ vs, isPl ρ[i]? = true
theorem Plain.ad {B : Base} {ad : Nat → List Addr} {σ : St} {F H : Hp} {vs : List Nat} (w : WA B ad ρ σ F H) (pl : Plain ρ vs) : ∀ j ∈ vs, ad j = [] := fun j hj => by
  have k := pl j hj
  cases e : ρ[j]? with
  | none => exact w.out j e
  | some s =>
    have q := w.sl j s e
    rw [e] at k
    cases s with
    | emp => exact q
    | val d => exact q.1
    | own _ => cases k
    | st _ => cases k
theorem WA.wiped {B : Base} {ad : Nat → List Addr} {σ : St} {F H : Hp} {vs : List Nat} (w : WA B ad ρ σ F H) (pl : Plain ρ vs) : WA B ad (wipeE ρ vs) (wipe σ vs) F H where
  gr := w.gr
  len := by rw [wipe_length, wipeE_len]; exact w.len
  sl := fun i s e => by
    rw [wipeE_get] at e
    rw [wipe_get]
    by_cases h : i ∈ vs ∧ i < ρ.length
    · rw [if_pos h] at e
      cases e
      exact pl.ad w i h.1
    · rw [if_neg h] at e
      rw [if_neg (by rw [w.len]; exact h)]
      exact w.sl i s e
  fz := w.fz
  dj := w.dj
  out := fun i e => by
    rw [wipeE_get] at e
    by_cases h : i ∈ vs ∧ i < ρ.length
    · rw [if_pos h] at e; cases e
    · rw [if_neg h] at e; exact w.out i e
  pin := w.pin.to fun S e => by
    rw [wipeE_get] at e
    by_cases h : 0 ∈ vs ∧ 0 < ρ.length
    · rw [if_pos h] at e; cases e
    · rw [if_neg h] at e
      exact ⟨⟨S, e⟩, by rw [wipe_get, if_neg (by rw [w.len]; exact h)], rfl⟩
theorem wipe_eq {σ σ' : St} {vs : List Nat} (h : wipe σ' vs = wipe σ vs) {i : Nat} (hi : i ∉ vs) : σ'[i]? = σ[i]? := by
  have e := congrArg (fun l => l[i]?) h
  simp only [wipe_get] at e
  rwa [if_neg (fun z => hi z.1), if_neg (fun z => hi z.1)] at e
/-- behind the block's turn: the outer slots again -/
theorem Post.unwiped {B : Base} {ad : Nat → List Addr} {σ σ2 : St} {F H F' H' : Hp} {vs : List Nat} {ρ1 ρ2 : Env} (w : WA B ad ρ1 σ F H) (pl : Plain ρ1 vs)
    (hσ : wipe σ2 vs = wipe σ vs) (fr : ∀ i, i ∉ vs → ρ2[i]? = (wipeE ρ1 vs)[i]?) (w2 : WA B ad ρ2 σ2 F H) (p : Post B ad σ2 ρ2 F H ρ' F' H') : Post B ad σ ρ1 F H (unw vs ρ1 ρ') F' H' := by
  have hl : ρ'.length = ρ1.length := by
    have l1 := p.wa.len
    have l2 := congrArg List.length hσ
    rw [wipe_length, wipe_length] at l2
    rw [← l1, l2, w.len]
  have pa := pl.ad w
  have ms : ∀ a, MS ad ρ2 a → MS ad ρ1 a := fun a ⟨i, S, e, m⟩ => by
    have hi : i ∉ vs := fun z => by rw [pa i z] at m; cases m
    rw [fr i hi, wipeE_get, if_neg (fun z => hi z.1)] at e
    exact ⟨i, S, e, m⟩
  refine ⟨⟨p.wa.gr, by rw [unwA_len hl]; exact w.len, fun i s e => ?_, p.wa.fz, p.wa.dj, fun i e => ?_, fun s as hp S e => ?_⟩, ⟨p.gr.ff, p.gr.fh, fun a o e m => p.gr.kp a o e fun z => m (ms a z), p.gr.al, p.gr.fr⟩, fun i S e => ?_⟩
  · rw [unwA_get hl, Nat.zero_add] at e
    by_cases hi : i ∈ vs
    · rw [if_pos hi] at e
      have k := w.sl i s e
      have q := pl i hi
      rw [e] at q
      cases s with
      | emp => exact k
      | val d =>
        obtain ⟨k, v, e, r⟩ := k
        exact ⟨k, v, e, r.up p.gr.ff⟩
      | own _ => cases q
      | st _ => cases q
    · rw [if_neg hi] at e
      rw [← wipe_eq hσ hi]
      exact p.wa.sl i s e
  · rw [List.getElem?_eq_none_iff, unwA_len hl, ← hl, ← List.getElem?_eq_none_iff] at e
    exact p.wa.out i e
  · rw [unwA_get hl, Nat.zero_add] at e
    by_cases hi : 0 ∈ vs
    · rw [if_pos hi] at e
      have q := pl 0 hi
      rw [e] at q
      cases q
    · rw [if_neg hi] at e
      rw [← wipe_eq hσ hi]
      exact p.wa.pin s as hp S e
  · rw [unwA_get hl, Nat.zero_add] at e
    by_cases hi : i ∈ vs
    · rw [if_pos hi] at e
      exact ⟨S, e⟩
    · rw [if_neg hi] at e
      obtain ⟨S', e'⟩ := p.sh i S e
      rw [fr i hi, wipeE_get, if_neg (fun z => hi z.1)] at e'
      exact ⟨S', e'⟩
/-- [e for target in ..], by an invariant over the turn, the items made, the slots -/
theorem eo_lc {vs : List Nat} {Q : List D → Env → Prop} (h : EI wi ρ fun ds ρ1 => ∃ I : Nat → List D → Env → Prop, I 0 [] ρ1 ∧
    (∀ k d acc ρ', ds[k]? = some d → I k acc ρ' → Plain ρ' vs ∧ acc.length < 1000000 ∧ SG vs g d (wipeE ρ' vs) fun ρ2 => ET tt ρ2 fun b ρ3 => (b = true → EX te ρ3 fun e ρ4 => I (k + 1) (acc ++ [e]) (unw vs ρ' ρ4)) ∧ (b = false → I (k + 1) acc (unw vs ρ' ρ3))) ∧
    ∀ acc ρ', I ds.length acc ρ' → Q acc ρ') : EO (tLc wi g tt te vs) ρ Q := fun B ad σ F H w Z z => by
  refine h B ad σ F H w _ fun ds ρ1 J F1 H1 q1 p1 it => ?_
  obtain ⟨I, i0, turn, done⟩ := q1
  intro Dl hD
  have hDH : H Dl = none := by
    cases q : H Dl with
    | none => rfl
    | some o => exact absurd hD (p1.gr.al Dl (by rw [q]; intro z; cases z))
  have nw := p1.wa.newp hD
  -- at each turn: the outer slots, over a heap in which Dl is not seen
  let Inv := fun (i : Nat) (H' : Hp) => ∃ acc ρ' F' vs', I i acc ρ' ∧ Post B ad σ ρ1 F1 H1 ρ' F' H' ∧ F' Dl = none ∧ H' Dl = some (.lst vs') ∧ RpA F' vs' acc
  refine ⟨fun i m H' => m = ds.length - i ∧ i ≤ ds.length ∧ Inv i H', ⟨_, rfl, Nat.zero_le _, [], ρ1, F1, [], i0, Post.of p1.wa (Gr.heap p1.wa.gr.fh (same_upd hD)), nw.1, upd_same, .nil⟩, ?_⟩
  rintro i m H' ⟨rfl, hi, acc, ρ', F', vs', iv, P, hF, hH, ra⟩
  by_cases hlt : i < ds.length
  · refine .inr ⟨it.go i H' (P.gr.ff.trans P.wa.gr.fh) hlt, fun H2 => Inv (i + 1) H2, fun H2 k => ⟨ds.length - (i + 1), by omega, rfl, hlt, k⟩, fun x H2 y => ?_⟩
    obtain ⟨d, F2, e, gr, rx⟩ := it.yld i H' x H2 F' P.gr.ff P.wa.gr.fh y hlt
    obtain ⟨pl, hz, k⟩ := turn i d acc ρ' e iv
    have P2 := P.trans (Post.of P.wa gr)
    have w2 := P.wa.grow gr
    have hF2 : F2 Dl = none := gr.fr Dl (by rw [hH]; intro z; cases z) hF
    have hH2 : H2 Dl = some (.lst vs') := gr.kp Dl _ hH id
    have nms : ∀ (ρ2 : Env), ¬ MS ad ρ2 Dl := fun ρ2 ⟨j, S, _, m⟩ => nw.2.2 j m
    refine k B ad (wipe σ vs) F2 H2 x (w2.wiped pl) (pl.ad w2) rx _ fun ρ2 σ2 q wb e2 fr => ?_
    have e2' : wipe σ2 vs = wipe σ vs := by
      rw [e2]
      apply List.ext_getElem?
      intro j
      rw [wipe_get, wipe_get, wipe_length]
      split
      · rfl
      · first | rfl | rw [wipe_get, if_neg (by assumption)]
    refine ⟨e2', q B ad σ2 F2 H2 wb _ fun b ρ3 F3 H3 q3 p3 => ?_⟩
    cases b with
    | true =>
      show te σ2 H3 _
      refine q3.1 rfl B ad σ2 F3 H3 p3.wa _ fun e ρ4 v F4 H4 q4 p4 rv => ?_
      have p34 := p3.trans p4
      have pu := Post.unwiped w2 pl e2' fr wb p34
      have hH4 : H4 Dl = some (.lst vs') := p34.gr.kp Dl _ hH2 (nms _)
      have hF4 : F4 Dl = none := p34.gr.fr Dl (by rw [hH2]; intro z; cases z) hF2
      have ra4 : RpA F4 (vs' ++ [v]) (acc ++ [e]) := (ra.up (gr.ff.trans p34.gr.ff)).app (.cons rv .nil)
      refine ⟨vs', hH4, Nat.lt_of_lt_of_le (by rw [ra.len]; exact hz) (by decide), acc ++ [e], _, F4, vs' ++ [v], q4, ?_, hF4, upd_same, ra4⟩
      -- Dl grows: nobody sees it
      have pt := P2.trans pu
      have ne1 : ∀ a o, H1 a = some o → a ≠ Dl := fun a o q z => by rw [z, hD] at q; cases q
      have neF : ∀ a o, F4 a = some o → a ≠ Dl := fun a o q z => by rw [z, hF4] at q; cases q
      refine ⟨⟨⟨pt.wa.gr.ff, fun a o q => by rw [upd_ne (neF a o q)]; exact pt.wa.gr.fh a o q, fun a o q m => ?_, fun a q => ?_, pt.wa.gr.fr⟩, pt.wa.len, fun j s q => ?_, pt.wa.fz, pt.wa.dj, pt.wa.out, pt.wa.pin⟩, ⟨pt.gr.ff, fun a o q => by rw [upd_ne (neF a o q)]; exact pt.gr.fh a o q, fun a o q m => by rw [upd_ne (ne1 a o q)]; exact pt.gr.kp a o q m, fun a q => ?_, pt.gr.fr⟩, pt.sh⟩
      · rw [upd_ne (fun z => by rw [z, nw.2.1] at q; cases q)]
        exact pt.wa.gr.kp a o q m
      · by_cases ha : a = Dl
        · rw [ha, upd_same]; intro z; cases z
        · rw [upd_ne ha]; exact pt.wa.gr.al a q
      · have k := pt.wa.sl j s q
        cases s with
        | emp => exact k
        | val d => exact k
        | own es =>
          obtain ⟨p, ws, a1, a2, a3, a4, a5⟩ := k
          refine ⟨p, ws, a1, a2, a3, ?_, a5⟩
          rw [upd_ne (fun z => nw.2.2 j (by rw [a1, z]; simp))]
          exact a4
        | st S =>
          obtain ⟨s, a1, a2⟩ := k
          refine ⟨s, a1, ?_⟩
          cases S with
          | two x y =>
            refine ⟨a2.1, ?_⟩
            rw [upd_ne (fun z => nw.2.2 j (by rw [a2.1, z]; simp))]
            exact a2.2
          | dct kvs =>
            refine ⟨a2.1, ?_⟩
            rw [upd_ne (fun z => nw.2.2 j (by rw [a2.1, z]; simp))]
            exact a2.2
          | cel x cs =>
            obtain ⟨c, b1, b2, b3, b4⟩ := a2
            refine ⟨c, b1, b2, ?_, ?_⟩
            · rw [upd_ne (fun z => nw.2.2 j (by rw [b1, z]; simp))]
              exact b3
            · rw [upd_ne (fun z => nw.2.2 j (by rw [b1, z]; simp))]
              exact b4
      · by_cases ha : a = Dl
        · rw [ha, upd_same]; intro z; cases z
        · rw [upd_ne ha]; exact pt.gr.al a q
    | false =>
      show Inv (i + 1) H3
      have pu := Post.unwiped w2 pl e2' fr wb p3
      exact ⟨acc, _, F3, vs', q3.2 rfl, P2.trans pu, p3.gr.fr Dl (by rw [hH2]; intro z; cases z) hF2, p3.gr.kp Dl _ hH2 (nms _), ra.up (gr.ff.trans p3.gr.ff)⟩
  · have e : i = ds.length := by omega
    subst e
    exact .inl ⟨it.stop _ H' (P.gr.ff.trans P.wa.gr.fh) (Nat.le_refl _), z acc ρ' Dl vs' F' H' (done acc ρ' iv) (p1.trans P) hF hDH hH ra⟩
theorem et_yes {Q : Bool → Env → Prop} (q : Q true ρ) : ET tYes ρ Q := fun B ad σ F H w Z z => z true ρ F H q (Post.refl w)
/-- items that read off a list of one's own; nothing changes: the filter and the map -/
theorem eo_lcP {α : Type} {vs : List Nat} {Q : List D → Env → Prop} (f : α → Bool) (gg : α → D) (h : EI wi ρ fun ds ρ1 => ∃ (xs : List α) (enc : α → D), ds = xs.map enc ∧ xs.length < 1000000 ∧ Plain ρ1 vs ∧
    (∀ x ∈ xs, SG vs g (enc x) (wipeE ρ1 vs) fun ρ2 => unw vs ρ1 ρ2 = ρ1 ∧ ET tt ρ2 fun b ρ3 => b = f x ∧ ρ3 = ρ2 ∧ (f x = true → EX te ρ2 fun e ρ4 => e = gg x ∧ ρ4 = ρ2)) ∧ Q ((xs.filter f).map gg) ρ1) : EO (tLc wi g tt te vs) ρ Q := by
  refine eo_lc fun B ad σ F H w R z => h B ad σ F H w R fun ds ρ1 J F' H' q p it => z ds ρ1 J F' H' ?_ p it
  obtain ⟨xs, enc, rfl, hz, pl, turn, q⟩ := q
  refine ⟨fun k acc ρ' => ρ' = ρ1 ∧ acc = ((xs.take k).filter f).map gg, ⟨rfl, by simp⟩, ?_, ?_⟩
  · rintro k d acc ρ' e ⟨rfl, rfl⟩
    rw [List.getElem?_map] at e
    obtain ⟨x, ex, rfl⟩ : ∃ x, xs[k]? = some x ∧ enc x = d := by
      cases hx : xs[k]? with
      | none => rw [hx] at e; cases e
      | some x => rw [hx] at e; exact ⟨x, rfl, Option.some.inj e⟩
    have hm : x ∈ xs := List.mem_of_getElem? ex
    have hk : k < xs.length := (List.getElem?_eq_some_iff.mp ex).1
    have et : xs.take (k + 1) = xs.take k ++ [x] := by
      rw [List.take_succ, ex]; rfl
    refine ⟨pl, ?_, fun B ad σ F H v w hJ r Z z => turn x hm B ad σ F H v w hJ r Z fun ρ2 σ2 q w2 a b => z ρ2 σ2 (fun B ad σ F H w Z z => q.2 B ad σ F H w Z fun b ρ3 F' H' q2 p => z b ρ3 F' H' ⟨fun hb => ?_, fun hb => ?_⟩ p) w2 a b⟩
    · rw [List.length_map]
      exact Nat.lt_of_le_of_lt (Nat.le_trans (List.length_filter_le _ _) (by rw [List.length_take]; exact Nat.min_le_right _ _)) hz
    · obtain ⟨rfl, rfl, q2⟩ := q2
      refine (q2 hb).imp fun e ρ4 q => ?_
      obtain ⟨rfl, rfl⟩ := q
      exact ⟨‹_ ∧ _›.1, by rw [et, List.filter_append, List.map_append, List.filter_cons, if_pos hb]; rfl⟩
    · obtain ⟨rfl, rfl, q2⟩ := q2
      exact ⟨‹_ ∧ _›.1, by rw [et, List.filter_append, List.filter_cons, if_neg (by rw [hb]; exact Bool.false_ne_true), List.filter_nil, List.append_nil]⟩
  · rintro acc ρ' ⟨rfl, rfl⟩
    rw [List.length_map, List.take_length]
    exact q
end

/-! ### calls -/
/-- what a def of data promises: R tells of the arguments and of what is wanted of the answer -/
def spP (R : List D → (D → Prop) → Prop) : Sp := fun vs H Q _ => ∃ F ds Z, Same F H ∧ RpA F vs ds ∧ R ds Z ∧ ∀ d v F' H', Z d → Gr Non F H F' H' → Rp F' v d → Q v H'
/-- the same with a state ahead of the arguments -/
def spS (R : Stt → List D → (D → Stt → Prop) → Prop) : Sp := fun vs H Q _ => ∃ F s as S us ds Z, vs = .ref s :: us ∧ Same F H ∧ StAt H S s as ∧ (∀ a ∈ as, F a = none) ∧ RpA F us ds ∧ R S ds Z ∧
  ∀ d S' v F' H', Z d S' → Gr (· ∈ as) F H F' H' → StAt H' S' s as → (∀ a ∈ as, F' a = none) → Rp F' v d → Q v H'
/-- a new state is handed back -/
def spN (R : List D → (Stt → Prop) → Prop) : Sp := fun vs H Q _ => ∃ F ds Z, Same F H ∧ RpA F vs ds ∧ R ds Z ∧ ∀ S s as F' H', Z S → Gr Non F H F' H' → StAt H' S s as → (∀ a ∈ as, F' a = none ∧ H a = none) → Q (.ref s) H'
section
variable {ρ ρ' : Env} {te : TE} {tt : TT} {t : TA} {E : XK}
theorem ex_call {R : List D → (D → Prop) → Prop} {Q : D → Env → Prop} (h : EA t ρ fun ds ρ1 => R ds fun d => Q d ρ1) : EX (tCall (spP R) [] E t) ρ Q := fun B ad σ F H w Z z =>
  h B ad σ F H w _ fun ds ρ1 vs F1 H1 q p r => by
    rw [List.append_nil]
    exact ⟨F1, ds, _, p.wa.gr.fh, r, q, fun d v F' H' zd g rv => z d ρ1 v F' H' zd (p.trans (Post.of p.wa g)) rv⟩
theorem StAt.mem {H : Hp} {S : Stt} {s : Addr} {as : List Addr} (h : StAt H S s as) : s ∈ as ∧ ∀ a ∈ as, H a ≠ none := by
  cases S with
  | two a b =>
    obtain ⟨rfl, h⟩ := h
    exact ⟨by simp, fun x hx => by
      have e : x = s := by simpa using hx
      rw [e, h]; intro z; cases z⟩
  | dct kvs =>
    obtain ⟨rfl, h⟩ := h
    exact ⟨by simp, fun x hx => by
      have e : x = s := by simpa using hx
      rw [e, h]; intro z; cases z⟩
  | cel a cs =>
    obtain ⟨c, rfl, _, h1, h2⟩ := h
    exact ⟨by simp, fun x hx => by
      have e : x = s ∨ x = c := by simpa using hx
      rcases e with e | e
      · rw [e, h1]; intro z; cases z
      · rw [e, h2]; intro z; cases z⟩
theorem StAt.keep {H H' : Hp} {S : Stt} {s : Addr} {as : List Addr} (h : StAt H S s as) (k : ∀ a ∈ as, ∀ o, H a = some o → H' a = some o) : StAt H' S s as := by
  cases S with
  | two a b =>
    obtain ⟨rfl, h⟩ := h
    exact ⟨rfl, k s (by simp) _ h⟩
  | dct kvs =>
    obtain ⟨rfl, h⟩ := h
    exact ⟨rfl, k s (by simp) _ h⟩
  | cel a cs =>
    obtain ⟨c, rfl, ne, h1, h2⟩ := h
    exact ⟨c, rfl, ne, k s (by simp) _ h1, k c (by simp) _ h2⟩
/-- f(state, ..) -/
theorem ex_callS {R : Stt → List D → (D → Stt → Prop) → Prop} {i : Nat} {S0 : Stt} {Q : D → Env → Prop} (h0 : ρ[i]? = some (.st S0)) (h : EA t ρ fun ds ρ1 => ∃ S, ρ1[i]? = some (.st S) ∧ R S ds fun d S' => Q d (ρ1.set i (.st S'))) :
    EX (tCall (spS R) [] E (tCons (tVar i) t)) ρ Q := fun B ad σ F H w Z z => by
  obtain ⟨s0, k0, _⟩ := w.sl i _ h0
  refine ⟨_, k0, h B ad σ F H w _ fun ds ρ1 vs F1 H1 q p r => ?_⟩
  obtain ⟨S, h1, q⟩ := q
  obtain ⟨s, k1, k2⟩ := p.wa.sl i _ h1
  rw [k0] at k1
  cases k1
  have hi : i < ρ1.length := (List.getElem?_eq_some_iff.mp h1).1
  rw [List.append_nil]
  refine ⟨F1, s0, ad i, S, vs, ds, _, rfl, p.wa.gr.fh, k2, fun a m => (p.wa.fz i a m).1, r, q, fun d S' v F' H' zd g st fn rv => ?_⟩
  have nm : ∀ j a, j ≠ i → a ∈ ad j → a ∉ ad i := fun j a hj m m' => hj (p.wa.dj j i a m m')
  refine z d _ v F' H' zd (p.trans ⟨⟨?_, ?_, fun j sl e => ?_, fun j a m => ?_, p.wa.dj, fun j e => p.wa.out j (get_set' e), p.wa.pin.to fun S2 e => by
    rcases get_set e with ⟨e0, _⟩ | ⟨hj, e⟩
    · exact ⟨⟨S, by rw [e0]; exact h1⟩, rfl, rfl⟩
    · exact ⟨⟨S2, e⟩, rfl, rfl⟩⟩, ⟨g.ff, g.fh, fun a o e m => g.kp a o e fun z => m ⟨i, S, h1, z⟩, g.al, g.fr⟩, fun j S'' e => ?_⟩) rv
  · refine ⟨p.wa.gr.ff.trans g.ff, g.fh, fun a o e m => g.kp a o (p.wa.gr.kp a o e m) fun z => ?_, fun a e => g.al a (p.wa.gr.al a e), fun a e z => g.fr a (p.wa.gr.al a e) (p.wa.gr.fr a e z)⟩
    rcases (p.wa.fz i a z).2 with q | q
    · rw [q] at e; cases e
    · exact m q
  · rw [List.length_set]; exact p.wa.len
  · rcases get_set e with ⟨rfl, rfl⟩ | ⟨hj, e⟩
    · exact ⟨s0, k0, st⟩
    · have k := p.wa.sl j sl e
      cases sl with
      | emp => exact k
      | val d =>
        obtain ⟨k, v, e, r⟩ := k
        exact ⟨k, v, e, r.up g.ff⟩
      | own es =>
        obtain ⟨q, ws, a1, a2, a3, a4, a5⟩ := k
        exact ⟨q, ws, a1, a2, a3, g.kp q _ a4 (nm j q hj (by rw [a1]; simp)), a5.up g.ff⟩
      | st S2 =>
        obtain ⟨s2, a1, a2⟩ := k
        exact ⟨s2, a1, a2.keep fun a m o e => g.kp a o e (nm j a hj m)⟩
  · refine ⟨?_, (p.wa.fz j a m).2⟩
    by_cases hj : j = i
    · subst hj; exact fn a m
    · exact g.fr a (p.wa.lv m) (p.wa.fz j a m).1
  · rcases get_set e with ⟨rfl, _⟩ | ⟨_, e⟩
    · exact ⟨S, h1⟩
    · exact ⟨S'', e⟩
/-- state = f(..) -/
theorem sx_asgN {R : List D → (Stt → Prop) → Prop} {i : Nat} {P : Po} (h00 : i ≠ 0) (h : EA t ρ fun ds ρ1 => R ds fun S => NX P (ρ1.set i (.st S))) : SX (tAsg (tCall (spN R) [] E t) (gName i)) ρ P := fun B σ F H w Dn n r b c => by
  obtain ⟨ad, w⟩ := w
  refine h B ad σ F H w _ fun ds ρ1 vs F1 H1 q p rv => ?_
  rw [List.append_nil]
  refine ⟨F1, ds, _, p.wa.gr.fh, rv, q, fun S s as F' H' zd g st fn => ?_⟩
  obtain ⟨ρ2, l, q⟩ := zd
  have w2 := p.wa.grow g
  have nw : ∀ a ∈ as, B.H0 a = none ∧ ∀ j, a ∉ ad j := fun a m => (p.wa.newp (fn a m).2).2
  refine n ρ2 _ F' H' q (W.weak ⟨fun k => if k = i then (if i < ρ1.length then as else []) else ad k, w2.gr, by rw [List.length_set, List.length_set]; exact w2.len, fun j sl e => ?_, fun j q m => ?_, fun j1 j2 q m1 m2 => ?_, fun j e => ?_, w2.pin.to fun S2 e => by
    rcases get_set e with ⟨e0, _⟩ | ⟨hj, e⟩
    · exact absurd e0.symm h00
    · exact ⟨⟨S2, e⟩, List.getElem?_set_ne (Ne.symm hj), if_neg hj⟩⟩ l)
  · rcases get_set e with ⟨rfl, rfl⟩ | ⟨hj, e'⟩
    · have hi : j < ρ1.length := by
        have := (List.getElem?_eq_some_iff.mp e).1
        rwa [List.length_set] at this
      exact ⟨s, List.getElem?_set_self (by rw [w2.len]; exact hi), by rw [if_pos rfl, if_pos hi]; exact st⟩
    · rw [if_neg hj, List.getElem?_set_ne (Ne.symm hj)]
      exact w2.sl j sl e'
  · by_cases hj : j = i
    · simp only [if_pos hj] at m
      by_cases hi : i < ρ1.length
      · simp only [if_pos hi] at m
        exact ⟨(fn q m).1, .inl (nw q m).1⟩
      · simp [if_neg hi] at m
    · simp only [if_neg hj] at m
      exact w2.fz j q m
  · have g : ∀ j, q ∈ (if j = i then (if i < ρ1.length then as else []) else ad j) → (j = i ∧ q ∈ as) ∨ (j ≠ i ∧ q ∈ ad j) := fun j m => by
      by_cases hj : j = i
      · simp only [if_pos hj] at m
        by_cases hi : i < ρ1.length
        · simp only [if_pos hi] at m
          exact .inl ⟨hj, m⟩
        · simp [if_neg hi] at m
      · simp only [if_neg hj] at m
        exact .inr ⟨hj, m⟩
    rcases g j1 m1 with ⟨a1, b1⟩ | ⟨a1, b1⟩ <;> rcases g j2 m2 with ⟨a2, b2⟩ | ⟨a2, b2⟩
    · rw [a1, a2]
    · exact absurd b2 ((nw q b1).2 j2)
    · exact absurd b1 ((nw q b2).2 j1)
    · exact w2.dj j1 j2 q b1 b2
  · show (if j = i then (if i < ρ1.length then as else []) else ad j) = []
    have e' := get_set' e
    by_cases hj : j = i
    · subst hj
      rw [if_pos rfl, if_neg (by rw [List.getElem?_eq_none_iff] at e'; omega)]
    · rw [if_neg hj]
      exact w2.out j e'
end

/-! ### defs -/
def startE (N : List Str) (ds : List D) : Env := ds.map .val ++ List.replicate (N.length - ds.length) .emp
section
variable {P : Program} {w : World} {K : PySem.W.Frag} {mg : Str → Option Value} {base : Heap} {x qual : Str} {st : Stmt} {f : Addr} {fd : FuncData} {N ps : List Str} {k : Nat}
theorem start_get {N : List Str} {us : List V} {i : Nat} {v : V} (h : us[i]? = some v) : (L2.start N us)[i]? = some (some v) := by
  unfold L2.start
  have hi := (List.getElem?_eq_some_iff.mp h).1
  rw [List.getElem?_append_left (by rw [List.length_map]; exact hi), List.getElem?_map, h]
  rfl
theorem startE_get {N : List Str} {ds : List D} {i : Nat} {s : Slot} (h : (startE N ds)[i]? = some s) : (∃ d, ds[i]? = some d ∧ s = .val d) ∨ s = .emp := by
  unfold startE at h
  by_cases hi : i < ds.length
  · rw [List.getElem?_append_left (by rw [List.length_map]; exact hi), List.getElem?_map] at h
    cases e : ds[i]? with
    | none => rw [e] at h; cases h
    | some d => rw [e] at h; exact .inl ⟨d, rfl, (Option.some.inj h).symm⟩
  · rw [List.getElem?_append_right (by rw [List.length_map]; omega)] at h
    exact .inr (List.eq_of_mem_replicate (List.mem_of_getElem? h))
theorem fn_pure {R : List D → (D → Prop) → Prop} (F : Fun K x qual st f fd) (S : FnScope N ps (defScope st)) (len : ∀ ds Z, R ds Z → ds.length = ps.length)
    (body : ∀ (cdv : Value) (A : Around) (outer : List PySem.Env) (s : Shared) (H : Hp) (E : XK), Room k (A.deeper (PyProof.Rows.envOfC qual (defScope st) s.heap.objs.size f cdv)) →
      ∃ t, PSs (cxOf CX0 P w K mg base N qual (defScope st) f cdv A outer s H E).nox (defBody st) t ∧ ∀ ds Z, R ds Z → SX t (startE N ds) { nx := fun _ => Z .none, rt := fun d _ => Z d }) :
    FnOk P w K mg base CX0 (k + 1) f fd ps (spP R) := by
  refine F.ok S (fun vs H Q E h => ?_) (fun cdv A outer s H vs Q E hr h => ?_)
  · obtain ⟨F, ds, Z, _, r, q, _⟩ := h
    rw [r.len]
    exact len ds Z q
  · obtain ⟨F0, ds, Z, fh, r, q, z⟩ := h
    obtain ⟨t, ht, hs⟩ := body cdv A outer s H E hr
    refine ⟨t, ht, hs ds Z q { F0 := F0, H0 := H, M := Non } (L2.start N vs) F0 H ⟨fun _ => [], Gr.refl fh, ?_, fun i s e => ?_, (fun i p m => by cases m), (fun i j p m => by cases m), fun _ _ => rfl, (fun s as e => by cases e)⟩ _ (fun ρ' σ' F' H' q w' => ?_) (fun d ρ' σ' v F' H' q w' rv => ?_) (fun _ _ _ _ q _ => q.elim) (fun _ _ _ _ q _ => q.elim)⟩
    · unfold L2.start startE
      rw [List.length_append, List.length_append, List.length_map, List.length_map, List.length_replicate, List.length_replicate, r.len]
    · rcases startE_get e with ⟨d, e2, rfl⟩ | rfl
      · obtain ⟨v, e1, rv⟩ := r.get e2
        exact ⟨rfl, v, start_get e1, rv⟩
      · rfl
    · obtain ⟨ad, w'⟩ := w'
      exact z .none .non F' H' q w'.gr .non
    · obtain ⟨ad, w'⟩ := w'
      exact z d v F' H' q w'.gr rv
/-- a def whose first parameter is a state -/
theorem fn_state {R : Stt → List D → (D → Stt → Prop) → Prop} (F : Fun K x qual st f fd) (S : FnScope N ps (defScope st)) (len : ∀ S ds Z, R S ds Z → ds.length + 1 = ps.length)
    (body : ∀ (cdv : Value) (A : Around) (outer : List PySem.Env) (s : Shared) (H : Hp) (E : XK), Room k (A.deeper (PyProof.Rows.envOfC qual (defScope st) s.heap.objs.size f cdv)) →
      ∃ t, PSs (cxOf CX0 P w K mg base N qual (defScope st) f cdv A outer s H E).nox (defBody st) t ∧ ∀ S ds Z, R S ds Z → SX t (.st S :: (ds.map .val ++ List.replicate (N.length - (ds.length + 1)) .emp)) { nx := fun ρ' => ∃ S', ρ'[0]? = some (.st S') ∧ Z .none S', rt := fun d ρ' => ∃ S', ρ'[0]? = some (.st S') ∧ Z d S' }) :
    FnOk P w K mg base CX0 (k + 1) f fd ps (spS R) := by
  refine F.ok S (fun vs H Q E h => ?_) (fun cdv A outer s H vs Q E hr h => ?_)
  · obtain ⟨F, s, as, S, us, ds, Z, rfl, _, _, _, r, q, _⟩ := h
    rw [List.length_cons, r.len]
    exact len S ds Z q
  · obtain ⟨F0, s0, as, S0, us, ds, Z, rfl, fh, sa, fn, r, q, z⟩ := h
    obtain ⟨t, ht, hs⟩ := body cdv A outer s H E hr
    have hm := sa.mem
    have hl : (L2.start N (.ref s0 :: us)).length = (Slot.st S0 :: (ds.map Slot.val ++ List.replicate (N.length - (ds.length + 1)) Slot.emp)).length := by
      unfold L2.start
      simp [r.len]
    have fin : ∀ (d : D) (ρ' : Env) (σ' : St) (v : V) (F' H' : Hp), (∃ S', ρ'[0]? = some (Slot.st S') ∧ Z d S') → W { F0 := F0, H0 := H, M := (· ∈ as), pin := some (s0, as) } ρ' σ' F' H' → Rp F' v d → Q v H' := fun d ρ' σ' v F' H' ⟨S', e, zd⟩ ⟨ad, w'⟩ rv => by
      obtain ⟨e1, e2⟩ := w'.pin s0 as rfl S' e
      obtain ⟨s1, k1, k2⟩ := w'.sl 0 _ e
      rw [e1] at k1
      cases k1
      rw [e2] at k2
      exact z d S' v F' H' zd w'.gr k2 (fun a m => (w'.fz 0 a (by rw [e2]; exact m)).1) rv
    refine ⟨t, ht, hs S0 ds Z q { F0 := F0, H0 := H, M := (· ∈ as), pin := some (s0, as) } (L2.start N (.ref s0 :: us)) F0 H ⟨fun i => if i = 0 then as else [], Gr.refl fh, hl, fun i sl e => ?_, fun i p m => ?_, fun i j p m1 m2 => ?_, fun i e => ?_, fun s as' e S _ => ?_⟩ _ (fun ρ' σ' F' H' q w' => fin .none ρ' σ' .non F' H' q w' .non) (fun d ρ' σ' v F' H' q w' rv => fin d ρ' σ' v F' H' q w' rv) (fun _ _ _ _ q _ => q.elim) (fun _ _ _ _ q _ => q.elim)⟩
    · cases i with
      | zero =>
        cases e
        exact ⟨s0, start_get (us := .ref s0 :: us) rfl, by rw [if_pos rfl]; exact sa⟩
      | succ i =>
        have e' : (startE (List.replicate (N.length - 1) "") ds)[i]? = some sl := by
          unfold startE
          rw [List.length_replicate, show N.length - 1 - ds.length = N.length - (ds.length + 1) by omega]
          exact e
        rw [if_neg (Nat.succ_ne_zero i)]
        rcases startE_get e' with ⟨d, e2, rfl⟩ | rfl
        · obtain ⟨v, e1, rv⟩ := r.get e2
          exact ⟨rfl, v, start_get (us := .ref s0 :: us) (by simpa using e1), rv⟩
        · rfl
    · by_cases hi : i = 0
      · rw [if_pos hi] at m
        exact ⟨fn p m, .inr m⟩
      · rw [if_neg hi] at m; cases m
    · by_cases hi : i = 0
      · by_cases hj : j = 0
        · rw [hi, hj]
        · rw [if_neg hj] at m2; cases m2
      · rw [if_neg hi] at m1; cases m1
    · by_cases hi : i = 0
      · subst hi; cases e
      · exact if_neg hi
    · cases e
      exact ⟨start_get (us := .ref s0 :: us) rfl, if_pos rfl⟩
end
end Pu
namespace Pu
open PySem L2

/-! ### what the defs call: built-ins, one another -/
/-- no name of a built-in is bound by the module -/
structure Bn (mg : Str → Option Value) : Prop where
  len_ : mg "len" = none
  range_ : mg "range" = none
  min_ : mg "min" = none
  max_ : mg "max" = none
  abs_ : mg "abs" = none
  sum_ : mg "sum" = none
  int_ : mg "int" = none
  list_ : mg "list" = none
  tuple_ : mg "tuple" = none
  sorted_ : mg "sorted" = none
  isinstance_ : mg "isinstance" = none
  enumerate_ : mg "enumerate" = none
  zip_ : mg "zip" = none
  set_ : mg "set" = none
  repr_ : mg "repr" = none
  all_ : mg "all" = none
  any_ : mg "any" = none
  dict_ : mg "dict" = none
  reversed_ : mg "reversed" = none
  str_ : mg "str" = none
/-- a def of the module that keeps a promise -/
inductive Cal (P : Program) (w : World) (K : PySem.W.Frag) (mg : Str → Option Value) (base : Heap) (x : Str) (ps : List Str) (sp : Sp) (k : Nat) : Prop
  | mk (f : Addr) (fd : FuncData) (ok : FnOk P w K mg base CX0 k f fd ps sp) (hm : mg x = some (.ref f)) (kp : PySem.W.keepIn K (.ref f) = true) (bd : Binds K fd ps []) : Cal P w K mg base x ps sp k
theorem pe_cal {X : Cx} {k : Nat} {ps : List Str} {sp : Sp} {x : Str} {p pos : Pos} {e : Expr} {es : List Expr} {t : TA} (C : Cal X.prog X.w X.K X.mg X.base x ps sp k) (hr : Room k X.A) (hg : Gl X x) (ha : PA X (e :: es) t)
    (hdb : (x == ("__debug__" : Str)) = false := by decide) (he : starEach (e :: es) X.env = (false, eval e X.env) :: starEach es X.env := by rfl) (hpl : (backTo pos (starEach es X.env)).any (·.1) = false := by rfl) :
    PE X (.Call (.Name x p) (e :: es) [] pos) (tCall sp [] E0 t) := by
  obtain ⟨f, fd, ok, hm, kp, bd⟩ := C
  exact pe_call ok hr hg hm kp bd .nil pass0 ha hdb he hpl
theorem Cal.imp {P : Program} {w : World} {K : PySem.W.Frag} {mg : Str → Option Value} {base : Heap} {x : Str} {ps : List Str} {sp sp' : Sp} {k : Nat} (C : Cal P w K mg base x ps sp k) (h : ∀ vs H Q E, sp' vs H Q E → sp vs H Q E) : Cal P w K mg base x ps sp' k := by
  obtain ⟨f, fd, ok, hm, kp, bd⟩ := C
  exact ⟨f, fd, ok.imp h, hm, kp, bd⟩
theorem Cal.mono {P : Program} {w : World} {K : PySem.W.Frag} {mg : Str → Option Value} {base : Heap} {x : Str} {ps : List Str} {sp : Sp} {j k : Nat} (C : Cal P w K mg base x ps sp j) (h : j ≤ k) : Cal P w K mg base x ps sp k := by
  obtain ⟨f, fd, ok, hm, kp, bd⟩ := C
  exact ⟨f, fd, ok.mono h, hm, kp, bd⟩

/-! ### reading data off the heap -/
section
variable {X : Cx} {pins : List (Addr × Obj)} {σ : St} {F H : Hp} {s : Shared} {d : D} {ds : List D} {v : V} {u : Value} {vs : List V} {us : List Value}
theorem rp_reads (I : Inv X pins σ H s) (e : Same F H) (r : Rp F v d) (ru : RelV v u) : ∃ as, Reads s.heap u d as := Dp.reads I d v u (r.dp e) ru
theorem rpa_reads (I : Inv X pins σ H s) (e : Same F H) (r : RpA F vs ds) (ru : Vals vs us) : ∃ as, ReadsAll s.heap us ds as := Dp.readsAll I ds vs us (r.dp e) ru
mutual
theorem Rp.plain : ∀ (d : D) {v : V}, Rp F v d → d.plain = true
  | .none, _, _ => by simp only [PyData.plain]
  | .bool _, _, _ => by simp only [PyData.plain]
  | .int _, _, _ => by simp only [PyData.plain]
  | .str _, _, _ => by simp only [PyData.plain]
  | .list ds, _, h => by
    cases h with
    | lst _ h => simp only [PyData.plain]; exact RpA.plain ds h
  | .tuple ds, _, h => by
    cases h with
    | tup _ h => simp only [PyData.plain]; exact RpA.plain ds h
  | .dict _, _, h => by cases h
theorem RpA.plain : ∀ (ds : List D) {vs : List V}, RpA F vs ds → PyData.plainAll ds = true
  | [], _, _ => by simp only [PyData.plainAll]
  | d :: ds, _, h => by
    cases h with
    | cons h1 h2 => simp only [PyData.plainAll, Bool.and_eq_true]; exact ⟨Rp.plain d h1, RpA.plain ds h2⟩
end
/-- at most so deep -/
def DpN (n : Nat) (d : D) : Prop := d.depth ≤ n
theorem dpn_int {n : Nat} {i : Int} : DpN n (.int i) := by simp [DpN, PyData.depth]
theorem dpn_bl {n : Nat} {b : Bool} : DpN n (.bool b) := by simp [DpN, PyData.depth]
theorem dpn_str {n : Nat} {x : Str} : DpN n (.str x) := by simp [DpN, PyData.depth]
theorem dpn_non {n : Nat} : DpN n .none := by simp [DpN, PyData.depth]
theorem depthAll_le {n : Nat} : ∀ {ds : List D}, (∀ d ∈ ds, DpN n d) → PyData.depthAll ds ≤ n
  | [], _ => by simp [PyData.depthAll]
  | d :: ds, h => by
    simp only [PyData.depthAll]
    exact Nat.max_le.mpr ⟨h d (by simp), depthAll_le fun e he => h e (by simp [he])⟩
theorem dpn_list {n : Nat} {ds : List D} (h : ∀ d ∈ ds, DpN n d) : DpN (n + 1) (.list ds) := by
  simp only [DpN, PyData.depth]
  exact Nat.succ_le_succ (depthAll_le h)
theorem dpn_tup {n : Nat} {ds : List D} (h : ∀ d ∈ ds, DpN n d) : DpN (n + 1) (.tuple ds) := by
  simp only [DpN, PyData.depth]
  exact Nat.succ_le_succ (depthAll_le h)
theorem dpn_map {α : Type} {n : Nat} {xs : List α} {f : α → D} (h : ∀ x ∈ xs, DpN n (f x)) : ∀ d ∈ xs.map f, DpN n d := fun d hd => by
  obtain ⟨x, hx, rfl⟩ := List.mem_map.mp hd
  exact h x hx
theorem dpn_nil {n : Nat} : ∀ d ∈ ([] : List D), DpN n d := fun d h => by cases h
theorem dpn_cons {n : Nat} {d : D} {ds : List D} (h : DpN n d) (hs : ∀ e ∈ ds, DpN n e) : ∀ e ∈ d :: ds, DpN n e := fun e he => by
  rcases List.mem_cons.mp he with rfl | he
  · exact h
  · exact hs e he
theorem DpN.up {n m : Nat} {d : D} (h : DpN n d) (k : n ≤ m) : DpN m d := Nat.le_trans h k
end

/-! ### ==, != of data at depth 64 -/
section
variable {X : Cx} {K : PySem.W.Frag} {d d1 d2 : D} {ds es : List D} {Q : D → Prop}
def rEqP (K : PySem.W.Frag) : R2 := fun x y H Q => ∃ d e, Dp K H x d ∧ Dp K H y e ∧ d.plain = true ∧ e.plain = true ∧ min d.depth e.depth ≤ 60 ∧ Q (.bl (PyData.eqv d e)) H
def rNeP (K : PySem.W.Frag) : R2 := fun x y H Q => ∃ d e, Dp K H x d ∧ Dp K H y e ∧ d.plain = true ∧ e.plain = true ∧ min d.depth e.depth ≤ 60 ∧ Q (.bl (!PyData.eqv d e)) H
theorem op_eqP (hu : X.A.units + 64 < cLine) : OpR X (compareOp .Eq) (rEqP X.K) := by
  rintro pins s σ H x y v u Q I rx ry ⟨d, e, hd, he, pd, pe, hz, q⟩
  obtain ⟨as, r1⟩ := Dp.reads I d x v hd rx
  obtain ⟨bs, r2⟩ := Dp.reads I e y u he ry
  exact PySem.SeqAt.eq_plain r1 r2 pd pe (by omega) ⟨.bl _, H, I, rfl, q⟩
theorem op_neP (hu : X.A.units + 64 < cLine) : OpR X (compareOp .NotEq) (rNeP X.K) := by
  rintro pins s σ H x y v u Q I rx ry ⟨d, e, hd, he, pd, pe, hz, q⟩
  obtain ⟨as, r1⟩ := Dp.reads I d x v hd rx
  obtain ⟨bs, r2⟩ := Dp.reads I e y u he ry
  exact PySem.SeqAt.ne_plain r1 r2 pd pe (by omega) ⟨.bl _, H, I, rfl, q⟩
theorem opd_eqP (h : min d1.depth d2.depth ≤ 60) (k : Q (.bool (PyData.eqv d1 d2))) : OpD (rEqP K) d1 d2 Q := fun F H x y e rx ry Z z => ⟨d1, d2, rx.dp e, ry.dp e, Rp.plain _ rx, Rp.plain _ ry, h, z _ _ F H k (Gr.refl e) (.bl _)⟩
theorem opd_neP (h : min d1.depth d2.depth ≤ 60) (k : Q (.bool (!PyData.eqv d1 d2))) : OpD (rNeP K) d1 d2 Q := fun F H x y e rx ry Z z => ⟨d1, d2, rx.dp e, ry.dp e, Rp.plain _ rx, Rp.plain _ ry, h, z _ _ F H k (Gr.refl e) (.bl _)⟩
theorem min_l {n m k : Nat} (h : n ≤ k) : min n m ≤ k := Nat.le_trans (Nat.min_le_left _ _) h
theorem min_r {n m k : Nat} (h : m ≤ k) : min n m ≤ k := Nat.le_trans (Nat.min_le_right _ _) h
/-! in, not in -/
def rInP (K : PySem.W.Frag) : R2 := fun x y H Q => ∃ d es, Dp K H x d ∧ (Dp K H y (.list es) ∨ Dp K H y (.tuple es)) ∧ d.plain = true ∧ PyData.plainAll es = true ∧ min (PyData.depthAll es) d.depth ≤ 60 ∧ Q (.bl (es.any fun y => PyData.eqv y d)) H
def rNinP (K : PySem.W.Frag) : R2 := fun x y H Q => ∃ d es, Dp K H x d ∧ (Dp K H y (.list es) ∨ Dp K H y (.tuple es)) ∧ d.plain = true ∧ PyData.plainAll es = true ∧ min (PyData.depthAll es) d.depth ≤ 60 ∧ Q (.bl (!es.any fun y => PyData.eqv y d)) H
theorem op_inP (hu : X.A.units + 64 < cLine) : OpR X (compareOp .In) (rInP X.K) := by
  rintro pins s σ H x y v u Q I rx ry ⟨d, es, hd, he, pd, pe, hz, q⟩
  obtain ⟨as, r1⟩ := Dp.reads I d x v hd rx
  rcases he with he | he
  · obtain ⟨bs, r2⟩ := Dp.reads I _ y u he ry
    exact PySem.SeqAt.in_list_data r2 r1 pe pd (by omega) ⟨.bl _, H, I, rfl, q⟩
  · obtain ⟨bs, r2⟩ := Dp.reads I _ y u he ry
    exact PySem.SeqAt.in_tuple_data r2 r1 pe pd (by omega) ⟨.bl _, H, I, rfl, q⟩
theorem op_ninP (hu : X.A.units + 64 < cLine) : OpR X (compareOp .NotIn) (rNinP X.K) := by
  rintro pins s σ H x y v u Q I rx ry ⟨d, es, hd, he, pd, pe, hz, q⟩
  obtain ⟨as, r1⟩ := Dp.reads I d x v hd rx
  rcases he with he | he
  · obtain ⟨bs, r2⟩ := Dp.reads I _ y u he ry
    exact PySem.SeqAt.notIn_list_data r2 r1 pe pd (by omega) ⟨.bl _, H, I, rfl, q⟩
  · obtain ⟨bs, r2⟩ := Dp.reads I _ y u he ry
    exact PySem.SeqAt.notIn_tuple_data r2 r1 pe pd (by omega) ⟨.bl _, H, I, rfl, q⟩
theorem opd_inL (h : min (PyData.depthAll es) d.depth ≤ 60) (k : Q (.bool (es.any fun y => PyData.eqv y d))) : OpD (rInP K) d (.list es) Q := fun F H x y e rx ry Z z =>
  ⟨d, es, rx.dp e, .inl (ry.dp e), Rp.plain _ rx, by have := Rp.plain _ ry; simpa only [PyData.plain] using this, h, z _ _ F H k (Gr.refl e) (.bl _)⟩
theorem opd_inT (h : min (PyData.depthAll es) d.depth ≤ 60) (k : Q (.bool (es.any fun y => PyData.eqv y d))) : OpD (rInP K) d (.tuple es) Q := fun F H x y e rx ry Z z =>
  ⟨d, es, rx.dp e, .inr (ry.dp e), Rp.plain _ rx, by have := Rp.plain _ ry; simpa only [PyData.plain] using this, h, z _ _ F H k (Gr.refl e) (.bl _)⟩
theorem opd_ninL (h : min (PyData.depthAll es) d.depth ≤ 60) (k : Q (.bool (!es.any fun y => PyData.eqv y d))) : OpD (rNinP K) d (.list es) Q := fun F H x y e rx ry Z z =>
  ⟨d, es, rx.dp e, .inl (ry.dp e), Rp.plain _ rx, by have := Rp.plain _ ry; simpa only [PyData.plain] using this, h, z _ _ F H k (Gr.refl e) (.bl _)⟩
theorem opd_ninT (h : min (PyData.depthAll es) d.depth ≤ 60) (k : Q (.bool (!es.any fun y => PyData.eqv y d))) : OpD (rNinP K) d (.tuple es) Q := fun F H x y e rx ry Z z =>
  ⟨d, es, rx.dp e, .inr (ry.dp e), Rp.plain _ rx, by have := Rp.plain _ ry; simpa only [PyData.plain] using this, h, z _ _ F H k (Gr.refl e) (.bl _)⟩
/-! min, max of a list of alike data -/
def rMnD (K : PySem.W.Frag) : List V → Hp → VK → Prop := fun vs H Q => ∃ (F : Hp) (a : Addr) (xs : List V) (d : D) (ds : List D), vs = [.ref a] ∧ Same F H ∧ Rd F a (.lst xs) ∧ RpA F xs (d :: ds) ∧ PySem.W.AlikeAll (d :: ds) ∧ PyData.depthAll (d :: ds) ≤ 60 ∧ ∀ v, Rp F v (PySem.W.minD d ds) → Q v H
def rMxD (K : PySem.W.Frag) : List V → Hp → VK → Prop := fun vs H Q => ∃ (F : Hp) (a : Addr) (xs : List V) (d : D) (ds : List D), vs = [.ref a] ∧ Same F H ∧ Rd F a (.lst xs) ∧ RpA F xs (d :: ds) ∧ PySem.W.AlikeAll (d :: ds) ∧ PyData.depthAll (d :: ds) ≤ 60 ∧ ∀ v, Rp F v (PySem.W.maxD d ds) → Q v H
theorem minD_mem (d : D) (ds : List D) : PySem.W.minD d ds ∈ d :: ds := by
  have : ∀ (es : List D) (a : D), es.foldl (fun a y => if PySem.W.dataLt y a then y else a) a ∈ a :: es := by
    intro es
    induction es with
    | nil => intro a; simp
    | cons e es ih =>
      intro a
      rw [List.foldl_cons]
      have q := ih (if PySem.W.dataLt e a then e else a)
      by_cases c : PySem.W.dataLt e a = true
      · rw [if_pos c] at q ⊢
        exact List.mem_cons_of_mem _ q
      · rw [if_neg c] at q ⊢
        rcases List.mem_cons.mp q with q | q
        · rw [q]; exact List.mem_cons_self
        · exact List.mem_cons_of_mem _ (List.mem_cons_of_mem _ q)
  exact this ds d
theorem maxD_mem (d : D) (ds : List D) : PySem.W.maxD d ds ∈ d :: ds := by
  have : ∀ (es : List D) (a : D), es.foldl (fun a y => if PySem.W.dataLt a y then y else a) a ∈ a :: es := by
    intro es
    induction es with
    | nil => intro a; simp
    | cons e es ih =>
      intro a
      rw [List.foldl_cons]
      have q := ih (if PySem.W.dataLt a e then e else a)
      by_cases c : PySem.W.dataLt a e = true
      · rw [if_pos c] at q ⊢
        exact List.mem_cons_of_mem _ q
      · rw [if_neg c] at q ⊢
        rcases List.mem_cons.mp q with q | q
        · rw [q]; exact List.mem_cons_self
        · exact List.mem_cons_of_mem _ (List.mem_cons_of_mem _ q)
  exact this ds d
theorem pick_rp {pins : List (Addr × Obj)} {σ : St} {F H : Hp} {s : Shared} {xs : List V} {its : List Value} {es : List D} {m : D} (I : Inv X pins σ H s) (e : Same F H) (ra : RpA F xs es) (rv : Vals xs its) (al : PySem.W.AlikeAll es) (hm : m ∈ es)
    {i : Nat} {v : Value} {h' : Heap} {bs : List Addr} (hi : its.toArray[i]? = some v) (rd : Reads h' v m bs) (hk : ∀ b o, s.heap.get? b = some o → h'.get? b = some o) : ∃ y, RelV y v ∧ Rp F y m := by
  have hi' : its[i]? = some v := by simpa using hi
  have hl : i < xs.length := by rw [rv.length]; exact (List.getElem?_eq_some_iff.mp hi').1
  obtain ⟨u, hu, ru⟩ := rv.get (List.getElem?_eq_getElem hl)
  rw [hi'] at hu
  cases hu
  obtain ⟨d, hd, rp⟩ := ra.get' (List.getElem?_eq_getElem hl)
  obtain ⟨as, r1⟩ := rp_reads I e rp ru
  have q : d = m := PySem.W.alike_unique d m v as bs (al.1 d (List.mem_of_getElem? hd) m hm) (PyProof.Rows.Reads.keeps hk r1) rd
  rw [q] at rp
  exact ⟨_, ru, rp⟩
theorem cb_minD (hc : X.calm = true) (hu : X.A.units + 64 < cLine) : CallR X (.builtin "min") (rMnD X.K) := by
  rintro pins s σ H vs us Q I r ⟨F, a, xs, d, ds, rfl, e, ha, ra, al, hz, q⟩
  obtain ⟨its, rv, hl, _⟩ := I.list (sqL_rd (K := X.K) ha e)
  obtain ⟨as, rr⟩ := rpa_reads I e ra rv
  rw [Vals.ref1 r]
  refine PySem.W.min_list_data (I.ok.hd hc) hl.isList (by simpa using rr) al (by omega) fun i v h' tk bs hi rd hk => ?_
  obtain ⟨y, ry, rp⟩ := pick_rp I e ra rv al (minD_mem d ds) hi rd hk
  exact ⟨y, H, I.kept hk, ry, q y rp⟩
theorem cb_maxD (hc : X.calm = true) (hu : X.A.units + 64 < cLine) : CallR X (.builtin "max") (rMxD X.K) := by
  rintro pins s σ H vs us Q I r ⟨F, a, xs, d, ds, rfl, e, ha, ra, al, hz, q⟩
  obtain ⟨its, rv, hl, _⟩ := I.list (sqL_rd (K := X.K) ha e)
  obtain ⟨as, rr⟩ := rpa_reads I e ra rv
  rw [Vals.ref1 r]
  refine PySem.W.max_list_data (I.ok.hd hc) hl.isList (by simpa using rr) al (by omega) fun i v h' tk bs hi rd hk => ?_
  obtain ⟨y, ry, rp⟩ := pick_rp I e ra rv al (maxD_mem d ds) hi rd hk
  exact ⟨y, H, I.kept hk, ry, q y rp⟩
theorem cbd_minD (al : PySem.W.AlikeAll (d :: ds)) (hz : PyData.depthAll (d :: ds) ≤ 60) (k : Q (PySem.W.minD d ds)) : CbD (rMnD K) [.list (d :: ds)] Q := fun F H vs e r Z z => by
  obtain ⟨v, rfl, rv⟩ := r.one
  obtain ⟨a, xs, rfl, h1, h2⟩ := rv.lst_inv
  exact ⟨F, a, xs, d, ds, rfl, e, h1, h2, al, hz, fun v rv => z _ _ F H k (Gr.refl e) rv⟩
theorem cbd_maxD (al : PySem.W.AlikeAll (d :: ds)) (hz : PyData.depthAll (d :: ds) ≤ 60) (k : Q (PySem.W.maxD d ds)) : CbD (rMxD K) [.list (d :: ds)] Q := fun F H vs e r Z z => by
  obtain ⟨v, rfl, rv⟩ := r.one
  obtain ⟨a, xs, rfl, h1, h2⟩ := rv.lst_inv
  exact ⟨F, a, xs, d, ds, rfl, e, h1, h2, al, hz, fun v rv => z _ _ F H k (Gr.refl e) rv⟩
theorem alike_ints (ns : List Int) : PySem.W.AlikeAll (ns.map PyData.int) := ⟨fun x hx y hy => by
  obtain ⟨a, _, rfl⟩ := List.mem_map.mp hx
  obtain ⟨b, _, rfl⟩ := List.mem_map.mp hy
  rfl, fun x hx => by
  obtain ⟨a, _, rfl⟩ := List.mem_map.mp hx
  intro z; cases z⟩
def foldMin : List Int → Int
  | [] => 0
  | n :: ns => ns.foldl min n
def foldMax : List Int → Int
  | [] => 0
  | n :: ns => ns.foldl max n
theorem cbd_minI {ns : List Int} (h : 0 < ns.length) (k : Q (.int (foldMin ns))) : CbD (rMnD K) [.list (ns.map .int)] Q := by
  cases ns with
  | nil => cases h
  | cons n ns =>
    refine cbd_minD (alike_ints (n :: ns)) ?_ ?_
    · exact depthAll_le (dpn_map (xs := n :: ns) fun x _ => dpn_int)
    · have e := PySem.W.minD_ints n ns
      show Q (PySem.W.minD (.int n) (ns.map .int))
      rw [e]
      exact k
theorem cbd_maxI {ns : List Int} (h : 0 < ns.length) (k : Q (.int (foldMax ns))) : CbD (rMxD K) [.list (ns.map .int)] Q := by
  cases ns with
  | nil => cases h
  | cons n ns =>
    refine cbd_maxD (alike_ints (n :: ns)) ?_ ?_
    · exact depthAll_le (dpn_map (xs := n :: ns) fun x _ => dpn_int)
    · have e := PySem.W.maxD_ints n ns
      show Q (PySem.W.maxD (.int n) (ns.map .int))
      rw [e]
      exact k
/-! sorted -/
abbrev sortD (ds : List D) : List D := ds.mergeSort (PySem.W.dataLe false id)
def rSrD (K : PySem.W.Frag) : List V → Hp → VK → Prop := fun vs H Q => ∃ (F : Hp) (a : Addr) (xs : List V) (ds : List D), vs = [.ref a] ∧ Same F H ∧ Rd F a (.lst xs) ∧ RpA F xs ds ∧ PySem.W.AllAlike ds ∧ PySem.W.Sortable ds ∧ PyData.depthAll ds ≤ 60 ∧
  ∀ p ys, H p = none → RpA F ys (sortD ds) → Q (.ref p) (upd H p (.lst ys))
theorem rpa_zip {F : Hp} : ∀ {xs : List V} {ds : List D}, RpA F xs ds → ∀ p ∈ xs.zip ds, Rp F p.1 p.2
  | _, [], h, p, hp => by cases h; cases hp
  | _, d :: ds, h, p, hp => by
    cases h with
    | cons h1 h2 =>
      rcases List.mem_cons.mp hp with rfl | hp
      · exact h1
      · exact rpa_zip h2 p hp
theorem rpa_of {F : Hp} : ∀ {zs : List (V × D)}, (∀ p ∈ zs, Rp F p.1 p.2) → RpA F (zs.map Prod.fst) (zs.map Prod.snd)
  | [], _ => .nil
  | z :: zs, h => .cons (h z (by simp)) (rpa_of fun p hp => h p (by simp [hp]))
theorem each_zip {F : Hp} : ∀ {xs : List V} {ds : List D} {its : List Value}, RpA F xs ds → Vals xs its → PySem.W.EachIs (fun v (b : V × D) => RelV b.1 v) its (xs.zip ds)
  | _, [], _, h, r => by cases h; cases r; exact .nil
  | _, d :: ds, _, h, r => by
    cases h with
    | cons h1 h2 =>
      cases r with
      | cons r1 r2 => exact .cons r1 (each_zip h2 r2)
theorem vals_each : ∀ {zs : List (V × D)} {out : List Value}, PySem.W.EachIs (fun v (b : V × D) => RelV b.1 v) out zs → Vals (zs.map Prod.fst) out
  | _, _, .nil => .nil
  | _, _, .cons h t => .cons h (vals_each t)
theorem each_reads {h : Heap} : ∀ {xs : List V} {ds : List D} {its : List Value} {as : List Addr}, xs.length = ds.length → ReadsAll h its ds as → PySem.W.EachIs (fun v (b : V × D) => ∃ as, Reads h v b.2 as) its (xs.zip ds)
  | [], [], _, _, _, r => by cases r; exact .nil
  | x :: xs, d :: ds, _, _, l, r => by
    cases r with
    | cons r1 r2 => exact .cons ⟨_, r1⟩ (each_reads (by simpa using l) r2)
  | [], _ :: _, _, _, l, _ => by simp at l
  | _ :: _, [], _, _, l, _ => by simp at l
theorem depth_mem : ∀ {ds : List D} {d : D}, d ∈ ds → d.depth ≤ PyData.depthAll ds
  | [], _, h => by cases h
  | e :: ds, d, h => by
    simp only [PyData.depthAll]
    rcases List.mem_cons.mp h with rfl | h
    · exact Nat.le_max_left _ _
    · exact Nat.le_trans (depth_mem h) (Nat.le_max_right _ _)
theorem cb_sortD (hu : X.A.units + 64 < cLine) : CallR X (.builtin "sorted") (rSrD X.K) := by
  rintro pins s σ H vs us Q I r ⟨F, a, xs, ds, rfl, e, ha, ra, al, so, hz, q⟩
  obtain ⟨its, rv, hl, hzl⟩ := I.list (sqL_rd (K := X.K) ha e)
  obtain ⟨as, rr⟩ := rpa_reads I e ra rv
  rw [Vals.ref1 r]
  have hmap : (xs.zip ds).map Prod.snd = ds := List.map_snd_zip (by rw [ra.len]; exact Nat.le_refl _)
  have hlen : (xs.zip ds).length = xs.length := by rw [List.length_zip, ra.len, Nat.min_self]
  refine PySem.W.sorted_data (bs := xs.zip ds) (enc := Prod.snd) hl.isList (each_zip ra rv) (each_reads ra.len rr) (by rw [hmap]; exact al) (by rw [hmap]; exact so) (by rw [hlen]; exact hzl)
    (fun b hb => ?_) fun out ho he => ?_
  · have hd : b.2 ∈ ds := by rw [← hmap]; exact List.mem_map_of_mem hb
    have := depth_mem hd
    omega
  · obtain ⟨ep, he'⟩ := PyProof.Rows.sortedAll_at s.heap its out.toArray
    have hv := vals_each he
    have hd : (List.mergeSort (xs.zip ds) (PySem.W.dataLe false Prod.snd)).map Prod.snd = sortD ds := by
      have q := PySem.W.sort_maps (r := PySem.W.dataLe false Prod.snd) (s := PySem.W.dataLe false id) (Prod.snd : V × D → D) (l := xs.zip ds) (fun a _ b _ => rfl)
      rw [q, hmap]
    have hr := rpa_of (F := F) (zs := List.mergeSort (xs.zip ds) (PySem.W.dataLe false Prod.snd)) fun p hp => rpa_zip ra p (List.mem_mergeSort.mp hp)
    rw [hd] at hr
    refine ⟨.ref _, upd H (s.heap.objs.size + 1) (.lst ((List.mergeSort (xs.zip ds) (PySem.W.dataLe false Prod.snd)).map Prod.fst)), I.laid (t' := s.toks) (fun _ _ => PyProof.Rows.sortedAll_old) (Nat.le_succ _) ⟨?_, out, ep, hv, he'⟩, rfl, q _ _ (I.hok.fresh (Nat.le_succ _)) hr⟩
    rw [List.length_map, List.length_mergeSort, hlen]
    exact hzl
theorem cbo_sortD {Q : List D → Prop} (al : PySem.W.AllAlike ds) (so : PySem.W.Sortable ds) (hz : PyData.depthAll ds ≤ 60) (k : Q (sortD ds)) : CbO (rSrD K) [.list ds] Q := fun F H vs e r Z z => by
  obtain ⟨v, rfl, rv⟩ := r.one
  obtain ⟨a, xs, rfl, h1, h2⟩ := rv.lst_inv
  exact ⟨F, a, xs, ds, rfl, e, h1, h2, al, so, hz, fun p ys hp rp => z _ p _ _ k (same_upd hp) hp upd_same rp⟩
/-! x.extend(ys) -/
def rExtR : V → List V → Hp → VK → Prop := fun x vs H Q => ∃ l b xs zs, x = .ref l ∧ vs = [.ref b] ∧ H l = some (.lst xs) ∧ Rd H b (.lst zs) ∧ xs.length + zs.length ≤ sizeLine ∧ Q .non (upd H l (.lst (xs ++ zs)))
theorem mt_extR : MtM X "list.extend" rExtR := by
  intro pins s σ H x vs v us Q I rx rv h
  obtain ⟨l, b, xs, zs, rfl, rfl, hH, hB, hz, q⟩ := h
  cases rx
  obtain ⟨u, rfl, ru⟩ := rv.one
  cases ru
  obtain ⟨z, its, n, r, hl, e⟩ := I.lstM hH
  obtain ⟨z2, its2, n2, r2, e2⟩ := hB.ok I.hok
  have hl2 := r2.length
  have k1 : its.toArray.size + its2.toArray.size ≤ sizeLine := by rw [List.size_toArray, List.size_toArray]; omega
  have k2 : ¬ (!its.toArray.isEmpty && Builtin.List.listTooLong (its.toArray.size + its2.toArray.size)) = true := by rw [notLongL k1, Bool.and_false]; exact Bool.false_ne_true
  refine call_meets F.slot_list_extend ⟨_, e, rfl⟩ F.entry_list_extend (F.args_list_extend_2 _ _) (AutoSeq1.list_extend_list_list_0 l its.toArray n b its2.toArray n2 k2 (by rw [List.size_toArray]; omega) (by omega)) ⟨e, e2, ?_⟩
  refine ⟨.non, _, I.lset (its' := its ++ its2) hH e (by simp) (r.append r2) ?_, rfl, q⟩
  rw [List.length_append]; omega
theorem sx_ext {ρ : Env} {P : Po} {te : TE} {i : Nat} {fs : List D} (h : ρ[i]? = some (.own fs)) (k : EX te ρ fun d ρ1 => ∃ ds es, d = .list es ∧ ρ1[i]? = some (.own ds) ∧ ds.length + es.length ≤ 1000000 ∧ NX P (ρ1.set i (.own (ds ++ es)))) : SX (tDrop (tBM K "list" rExtR (tVar i) (tCons te tNil))) ρ P := fun B σ F H w Dn n r b c => by
  obtain ⟨ad, w⟩ := w
  obtain ⟨p0, vs0, _, _, k1, k0, _⟩ := w.sl i _ h
  refine ⟨_, k1, .inl ⟨rfl, _, .inl (.inl k0)⟩, k B ad σ F H w _ fun d ρ1 v F1 H1 q1 p1 r1 => ?_⟩
  obtain ⟨ds, es, rfl, h1, hz, ρ', l, q⟩ := q1
  obtain ⟨p, vs, _, _, k2, k3, rr⟩ := p1.wa.sl i _ h1
  have e := k1.symm.trans k2
  cases e
  obtain ⟨a, ws, rfl, g1, g2⟩ := r1.lst_inv
  exact ⟨_, a, vs, ws, rfl, rfl, k3, rd_mono p1.wa.gr.fh g1, Nat.le_trans (by rw [rr.len, g2.len]; exact hz) (by decide), n ρ' σ F1 _ q ((p1.wa.mut h1 k2 (rr.app g2)).weak l)⟩
end

/-! ### short forms for a run -/
section
variable {K : PySem.W.Frag} {Q : D → Prop} {i j : Int} {d d1 d2 : D} {ds es : List D}
theorem Gr.frz {F H H' : Hp} {p : Addr} {vs : List V} (e : Same F H) (g : Same H H') (hn : H p = none) (hp : H' p = some (.lst vs)) : Gr Non F H (upd F p (.lst vs)) H' where
  ff := same_upd (e.free hn)
  fh := fun a u q => by
    by_cases ha : a = p
    · subst ha; rw [upd_same] at q; rw [hp]; exact q
    · rw [upd_ne ha] at q; exact g a u (e a u q)
  kp := fun a u q _ => g a u q
  al := fun a q => by
    cases z : H a with
    | none => exact absurd z q
    | some o => rw [g a o z]; intro z; cases z
  fr := fun a q z => by
    have ha : a ≠ p := fun z => q (z ▸ hn)
    rw [upd_ne ha]; exact z
theorem opd_ofO {r : R2} (h : OpO r d1 d2 fun ds => Q (.list ds)) : OpD r d1 d2 Q := fun F H x y e rx ry Z z => h F H x y e rx ry Z fun ds p vs H' q g hn hp rv =>
  z _ _ (upd F p (.lst vs)) H' q (Gr.frz e g hn hp) (.lst (.inl upd_same) (rv.up (Gr.frz e g hn hp).ff))
theorem cbd_ofO {r : List V → Hp → VK → Prop} (h : CbO r ds fun ds => Q (.list ds)) : CbD r ds Q := fun F H vs e rv Z z => h F H vs e rv Z fun ds p vs H' q g hn hp rv =>
  z _ _ (upd F p (.lst vs)) H' q (Gr.frz e g hn hp) (.lst (.inl upd_same) (rv.up (Gr.frz e g hn hp).ff))
theorem sld_ofO {r : V → Option Int → Option Int → Hp → VK → Prop} {lo hi : Option Int} (h : SlO r d lo hi fun ds => Q (.list ds)) : SlD r d lo hi Q := fun F H x e rx Z z => h F H x e rx Z fun ds p vs H' q g hn hp rv =>
  z _ _ (upd F p (.lst vs)) H' q (Gr.frz e g hn hp) (.lst (.inl upd_same) (rv.up (Gr.frz e g hn hp).ff))
theorem opd_plusL (hz : ds.length + es.length ≤ 1000000) (k : Q (.list (ds ++ es))) : OpD (rPlus K) (.list ds) (.list es) Q := opd_ofO (opo_plusL hz k)
theorem sld_L {lo hi : Option Int} (k : Q (.list (cutD ds lo hi))) : SlD (rSl K) (.list ds) lo hi Q := sld_ofO (slo_L k)
theorem cbd_listL (k : Q (.list ds)) : CbD (rList K) [.list ds] Q := cbd_ofO (cbo_listL k)
theorem cbd_listT (k : Q (.list ds)) : CbD (rList K) [.tuple ds] Q := cbd_ofO (cbo_listT k)
theorem cbd_sortD (al : PySem.W.AllAlike ds) (so : PySem.W.Sortable ds) (hz : PyData.depthAll ds ≤ 60) (k : Q (.list (sortD ds))) : CbD (rSrD K) [.list ds] Q := cbd_ofO (cbo_sortD al so hz k)
theorem opd_eqI (k : Q (.bool (decide (i = j)))) : OpD (rEqP K) (.int i) (.int j) Q := opd_eqP (min_l (by simp [PyData.depth])) (by
  have e : PyData.eqv (.int i) (.int j) = decide (i = j) := by simp only [PyData.eqv]; exact Bool.beq_eq_decide_eq i j
  rw [e]; exact k)
theorem opd_neI (k : Q (.bool (!decide (i = j)))) : OpD (rNeP K) (.int i) (.int j) Q := opd_neP (min_l (by simp [PyData.depth])) (by
  have e : PyData.eqv (.int i) (.int j) = decide (i = j) := by simp only [PyData.eqv]; exact Bool.beq_eq_decide_eq i j
  rw [e]; exact k)
theorem opd_eqS {x y : Str} (k : Q (.bool (decide (x = y)))) : OpD (rEqP K) (.str x) (.str y) Q := opd_eqP (min_l (by simp [PyData.depth])) (by
  have e : PyData.eqv (.str x) (.str y) = decide (x = y) := by simp only [PyData.eqv]; by_cases h : x = y <;> simp [h]
  rw [e]; exact k)
theorem opd_neS {x y : Str} (k : Q (.bool (!decide (x = y)))) : OpD (rNeP K) (.str x) (.str y) Q := opd_neP (min_l (by simp [PyData.depth])) (by
  have e : PyData.eqv (.str x) (.str y) = decide (x = y) := by simp only [PyData.eqv]; by_cases h : x = y <;> simp [h]
  rw [e]; exact k)
theorem atI_in {α : Type} {xs : List α} {k : Int} (h0 : 0 ≤ k) (h1 : k < xs.length) : atI xs k = some (xs[k.toNat]'(by omega)) := by
  obtain ⟨n, rfl⟩ : ∃ n : Nat, k = (n : Int) := ⟨k.toNat, by omega⟩
  exact atI_nat (by simp)
/-- an item of a mapped list, told by a default -/
theorem atI_map {α : Type} {xs : List α} {f : α → D} {k : Int} (a : α) (h0 : 0 ≤ k) (h1 : k < xs.length) : atI (xs.map f) k = some (f (xs.getD k.toNat a)) := by
  have hk : k.toNat < xs.length := by omega
  have e := atI_in (xs := xs.map f) h0 (by rw [List.length_map]; exact h1)
  rw [e, List.getElem_map, List.getD_eq_getElem?_getD, List.getElem?_eq_getElem hk]
  rfl
theorem opd_ixM {α : Type} {xs : List α} {f : α → D} {k : Int} (a : α) (h0 : 0 ≤ k) (h1 : k < xs.length) (q : Q (f (xs.getD k.toNat a))) : OpD (rIxA K) (.list (xs.map f)) (.int k) Q := opd_ixL (atI_map a h0 h1) q
end

theorem rng_at {lo : Int} {n k : Nat} {d : D} (h : ((rngI lo n).map PyData.int)[k]? = some d) : k < n ∧ d = .int (lo + (k : Int)) := by
  have hk : k < n := by
    have := (List.getElem?_eq_some_iff.mp h).1
    rw [List.length_map, rngI_len] at this
    exact this
  rw [List.getElem?_map, rngI_get hk] at h
  exact ⟨hk, (Option.some.inj h).symm⟩
theorem rng_size (lo : Int) (n : Nat) : ((rngI lo n).map PyData.int).length = n := by rw [List.length_map, rngI_len]
theorem map_at {α : Type} {xs : List α} {f : α → D} {k : Nat} {d : D} (h : (xs.map f)[k]? = some d) : ∃ x, xs[k]? = some x ∧ d = f x := by
  rw [List.getElem?_map] at h
  cases e : xs[k]? with
  | none => rw [e] at h; cases h
  | some x => rw [e] at h; exact ⟨x, rfl, (Option.some.inj h).symm⟩

/-- what a slot that holds data gives on -/
def VQ (s : Option Slot) (Q : D → Env → Prop) (ρ : Env) : Prop := match s with
  | some (.val d) => Q d ρ
  | _ => False
theorem ex_vr {ρ : Env} {i : Nat} {Q : D → Env → Prop} (h : VQ ρ[i]? Q ρ) : EX (tVar i) ρ Q := by
  unfold VQ at h
  split at h
  · rename_i d e
    exact ex_var e h
  · exact h.elim

section
variable {K : PySem.W.Frag} {Q : D → Prop} {d : D}
/-- two times the same datum -/
theorem opd_eqSelf (h : d.depth ≤ 60) (k : Q (.bool true)) : OpD (rEqP K) d d Q := fun F H x y e rx ry Z z => opd_eqP (Q := Q) (min_l h) (by rw [PySem.SeqAt.eqv_refl_plain d (Rp.plain d rx)]; exact k) F H x y e rx ry Z z
theorem opd_neSelf (h : d.depth ≤ 60) (k : Q (.bool false)) : OpD (rNeP K) d d Q := fun F H x y e rx ry Z z => opd_neP (Q := Q) (min_l h) (by rw [PySem.SeqAt.eqv_refl_plain d (Rp.plain d rx)]; exact k) F H x y e rx ry Z z
/-! pairs of ints -/
def ltP (a b : Int × Int) : Bool := decide (a.1 < b.1 ∨ a.1 = b.1 ∧ a.2 < b.2)
def encP (p : Int × Int) : D := .tuple [.int p.1, .int p.2]
theorem dataLt_P (a b : Int × Int) : PySem.W.dataLt (encP a) (encP b) = ltP a b := by
  unfold encP ltP
  rw [PySem.W.dataLt_pair rfl rfl]
  simp only [PyData.eqv, PySem.W.dataLt_int]
  by_cases h : a.1 = b.1
  · by_cases h2 : a.2 = b.2
    · simp [h, h2]
    · simp [h, h2]
  · simp [h]
def minPs : List (Int × Int) → Int × Int
  | [] => (0, 0)
  | p :: ps => ps.foldl (fun a y => if ltP y a = true then y else a) p
theorem minD_P (p : Int × Int) (ps : List (Int × Int)) : PySem.W.minD (encP p) (ps.map encP) = encP (minPs (p :: ps)) := by
  have h : ∀ (qs : List (Int × Int)) (a : Int × Int), (qs.map encP).foldl (fun a y => if PySem.W.dataLt y a then y else a) (encP a) = encP (qs.foldl (fun a y => if ltP y a = true then y else a) a) := by
    intro qs
    induction qs with
    | nil => intro a; rfl
    | cons q qs ih =>
      intro a
      simp only [List.map_cons, List.foldl_cons, dataLt_P]
      by_cases h : ltP q a = true
      · rw [if_pos h, if_pos h]; exact ih q
      · rw [if_neg h, if_neg h]; exact ih a
  exact h ps p
theorem alike_P (ps : List (Int × Int)) : PySem.W.AlikeAll (ps.map encP) := ⟨fun x hx y hy => by
  obtain ⟨a, _, rfl⟩ := List.mem_map.mp hx
  obtain ⟨b, _, rfl⟩ := List.mem_map.mp hy
  rfl, fun x hx => by
  obtain ⟨a, _, rfl⟩ := List.mem_map.mp hx
  intro z; cases z⟩
theorem cbd_minP {ps : List (Int × Int)} (h : 0 < ps.length) (k : Q (encP (minPs ps))) : CbD (rMnD K) [.list (ps.map encP)] Q := by
  cases ps with
  | nil => cases h
  | cons p ps =>
    refine cbd_minD (alike_P (p :: ps)) (depthAll_le (dpn_map (xs := p :: ps) fun x _ => dpn_tup (dpn_cons dpn_int (dpn_cons dpn_int dpn_nil)))) ?_
    have e := minD_P p ps
    show Q (PySem.W.minD (encP p) (ps.map encP))
    rw [e]
    exact k
theorem minPs_mem : ∀ {ps : List (Int × Int)}, 0 < ps.length → minPs ps ∈ ps
  | p :: ps, _ => by
    have : ∀ (qs : List (Int × Int)) (a : Int × Int), qs.foldl (fun a y => if ltP y a = true then y else a) a ∈ a :: qs := by
      intro qs
      induction qs with
      | nil => intro a; simp
      | cons e es ih =>
        intro a
        rw [List.foldl_cons]
        have q := ih (if ltP e a = true then e else a)
        by_cases c : ltP e a = true
        · rw [if_pos c] at q ⊢; exact List.mem_cons_of_mem _ q
        · rw [if_neg c] at q ⊢
          rcases List.mem_cons.mp q with q | q
          · rw [q]; exact List.mem_cons_self
          · exact List.mem_cons_of_mem _ (List.mem_cons_of_mem _ q)
    exact this ps p
end

/-! ### the ends: nothing asked, the law's own argument -/
section
variable {P : Program} {w : World} {K : PySem.W.Frag} {mg : Str → Option Value} {base : Heap} {f : Addr} {fd : FuncData} {k : Nat} {ps : List Str}
theorem fn_no {sp : Sp} (no : ∀ vs H Q E, ¬ sp vs H Q E) : FnOk P w K mg base CX0 k f fd ps sp := ⟨fun vs H Q E h => absurd h (no vs H Q E), fun A outer s H args us vs Q E _ _ _ _ h => absurd h (no vs H Q E)⟩
theorem fn_noP {R : List D → (D → Prop) → Prop} (no : ∀ ds Z, ¬ R ds Z) : FnOk P w K mg base CX0 k f fd ps (spP R) := fn_no fun vs H Q E h => by
  obtain ⟨F, ds, Z, _, _, q, _⟩ := h
  exact no ds Z q
theorem fn_noS {R : Stt → List D → (D → Stt → Prop) → Prop} (no : ∀ S ds Z, ¬ R S ds Z) : FnOk P w K mg base CX0 k f fd ps (spS R) := fn_no fun vs H Q E h => by
  obtain ⟨F, s, as, S, us, ds, Z, _, _, _, _, _, q, _⟩ := h
  exact no S ds Z q
/-- the written part holds no list -/
def noLs (K : PySem.W.Frag) : Bool := K.all fun p => match p.2.cls with
  | .type s => !(s == "list")
  | _ => true
theorem noLs_at {K : PySem.W.Frag} (h : noLs K = true) : ∀ {a : Addr} {o : Obj}, K.lookup a = some o → o.cls ≠ .type "list" := by
  intro a o e q
  unfold noLs at h
  induction K with
  | nil => cases e
  | cons p r ih =>
    obtain ⟨b, x⟩ := p
    simp only [List.all_cons, Bool.and_eq_true] at h
    simp only [List.lookup] at e
    split at e
    · cases e
      have h1 := h.1
      rw [q] at h1
      revert h1
      decide
    · exact ih h.2 e
theorem sqL_noK {H : Hp} {a : Addr} {xs : List V} (h : noLs K = true) (s : SqL K H a xs) : Rd H a (.lst xs) := by
  rcases s with s | ⟨o, its, n, e, c, _⟩
  · exact s
  · exact absurd c (noLs_at h e)
theorem rpa_ints {F : Hp} : ∀ ns : List Int, RpA F (ns.map V.int) (ns.map PyData.int)
  | [] => .nil
  | n :: ns => .cons (.int n) (rpa_ints ns)
theorem sp_law {R : List D → (D → Prop) → Prop} {H : Hp} {a : Addr} {ns : List Int} {E : XK} (nl : noLs K = true) (s : SqL K H a (ns.map V.int)) (hR : R [.list (ns.map .int)] fun d => d = .bool true) : spP R [.ref a] H (fun v _ => v = .bl true) E :=
  ⟨H, _, _, fun _ _ h => h, .cons (.lst (sqL_noK nl s) (rpa_ints ns)) .nil, hR, fun d v F' H' e _ rv => by
    subst e
    cases rv
    rfl⟩
end
end Pu
/-! the laws' drawing state: its making and its draws, once for all laws -/
namespace Pu
open PySem L2
/-- a state of the laws: a counter, cells from 0 on -/
def Ok : Stt → Prop
  | .cel a cs => 0 < cs.length ∧ cs.length ≤ 100000 ∧ 0 ≤ a ∧ ∀ c ∈ cs, 0 ≤ c
  | _ => False
def R_state : List D → (Stt → Prop) → Prop := fun ds Z => ∃ ns : List Int, ds = [.list (ns.map .int)] ∧ ∀ S, Ok S → Z S
/-- what is drawn: any number below the bound -/
def R_take : Stt → List D → (D → Stt → Prop) → Prop := fun S ds Z => ∃ m : Int, ds = [.int m] ∧ 1 ≤ m ∧ m < 1073741824 ∧ Ok S ∧ ∀ r S', 0 ≤ r → r < m → Ok S' → Z (.int r) S'
def T_state (K : PySem.W.Frag) : TS :=
    (tSeq (tAsg (tLc (iList K (tSl (rSl K) (tVar 0) tNoPart (tPart (tC (.int 63))))) (gName 2) tYes (tCB (rAbs) (tCons (tVar 2) tNil)) [2]) (gName 1))
    (tSeq (tIfS (tTest (tOp (rEqP K) (tCB (rLen K) (tCons (tVar 1) tNil)) (tC (.int 0))))
      (tAsg (tLst (tCons (tC (.int 0)) tNil)) (gName 1))
      tNext)
    (tRet (tLst (tCons (tC (.int 0)) (tCons (tVar 1) tNil))))))
def T_take (K : PySem.W.Frag) : TS :=
    (tSeq (tAsg (tOp (rIxA K) (tVar 0) (tC (.int 1))) (gName 2))
    (tSeq (tAsg (tOp (rI (fun _ j => 0 < j) fun i j => .int (i % j)) (tOp (rIxA K) (tVar 0) (tC (.int 0))) (tCB (rLen K) (tCons (tVar 2) tNil))) (gName 3))
    (tSeq (tAsg (tOp (rIxA K) (tVar 2) (tVar 3)) (gName 4))
    (tSeq (tIfS (tTest (tOp (rI0 fun i j => .bl (decide (j ≤ i))) (tVar 4) (tC (.int 1000000000000000000))))
      (tSeq (tAsg (tOp (rI CDiv fun i j => .int (i / j)) (tVar 4) (tVar 1)) (gSub (tVar 2) (tVar 3) rSetL))
    (tRet (tOp (rI (fun _ j => 0 < j) fun i j => .int (i % j)) (tVar 4) (tVar 1))))
      tNext)
    (tSeq (tAsg (tOp (rPlus K) (tOp (rIxA K) (tVar 0) (tC (.int 0))) (tC (.int 1))) (gSub (tVar 0) (tC (.int 0)) rSetL))
    (tSeq (tAsg (tOp (rI (fun _ j => 0 < j) fun i j => .int (i % j)) (tCB (rInt) (tCons (tOp (rPlus K) (tOp (rI CMul fun i j => .int (i * j)) (tVar 4) (tC (.int 48271))) (tOp (rI CMul fun i j => .int (i * j)) (tOp (rIxA K) (tVar 0) (tC (.int 0))) (tC (.int 69621)))) tNil)) (tC (.int 2147483647))) (gName 5))
    (tSeq (tAsg (tOp (rI (fun _ j => 0 < j) fun i j => .int (i % j)) (tCB (rInt) (tCons (tOp (rPlus K) (tOp (rI CMul fun i j => .int (i * j)) (tVar 5) (tC (.int 16807))) (tOp (rI CMul fun i j => .int (i * j)) (tOp (rIxA K) (tVar 0) (tC (.int 0))) (tC (.int 7919)))) tNil)) (tC (.int 1000000007))) (gName 5))
    (tRet (tOp (rI (fun _ j => 0 < j) fun i j => .int (i % j)) (tOp (rI CDiv fun i j => .int (i / j)) (tVar 5) (tC (.int 7))) (tVar 1))))))))))
theorem W.first {F H : Hp} {N : List Str} {vs : List V} {ds : List D} (fh : Same F H) (r : RpA F vs ds) : W { F0 := F, H0 := H, M := Non } (startE N ds) (L2.start N vs) F H := by
  refine ⟨fun _ => [], Gr.refl fh, ?_, fun i s e => ?_, (fun i p m => by cases m), (fun i j p m => by cases m), fun _ _ => rfl, (fun s as e => by cases e)⟩
  · unfold L2.start startE
    rw [List.length_append, List.length_append, List.length_map, List.length_map, List.length_replicate, List.length_replicate, r.len]
  · rcases startE_get e with ⟨d, e2, rfl⟩ | rfl
    · obtain ⟨v, e1, rv⟩ := r.get e2
      exact ⟨rfl, v, start_get e1, rv⟩
    · rfl
theorem mem_cut {xs : List D} {lo hi : Option Int} {x : D} (h : x ∈ cutD xs lo hi) : x ∈ xs := List.mem_of_mem_drop (List.mem_of_mem_take h)
theorem cut_map {α : Type} {f : α → D} (xs : List α) (lo hi : Option Int) : ∃ ys : List α, cutD (xs.map f) lo hi = ys.map f ∧ ys.length ≤ xs.length := by
  refine ⟨(xs.drop (HT.sIx (xs.map f).length 0 lo)).take (HT.sIx (xs.map f).length (xs.map f).length hi - HT.sIx (xs.map f).length 0 lo), ?_, ?_⟩
  · unfold cutD
    rw [← List.map_drop, ← List.map_take]
  · rw [List.length_take, List.length_drop]
    omega
theorem run_state {K : PySem.W.Frag} {vs : List V} {H : Hp} {Q : VK} {E : XK} (h : spN R_state vs H Q E) : T_state K { nx := fun _ H' => Q .non H', rt := Q } (L2.start ["script", "cells", "cell"] vs) H := by
  obtain ⟨F, ds, Z, fh, r, ⟨ns, rfl, hz⟩, z⟩ := h
  -- the cells, then the state
  have s1 : SX (tAsg (tLc (iList K (tSl (rSl K) (tVar 0) tNoPart (tPart (tC (.int 63))))) (gName 2) tYes (tCB (rAbs) (tCons (tVar 2) tNil)) [2]) (gName 1)) [.val (.list (ns.map .int)), .emp, .emp]
      { nx := fun ρ' => ∃ cs : List Int, (cs.length ≤ 63 ∧ ∀ c ∈ cs, 0 ≤ c) ∧ ρ' = [.val (.list (ns.map .int)), .own (cs.map .int), .emp], rt := fun _ _ => False } := by
    refine sx_asgO (eo_lcP (α := Int) (fun _ => true) (fun c => .int (c.natAbs : Int)) (ei_list (ex_of (eo_sl (ex_var rfl (ep_no (ep_some (ex_int ⟨63, rfl, slo_L ?_⟩))))))))
    obtain ⟨ys, ey, ly⟩ : ∃ ys : List Int, cutD (ns.map PyData.int) none (some 63) = ys.map PyData.int ∧ ys.length ≤ 63 := by
      refine ⟨(ns.drop (HT.sIx (ns.map PyData.int).length 0 none)).take (HT.sIx (ns.map PyData.int).length (ns.map PyData.int).length (some 63) - HT.sIx (ns.map PyData.int).length 0 none), ?_, ?_⟩
      · unfold cutD
        rw [← List.map_drop, ← List.map_take]
      · rw [List.length_take]
        refine Nat.le_trans (Nat.min_le_left _ _) ?_
        unfold HT.sIx
        simp
        omega
    refine ⟨_, rfl, ys, .int, ey, by omega, fun i hi => by simp at hi; subst hi; rfl, fun x _ => sg_name (by simp) ⟨rfl, et_yes ⟨rfl, rfl, fun _ => ex_cb (ea_cons (ex_var rfl (ea_nil (cbd_abs ⟨rfl, rfl⟩))))⟩⟩, ?_⟩
    refine nx_same ⟨ys.map fun c => (c.natAbs : Int), ⟨by rw [List.length_map]; exact ly, fun c hc => ?_⟩, ?_⟩
    · obtain ⟨x, _, rfl⟩ := List.mem_map.mp hc
      omega
    · rw [List.filter_eq_self.mpr (fun _ _ => rfl), List.map_map]
      rfl
  have s2 : ∀ cs : List Int, (cs.length ≤ 63 ∧ ∀ c ∈ cs, 0 ≤ c) → SX (tIfS (tTest (tOp (rEqP K) (tCB (rLen K) (tCons (tVar 1) tNil)) (tC (.int 0)))) (tAsg (tLst (tCons (tC (.int 0)) tNil)) (gName 1)) tNext) [.val (.list (ns.map .int)), .own (cs.map .int), .emp]
      { nx := fun ρ' => ∃ cs : List Int, (0 < cs.length ∧ cs.length ≤ 63 ∧ ∀ c ∈ cs, 0 ≤ c) ∧ ρ' = [.val (.list (ns.map .int)), .own (cs.map .int), .emp], rt := fun _ _ => False } := fun cs hcs => by
    refine sx_if (et_test (ex_op (ex_lenO rfl (ex_int (opd_eqP (min_l (by simp [PyData.depth])) ⟨_, rfl, fun hb => ?_, fun hb => ?_⟩)))))
    · exact sx_asgO (eo_lst (ea_cons (ex_int (ea_nil ⟨by simp, nx_same ⟨[0], by simp, rfl⟩⟩))))
    · refine sx_next (nx_same ⟨cs, ⟨?_, hcs⟩, rfl⟩)
      simp only [PyData.eqv, List.length_map, beq_eq_false_iff_ne, ne_eq] at hb
      omega
  have w0 := W.first (N := ["script", "cells", "cell"]) fh r
  refine s1 _ _ F H w0 _ (fun ρ1 σ1 F1 H1 q1 w1 => ?_) (fun _ _ _ _ _ _ q => q.elim) (fun _ _ _ _ q => q.elim) (fun _ _ _ _ q => q.elim)
  obtain ⟨cs, hcs, rfl⟩ := q1
  refine s2 cs hcs _ _ F1 H1 w1 _ (fun ρ2 σ2 F2 H2 q2 w2 => ?_) (fun _ _ _ _ _ _ q => q.elim) (fun _ _ _ _ q => q.elim) (fun _ _ _ _ q => q.elim)
  obtain ⟨cs, hcs, rfl⟩ := q2
  obtain ⟨ad, w2⟩ := w2
  obtain ⟨p, us, ka, k0, k1, k2, kr⟩ := w2.sl 1 _ rfl
  refine ⟨_, k1, by show 2 ≤ sizeLine; decide, fun q hq => ?_⟩
  have nq := w2.newp hq
  have npq : p ≠ q := ne_of_none k2 hq
  have g := w2.gr
  refine z (.cel 0 cs) q [q, p] F2 _ (hz _ ⟨hcs.1, by omega, Int.le_refl 0, hcs.2.2⟩) ⟨g.ff, g.fh.trans (same_upd hq), fun a o e m => same_upd hq _ _ (g.kp a o e m), fun a e => ?_, g.fr⟩ ⟨p, rfl, npq.symm, upd_same, ?_⟩ fun a ha => ?_
  · by_cases ha : a = q
    · rw [ha, upd_same]; intro z; cases z
    · rw [upd_ne ha]; exact g.al a e
  · rw [upd_ne npq, k2, kr.ints_inv]
  · have e : a = q ∨ a = p := by simpa using ha
    rcases e with e | e
    · rw [e]; exact ⟨nq.1, nq.2.1⟩
    · rw [e]; exact ⟨(w2.fz 1 p (by rw [ka]; simp)).1, k0⟩
theorem run_take {K : PySem.W.Frag} {vs : List V} {H : Hp} {Q : VK} {E : XK} (h : spS R_take vs H Q E) : T_take K { nx := fun _ H' => Q .non H', rt := Q } (L2.start ["state", "most", "cells", "at", "cell", "mixed"] vs) H := by
  obtain ⟨F, s, as, S, us, ds, Z, rfl, fh, sa, fn, r, ⟨m, rfl, hm1, hm2, ok, hz⟩, z⟩ := h
  obtain ⟨v, rfl, rv⟩ := r.one
  have ev := rv.int_inv
  subst ev
  cases S with
  | two a b => exact ok.elim
  | dct kvs => exact ok.elim
  | cel a cs =>
    obtain ⟨c, rfl, ne, hs, hc⟩ := sa
    obtain ⟨hl, hl2, ha, hcs⟩ := ok
    have hlen : (cs.map V.int).length = cs.length := List.length_map _
    have hi0 : 0 ≤ a % (cs.length : Int) := Int.emod_nonneg _ (by omega)
    have hi1 : a % (cs.length : Int) < (cs.length : Int) := Int.emod_lt_of_pos _ (by omega)
    obtain ⟨i, ei⟩ : ∃ i : Nat, a % (cs.length : Int) = (i : Int) := ⟨(a % (cs.length : Int)).toNat, by omega⟩
    have hi : i < cs.length := by omega
    -- cells = state[1]; at = state[0] % len(cells); cell = cells[at]
    refine ⟨_, rfl, .inl ⟨s, _, 1, .ref c, rfl, rfl, .inl (.inl hs), rfl, ?_⟩⟩
    refine ⟨_, rfl, .inl ⟨s, _, 0, .int a, rfl, rfl, .inl (.inl hs), rfl, ?_⟩⟩
    refine ⟨_, rfl, _, cs.length, rfl, .inl ⟨_, .inl (.inl hc), hlen.symm⟩, a, (cs.length : Int), rfl, rfl, by omega, ?_⟩
    refine ⟨_, rfl, _, rfl, .inl ⟨c, _, (i : Int), .int cs[i], rfl, congrArg V.int ei, .inl (.inl hc), atI_nat (by rw [List.getElem?_map, List.getElem?_eq_getElem hi]; rfl), ?_⟩⟩
    refine ⟨_, rfl, _, _, rfl, rfl, _, rfl, ?_⟩
    have gr : ∀ H', (∀ b o, H b = some o → b ≠ s → b ≠ c → H' b = some o) → (∃ o, H' s = some o) → (∃ o, H' c = some o) → Gr (· ∈ [s, c]) F H F H' := fun H' k1 k2 k3 => by
      have fs := fn s (by simp)
      have fc := fn c (by simp)
      refine ⟨Same.refl F, fun b o e => k1 b o (fh b o e) (fun q => by rw [q, fs] at e; cases e) (fun q => by rw [q, fc] at e; cases e), fun b o e m => k1 b o e (fun q => m (by simp [q])) (fun q => m (by simp [q])), fun b e => ?_, fun _ _ z => z⟩
      by_cases h1 : b = s
      · obtain ⟨o, k⟩ := k2
        rw [h1, k]; intro z; cases z
      · by_cases h2 : b = c
        · obtain ⟨o, k⟩ := k3
          rw [h2, k]; intro z; cases z
        · cases q : H b with
          | none => exact absurd q e
          | some o => rw [k1 b o q h1 h2]; intro z; cases z
    refine ite2 (fun hbig => ?_) (fun hsmall => ?_)
    · -- cells[at] = cell // most; return cell % most
      refine ⟨_, rfl, _, rfl, cs[i], m, rfl, rfl, ⟨by omega, by omega⟩, ?_⟩
      refine ⟨_, rfl, _, rfl, c, _, (i : Int), i, rfl, congrArg V.int ei, hc, ?_, ?_⟩
      · unfold ixN
        rw [hlen, if_pos (by omega), if_pos (by omega)]
        simp
      refine ⟨_, rfl, _, rfl, cs[i], m, rfl, rfl, by omega, ?_⟩
      have hd : 0 ≤ cs[i] := hcs _ (List.getElem_mem hi)
      refine z (.int (cs[i] % m)) (.cel a (cs.set i (cs[i] / m))) _ F _ (hz _ _ (Int.emod_nonneg _ (by omega)) (Int.emod_lt_of_pos _ (by omega)) ⟨by rw [List.length_set]; exact hl, by rw [List.length_set]; exact hl2, ha, fun x hx => ?_⟩) (gr _ (fun b o e h1 h2 => by rw [upd_ne h2]; exact e) ⟨_, by rw [upd_ne ne]; exact hs⟩ ⟨_, upd_same⟩) ⟨c, rfl, ne, by rw [upd_ne ne]; exact hs, by rw [upd_same, List.map_set]⟩ fn (.int _)
      rcases List.mem_or_eq_of_mem_set hx with h | h
      · exact hcs x h
      · rw [h]; exact Int.ediv_nonneg hd (by omega)
    · -- state[0] = state[0] + 1
      refine ⟨_, rfl, .inl ⟨s, _, 0, .int a, rfl, rfl, .inl (.inl hs), rfl, ?_⟩⟩
      refine .inl (.inl ⟨a, 1, rfl, rfl, ?_⟩)
      refine ⟨_, rfl, s, _, 0, 0, rfl, rfl, hs, rfl, ?_⟩
      have hs' : upd H s (.lst ([.int a, .ref c].set 0 (.int (a + 1)))) s = some (.lst [.int (a + 1), .ref c]) := upd_same
      -- mixed
      refine ⟨_, rfl, _, _, rfl, rfl, .inr ⟨by decide, by decide⟩, ?_⟩
      refine ⟨_, rfl, .inl ⟨s, _, 0, .int (a + 1), rfl, rfl, .inl (.inl hs'), rfl, ?_⟩⟩
      refine ⟨_, _, rfl, rfl, .inr ⟨by decide, by decide⟩, ?_⟩
      refine .inl (.inl ⟨_, _, rfl, rfl, ?_⟩)
      refine .inl ⟨_, rfl, ?_⟩
      refine ⟨_, _, rfl, rfl, (by decide : (0 : Int) < 2147483647), ?_⟩
      refine ⟨_, rfl, _, _, rfl, rfl, .inr ⟨by decide, by decide⟩, ?_⟩
      refine ⟨_, rfl, .inl ⟨s, _, 0, .int (a + 1), rfl, rfl, .inl (.inl hs'), rfl, ?_⟩⟩
      refine ⟨_, _, rfl, rfl, .inr ⟨by decide, by decide⟩, ?_⟩
      refine .inl (.inl ⟨_, _, rfl, rfl, ?_⟩)
      refine .inl ⟨_, rfl, ?_⟩
      refine ⟨_, _, rfl, rfl, (by decide : (0 : Int) < 1000000007), ?_⟩
      refine ⟨_, rfl, _, _, rfl, rfl, ⟨by decide, by decide⟩, ?_⟩
      refine ⟨_, rfl, _, _, rfl, rfl, by omega, ?_⟩
      exact z _ (.cel (a + 1) cs) _ F _ (hz _ _ (Int.emod_nonneg _ (by omega)) (Int.emod_lt_of_pos _ (by omega)) ⟨hl, hl2, by omega, hcs⟩) (gr _ (fun b o e h1 h2 => by rw [upd_ne h1]; exact e) ⟨_, upd_same⟩ ⟨_, by rw [upd_ne ne.symm]; exact hc⟩) ⟨c, rfl, ne, hs', by rw [upd_ne ne.symm]; exact hc⟩ fn (.int _)

section
variable {P : Program} {w : World} {K : PySem.W.Frag} {mg : Str → Option Value} {base : Heap} {f : Addr} {fd : FuncData} {k : Nat} {x qual : Str} {st : Stmt}
theorem fn_newstate (F : Fun K x qual st f fd) (S : FnScope ["script", "cells", "cell"] ["script"] (defScope st))
    (body : ∀ (cdv : Value) (A : Around) (outer : List PySem.Env) (s : Shared) (H : Hp) (E : XK), Room k (A.deeper (PyProof.Rows.envOfC qual (defScope st) s.heap.objs.size f cdv)) →
      PSs (cxOf CX0 P w K mg base ["script", "cells", "cell"] qual (defScope st) f cdv A outer s H E).nox (defBody st) (T_state K)) : FnOk P w K mg base CX0 (k + 1) f fd ["script"] (spN R_state) :=
  F.ok S (fun vs H Q E h => by
    obtain ⟨F, ds, Z, _, r, ⟨ns, rfl, _⟩, _⟩ := h
    rw [r.len]; rfl) fun cdv A outer s H vs Q E hr h => ⟨_, body cdv A outer s H E hr, run_state h⟩
theorem fn_take (F : Fun K x qual st f fd) (S : FnScope ["state", "most", "cells", "at", "cell", "mixed"] ["state", "most"] (defScope st))
    (body : ∀ (cdv : Value) (A : Around) (outer : List PySem.Env) (s : Shared) (H : Hp) (E : XK), Room k (A.deeper (PyProof.Rows.envOfC qual (defScope st) s.heap.objs.size f cdv)) →
      PSs (cxOf CX0 P w K mg base ["state", "most", "cells", "at", "cell", "mixed"] qual (defScope st) f cdv A outer s H E).nox (defBody st) (T_take K)) : FnOk P w K mg base CX0 (k + 1) f fd ["state", "most"] (spS R_take) :=
  F.ok S (fun vs H Q E h => by
    obtain ⟨F, s, as, S, us, ds, Z, rfl, _, _, _, r, ⟨m, rfl, _⟩, _⟩ := h
    rw [List.length_cons, r.len]; rfl) fun cdv A outer s H vs Q E hr h => ⟨_, body cdv A outer s H E hr, run_take h⟩
end
end Pu
/-! PuC: xs[::-1], xs.index(n), sorted rows -/
namespace Pu
open PySem L2
section
variable {ρ : Pu.Env} {te to : TE} {t : TA} {K : PySem.W.Frag} {Q : D → Pu.Env → Prop}
theorem ex_revL (h : EX te ρ fun d ρ1 => ∃ ds, d = .list ds ∧ Q (.list ds.reverse) ρ1) : EX (tRevL K te) ρ Q := fun B ad σ F H w Z z =>
  h B ad σ F H w _ fun d1 ρ1 x F1 H1 q1 p1 r1 => by
    obtain ⟨ds, rfl, q⟩ := q1
    obtain ⟨a, xs, rfl, h1, h2⟩ := r1.lst_inv
    refine ⟨a, xs, rfl, sqL_rd h1 p1.wa.gr.fh, fun p hp => ?_⟩
    have g := Gr.frz (F := F1) (H := H1) (H' := upd H1 p (.lst xs.reverse)) (p := p) (vs := xs.reverse) p1.wa.gr.fh (same_upd hp) hp upd_same
    exact z _ ρ1 _ _ _ q (p1.trans (Post.of p1.wa g)) (.lst (.inl upd_same) (h2.rev.up g.ff))
/-- a method that changes nothing -/
def MtD (r : V → List V → Hp → VK → Prop) (d : D) (es : List D) (Q : D → Prop) : Prop := ∀ (F H : Hp) (x : V) (vs : List V), Same F H → Rp F x d → RpA F vs es → ∀ Z : VK, (∀ e v F' H', Q e → Gr Non F H F' H' → Rp F' v e → Z v H') → r x vs H Z
theorem ex_bmL {r : V → List V → Hp → VK → Prop} (h : EX to ρ fun d ρ1 => ∃ ds, d = .list ds ∧ EA t ρ1 fun es ρ2 => MtD r (.list ds) es fun e => Q e ρ2) : EX (tBM K "list" r to t) ρ Q := fun B ad σ F H w Z z =>
  h B ad σ F H w _ fun d1 ρ1 x F1 H1 q1 p1 r1 => by
    obtain ⟨ds, rfl, q⟩ := q1
    obtain ⟨a, xs, rfl, h1, h2⟩ := r1.lst_inv
    refine ⟨?_, q B ad σ F1 H1 p1.wa _ fun es ρ2 vs F2 H2 q2 p2 r2 => ?_⟩
    · exact .inl ⟨rfl, xs, sqL_rd h1 p1.wa.gr.fh⟩
    · exact q2 F2 H2 (.ref a) vs p2.wa.gr.fh (r1.up p2.gr.ff) r2 Z fun e v F' H' k g rv => z e ρ2 v F' H' k ((p1.trans p2).trans (Post.of p2.wa g)) rv
theorem rpa_intsI {F : Hp} : ∀ {ns : List Int} {vs : List V}, RpA F vs (ns.map .int) → vs = ns.map V.int
  | [], _, h => by cases h; rfl
  | n :: ns, _, h => by
    cases h with
    | cons h1 h2 => rw [h1.int_inv, rpa_intsI h2]; rfl
theorem mtd_indexI {ns : List Int} {n : Int} {Q : D → Prop} (hn : n ∈ ns) (k : Q (.int (ns.idxOf n : Nat))) : MtD (rIndex K) (.list (ns.map .int)) [.int n] Q := fun F H x vs e r rv Z z => by
  obtain ⟨a, xs, rfl, h1, h2⟩ := r.lst_inv
  obtain ⟨v, rfl, rv1⟩ := rv.one
  have e1 := rv1.int_inv
  have e2 := rpa_intsI h2
  subst e1 e2
  have hl : ns.idxOf n < ns.length := List.idxOf_lt_length_iff.mpr hn
  refine ⟨a, ns.map V.int, .int n, ns.idxOf n, .int n, rfl, rfl, sqL_rd h1 e, rfl, ?_, ?_, ?_, fun m z' hm hz => ?_, z _ _ F H k (Gr.refl e) (.int _)⟩
  · rw [List.all_eq_true]
    intro x hx
    obtain ⟨i, _, rfl⟩ := List.mem_map.mp hx
    rfl
  · rw [List.getElem?_map, List.getElem?_eq_getElem hl, List.getElem_idxOf hl]; rfl
  · show (n == n) = true
    simp
  · rw [List.getElem?_map] at hz
    have hml : m < ns.length := by omega
    rw [List.getElem?_eq_getElem hml] at hz
    cases hz
    show (ns[m] == n) = false
    exact List.not_of_lt_findIdx (p := fun x => x == n) hm
end
/-! sorted -/
theorem uniq_of {α : Type} {le : α → α → Bool} (anti : ∀ a b, le a b = true → le b a = true → a = b) : ∀ {xs ys : List α}, xs.Perm ys → xs.Pairwise (fun a b => le a b = true) → ys.Pairwise (fun a b => le a b = true) → xs = ys
  | [], ys, p, _, _ => (List.nil_perm.mp p).symm
  | a :: xs, [], p, _, _ => absurd p.length_eq (by simp)
  | a :: xs, b :: ys, p, h1, h2 => by
    have e : a = b := by
      by_cases e : a = b
      · exact e
      · have ha : a ∈ ys := (List.mem_cons.mp (p.mem_iff.mp (by simp : a ∈ a :: xs))).resolve_left e
        have hb : b ∈ xs := (List.mem_cons.mp (p.mem_iff.mpr (by simp : b ∈ b :: ys))).resolve_left (fun q => e q.symm)
        exact anti a b ((List.pairwise_cons.mp h1).1 b hb) ((List.pairwise_cons.mp h2).1 a ha)
    subst e
    rw [uniq_of anti (p.cons_inv) (List.pairwise_cons.mp h1).2 (List.pairwise_cons.mp h2).2]
theorem sortD_of {α : Type} {enc : α → D} {xs ys : List α} {lt : α → α → Bool} (hlt : ∀ a b, PySem.W.dataLt (enc a) (enc b) = lt a b) (ntr : ∀ a b c, lt b a = false → lt c b = false → lt c a = false) (as : ∀ a b, lt a b = true → lt b a = false) (tot : ∀ a b, lt a b = false → lt b a = false → a = b)
    (hp : xs.Perm ys) (hs : ys.Pairwise fun a b => lt a b = true) : sortD (xs.map enc) = ys.map enc := by
  have e := PySem.W.sort_maps (r := fun a b => !lt b a) (s := PySem.W.dataLe false id) enc (l := xs) (fun a _ b _ => by
    show (!lt b a) = (!PySem.W.dataLt (enc b) (enc a))
    rw [hlt])
  show (xs.map enc).mergeSort (PySem.W.dataLe false id) = ys.map enc
  rw [← e]
  have u : xs.mergeSort (fun a b => !lt b a) = ys := uniq_of (le := fun a b => !lt b a) (fun a b h1 h2 => by
      simp only [Bool.not_eq_true'] at h1 h2
      exact tot a b h2 h1) ((List.mergeSort_perm _ _).trans hp) (List.pairwise_mergeSort (fun a b c h1 h2 => by
        simp only [Bool.not_eq_true'] at h1 h2 ⊢
        exact ntr a b c h1 h2) (fun a b => by
        cases h : lt b a with
        | false => rfl
        | true => simp [as _ _ h]) xs) (hs.imp fun {a b} h => by simp [as _ _ h])
  rw [u]
/-! ### dict(pairs of ints), d[k] -/
section
variable {ρ : Pu.Env} {ty : TE} {K : PySem.W.Frag} {Q : D → Pu.Env → Prop}
def kvOf (p : Int × Int) : Key × V := ((.inl p.1 : Key), V.int p.2)
/-- pairs with different keys -/
def R_dict : List D → (Stt → Prop) → Prop := fun ds Z => ∃ kvs : List (Int × Int), ds = [.list (kvs.map encP)] ∧ (kvs.map Prod.fst).Nodup ∧ Z (.dct kvs)
theorem merge_new : ∀ (more acc : List (Int × Int)), ((acc ++ more).map Prod.fst).Nodup → mergeK (acc.map kvOf) (more.map kvOf) = (acc ++ more).map kvOf
  | [], acc, _ => by simp [mergeK]
  | p :: more, acc, h => by
    have h2 : ((acc ++ [p] ++ more).map Prod.fst).Nodup := by simpa using h
    have ih := merge_new more (acc ++ [p]) h2
    have np : ∀ q ∈ acc, q.1 ≠ p.1 := fun q hq e => by
      have h3 : ((acc.map Prod.fst) ++ (p.1 :: more.map Prod.fst)).Nodup := by simpa using h
      exact (List.nodup_append.mp h3).2.2 q.1 (List.mem_map_of_mem hq) p.1 (by simp) e
    have e1 : ((acc.map kvOf).any fun kv => decide (kv.1 = (kvOf p).1)) = false := by
      rw [List.any_eq_false]
      intro x hx
      obtain ⟨q, hq, rfl⟩ := List.mem_map.mp hx
      simp only [decide_eq_true_eq, kvOf, Sum.inl.injEq]
      exact np q hq
    show mergeK (putK (acc.map kvOf) (kvOf p).1 (kvOf p).2) (more.map kvOf) = _
    unfold putK
    rw [e1, if_neg Bool.false_ne_true]
    have e2 : acc.map kvOf ++ [((kvOf p).1, (kvOf p).2)] = (acc ++ [p]).map kvOf := by simp
    rw [e2, ih]
    simp
theorem paired_of {H F : Hp} (e : Same F H) : ∀ {kvs : List (Int × Int)} {xs : List V}, RpA F xs (kvs.map encP) → ∃ ps : List Addr, xs = ps.map V.ref ∧ Paired (fun p kv => SqT K H p [kV kv.1, kv.2]) ps (kvs.map kvOf)
  | [], _, h => by cases h; exact ⟨[], rfl, .nil⟩
  | p :: kvs, _, h => by
    cases h with
    | cons h1 h2 =>
      obtain ⟨ps, rfl, hp⟩ := paired_of e h2
      obtain ⟨a, ys, rfl, g1, g2⟩ := h1.tup_inv
      obtain ⟨u, v, rfl, r1, r2⟩ := g2.two
      have e1 := r1.int_inv
      have e2 := r2.int_inv
      subst e1 e2
      exact ⟨a :: ps, rfl, .cons (sqT_rd g1 e) hp⟩
theorem dict_fits {H : Hp} {vs : List V} {Q : VK} {E : XK} (h : spN R_dict vs H Q E) : ∃ (a : Addr) (ps : List Addr) (kvs : List (Key × V)), vs = [.ref a] ∧ SqL K H a (ps.map V.ref) ∧ Paired (fun p kv => SqT K H p [kV kv.1, kv.2]) ps kvs ∧
    ∀ p, H p = none → Q (.ref p) (upd H p (.dK (mergeK [] kvs))) := by
  obtain ⟨F, ds, Z, e, r, ⟨kvs, rfl, nd, hz⟩, z⟩ := h
  obtain ⟨v, rfl, rv⟩ := r.one
  obtain ⟨a, xs, rfl, h1, h2⟩ := rv.lst_inv
  obtain ⟨ps, rfl, hp⟩ := paired_of (K := K) e h2
  refine ⟨a, ps, kvs.map kvOf, rfl, sqL_rd h1 e, hp, fun p hn => ?_⟩
  have em : mergeK [] (kvs.map kvOf) = kvs.map kvOf := merge_new kvs [] nd
  rw [em]
  exact z (.dct kvs) p [p] F _ hz (Gr.heap e (same_upd hn)) ⟨rfl, upd_same⟩ fun b hb => by
    rw [List.mem_singleton.mp hb]
    refine ⟨?_, hn⟩
    cases q : F p with
    | none => rfl
    | some o => rw [e p o q] at hn; cases hn
theorem cb_dictN {X : Cx} (hcalm : X.calm = true) : CallR X (.type "dict") fun vs H Q => spN R_dict (vs ++ []) H Q E0 := fun pins s σ H vs us Q I r h => call_dictP hcalm pins s σ H vs us Q I r (dict_fits (E := E0) (by have h : spN R_dict (vs ++ []) H Q E0 := h; rw [List.append_nil] at h; exact h))
theorem valV_int : ∀ {kvs : List (Int × Int)} {k v : Int}, kvs.lookup k = some v → valV (kvs.map kvOf) (.inl k : Key) = some (V.int v)
  | [], _, _, h => by cases h
  | p :: kvs, k, v, h => by
    obtain ⟨a, b⟩ := p
    by_cases c : a = k
    · subst c
      simp only [List.lookup, beq_self_eq_true] at h
      cases h
      exact valV_pos rfl
    · have c2 : (k == a) = false := beq_eq_false_iff_ne.mpr (fun q => c q.symm)
      simp only [List.lookup, c2] at h
      rw [List.map_cons, valV_neg (by simp [kvOf, c])]
      exact valV_int h
theorem ex_dget {i : Nat} {S0 : Stt} (h0 : ρ[i]? = some (.st S0)) (h : EX ty ρ fun d ρ1 => ∃ k v kvs, d = .int k ∧ ρ1[i]? = some (.st (.dct kvs)) ∧ kvs.lookup k = some v ∧ Q (.int v) ρ1) : EX (tDGet (tVar i) ty) ρ Q := fun B ad σ F H w Z z => by
  obtain ⟨s0, k0, _⟩ := w.sl i _ h0
  refine ⟨_, k0, h B ad σ F H w _ fun d ρ1 y F1 H1 q1 p1 r1 => ?_⟩
  obtain ⟨k, v, kvs, rfl, h1, hl, q⟩ := q1
  obtain ⟨s1, k1, st1⟩ := p1.wa.sl i _ h1
  have e := k0.symm.trans k1
  cases e
  have ey := r1.int_inv
  subst ey
  have g := DGet.k (k := (.inl k : Key)) st1.2
  have ev := valV_int hl
  have g' : DGet H1 s0 (.int k) (some (.int v)) := by
    have e2 : (kvs.map fun p => ((.inl p.1 : Key), V.int p.2)) = kvs.map kvOf := rfl
    rw [e2, ev] at g
    exact g
  exact ⟨s0, .int v, rfl, g', z (.int v) ρ1 (.int v) F1 H1 q p1 (.int v)⟩
end
end Pu
/-! PuG: the law's def at the claim's caller alone, where no repr is under way; so repr of data may be told -/
namespace Pu
open PySem L2 PySem.Spec PyProof.Rows
section
variable {P : Program} {w : World} {K : PySem.W.Frag} {mg mb : Str → Option Value} {base : Heap} {f : Addr} {fd : FuncData} {k : Nat} {x qual : Str} {st : Stmt} {N ps : List Str}
/-- room at the claim's caller -/
abbrev RoomTop (k : Nat) : Prop := Room k callerA
/-- the promise of the law's def when the claim's caller calls it -/
def TopOk (P : Program) (w : World) (K : PySem.W.Frag) (mg : Str → Option Value) (base : Heap) (f : Addr) (fd : FuncData) (ps : List Str) (sp : Sp) : Prop :=
  ∀ (sh : Shared) (G : Hp) (args : Args) (us : List Value) (ws : List V) (Z : VK) (E : XK), Env0 P w K mg base callerA [] sh G → BindsTo sh fd args (ps.zip us) → Vals ws us → sp ws G Z E →
    codeAny (model P w) callerA (.call (.ref f) args) (CR CX0 [] P w G sh Z E) sh
theorem top_of {sp : Sp} (F : Fun K x qual st f fd) (S : FnScope N ps (defScope st)) (len : ∀ vs H Q E, sp vs H Q E → vs.length = ps.length) (room : Room (k + 1) callerA)
    (body : ∀ (cdv : Value) (sh : Shared) (G : Hp) (ws : List V) (Z : VK) (E : XK), Room k (callerA.deeper (envOfC qual (defScope st) sh.heap.objs.size f cdv)) → sp ws G Z E →
      ∃ t, PSs (cxOf CX0 P w K mg base N qual (defScope st) f cdv callerA [] sh G E).nox (defBody st) t ∧ t { nx := fun _ G' => Z .non G', rt := Z } (L2.start N ws) G) : TopOk P w K mg base f fd ps sp := by
  obtain ⟨oc, od, kV, doc, pm, an, cdv, ct, osl, rfl, lk, hcd⟩ := F.ex
  intro sh G args us ws Z E e0 hb rv hz
  have hlen := len _ _ _ _ hz
  have kin : K.In sh.heap := e0.mod.kin.keeps fun b o q => (e0.bs b o q).1
  have nolim : sh.heap.NoLimit := e0.mod.nolimit.keeps fun b o q => (e0.bs b o q).1
  have kinds : ∀ z ∈ ps.zip us, (defScope st).names.lookup z.1 = some .local ∨ ((defScope st).names.lookup z.1 = some .cell ∧ ((cellsFrom (sh.heap.objs.size + 1) (defScope st).names []).lookup z.1).isSome = true) := fun ⟨n, u⟩ hz => by
    have hn := S.par n (List.of_mem_zip hz).1
    exact hn.imp id fun q => ⟨q, PySem.W.cellsFrom_some _ _ _ (.inl q)⟩
  refine codeAny_call_function room.depth (kin _ _ lk) rfl S.co S.gen rfl (PySem.W.codeRec_of kin hcd) (hb _ _ _ _ (wpAny_newFunctionEnv_cells S.kind kinds fun env he s1 inc => ?_))
  subst he
  refine ⟨nolim.keeps inc.toInCall.keep, codeAny_func ?_⟩
  obtain ⟨t, ht, hq⟩ := body cdv sh G ws Z E (room.deeper _) hz
  have I0 : Inv (cxOf CX0 P w K mg base N qual (defScope st) f cdv callerA [] sh G E) [] (L2.start N ws) G s1 := inv_start S room.hd e0 hlen rv inc
  refine wpAny_mono (ht.nox.run [] s1 (L2.start N ws) G _ I0 hq) (fun fl s' hs => ?_) fun _ _ hs => hs
  cases fl with
  | ret u =>
    obtain ⟨v, σ', H', J, r, q⟩ := hs
    exact ⟨v, H', J.os, J.bare, J.base, J.hok, r, q⟩
  | next =>
    obtain ⟨σ', H', J, q⟩ := hs
    exact ⟨V.non, H', J.os, J.bare, J.base, J.hok, rfl, q⟩
  | brk => exact hs.elim fun _ hs => hs.elim fun _ hs => (hs.2 : False).elim
  | cont => exact hs.elim fun _ hs => hs.elim fun _ hs => (hs.2 : False).elim
/-- the script as it stands ahead of the call: one frozen list -/
def scriptH (a : Addr) (vs : List Value) (ns : List Int) : Hp := fun b => if b = a then some (.frz { cls := .type "list", data := .seq vs.toArray } (.lst (ns.map V.int))) else none
theorem scriptH_at (a : Addr) (vs : List Value) (ns : List Int) : scriptH a vs ns a = some (.frz { cls := .type "list", data := .seq vs.toArray } (.lst (ns.map V.int))) := if_pos rfl
theorem scriptH_no {a b : Addr} {vs : List Value} {ns : List Int} (h : b ≠ a) : scriptH a vs ns b = none := if_neg h
theorem top_call {fa a : Addr} {sh : Shared} {vs : List Value} {ns : List Int} {R : List D → (D → Prop) → Prop} (kin : K.In sh.heap) (gl : sh.heap.Ns mainGlobals mg) (bl : sh.heap.Ns builtinsNs mb) (bb : ∀ y : Str, y ≠ "__name__" → mb y = bootBuiltins y) (nolim : sh.heap.NoLimit) (gens : sh.gens = #[])
    (hs : sh.heap.get? a = some { cls := .type "list", data := .seq vs.toArray }) (hi : IntsAre vs ns) (hl : ns.length ≤ sizeLine) (nl : noLs K = true)
    (F : ∀ base : Heap, K.In base → base.Ns mainGlobals mg → TopOk P w K mg base fa fd [x] (spP R)) (hbind : ∀ (s : Shared) (u : Value), BindsTo s fd ⟨[u], []⟩ [(x, u)]) (hR : R [.list (ns.map .int)] fun d => d = .bool true) :
    codeAny (model P w) callerA (.call (.ref fa) ⟨[.ref a], []⟩) (fun r s' => r = .ok (.ret (.bool true)) ∧ OldK sh.heap s'.heap ∧ s'.os = sh.os ∧ AllBare s'.gens) sh := by
  let G := scriptH a vs ns
  have gAt : G a = some (.frz { cls := .type "list", data := .seq vs.toArray } (.lst (ns.map V.int))) := scriptH_at a vs ns
  have gNo : ∀ {b : Addr}, b ≠ a → G b = none := fun h => scriptH_no h
  have keep : ∀ {b : Addr} {o : Obj}, sh.heap.get? b = some o → b ≠ a → (hidT sh.heap G).get? b = some o := fun e h => hidT_get e (gNo h)
  have notDict : ∀ {b : Addr} {o : Obj} {es : Array DictEntry} {ep : Nat}, sh.heap.get? b = some o → o.data = .dict es ep → b ≠ a := fun {b o es ep} e d q => by
    subst q
    rw [hs] at e
    cases e
    cases d
  have nsOf : ∀ {b : Addr} {m : Str → Option Value}, sh.heap.Ns b m → (hidT sh.heap G).Ns b m := fun {b m} ⟨o, es, ep, e, d, r⟩ => ⟨o, es, ep, keep e (notDict e d), d, r⟩
  have kin' : K.In (hidT sh.heap G) := fun b o e => keep (kin b o e) fun q => by
    subst q
    have z := kin b o e
    rw [hs] at z
    cases z
    exact noLs_at nl e rfl
  have md : Mod K mg (hidT sh.heap G) := ⟨kin', nsOf gl, ⟨mb, nsOf bl, bb⟩, nolim.elim fun mc h => ⟨mc, nsOf h.1, h.2⟩⟩
  have vals := vals_ints hi
  have gok : HOk P w G sh.heap := fun b u z => by
    by_cases q : b = a
    · subst q
      rw [gAt] at z
      cases z
      exact ⟨hs, by rw [List.length_map]; exact hl, vs, _, vals, hs⟩
    · rw [gNo q] at z; cases z
  have e0 : Env0 P w K mg (hidT sh.heap G) callerA [] sh G := ⟨rfl, md, fun b o e => of_hidT e, Nat.le_of_eq (hidT_size _ _), trivial, fun b hb => (by cases hb), gok, .of_eq gens⟩
  have spec : spP R [.ref a] G (fun v _ => v = .bl true) fun _ _ _ => False := sp_law nl (.inl (.inr ⟨_, gAt⟩)) hR
  refine codeAny_mono (F _ kin' (nsOf gl) sh G ⟨[.ref a], []⟩ [.ref a] [.ref a] _ _ e0 (hbind sh (.ref a)) (.cons rfl .nil) spec) fun r s' h => ?_
  cases r with
  | error e => exact (show False from h).elim
  | ok fl =>
    cases fl with
    | next => exact h.elim
    | brk => exact h.elim
    | cont => exact h.elim
    | ret u =>
      obtain ⟨v, G', os, bare, un, gok', rv, q⟩ := h
      have q : v = .bl true := q
      subst q
      have rv : u = Value.bool true := rv
      subst rv
      refine ⟨rfl, OldK.of_keep fun b o e => ?_, os, bare⟩
      by_cases hb : b = a
      · subst hb
        have z := un.frzs b _ _ gAt
        have e1 := (gok b _ gAt).1
        rw [e] at e1
        cases e1
        exact (gok' b _ z).1
      · exact un.keep b o e (gNo hb) (fun z => by cases z) (fun z => by cases z)
/-- a law's def whose argument is the script -/
theorem top_pure {R : List D → (D → Prop) → Prop} (F : Fun K x qual st f fd) (S : FnScope N ps (defScope st)) (len : ∀ ds Z, R ds Z → ds.length = ps.length) (room : Room (k + 1) callerA)
    (body : ∀ (cdv : Value) (s : Shared) (H : Hp) (E : XK), Room k (callerA.deeper (envOfC qual (defScope st) s.heap.objs.size f cdv)) →
      ∃ t, PSs (cxOf CX0 P w K mg base N qual (defScope st) f cdv callerA [] s H E).nox (defBody st) t ∧ ∀ ds Z, R ds Z → SX t (startE N ds) { nx := fun _ => Z .none, rt := fun d _ => Z d }) :
    TopOk P w K mg base f fd ps (spP R) := by
  refine top_of F S (fun vs H Q E h => ?_) room (fun cdv s H vs Q E hr h => ?_)
  · obtain ⟨F, ds, Z, _, r, q, _⟩ := h
    rw [r.len]
    exact len ds Z q
  · obtain ⟨F0, ds, Z, fh, r, q, z⟩ := h
    obtain ⟨t, ht, hs⟩ := body cdv s H E hr
    refine ⟨t, ht, hs ds Z q { F0 := F0, H0 := H, M := Non } (L2.start N vs) F0 H ⟨fun _ => [], Gr.refl fh, ?_, fun i s e => ?_, (fun i p m => by cases m), (fun i j p m => by cases m), fun _ _ => rfl, (fun s as e => by cases e)⟩ _ (fun ρ' σ' F' H' q w' => ?_) (fun d ρ' σ' v F' H' q w' rv => ?_) (fun _ _ _ _ q _ => q.elim) (fun _ _ _ _ q _ => q.elim)⟩
    · unfold L2.start startE
      rw [List.length_append, List.length_append, List.length_map, List.length_map, List.length_replicate, List.length_replicate, r.len]
    · rcases startE_get e with ⟨d, e2, rfl⟩ | rfl
      · obtain ⟨v, e1, rv⟩ := r.get e2
        exact ⟨rfl, v, start_get e1, rv⟩
      · rfl
    · obtain ⟨ad, w'⟩ := w'
      exact z .none .non F' H' q w'.gr .non
    · obtain ⟨ad, w'⟩ := w'
      exact z d v F' H' q w'.gr rv
/-- the law's statement out of the law's def at the claim's caller -/
theorem walk_top {l : PySem.W.OpenLaw} {n : Nat} {q : Program} {loose : List Str} {XP : (Str → Option Value) → Heap → Prop} {YP : World → Heap → Prop} {d : DefRec} {K : Params → PySem.W.Frag} {R : List D → (D → Prop) → Prop} {x : Str} (hn : l.most = some n) (hn2 : n ≤ sizeLine) (hdf : d.params.defaults = [])
    (hY : ∀ (w : World) (h : Heap), YP w h → (K w.params).In h) (nl : ∀ w : World, noLs (K w.params) = true)
    (F : ∀ (w : World) (mg : Str → Option Value) (fa : Addr) (h : Heap), (K w.params).In h → h.Ns mainGlobals mg → mg d.name = some (.ref fa) →
      ∃ fd : FuncData, (∀ (s : Shared) (u : Value), BindsTo s fd ⟨[u], []⟩ [(x, u)]) ∧ ∀ base : Heap, (K w.params).In base → base.Ns mainGlobals mg → TopOk l.prog w (K w.params) mg base fa fd [x] (spP R))
    (hR : ∀ ns : List Int, ns.length ≤ n → R [.list (ns.map .int)] fun d => d = .bool true) : PySem.W.WalkO q loose XP YP l.row.toRowW d [] (fun f vs => PySem.call f vs) := by
  refine Att.attach_call hn hdf fun w s₀ s₁ mg mb fa o pm cd doc a vs ns G Y ho hd hcd hm hs hi hlen hg => ?_
  obtain ⟨fd, hb, hF⟩ := F w mg fa _ (hY w _ Y) G.T.g hm
  exact top_call (hY w _ Y) G.T.g G.T.b G.T.builtins G.T.nolimit hg hs hi (Nat.le_trans hlen hn2) (nl w) hF hb (hR ns hlen)
end
/-! ### repr of data -/
theorem textFrom_le : ∀ (ts : List Str) (k n : Nat) (acc : Str), (∀ t ∈ ts, t.length ≤ n) → (textFrom k acc ts).length ≤ acc.length + ts.length * (n + 2)
  | [], k, n, acc, _ => by
    show acc.length ≤ _
    omega
  | t :: r, k, n, acc, h => by
    have ih := textFrom_le r (k + 1) n (acc ++ (if k > 0 then ", " else "" : String) ++ t) fun u hu => h u (by simp [hu])
    have ht := h t (by simp)
    have hl : (acc ++ (if k > 0 then ", " else "" : String) ++ t : Str).length ≤ acc.length + 2 + t.length := by
      rw [Str.length_append, Str.length_append]
      by_cases c : k > 0
      · rw [if_pos c]
        have e : (Str.ofString ", ").length = 2 := by decide +kernel
        have e2 : (", " : Str).length = 2 := e
        omega
      · rw [if_neg c]
        have e : (Str.ofString "").length = 0 := by decide +kernel
        have e2 : ("" : Str).length = 0 := e
        omega
    show (textFrom (k + 1) (acc ++ (if k > 0 then ", " else "" : String) ++ t) r).length ≤ _
    rw [List.length_cons, Nat.succ_mul]
    omega
theorem listText_le {ts : List Str} {n : Nat} (h : ∀ t ∈ ts, t.length ≤ n) : (listText ts).length ≤ ts.length * (n + 2) + 2 := by
  unfold listText
  rw [Str.length_append]
  have q := textFrom_le ts 0 n "[" h
  have e1 : ("[" : Str).length = 1 := (by decide +kernel : (Str.ofString "[").length = 1)
  have e2 : ("]" : Str).length = 1 := (by decide +kernel : (Str.ofString "]").length = 1)
  omega
theorem piled_le : ∀ {ts : List Str} {n : Nat}, (∀ t ∈ ts, t.length ≤ n) → piled ts ≤ ts.length * (n + 2)
  | [], n, _ => by simp [piled]
  | t :: ts, n, h => by
    have h1 := h t (by simp)
    have h2 := piled_le (ts := ts) fun u hu => h u (by simp [hu])
    rw [piled_cons, List.length_cons, Nat.succ_mul]
    omega
theorem tupleText_le {ts : List Str} {n : Nat} (h : ∀ t ∈ ts, t.length ≤ n) : (tupleText ts).length ≤ ts.length * (n + 2) + 4 := by
  unfold tupleText
  rw [Str.length_append, Str.length_append]
  have e1 : ("(" : Str).length = 1 := (by decide +kernel : (Str.ofString "(").length = 1)
  have e2 : ((if ts.length == 1 then ",)" else ")" : String) : Str).length ≤ 2 := by
    split
    · exact (by decide +kernel : (Str.ofString ",)").length ≤ 2)
    · exact (by decide +kernel : (Str.ofString ")").length ≤ 2)
  have e3 : (Str.join ", " ts).length ≤ ts.length * (n + 2) := by
    cases ts with
    | nil =>
      have e : (Str.join (Str.ofString ", ") []).length = 0 := by decide +kernel
      have e' : (Str.join ", " []).length = 0 := e
      omega
    | cons t ts =>
      have q := join_length_add (t :: ts) (by simp)
      have p := piled_le h
      omega
  omega
/-- text that can be shown, of at most so many signs -/
structure Sh (n : Nat) (d : D) : Prop where
  sh : d.showable = true
  nd : d.hasDict = false
  ln : d.shown.length ≤ n
theorem sh_int {i : Int} (h : i.natAbs < 2 ^ 64) : Sh 2000 (.int i) where
  sh := by
    simp only [PyData.showable, decide_eq_true_eq]
    rcases Nat.eq_zero_or_pos i.natAbs with z | z
    · rw [z]; decide
    · exact Nat.lt_of_lt_of_le ((Nat.log2_lt (by omega)).mpr h) (by decide)
  nd := by simp only [PyData.hasDict]
  ln := by
    simp only [PyData.shown]
    refine Nat.le_trans (int_text_len_1921 ?_) (by decide)
    rcases Nat.eq_zero_or_pos i.natAbs with z | z
    · rw [z]; decide
    · exact Nat.lt_of_lt_of_le ((Nat.log2_lt (by omega)).mpr h) (by decide)
theorem sh_non : Sh 2000 .none := ⟨by simp only [PyData.showable], by simp only [PyData.hasDict], by simp only [PyData.shown]; decide +kernel⟩
theorem sh_all {n : Nat} : ∀ {ds : List D}, (∀ d ∈ ds, Sh n d) → PyData.showableAll ds = true ∧ PyData.hasDictAll ds = false ∧ (∀ t ∈ PyData.shownAll ds, t.length ≤ n) ∧ (PyData.shownAll ds).length = ds.length
  | [], _ => ⟨by simp only [PyData.showableAll], by simp only [PyData.hasDictAll], (fun t ht => by simp [PyData.shownAll] at ht), by simp [PyData.shownAll]⟩
  | d :: ds, h => by
    have h1 := h d (by simp)
    obtain ⟨a, b, c, e⟩ := sh_all (ds := ds) fun x hx => h x (by simp [hx])
    refine ⟨by simp only [PyData.showableAll, h1.sh, a, Bool.and_self], by simp only [PyData.hasDictAll, h1.nd, b, Bool.or_self], fun t ht => ?_, by simp [PyData.shownAll, e]⟩
    simp only [PyData.shownAll, List.mem_cons] at ht
    rcases ht with rfl | ht
    · exact h1.ln
    · exact c t ht
theorem sh_list {n m : Nat} {ds : List D} (h : ∀ d ∈ ds, Sh n d) (hm : ds.length ≤ m) : Sh (m * (n + 2) + 4) (.list ds) := by
  obtain ⟨a, b, c, e⟩ := sh_all h
  refine ⟨by simp only [PyData.showable]; exact a, by simp only [PyData.hasDict]; exact b, ?_⟩
  simp only [PyData.shown]
  have q := listText_le c
  rw [e] at q
  have q2 : ds.length * (n + 2) ≤ m * (n + 2) := Nat.mul_le_mul_right _ hm
  omega
theorem sh_tup {n m : Nat} {ds : List D} (h : ∀ d ∈ ds, Sh n d) (hm : ds.length ≤ m) : Sh (m * (n + 2) + 4) (.tuple ds) := by
  obtain ⟨a, b, c, e⟩ := sh_all h
  refine ⟨by simp only [PyData.showable]; exact a, by simp only [PyData.hasDict]; exact b, ?_⟩
  simp only [PyData.shown]
  have q := tupleText_le c
  rw [e] at q
  have q2 : ds.length * (n + 2) ≤ m * (n + 2) := Nat.mul_le_mul_right _ hm
  omega
theorem Sh.up {n m : Nat} {d : D} (h : Sh n d) (k : n ≤ m) : Sh m d := ⟨h.sh, h.nd, Nat.le_trans h.ln k⟩
theorem sh_map {α : Type} {n : Nat} {xs : List α} {f : α → D} (h : ∀ x ∈ xs, Sh n (f x)) : ∀ d ∈ xs.map f, Sh n d := fun d hd => by
  obtain ⟨x, hx, rfl⟩ := List.mem_map.mp hd
  exact h x hx
theorem sh_nil {n : Nat} : ∀ d ∈ ([] : List D), Sh n d := fun d h => by cases h
theorem sh_cons {n : Nat} {d : D} {ds : List D} (h : Sh n d) (hs : ∀ e ∈ ds, Sh n e) : ∀ e ∈ d :: ds, Sh n e := fun e he => by
  rcases List.mem_cons.mp he with rfl | he
  · exact h
  · exact hs e he
def rRepr (_ : PySem.W.Frag) : List V → Hp → VK → Prop := fun vs H Q => ∃ (F : Hp) (v : V) (d : D), vs = [v] ∧ Same F H ∧ Rp F v d ∧ Sh sizeLine d ∧ d.depth ≤ 60 ∧ Q (.str d.shown) H
theorem cb_repr {X : Cx} (hu : X.A.units + 64 < cLine) (hg : X.A.guards = some []) : CallR X (.builtin "repr") (rRepr X.K) := by
  rintro pins s σ H vs us Q I r ⟨F, v, d, rfl, e, rp, ⟨hs, hnd, hl⟩, hz, q⟩
  obtain ⟨u, rfl, ru⟩ := r.one
  obtain ⟨as, rd⟩ := rp_reads I e rp ru
  have disp : isDisplay d = true → wpAny (model X.prog X.w) X.A (call (.builtin "repr") [u]) (EP X pins σ Q) X.xe s := fun hd => by
    obtain ⟨a, rfl⟩ := isRef_of_reads rd hd
    exact repr_of_reads' rd hs (PyData.noDict_hsm hnd) hg (by omega) (fun _ _ e => e) (fun h' u tk hk => ⟨.str d.shown, H, I.kept hk, ⟨u, rfl⟩, q⟩) hl
  cases d with
  | none =>
    cases rp
    have ru : u = Value.none := ru
    subst ru
    simp only [PyData.shown] at q
    exact PySem.P.repr_of_none ⟨.str "None", H, I.tok _, ⟨_, rfl⟩, q⟩
  | bool b =>
    cases rp
    have ru : u = Value.bool b := ru
    subst ru
    simp only [PyData.shown] at q
    exact PySem.P.repr_of_bool ⟨.str _, H, I.tok _, ⟨_, rfl⟩, q⟩
  | int i =>
    cases rp
    obtain ⟨t, rfl⟩ := ru
    simp only [PyData.shown] at q
    simp only [PyData.showable, decide_eq_true_eq] at hs
    exact PySem.P.repr_of_int hs ⟨.str _, H, I.tok _, ⟨_, rfl⟩, q⟩
  | str x =>
    cases rp
    obtain ⟨t, rfl⟩ := ru
    simp only [PyData.shown] at q hl
    exact PySem.P.repr_of_str ⟨.str _, H, I.tok _, ⟨_, rfl⟩, q⟩ hl
  | list xs => exact disp rfl
  | tuple xs => exact disp rfl
  | dict xs => simp only [PyData.hasDict] at hnd; cases hnd
theorem cbd_repr {K : PySem.W.Frag} {d : D} {n : Nat} {Q : D → Prop} (h : Sh n d) (hn : n ≤ sizeLine) (hz : d.depth ≤ 60) (k : Q (.str d.shown)) : CbD (rRepr K) [d] Q := fun F H vs e r Z z => by
  obtain ⟨v, rfl, rv⟩ := r.one
  exact ⟨F, v, d, rfl, e, rv, h.up hn, hz, z _ _ F H k (Gr.refl e) (.str _)⟩
end Pu
/-! PuT: for k, x in enumerate(t), t a tuple -/
namespace Pu
open PySem L2 PySem.Spec PyProof.Rows
section
open Sem (wp)
open AutoSeq1 (wpAny_loadPart')
/-- enumerate(t) of a tuple makes its iterator, then itself -/
theorem meets_enumT (t : Addr) (items : Array Value) (n : Nat) (dct : Option Addr) (sl : Array (Option Value)) :
    Meets (Builtin.«enumerate.__new__» ⟨[.type "enumerate", .ref t], []⟩) (fun _ R sh => sh.heap.get? t = some { cls := .type "tuple", dict := dct, data := .seq items n, slots := sl } ∧
      R (.ok (.ret (.ref (sh.heap.push { cls := .type "tuple_iterator", data := .fields #[.ref t, .int 0 0] }).objs.size)))
        { sh with heap := (sh.heap.push { cls := .type "tuple_iterator", data := .fields #[.ref t, .int 0 0] }).push { cls := .type "enumerate", data := .fields #[.none, .bool false, .ref sh.heap.objs.size, rawInt 0, .none, .none] } }) :=
  .of_wp fun prog w A R sh hyp => by
    obtain ⟨hp, gg, dd, tk, os⟩ := sh
    obtain ⟨ht, hyp⟩ := hyp
    have su := sub_enumerate
    have tup : Heap.IsTuple (Shared.heap ⟨hp, gg, dd, tk, os⟩) t items := ⟨_, ht, rfl, n, rfl⟩
    wp_walk using wpAny_loadPart' ht
    refine wpAny_stack_any fun _ => wpAny_pure ?_
    split
    · rename_i c _ _ _ _ _
      cases (c == Value.type "enumerate")
      · wp_walk using wpAny_loadPart' ht, wpAny_pyIter_tuple tup
        exact ⟨_, rfl, hyp⟩
      · wp_walk using wpAny_loadPart' ht, wpAny_pyIter_tuple tup
        exact ⟨_, rfl, hyp⟩
    · wp_walk using wpAny_loadPart' ht, wpAny_pyIter_tuple tup
      exact ⟨_, rfl, hyp⟩
theorem call_enumT {prog : Program} {w : World} {A : Around} {E : Value → Shared → Prop} {sh : Shared} {t : Addr} {items : Array Value} {Q : Value → Shared → Prop} (ht : sh.heap.IsTuple t items)
    (k : ∀ g, IsEnum g (sh.heap.objs.size + 1) sh.heap.objs.size 0 .none → g.IsTupleIter sh.heap.objs.size t 0 → (∀ b o, sh.heap.get? b = some o → g.get? b = some o) → Q (.ref (sh.heap.objs.size + 1)) { sh with heap := g }) :
    wpAny (model prog w) A (call (.type "enumerate") [.ref t]) Q E sh := by
  obtain ⟨⟨cl, dct, dat, sl⟩, he, hc, n, hd⟩ := ht
  have hc : cl = .type "tuple" := hc
  have hd : dat = .seq items n := hd
  subst hc hd
  refine callType_new F.called_enumerate (by decide) (F.typeCall_enumerate_1 _) (F.newCall_enumerate_1 _) (fun ob => F.args_object_init_2 ob _) F.entry_enumerate_new (meets_enumT t items n dct sl) ⟨he, ?_⟩
  have size : (sh.heap.push { cls := .type "tuple_iterator", data := .fields #[.ref t, .int 0 0] }).objs.size = sh.heap.objs.size + 1 := Heap.size_push ..
  show _ ∧ _
  rw [size]
  have isE : IsEnum ((sh.heap.push { cls := .type "tuple_iterator", data := .fields #[.ref t, .int 0 0] }).push { cls := .type "enumerate", data := .fields #[.none, .bool false, .ref sh.heap.objs.size, rawInt 0, .none, .none] }) (sh.heap.objs.size + 1) sh.heap.objs.size 0 .none := by
    have g := Heap.get?_push_size (sh.heap.push { cls := .type "tuple_iterator", data := .fields #[.ref t, .int 0 0] }) (o := { cls := .type "enumerate", data := .fields #[.none, .bool false, .ref sh.heap.objs.size, rawInt 0, .none, .none] }) rfl
    rw [size] at g
    exact g
  exact ⟨⟨_, isE, rfl⟩, k _ isE ⟨_, Heap.get?_push_of_some _ (Heap.get?_push_size _ rfl), rfl, rfl⟩ fun b o x => Heap.get?_push_of_some _ (Heap.get?_push_of_some _ x)⟩
/-- the tuple at a, each item in a new pair -/
def ItT (K : PySem.W.Frag) (a : Addr) : It :=
  ⟨fun i H => ∃ (xs : List V) (x : V), SqT K H a xs ∧ xs[i]? = some x, fun i H v G => ∃ T x, v = .ref T ∧ H T = none ∧ G = upd H T (.tup [.int (i : Nat), x]) ∧ ∀ xs, SqT K H a xs → xs[i]? = some x, fun i H => ∃ xs : List V, SqT K H a xs ∧ xs.length ≤ i⟩
theorem enum_ne_tup {h : Heap} {e it a : Addr} {i : Int} {old : Value} {items : Array Value} (he : IsEnum h e it i old) (ht : h.IsTuple a items) : e ≠ a := fun q => by
  subst q
  obtain ⟨o, ho, hc, _⟩ := ht
  have z := ho.symm.trans he
  cases z
  exact absurd hc (by simp)
theorem iter_ne_tup {h : Heap} {it a b : Addr} {i : Nat} {items : Array Value} (hi : h.IsTupleIter it b i) (ht : h.IsTuple a items) : a ≠ it := fun q => by
  subst q
  obtain ⟨o, ho, hc, _⟩ := ht
  obtain ⟨o2, ho2, hc2, _⟩ := hi
  have z := ho.symm.trans ho2
  cases z
  rw [hc] at hc2
  exact absurd hc2 (by simp)
theorem turn_enumT {P : Program} {w : World} {K : PySem.W.Frag} {elts : List Expr} {kk : Nat} {tpos : Pos} (a e it : Addr) :
    Turn P w K (.Tuple elts kk tpos) (ItT K a) [e, it] e (fun i g => (∃ old, IsEnum g e it ((i : Nat) : Int) old) ∧ g.IsTupleIter it a i ∧ e ≠ it) where
  mem := by simp
  obj := fun i g st b hb => by
    obtain ⟨⟨old, en⟩, ⟨o, ho, hc, hd⟩, _⟩ := st
    rcases (by simpa using hb : b = e ∨ b = it) with z | z
    · rw [z]; exact ⟨_, en, fun v q => nomatch q⟩
    · rw [z]; exact ⟨o, ho, fun v q => by rw [hd] at q; cases q⟩
  keep := fun i g g' st k => let ⟨⟨old, en⟩, ti, ne⟩ := st; ⟨⟨old, k e (by simp) _ en⟩, ti.at fun o q => k it (by simp) o q, ne⟩
  item := by
    intro X hP hw hK hc i pins sh σ H E I hf st hg
    subst hP hw hK
    obtain ⟨⟨old, en⟩, ti, ne⟩ := st
    obtain ⟨xs, x, hq, hx⟩ := hg
    obtain ⟨its, rv, tp, hz⟩ := I.tuple hq
    have tp : sh.heap.IsTuple a its.toArray := tp
    obtain ⟨u, hu, ru⟩ := rv.get hx
    have live_e : e < sh.heap.objs.size := Heap.lt_size en
    have live_i : it < sh.heap.objs.size := by obtain ⟨_, q, _⟩ := ti; exact Heap.lt_size q
    have ilt : i < its.toArray.size := by
      have := (List.getElem?_eq_some_iff.mp hu).1
      simpa using this
    have D := PySem.Draws.tuple (prog := X.prog) (w := X.w) (A := X.A.in1) (I.ok.hd hc) it a (iter_ne_tup ti tp) its.toArray
    refine wpAny_pyNext_enum_itemD D en ⟨ti, tp⟩ ilt ne (by simp [ne, enum_ne_tup en tp]) fun y g tk hy ho st' hT hsz hk => ?_
    have ey : y = u := by
      have h1 : its.toArray[i]? = some u := by simpa using hu
      exact Option.some.inj (hy.symm.trans h1)
    subst ey
    refine ⟨_, rfl, wpAny_letOwnedTupleGo_enum (s := { sh with heap := g, toks := tk + 1 }) ho fun g2 en2 sb => ?_⟩
    have atT : g2.get? sh.heap.objs.size = some { cls := .type "tuple", data := .seq #[.int i tk, y] } := (sb.2 _ (Nat.ne_of_gt live_e)).trans hT
    have newT : ObjOk X.prog X.w (upd H sh.heap.objs.size (.tup [.int (i : Nat), x])) g2 sh.heap.objs.size (.tup [.int (i : Nat), x]) :=
      ⟨by show 2 ≤ sizeLine; decide, [.int i tk, y], .cons ⟨_, rfl⟩ (.cons ru .nil), ⟨_, atT, rfl, _, rfl⟩⟩
    have J : Inv X pins σ (upd H sh.heap.objs.size (.tup [.int (i : Nat), x])) { sh with heap := g2, toks := tk + 1 } :=
      I.turnedNew (ch := [e, it]) (fun b ob hb q => (sb.2 b (fun z => hb (by simp [z]))).trans (hk b ob (fun z => hb (by simp [z])) (fun z => hb (by simp [z])) q)) hf (Nat.le_refl _) newT
    refine ⟨.ref sh.heap.objs.size, _, J, rfl, ⟨_, x, rfl, I.hok.fresh (Nat.le_refl _), rfl, fun ys hy => by rw [I.tuple_inj hy hq]; exact hx⟩, ⟨⟨y, ?_⟩, st'.1.at fun o q => (sb.2 it (Ne.symm ne)).trans q, ne⟩, fun b hb => ?_⟩
    · have up : ((i + 1 : Nat) : Int) = (i : Int) + 1 := by omega
      rw [up]; exact en2
    · have lt : b < sh.heap.objs.size := by
        rcases (by simpa using hb : b = e ∨ b = it) with z | z
        · rw [z]; exact live_e
        · rw [z]; exact live_i
      rw [upd_ne (Nat.ne_of_lt lt)]
      exact (hf b hb).1
  done := by
    intro X hP hw hK hc i pins sh σ H E I hf st hg
    subst hP hw hK
    obtain ⟨⟨old, en⟩, ti, ne⟩ := st
    obtain ⟨xs, hq, hx⟩ := hg
    obtain ⟨its, rv, tp, hz⟩ := I.tuple hq
    have tp : sh.heap.IsTuple a its.toArray := tp
    obtain ⟨f0, f1, f2, f3, f4, f5⟩ := hf it (by simp)
    have ll := rv.length
    have out : its.toArray[i]? = none := by simp; omega
    have tyE : sh.TypeIs (.ref e) "enumerate" := ⟨_, en, rfl⟩
    unfold pyNext
    refine wpAny_bind (wpAny_attempt (wpAny_callSpecial?_slot (name := Str.ofString "__next__") tyE F.slot_enumerate_next (wpAny_call_entry F.slot_enumerate_next tyE F.entry_enumerate_next ?_ (F.args_enumerate_next_1 _))))
    show wpAny _ _ (field (.ref e) 2 >>= _) _ _ sh
    refine wpAny_bind (wpAny_field en rfl (x := .ref it) rfl (wpAny_bind (wpAny_nextOf_tuple_end (I.ok.hd hc) ti tp out fun g y gb hy => ?_)))
    obtain ⟨o, ho, hcl⟩ := hy
    refine wpAny_bind (wpAny_isInstance (b := true) (T := "StopIteration") ⟨o, ho, hcl⟩ isSubtype_stop (wpAny_pure ?_))
    exact ⟨rfl, I.turned (t' := sh.toks) (fun b o hb q => gb b o hb q) f0 f1 f3 f4 f5⟩
  self := fun A i sh Q E st k => let ⟨⟨_, en⟩, _⟩ := st; wpAny_pyIter_enum en k
/-- the items of enumerate(t) -/
def iEnumT (K : PySem.W.Frag) (ta : TA) : TI := fun σ H R => ta σ H fun vs H1 => ∃ a xs, vs = [.ref a] ∧ SqT K H1 a xs ∧ R (ItT K a) H1
theorem pi_enumT {X : Cx} {e : Expr} {ta : TA} {p pos tpos : Pos} {elts : List Expr} {kk : Nat} (hg : Gl X "enumerate") (hm : X.mg "enumerate" = none) (ha : PA X [e] ta) (hs : starEach [e] X.env = [(false, eval e X.env)] := by rfl) :
    PI X (.Tuple elts kk tpos) (.Call (.Name "enumerate" p) [e] [] pos) (iEnumT X.K ta) := by
  refine ⟨fun pins sh σ H R I hyp => Call_ (ld_blt I hg hm boot_enumerate (PyProof.Rows.callWith_type1 (thn (ha.run pos pins sh σ H _ I hyp) fun us s1 ⟨vs, H1, I1, r1, q1⟩ => ?_) hs rfl))⟩
  obtain ⟨a, xs, ex, hq, q⟩ := q1
  subst ex
  cases r1 with
  | cons r rr =>
    cases rr
    cases r
    obtain ⟨its, rv, tp, hz⟩ := I1.tuple hq
    have tp : s1.heap.IsTuple a its.toArray := tp
    refine call_enumT tp fun g en ti hk => wpAny_pyIter_enum en ?_
    have I2 : Inv X pins σ H1 { s1 with heap := g } := I1.kept (t' := s1.toks) hk
    refine ⟨s1.heap.objs.size + 1, [s1.heap.objs.size + 1, s1.heap.objs.size], _, _, H1, rfl, I2, turn_enumT a (s1.heap.objs.size + 1) s1.heap.objs.size, ⟨⟨.none, en⟩, ti, Nat.succ_ne_self _⟩, fun b hb => ?_, q⟩
    have le : s1.heap.objs.size ≤ b := by
      rcases (by simpa using hb : b = s1.heap.objs.size + 1 ∨ b = s1.heap.objs.size) with z | z
      · rw [z]; exact Nat.le_add_right _ _
      · rw [z]; exact Nat.le_refl _
    exact I1.fpOk le (I1.hok.fresh le)
theorem ei_enumT {K : PySem.W.Frag} {t : TA} {ρ : Pu.Env} {Q : List D → Pu.Env → Prop} (h : EA t ρ fun es ρ1 => ∃ ds, es = [.tuple ds] ∧ Q (enumD 0 ds) ρ1) : EI (iEnumT K t) ρ Q := fun B ad σ F H w R z =>
  h B ad σ F H w _ fun es ρ1 vs F1 H1 q p r => by
    obtain ⟨ds, rfl, q⟩ := q
    obtain ⟨v, rfl, rv⟩ := r.one
    obtain ⟨a, xs, rfl, h1, h2⟩ := rv.tup_inv
    refine ⟨a, xs, rfl, sqT_rd h1 p.wa.gr.fh, z _ ρ1 _ F1 H1 q p ⟨fun i H' e hi => ?_, fun i H' e hi => ?_, fun i H' x H2 F2 e1 e2 y hi => ?_⟩⟩
    · rw [enumD_len] at hi
      exact ⟨xs, xs[i]'(by rw [h2.len]; exact hi), sqT_rd h1 e, by simp⟩
    · rw [enumD_len] at hi
      exact ⟨xs, sqT_rd h1 e, by rw [h2.len]; exact hi⟩
    · obtain ⟨T, x, rfl, hT, rfl, y⟩ := y
      obtain ⟨d, hd, rd⟩ := h2.get' (y xs (sqT_rd h1 (e1.trans e2)))
      have g := Gr.new (o := .tup [.int (i : Nat), x]) e2 hT
      refine ⟨_, upd F2 T (.tup [.int (i : Nat), x]), enumD_get ds 0 i hd, g, .tup upd_same (.cons ?_ (.cons ((rd.up e1).up g.ff) .nil))⟩
      rw [Nat.zero_add]
      exact .int _
end
end Pu
/-! readings of the defs of law_k71_whole_sounds: printed by gen.py -/
namespace Law_k71
open PySem L2 Pu

/-- apart: slots one 0, other 1 -/
abbrev N_apart : List Str := ["one", "other"]
def T_apart (K : PySem.W.Frag) : TS :=
    (tRet (tOp (rPlus K) (tOp (rPlus K) (tOp (rI CPow fun i j => .int (i ^ j.toNat)) (tOp (rI0 fun i j => .int (i - j)) (tOp (rIxA K) (tVar 0) (tC (.int 0))) (tOp (rIxA K) (tVar 1) (tC (.int 0)))) (tC (.int 2))) (tOp (rI CPow fun i j => .int (i ^ j.toNat)) (tOp (rI0 fun i j => .int (i - j)) (tOp (rIxA K) (tVar 0) (tC (.int 1))) (tOp (rIxA K) (tVar 1) (tC (.int 1)))) (tC (.int 2)))) (tOp (rI CPow fun i j => .int (i ^ j.toNat)) (tOp (rI0 fun i j => .int (i - j)) (tOp (rIxA K) (tVar 0) (tC (.int 2))) (tOp (rIxA K) (tVar 1) (tC (.int 2)))) (tC (.int 2)))))
/-- ticks_for: slots one 0, other 1, speed 2, square 3, low 4, high 5, middle 6 -/
abbrev N_ticks_for : List Str := ["one", "other", "speed", "square", "low", "high", "middle"]
def T_ticks_for (K : PySem.W.Frag) (R_apart : List D → (D → Prop) → Prop) : TS :=
    (tSeq (tAsg (tCall (spP R_apart) [] E0 (tCons (tVar 0) (tCons (tVar 1) tNil))) (gName 3))
    (tSeq (tAsg (tTup (tCons (tC (.int 0)) (tCons (tC (.int 1)) tNil))) (gTup K 2 (gCons (gName 4) (gCons (gName 5) gNil))))
    (tSeq (tWhile (tTest (tOp (rI0 fun i j => .bl (decide (i < j))) (tOp (rI CMul fun i j => .int (i * j)) (tOp (rI CMul fun i j => .int (i * j)) (tOp (rI CMul fun i j => .int (i * j)) (tVar 5) (tVar 5)) (tVar 2)) (tVar 2)) (tVar 3)))
      (tAsg (tOp (rI CMul fun i j => .int (i * j)) (tC (.int 2)) (tVar 5)) (gName 5)))
    (tSeq (tWhile (tTest (tOp (rI0 fun i j => .bl (decide (i < j))) (tVar 4) (tVar 5)))
      (tSeq (tAsg (tOp (rI CDiv fun i j => .int (i / j)) (tOp (rPlus K) (tVar 4) (tVar 5)) (tC (.int 2))) (gName 6))
    (tIfS (tTest (tOp (rI0 fun i j => .bl (decide (j ≤ i))) (tOp (rI CMul fun i j => .int (i * j)) (tOp (rI CMul fun i j => .int (i * j)) (tOp (rI CMul fun i j => .int (i * j)) (tVar 6) (tVar 6)) (tVar 2)) (tVar 2)) (tVar 3)))
      (tAsg (tVar 6) (gName 5))
      (tAsg (tOp (rPlus K) (tVar 6) (tC (.int 1))) (gName 4)))))
    (tRet (tVar 4))))))
/-- heard: slots bursts 0, seat 1, speed 2, tick 3, place 4, at 5 -/
abbrev N_heard : List Str := ["bursts", "seat", "speed", "tick", "place", "at"]
def T_heard (K : PySem.W.Frag) (R_ticks_for : List D → (D → Prop) → Prop) : TS :=
    (tRet (tCB (rSrD K) (tCons (tLc (iEnum K (tCons (tVar 0) tNil)) (gTup K 2 (gCons (gName 5) (gCons (gTup K 2 (gCons (gName 3) (gCons (gName 4) gNil))) gNil))) tYes (tTup (tCons (tOp (rPlus K) (tVar 3) (tCall (spP R_ticks_for) [] E0 (tCons (tVar 4) (tCons (tVar 1) (tCons (tVar 2) tNil))))) (tCons (tVar 5) tNil))) [5, 3, 4]) tNil)))
/-- mirrored: slots place 0, wall 1, axis 2, at 3, one 4, turn 5 -/
abbrev N_mirrored : List Str := ["place", "wall", "axis", "at", "one", "turn"]
def T_mirrored (K : PySem.W.Frag) : TS :=
    (tSeq (tAsg (tVar 1) (gTup K 2 (gCons (gName 2) (gCons (gName 3) gNil))))
    (tRet (tCB (rTup K) (tCons (tLc (iEnumT K (tCons (tVar 0) tNil)) (gTup K 2 (gCons (gName 5) (gCons (gName 4) gNil))) tYes (tIf (tTest (tOp (rEqP K) (tVar 5) (tVar 2))) (tOp (rI0 fun i j => .int (i - j)) (tOp (rI CMul fun i j => .int (i * j)) (tC (.int 2)) (tVar 3)) (tVar 4)) (tVar 4)) [5, 4]) tNil))))
/-- echoes: slots bursts 0, seat 1, walls 2, speed 3, found 4, burst 5, tick 6, place 7, wall 8, axis 9, at 10; own: found -/
abbrev N_echoes : List Str := ["bursts", "seat", "walls", "speed", "found", "burst", "tick", "place", "wall", "axis", "at"]
def T_echoes (K : PySem.W.Frag) (R_ticks_for : List D → (D → Prop) → Prop) (R_mirrored : List D → (D → Prop) → Prop) : TS :=
    (tSeq (tAsg (tLst tNil) (gName 4))
    (tSeq (tFor (iEnum K (tCons (tVar 0) tNil)) (gTup K 2 (gCons (gName 5) (gCons (gTup K 2 (gCons (gName 6) (gCons (gName 7) gNil))) gNil)))
      (tFor (iEnum K (tCons (tVar 2) tNil)) (gTup K 2 (gCons (gName 8) (gCons (gTup K 2 (gCons (gName 9) (gCons (gName 10) gNil))) gNil)))
      (tIfS (tTest (tOp (rI0 fun i j => .bl (decide (j < i))) (tOp (rI CMul fun i j => .int (i * j)) (tOp (rI0 fun i j => .int (i - j)) (tOp (rIxA K) (tVar 7) (tVar 9)) (tVar 10)) (tOp (rI0 fun i j => .int (i - j)) (tOp (rIxA K) (tVar 1) (tVar 9)) (tVar 10))) (tC (.int 0))))
      (tDrop (tBM K "list" rAppend (tVar 4) (tCons (tTup (tCons (tOp (rPlus K) (tVar 6) (tCall (spP R_ticks_for) [] E0 (tCons (tCall (spP R_mirrored) [] E0 (tCons (tVar 7) (tCons (tTup (tCons (tVar 9) (tCons (tVar 10) tNil))) tNil))) (tCons (tVar 1) (tCons (tVar 3) tNil))))) (tCons (tVar 5) (tCons (tVar 8) tNil)))) tNil)))
      tNext)))
    (tRet (tCB (rSrD K) (tCons (tVar 4) tNil)))))
/-- together: slots bursts 0, seats 1, speed 2, found 3, seat 4, place 5, rows 6, at 7, tick 8, first 9, other 10; own: found -/
abbrev N_together : List Str := ["bursts", "seats", "speed", "found", "seat", "place", "rows", "at", "tick", "first", "other"]
def T_together (K : PySem.W.Frag) (R_heard : List D → (D → Prop) → Prop) : TS :=
    (tSeq (tAsg (tLst tNil) (gName 3))
    (tSeq (tFor (iEnum K (tCons (tVar 1) tNil)) (gTup K 2 (gCons (gName 4) (gCons (gName 5) gNil)))
      (tSeq (tAsg (tCall (spN R_dict) [] E0 (tCons (tLc (iList K (tCall (spP R_heard) [] E0 (tCons (tVar 0) (tCons (tVar 5) (tCons (tVar 2) tNil))))) (gTup K 2 (gCons (gName 8) (gCons (gName 7) gNil))) tYes (tTup (tCons (tVar 7) (tCons (tVar 8) tNil))) [8, 7]) tNil)) (gName 6))
    (tFor (iRng1 (tCons (tCB (rLen K) (tCons (tVar 0) tNil)) tNil)) (gName 9)
      (tFor (iRng2 (tCons (tOp (rPlus K) (tVar 9) (tC (.int 1))) (tCons (tCB (rLen K) (tCons (tVar 0) tNil)) tNil))) (gName 10)
      (tIfS (tTest (tOp (rEqP K) (tDGet (tVar 6) (tVar 9)) (tDGet (tVar 6) (tVar 10))))
      (tDrop (tBM K "list" rAppend (tVar 3) (tCons (tTup (tCons (tVar 9) (tCons (tVar 10) (tCons (tVar 4) tNil)))) tNil)))
      tNext)))))
    (tRet (tCB (rSrD K) (tCons (tVar 3) tNil)))))
/-- silent_span: slots bursts 0, seat 1, speed 2, rows 3, tick 4, at 5, best 6, one 7, other 8 -/
abbrev N_silent_span : List Str := ["bursts", "seat", "speed", "rows", "tick", "at", "best", "one", "other"]
def T_silent_span (K : PySem.W.Frag) (R_heard : List D → (D → Prop) → Prop) : TS :=
    (tSeq (tAsg (tLc (iList K (tCall (spP R_heard) [] E0 (tCons (tVar 0) (tCons (tVar 1) (tCons (tVar 2) tNil))))) (gTup K 2 (gCons (gName 4) (gCons (gName 5) gNil))) tYes (tVar 4) [4, 5]) (gName 3))
    (tSeq (tAsg (tTup (tCons (tC (.int 0)) (tCons (tC .non) tNil))) (gName 6))
    (tSeq (tFor (iZip K (tCons (tVar 3) (tCons (tSl (rSl K) (tVar 3) (tPart (tC (.int 1))) tNoPart) tNil))) (gTup K 2 (gCons (gName 7) (gCons (gName 8) gNil)))
      (tIfS (tTest (tOp (rI0 fun i j => .bl (decide (j < i))) (tOp (rI0 fun i j => .int (i - j)) (tVar 8) (tVar 7)) (tOp (rIxA K) (tVar 6) (tC (.int 0)))))
      (tAsg (tTup (tCons (tOp (rI0 fun i j => .int (i - j)) (tVar 8) (tVar 7)) (tCons (tVar 7) tNil))) (gName 6))
      tNext))
    (tRet (tVar 6)))))
/-- loudest: slots bursts 0, seat 1, speed 2, window 3, rows 4, tick 5, at 6, best 7, many 8, one 9 -/
abbrev N_loudest : List Str := ["bursts", "seat", "speed", "window", "rows", "tick", "at", "best", "many", "one"]
def T_loudest (K : PySem.W.Frag) (R_heard : List D → (D → Prop) → Prop) : TS :=
    (tSeq (tAsg (tLc (iList K (tCall (spP R_heard) [] E0 (tCons (tVar 0) (tCons (tVar 1) (tCons (tVar 2) tNil))))) (gTup K 2 (gCons (gName 5) (gCons (gName 6) gNil))) tYes (tVar 5) [5, 6]) (gName 4))
    (tSeq (tAsg (tTup (tCons (tC (.int 0)) (tCons (tC .non) tNil))) (gName 7))
    (tSeq (tFor (iEnum K (tCons (tVar 4) tNil)) (gTup K 2 (gCons (gName 6) (gCons (gName 5) gNil)))
      (tSeq (tAsg (tCB (rLen K) (tCons (tLc (iList K (tSl (rSl K) (tVar 4) (tPart (tVar 6)) tNoPart)) (gName 9) (tTest (tOp (rI0 fun i j => .bl (decide (i < j))) (tVar 9) (tOp (rPlus K) (tVar 5) (tVar 3)))) (tVar 9) [9]) tNil)) (gName 8))
    (tIfS (tTest (tOp (rI0 fun i j => .bl (decide (j < i))) (tVar 8) (tOp (rIxA K) (tVar 7) (tC (.int 0)))))
      (tAsg (tTup (tCons (tVar 8) (tCons (tVar 5) tNil))) (gName 7))
      tNext)))
    (tRet (tVar 7)))))
/-- _law_state: slots script 0, cells 1, cell 2 -/
abbrev N_l_state : List Str := ["script", "cells", "cell"]
def T_l_state (K : PySem.W.Frag) : TS :=
    (tSeq (tAsg (tLc (iList K (tSl (rSl K) (tVar 0) tNoPart (tPart (tC (.int 63))))) (gName 2) tYes (tCB (rAbs) (tCons (tVar 2) tNil)) [2]) (gName 1))
    (tSeq (tIfS (tTest (tOp (rEqP K) (tCB (rLen K) (tCons (tVar 1) tNil)) (tC (.int 0))))
      (tAsg (tLst (tCons (tC (.int 0)) tNil)) (gName 1))
      tNext)
    (tRet (tLst (tCons (tC (.int 0)) (tCons (tVar 1) tNil))))))
/-- _law_take: slots state 0, most 1, cells 2, at 3, cell 4, mixed 5; own: cells, state -/
abbrev N_l_take : List Str := ["state", "most", "cells", "at", "cell", "mixed"]
def T_l_take (K : PySem.W.Frag) : TS :=
    (tSeq (tAsg (tOp (rIxA K) (tVar 0) (tC (.int 1))) (gName 2))
    (tSeq (tAsg (tOp (rI (fun _ j => 0 < j) fun i j => .int (i % j)) (tOp (rIxA K) (tVar 0) (tC (.int 0))) (tCB (rLen K) (tCons (tVar 2) tNil))) (gName 3))
    (tSeq (tAsg (tOp (rIxA K) (tVar 2) (tVar 3)) (gName 4))
    (tSeq (tIfS (tTest (tOp (rI0 fun i j => .bl (decide (j ≤ i))) (tVar 4) (tC (.int 1000000000000000000))))
      (tSeq (tAsg (tOp (rI CDiv fun i j => .int (i / j)) (tVar 4) (tVar 1)) (gSub (tVar 2) (tVar 3) rSetL))
    (tRet (tOp (rI (fun _ j => 0 < j) fun i j => .int (i % j)) (tVar 4) (tVar 1))))
      tNext)
    (tSeq (tAsg (tOp (rPlus K) (tOp (rIxA K) (tVar 0) (tC (.int 0))) (tC (.int 1))) (gSub (tVar 0) (tC (.int 0)) rSetL))
    (tSeq (tAsg (tOp (rI (fun _ j => 0 < j) fun i j => .int (i % j)) (tCB (rInt) (tCons (tOp (rPlus K) (tOp (rI CMul fun i j => .int (i * j)) (tVar 4) (tC (.int 48271))) (tOp (rI CMul fun i j => .int (i * j)) (tOp (rIxA K) (tVar 0) (tC (.int 0))) (tC (.int 69621)))) tNil)) (tC (.int 2147483647))) (gName 5))
    (tSeq (tAsg (tOp (rI (fun _ j => 0 < j) fun i j => .int (i % j)) (tCB (rInt) (tCons (tOp (rPlus K) (tOp (rI CMul fun i j => .int (i * j)) (tVar 5) (tC (.int 16807))) (tOp (rI CMul fun i j => .int (i * j)) (tOp (rIxA K) (tVar 0) (tC (.int 0))) (tC (.int 7919)))) tNil)) (tC (.int 1000000007))) (gName 5))
    (tRet (tOp (rI (fun _ j => 0 < j) fun i j => .int (i % j)) (tOp (rI CDiv fun i j => .int (i / j)) (tVar 5) (tC (.int 7))) (tVar 1))))))))))
/-- _law_ticks: slots one 0, other 1, speed 2, square 3, k 4, ticks 5 -/
abbrev N_l_ticks : List Str := ["one", "other", "speed", "square", "k", "ticks"]
def T_l_ticks (K : PySem.W.Frag) : TS :=
    (tSeq (tAsg (tCB (rSum K) (tCons (tLc (iRng1 (tCons (tC (.int 3)) tNil)) (gName 4) tYes (tOp (rI CMul fun i j => .int (i * j)) (tOp (rI0 fun i j => .int (i - j)) (tOp (rIxA K) (tVar 0) (tVar 4)) (tOp (rIxA K) (tVar 1) (tVar 4))) (tOp (rI0 fun i j => .int (i - j)) (tOp (rIxA K) (tVar 0) (tVar 4)) (tOp (rIxA K) (tVar 1) (tVar 4)))) [4]) tNil)) (gName 3))
    (tSeq (tAsg (tC (.int 0)) (gName 5))
    (tSeq (tWhile (tTest (tOp (rI0 fun i j => .bl (decide (i < j))) (tOp (rI CMul fun i j => .int (i * j)) (tOp (rI CMul fun i j => .int (i * j)) (tOp (rI CMul fun i j => .int (i * j)) (tVar 5) (tVar 5)) (tVar 2)) (tVar 2)) (tVar 3)))
      (tAsg (tOp (rPlus K) (tVar 5) (tC (.int 1))) (gName 5)))
    (tRet (tVar 5)))))
/-- _law_place: slots state 0, size 1 -/
abbrev N_l_place : List Str := ["state", "size"]
def T_l_place (K : PySem.W.Frag) (R_l_take : Stt → List D → (D → Stt → Prop) → Prop) : TS :=
    (tRet (tTup (tCons (tCall (spS R_l_take) [] E0 (tCons (tVar 0) (tCons (tVar 1) tNil))) (tCons (tCall (spS R_l_take) [] E0 (tCons (tVar 0) (tCons (tVar 1) tNil))) (tCons (tCall (spS R_l_take) [] E0 (tCons (tVar 0) (tCons (tVar 1) tNil))) tNil)))))
/-- _law_scene: slots state 0, most 1, size 2, bursts 3, k 4, seats 5 -/
abbrev N_l_scene : List Str := ["state", "most", "size", "bursts", "k", "seats"]
def T_l_scene (K : PySem.W.Frag) (R_l_take : Stt → List D → (D → Stt → Prop) → Prop) (R_l_place : Stt → List D → (D → Stt → Prop) → Prop) : TS :=
    (tSeq (tAsg (tOp (rIxA K) (tLst (tCons (tC (.int 6)) (tCons (tC (.int 60)) tNil))) (tCall (spS R_l_take) [] E0 (tCons (tVar 0) (tCons (tC (.int 2)) tNil)))) (gName 2))
    (tSeq (tAsg (tLc (iRng1 (tCons (tCall (spS R_l_take) [] E0 (tCons (tVar 0) (tCons (tOp (rPlus K) (tVar 1) (tC (.int 1))) tNil))) tNil)) (gName 4) tYes (tTup (tCons (tCall (spS R_l_take) [] E0 (tCons (tVar 0) (tCons (tC (.int 30)) tNil))) (tCons (tCall (spS R_l_place) [] E0 (tCons (tVar 0) (tCons (tVar 2) tNil))) tNil))) [4]) (gName 3))
    (tSeq (tAsg (tLc (iRng1 (tCons (tOp (rPlus K) (tC (.int 1)) (tCall (spS R_l_take) [] E0 (tCons (tVar 0) (tCons (tC (.int 4)) tNil)))) tNil)) (gName 4) tYes (tCall (spS R_l_place) [] E0 (tCons (tVar 0) (tCons (tVar 2) tNil))) [4]) (gName 5))
    (tRet (tTup (tCons (tVar 3) (tCons (tVar 5) (tCons (tOp (rPlus K) (tC (.int 1)) (tCall (spS R_l_take) [] E0 (tCons (tVar 0) (tCons (tC (.int 9)) tNil)))) tNil))))))))
/-- law: slots script 0, state 1, bursts 2, seats 3, speed 4, kept 5, seat 6, due 7, k 8, tick 9, place 10, pairs 11, i 12, j 13, s 14, one 15, other 16, ticks 17, gaps 18, span 19, window 20, counts 21, firsts 22, most 23, walls 24, back 25, b 26, w 27, axis 28, at 29, behind 30; own: back, pairs -/
abbrev N_law : List Str := ["script", "state", "bursts", "seats", "speed", "kept", "seat", "due", "k", "tick", "place", "pairs", "i", "j", "s", "one", "other", "ticks", "gaps", "span", "window", "counts", "firsts", "most", "walls", "back", "b", "w", "axis", "at", "behind"]
def T_law (K : PySem.W.Frag) (R_l_state : List D → (Stt → Prop) → Prop) (R_l_scene : Stt → List D → (D → Stt → Prop) → Prop) (R_heard : List D → (D → Prop) → Prop) (R_together : List D → (D → Prop) → Prop) (R_silent_span : List D → (D → Prop) → Prop) (R_l_take : Stt → List D → (D → Stt → Prop) → Prop) (R_ticks_for : List D → (D → Prop) → Prop) (R_l_ticks : List D → (D → Prop) → Prop) (R_loudest : List D → (D → Prop) → Prop) (R_echoes : List D → (D → Prop) → Prop) : TS :=
    (tSeq (tAsg (tCall (spN R_l_state) [] E0 (tCons (tVar 0) tNil)) (gName 1))
    (tSeq (tAsg (tCall (spS R_l_scene) [] E0 (tCons (tVar 1) (tCons (tC (.int 5)) tNil))) (gTup K 3 (gCons (gName 2) (gCons (gName 3) (gCons (gName 4) gNil)))))
    (tSeq (tAsg (tCB (rRepr K) (tCons (tTup (tCons (tVar 2) (tCons (tVar 3) tNil))) tNil)) (gName 5))
    (tSeq (tAsg (tOp (rIxA K) (tVar 3) (tC (.int 0))) (gName 6))
    (tSeq (tAsg (tCB (rSrD K) (tCons (tLc (iRng1 (tCons (tCB (rLen K) (tCons (tVar 2) tNil)) tNil)) (gName 8) tYes (tTup (tCons (tOp (rPlus K) (tOp (rIxA K) (tOp (rIxA K) (tVar 2) (tVar 8)) (tC (.int 0))) (tCall (spP R_l_ticks) [] E0 (tCons (tOp (rIxA K) (tOp (rIxA K) (tVar 2) (tVar 8)) (tC (.int 1))) (tCons (tVar 6) (tCons (tVar 4) tNil))))) (tCons (tVar 8) tNil))) [8]) tNil)) (gName 7))
    (tSeq (tIfS (tTest (tOp (rNeP K) (tCall (spP R_heard) [] E0 (tCons (tVar 2) (tCons (tVar 6) (tCons (tVar 4) tNil)))) (tVar 7)))
      (tRet (tC (.bl false)))
      tNext)
    (tSeq (tFor (iList K (tVar 2)) (gTup K 2 (gCons (gName 9) (gCons (gName 10) gNil)))
      (tIfS (tTest (tOp (rNeP K) (tCall (spP R_ticks_for) [] E0 (tCons (tVar 10) (tCons (tVar 6) (tCons (tVar 4) tNil)))) (tCall (spP R_l_ticks) [] E0 (tCons (tVar 10) (tCons (tVar 6) (tCons (tVar 4) tNil))))))
      (tRet (tC (.bl false)))
      tNext))
    (tSeq (tAsg (tLst tNil) (gName 11))
    (tSeq (tFor (iRng1 (tCons (tCB (rLen K) (tCons (tVar 2) tNil)) tNil)) (gName 12)
      (tFor (iRng2 (tCons (tOp (rPlus K) (tVar 12) (tC (.int 1))) (tCons (tCB (rLen K) (tCons (tVar 2) tNil)) tNil))) (gName 13)
      (tFor (iRng1 (tCons (tCB (rLen K) (tCons (tVar 3) tNil)) tNil)) (gName 14)
      (tSeq (tAsg (tOp (rPlus K) (tOp (rIxA K) (tOp (rIxA K) (tVar 2) (tVar 12)) (tC (.int 0))) (tCall (spP R_l_ticks) [] E0 (tCons (tOp (rIxA K) (tOp (rIxA K) (tVar 2) (tVar 12)) (tC (.int 1))) (tCons (tOp (rIxA K) (tVar 3) (tVar 14)) (tCons (tVar 4) tNil))))) (gName 15))
    (tSeq (tAsg (tOp (rPlus K) (tOp (rIxA K) (tOp (rIxA K) (tVar 2) (tVar 13)) (tC (.int 0))) (tCall (spP R_l_ticks) [] E0 (tCons (tOp (rIxA K) (tOp (rIxA K) (tVar 2) (tVar 13)) (tC (.int 1))) (tCons (tOp (rIxA K) (tVar 3) (tVar 14)) (tCons (tVar 4) tNil))))) (gName 16))
    (tDrop (tBM K "list" rExtR (tVar 11) (tCons (tIf (tTest (tOp (rEqP K) (tVar 15) (tVar 16))) (tLst (tCons (tTup (tCons (tVar 12) (tCons (tVar 13) (tCons (tVar 14) tNil)))) tNil)) (tLst tNil)) tNil))))))))
    (tSeq (tIfS (tTest (tOp (rNeP K) (tCall (spP R_together) [] E0 (tCons (tVar 2) (tCons (tVar 3) (tCons (tVar 4) tNil)))) (tCB (rSrD K) (tCons (tVar 11) tNil))))
      (tRet (tC (.bl false)))
      tNext)
    (tSeq (tAsg (tLc (iList K (tVar 7)) (gTup K 2 (gCons (gName 9) (gCons (gName 8) gNil))) tYes (tVar 9) [9, 8]) (gName 17))
    (tSeq (tAsg (tLc (iRng1 (tCons (tOp (rI0 fun i j => .int (i - j)) (tCB (rLen K) (tCons (tVar 17) tNil)) (tC (.int 1))) tNil)) (gName 8) tYes (tOp (rI0 fun i j => .int (i - j)) (tOp (rIxA K) (tVar 17) (tOp (rPlus K) (tVar 8) (tC (.int 1)))) (tOp (rIxA K) (tVar 17) (tVar 8))) [8]) (gName 18))
    (tSeq (tAsg (tIf (tAnd (tTest (tOp (rI0 fun i j => .bl (decide (j < i))) (tCB (rLen K) (tCons (tVar 18) tNil)) (tC (.int 0)))) (tTest (tOp (rI0 fun i j => .bl (decide (j < i))) (tCB (rMxD K) (tCons (tVar 18) tNil)) (tC (.int 0))))) (tTup (tCons (tCB (rMxD K) (tCons (tVar 18) tNil)) (tCons (tOp (rIxA K) (tVar 17) (tBM K "list" (rIndex K) (tVar 18) (tCons (tCB (rMxD K) (tCons (tVar 18) tNil)) tNil))) tNil))) (tTup (tCons (tC (.int 0)) (tCons (tC .non) tNil)))) (gName 19))
    (tSeq (tIfS (tTest (tOp (rNeP K) (tCall (spP R_silent_span) [] E0 (tCons (tVar 2) (tCons (tVar 6) (tCons (tVar 4) tNil)))) (tVar 19)))
      (tRet (tC (.bl false)))
      tNext)
    (tSeq (tAsg (tOp (rPlus K) (tC (.int 1)) (tCall (spS R_l_take) [] E0 (tCons (tVar 1) (tCons (tC (.int 12)) tNil)))) (gName 20))
    (tSeq (tAsg (tLc (iList K (tVar 17)) (gName 9) tYes (tCB (rLen K) (tCons (tLc (iList K (tVar 17)) (gName 15) (tTest (tChain (rI0 fun i j => .bl (decide (i ≤ j))) (rI0 fun i j => .bl (decide (i < j))) (tVar 9) (tVar 15) (tOp (rPlus K) (tVar 9) (tVar 20)))) (tVar 15) [15]) tNil)) [9]) (gName 21))
    (tSeq (tAsg (tLc (iRng1 (tCons (tCB (rLen K) (tCons (tVar 17) tNil)) tNil)) (gName 8) tYes (tCB (rLen K) (tCons (tLc (iList K (tSl (rSl K) (tVar 17) (tPart (tVar 8)) tNoPart)) (gName 15) (tTest (tOp (rI0 fun i j => .bl (decide (i < j))) (tVar 15) (tOp (rPlus K) (tOp (rIxA K) (tVar 17) (tVar 8)) (tVar 20)))) (tVar 15) [15]) tNil)) [8]) (gName 22))
    (tSeq (tAsg (tIf (tTest (tOp (rI0 fun i j => .bl (decide (j < i))) (tCB (rLen K) (tCons (tVar 22) tNil)) (tC (.int 0)))) (tTup (tCons (tCB (rMxD K) (tCons (tVar 22) tNil)) (tCons (tOp (rIxA K) (tVar 17) (tBM K "list" (rIndex K) (tVar 22) (tCons (tCB (rMxD K) (tCons (tVar 22) tNil)) tNil))) tNil))) (tTup (tCons (tC (.int 0)) (tCons (tC .non) tNil)))) (gName 23))
    (tSeq (tIfS (tOr (tTest (tOp (rNeP K) (tCall (spP R_loudest) [] E0 (tCons (tVar 2) (tCons (tVar 6) (tCons (tVar 4) (tCons (tVar 20) tNil))))) (tVar 23))) (tAnd (tTest (tOp (rI0 fun i j => .bl (decide (j < i))) (tCB (rLen K) (tCons (tVar 21) tNil)) (tC (.int 0)))) (tTest (tOp (rNeP K) (tCB (rMxD K) (tCons (tVar 21) tNil)) (tOp (rIxA K) (tVar 23) (tC (.int 0)))))))
      (tRet (tC (.bl false)))
      tNext)
    (tSeq (tAsg (tLc (iRng1 (tCons (tCall (spS R_l_take) [] E0 (tCons (tVar 1) (tCons (tC (.int 4)) tNil))) tNil)) (gName 8) tYes (tTup (tCons (tCall (spS R_l_take) [] E0 (tCons (tVar 1) (tCons (tC (.int 3)) tNil))) (tCons (tOp (rI0 fun i j => .int (i - j)) (tCall (spS R_l_take) [] E0 (tCons (tVar 1) (tCons (tC (.int 80)) tNil))) (tC (.int 10))) tNil))) [8]) (gName 24))
    (tSeq (tAsg (tLst tNil) (gName 25))
    (tSeq (tFor (iRng1 (tCons (tCB (rLen K) (tCons (tVar 2) tNil)) tNil)) (gName 26)
      (tSeq (tAsg (tOp (rIxA K) (tOp (rIxA K) (tVar 2) (tVar 26)) (tC (.int 1))) (gName 10))
    (tFor (iRng1 (tCons (tCB (rLen K) (tCons (tVar 24) tNil)) tNil)) (gName 27)
      (tSeq (tAsg (tOp (rIxA K) (tVar 24) (tVar 27)) (gTup K 2 (gCons (gName 28) (gCons (gName 29) gNil))))
    (tIfS (tOr (tAnd (tTest (tOp (rI0 fun i j => .bl (decide (i < j))) (tOp (rIxA K) (tVar 10) (tVar 28)) (tVar 29))) (tTest (tOp (rI0 fun i j => .bl (decide (i < j))) (tOp (rIxA K) (tVar 6) (tVar 28)) (tVar 29)))) (tAnd (tTest (tOp (rI0 fun i j => .bl (decide (j < i))) (tOp (rIxA K) (tVar 10) (tVar 28)) (tVar 29))) (tTest (tOp (rI0 fun i j => .bl (decide (j < i))) (tOp (rIxA K) (tVar 6) (tVar 28)) (tVar 29)))))
      (tSeq (tAsg (tCB (rTup K) (tCons (tLc (iRng1 (tCons (tC (.int 3)) tNil)) (gName 8) tYes (tIf (tTest (tOp (rEqP K) (tVar 8) (tVar 28))) (tOp (rI0 fun i j => .int (i - j)) (tOp (rI CMul fun i j => .int (i * j)) (tC (.int 2)) (tVar 29)) (tOp (rIxA K) (tVar 10) (tVar 8))) (tOp (rIxA K) (tVar 10) (tVar 8))) [8]) tNil)) (gName 30))
    (tSeq (tDrop (tBM K "list" rAppend (tVar 25) (tCons (tTup (tCons (tOp (rPlus K) (tOp (rIxA K) (tOp (rIxA K) (tVar 2) (tVar 26)) (tC (.int 0))) (tCall (spP R_l_ticks) [] E0 (tCons (tVar 30) (tCons (tVar 6) (tCons (tVar 4) tNil))))) (tCons (tVar 26) (tCons (tVar 27) tNil)))) tNil)))
    (tIfS (tTest (tOp (rI0 fun i j => .bl (decide (i < j))) (tOp (rIxA K) (tOp (rIxA K) (tVar 25) (tUn (rU fun i => .int (-i)) (tC (.int 1)))) (tC (.int 0))) (tOp (rPlus K) (tOp (rIxA K) (tOp (rIxA K) (tVar 2) (tVar 26)) (tC (.int 0))) (tCall (spP R_l_ticks) [] E0 (tCons (tVar 10) (tCons (tVar 6) (tCons (tVar 4) tNil)))))))
      (tRet (tC (.bl false)))
      tNext)))
      tNext)))))
    (tRet (tAndV (tOp (rEqP K) (tCall (spP R_echoes) [] E0 (tCons (tVar 2) (tCons (tVar 6) (tCons (tVar 24) (tCons (tVar 4) tNil))))) (tCB (rSrD K) (tCons (tVar 25) tNil))) (tOp (rEqP K) (tCB (rRepr K) (tCons (tTup (tCons (tVar 2) (tCons (tVar 3) tNil))) tNil)) (tVar 5))))))))))))))))))))))))))
end Law_k71
/-! k71: the plain functions -/
namespace Law_k71
open Pu
structure P3 where
  x : Int
  y : Int
  z : Int
def sqF (p q : P3) : Int := (p.x - q.x) * (p.x - q.x) + (p.y - q.y) * (p.y - q.y) + (p.z - q.z) * (p.z - q.z)
def reachesF (sq sp : Int) (k : Nat) : Bool := decide (sq ≤ (k : Int) * (k : Int) * sp * sp)
/-- the least ticks -/
structure IsT (sq sp : Int) (n : Nat) : Prop where
  hit : sq ≤ (n : Int) * (n : Int) * sp * sp
  less : ∀ k : Nat, k < n → (k : Int) * (k : Int) * sp * sp < sq
theorem IsT.uniq {sq sp : Int} {n m : Nat} (h : IsT sq sp n) (g : IsT sq sp m) : n = m := by
  rcases Nat.lt_trichotomy n m with q | q | q
  · have := g.less n q; have := h.hit; omega
  · exact q
  · have := h.less m q; have := g.hit; omega
def tF (sq sp : Int) : Nat := ((List.range (sq.toNat + 1)).find? (reachesF sq sp)).getD 0
theorem mul_self_le {a b : Int} (h0 : 0 ≤ a) (h : a ≤ b) : a * a ≤ b * b := Int.mul_le_mul h h h0 (by omega)
theorem scale_le {a b s : Int} (hs : 0 ≤ s) (h : a ≤ b) : a * s ≤ b * s := Int.mul_le_mul_of_nonneg_right h hs
theorem sq_mono {a b sp : Int} (h0 : 0 ≤ a) (h : a ≤ b) (hs : 0 ≤ sp) : a * a * sp * sp ≤ b * b * sp * sp := scale_le hs (scale_le hs (mul_self_le h0 h))
theorem grow {a sp : Int} (h0 : 0 ≤ a) (hs : 1 ≤ sp) : a ≤ a * sp := by
  have := Int.mul_le_mul_of_nonneg_left hs h0
  rw [Int.mul_one] at this
  exact this
theorem sq_le {a sp : Int} (h0 : 0 ≤ a) (hs : 1 ≤ sp) : a * a ≤ a * a * sp * sp := by
  have h1 : 0 ≤ a * a := Int.mul_nonneg h0 h0
  have h2 := grow h1 hs
  have h3 := grow (Int.le_trans h1 h2) hs
  omega
theorem t_small {a sp sq : Int} (h0 : 0 ≤ a) (hs : 1 ≤ sp) (hq : sq ≤ 1000000) (h : a * a * sp * sp < sq) : a < 1000 := by
  rcases Int.lt_or_le a 1000 with q | q
  · exact q
  · have h1 := sq_le h0 hs
    have h2 : (1000 : Int) * 1000 ≤ a * a := mul_self_le (by decide) q
    omega
theorem tF_is {sq sp : Int} (h0 : 0 ≤ sq) (hs : 1 ≤ sp) : IsT sq sp (tF sq sp) := by
  have hex : (List.range (sq.toNat + 1)).find? (reachesF sq sp) ≠ none := fun q => by
    have := List.find?_eq_none.mp q sq.toNat (List.mem_range.mpr (Nat.lt_succ_self _))
    refine this ?_
    unfold reachesF
    rw [decide_eq_true_eq]
    have e : ((sq.toNat : Nat) : Int) = sq := by omega
    rw [e]
    have h1 := sq_le h0 hs
    rcases Int.lt_or_le sq 1 with q2 | q2
    · have : sq = 0 := by omega
      subst this
      simp
    · have h2 : sq * 1 ≤ sq * sq := Int.mul_le_mul_of_nonneg_left q2 h0
      omega
  cases e : (List.range (sq.toNat + 1)).find? (reachesF sq sp) with
  | none => exact absurd e hex
  | some n =>
    have en : tF sq sp = n := by unfold tF; rw [e]; rfl
    rw [en]
    obtain ⟨h1, as, bs, h2, h3⟩ := List.find?_eq_some_iff_append.mp e
    refine ⟨of_decide_eq_true h1, fun k hk => ?_⟩
    have hr : List.range (sq.toNat + 1) = as ++ n :: bs := h2
    have hlen : as.length = n := by
      have g : (List.range (sq.toNat + 1))[as.length]? = some n := by rw [hr]; simp
      obtain ⟨g1, g2⟩ := List.getElem?_eq_some_iff.mp g
      rw [List.getElem_range] at g2
      exact g2
    have hkm : k ∈ as := by
      have g : (as ++ n :: bs)[k]? = some k := by
        rw [← hr]
        have hk2 : k < sq.toNat + 1 := by
          have : as.length < (List.range (sq.toNat + 1)).length := by rw [hr]; simp
          rw [List.length_range] at this
          omega
        rw [List.getElem?_range hk2]
      rw [List.getElem?_append_left (by omega)] at g
      exact List.mem_of_getElem? g
    have := h3 k hkm
    simp only [reachesF, Bool.not_eq_true', decide_eq_false_iff_not] at this
    omega
theorem sq_nonneg (p q : P3) : 0 ≤ sqF p q := by
  have h : ∀ a : Int, 0 ≤ a * a := fun a => by
    rcases Int.le_total 0 a with q | q
    · exact Int.mul_nonneg q q
    · exact Int.mul_nonneg_of_nonpos_of_nonpos q q
  have := h (p.x - q.x)
  have := h (p.y - q.y)
  have := h (p.z - q.z)
  unfold sqF
  omega
/-- places within bounds -/
def P3.ok (p : P3) : Prop := (-200 ≤ p.x ∧ p.x ≤ 200) ∧ (-200 ≤ p.y ∧ p.y ≤ 200) ∧ (-200 ≤ p.z ∧ p.z ≤ 200)
theorem sq_bound {p q : P3} (hp : p.ok) (hq : q.ok) : sqF p q ≤ 480000 := by
  have h : ∀ a : Int, -400 ≤ a → a ≤ 400 → a * a ≤ 160000 := fun a h1 h2 => by
    have e : a * a = (a.natAbs : Int) * (a.natAbs : Int) := (Int.natAbs_mul_self' a).symm
    rw [e]
    have := mul_self_le (a := (a.natAbs : Int)) (b := 400) (by omega) (by omega)
    omega
  obtain ⟨⟨_, _⟩, ⟨_, _⟩, _, _⟩ := hp
  obtain ⟨⟨_, _⟩, ⟨_, _⟩, _, _⟩ := hq
  have := h (p.x - q.x) (by omega) (by omega)
  have := h (p.y - q.y) (by omega) (by omega)
  have := h (p.z - q.z) (by omega) (by omega)
  unfold sqF
  omega
end Law_k71
namespace Law_k71
open PySem L2 Pu
local macro_rules | `(tactic| walk_at "e") => `(tactic| first
  | ((with_reducible refine nx_seq ?_); (try dsimp only [List.set_cons_succ, List.set_cons_zero]))
  | ((with_reducible refine ex_vr ?_); dsimp only [VQ, List.set_cons_succ, List.set_cons_zero, List.getElem?_cons_zero, List.getElem?_cons_succ]; (fail_if_success (with_reducible show False)))
  | (with_reducible refine sx_seq ?_)
  | (with_reducible refine sx_if ?_)
  | (with_reducible refine sx_next ?_)
  | (with_reducible refine sx_ret ?_)
  | ((fail_if_success (with_reducible refine sx_asgO (eo_lst ?_))); (with_reducible refine sx_asg ?_))
  | (with_reducible refine ex_int ?_)
  | (with_reducible refine ex_str ?_)
  | (with_reducible refine ex_bl ?_)
  | (with_reducible refine ex_non ?_)
  | (with_reducible refine ex_op ?_)
  | (with_reducible refine ex_un ?_)
  | (with_reducible refine ex_chain ?_)
  | (with_reducible refine ex_call ?_)
  | (with_reducible refine ex_isT ?_)
  | (with_reducible refine ex_cb ?_)
  | (with_reducible refine ex_sl ?_)
  | (with_reducible refine ex_tup ?_)
  | (with_reducible refine ex_if ?_)
  | (with_reducible refine ex_of (eo_lst ?_))
  | (with_reducible refine ex_notV ?_)
  | (with_reducible refine ea_nil ?_)
  | (with_reducible refine ea_cons ?_)
  | (with_reducible refine ep_no ?_)
  | (with_reducible refine ep_some ?_)
  | (with_reducible refine et_test ?_)
  | (with_reducible refine et_B ?_)
  | (with_reducible refine et_and ?_)
  | (with_reducible refine et_or ?_)
  | (with_reducible refine et_not ?_)
  | (with_reducible refine et_yes ?_)
  | (with_reducible refine opd_plusI ?_)
  | (with_reducible refine opd_I0 ?_)
  | (with_reducible refine opd_B0 ?_)
  | (with_reducible refine opd_eqI ?_)
  | (with_reducible refine opd_neI ?_)
  | (with_reducible refine opd_eqS ?_)
  | (with_reducible refine opd_neS ?_)
  | (with_reducible refine opd_is ?_)
  | (with_reducible refine opd_isnt ?_)
  | (with_reducible refine opd_ixT rfl ?_)
  | (with_reducible refine opd_ixL rfl ?_)
  | (with_reducible refine und_neg ?_)
  | (with_reducible refine cbd_lenL ?_)
  | (with_reducible refine cbd_lenT ?_)
  | (with_reducible refine cbd_min2 ?_)
  | (with_reducible refine cbd_max2 ?_)
  | (with_reducible refine cbd_abs ?_)
  | (with_reducible refine cbd_int ?_)
  | (with_reducible refine cbd_tupL ?_)
  | (with_reducible refine cbd_listL ?_)
  | (with_reducible refine cbd_listT ?_)
  | (with_reducible refine cbd_sum ?_)
  | (with_reducible refine sld_T ?_)
  | (with_reducible refine sld_L ?_)
  | (with_reducible refine ex_revL ?_)
  | (with_reducible refine ex_bmL ?_)
  | (with_reducible refine ex_andV ?_)
  | (with_reducible refine ei_list ?_)
  | (with_reducible refine ei_rng1 ?_)
  | (with_reducible refine ei_rng2 ?_)
  | (with_reducible refine ei_enum ?_)
  | (with_reducible refine ei_enumT ?_)
  | (with_reducible refine ei_zip ?_)
  | (with_reducible refine sx_par ?_)
  | (with_reducible refine Exists.intro _ (And.intro rfl ?_))
  | (with_reducible refine Exists.intro _ (Exists.intro _ (And.intro rfl ?_)))
  | ((with_reducible show EX (tCall (spS _) [] _ (tCons (tVar _) _)) _ _); refine ex_callS rfl ?_)
  | ((with_reducible refine And.intro (show (_ : Nat) ≤ 100000 from ?_) ?_); (focus (simp; done)))
  | ((with_reducible refine opd_I ?_ ?_); focus (first | omega | (show CDiv _ _; exact ⟨by omega, by omega⟩) | (show CMul _ _; first | exact Or.inl ⟨by omega, by omega⟩ | exact Or.inr ⟨by omega, by omega⟩))))
local macro_rules | `(tactic| walk_at "es") => `(tactic| repeat walk_at "e")
local macro_rules | `(tactic| walk_at "w") => `(tactic| try dsimp only [wipeE, List.foldl_cons, List.foldl_nil, List.set_cons_succ, List.set_cons_zero])
local macro_rules | `(tactic| walk_at "le") => `(tactic| repeat' first | exact LeE.nil | (refine LeE.eq rfl ?_) | (refine LeE.emp ?_) | (refine LeE.eq ?_ ?_))
local macro_rules | `(tactic| walk_at "no") => `(tactic| ((refine And.intro (fun hb => absurd hb ?_) (fun _ => ?_)); (focus (first | (exact Bool.false_ne_true) | (simp; done) | (simp; omega) | (simp only [decide_eq_true_eq]; omega)))))
local macro_rules | `(tactic| walk_at "yes") => `(tactic| ((refine And.intro (fun _ => ?_) (fun hb => absurd hb ?_)); (rotate_left); (focus (first | (exact Bool.noConfusion) | (simp; done) | (simp; omega) | (simp only [decide_eq_false_iff_not]; omega)))))
def encT3 (p : P3) : D := .tuple [.int p.x, .int p.y, .int p.z]
def R_apart : List D → (D → Prop) → Prop := fun ds Z => ∃ p q : P3, ds = [encT3 p, encT3 q] ∧ p.ok ∧ q.ok ∧ Z (.int (sqF p q))
theorem opd_pow2 {i : Int} {Q : D → Prop} (h : -1000 ≤ i ∧ i ≤ 1000) (k : Q (.int (i * i))) : OpD (rI CPow fun i j => .int (i ^ j.toNat)) (.int i) (.int 2) Q := by
  have e : i ^ (2 : Int).toNat = i * i := by
    show i ^ 2 = i * i
    rw [Int.pow_succ, Int.pow_succ, Int.pow_zero, Int.one_mul]
  refine opd_I (C := CPow) ⟨by omega, by omega, by omega⟩ ?_
  rw [e]
  exact k
theorem sx_apart (K : PySem.W.Frag) (ds : List D) (Z : D → Prop) (h : R_apart ds Z) : SX (T_apart K) (startE N_apart ds) { nx := fun _ => Z .none, rt := fun d _ => Z d } := by
  obtain ⟨p, q, rfl, ⟨⟨_, _⟩, ⟨_, _⟩, _, _⟩, ⟨⟨_, _⟩, ⟨_, _⟩, _, _⟩, z⟩ := h
  show SX (T_apart K) [.val (.tuple [.int p.x, .int p.y, .int p.z]), .val (.tuple [.int q.x, .int q.y, .int q.z])] _
  unfold T_apart
  walk_at "es"
  refine opd_pow2 (by omega) ?_
  walk_at "es"
  refine opd_pow2 (by omega) ?_
  walk_at "es"
  refine opd_pow2 (by omega) ?_
  walk_at "es"
  exact z
def R_ticks : List D → (D → Prop) → Prop := fun ds Z => ∃ (p q : P3) (sp : Int), ds = [encT3 p, encT3 q, .int sp] ∧ p.ok ∧ q.ok ∧ (1 ≤ sp ∧ sp ≤ 9) ∧ Z (.int (tF (sqF p q) sp : Int))
theorem sx_ticks_for (K : PySem.W.Frag) (ds : List D) (Z : D → Prop) (h : R_ticks ds Z) : SX (T_ticks_for K R_apart) (startE N_ticks_for ds) { nx := fun _ => Z .none, rt := fun d _ => Z d } := by
  obtain ⟨p, q, sp, rfl, hp, hq, ⟨hs1, hs2⟩, z⟩ := h
  show SX (T_ticks_for K R_apart) [.val (encT3 p), .val (encT3 q), .val (.int sp), .emp, .emp, .emp, .emp] _
  unfold T_ticks_for
  walk_at "es"
  refine ⟨p, q, rfl, hp, hq, ?_⟩
  have b0 := sq_nonneg p q
  have b1 := sq_bound hp hq
  have it := tF_is b0 hs1
  generalize sqF p q = sq at z b0 b1 it ⊢
  walk_at "es"
  refine sx_asgT (J := [4, 5]) ?_
  walk_at "es"
  refine sg_tup rfl (sgs_cons (sg_name (by simp) (sgs_cons (sg_name (by simp) (sgs_nil ?_)))))
  walk_at "w"
  walk_at "es"
  refine sx_while (fun m ρ' => ∃ hi : Int, 1 ≤ hi ∧ hi ≤ 2000 ∧ m = (2000 - hi).toNat ∧ ρ' = [.val (encT3 p), .val (encT3 q), .val (.int sp), .val (.int sq), .val (.int 0), .val (.int hi), .emp]) _ ⟨1, by omega, by omega, rfl, rfl⟩ ?_
  rintro m ρ' ⟨hi, h1, h2, rfl, rfl⟩
  walk_at "es"
  refine ⟨fun hb => ?_, fun hb => ?_⟩
  · have hb := of_decide_eq_true hb
    have hsm := t_small (by omega) hs1 (by omega) hb
    walk_at "es"
    refine ⟨_, ?_, (2000 - 2 * hi).toNat, by omega, 2 * hi, by omega, by omega, rfl, rfl⟩
    walk_at "le"
  have hb := of_decide_eq_false hb
  walk_at "es"
  refine sx_while (fun m ρ' => ∃ lo hi : Int, 0 ≤ lo ∧ lo ≤ hi ∧ hi ≤ 2000 ∧ (∀ k : Nat, (k : Int) < lo → (k : Int) * (k : Int) * sp * sp < sq) ∧ sq ≤ hi * hi * sp * sp ∧ m = (hi - lo).toNat ∧ ρ' = [.val (encT3 p), .val (encT3 q), .val (.int sp), .val (.int sq), .val (.int lo), .val (.int hi), .emp]) _ ⟨0, hi, by omega, by omega, by omega, (fun k hk => by omega), by omega, rfl, rfl⟩ ?_
  rintro m ρ' ⟨lo, hi, g1, g2, g3, g4, g5, rfl, rfl⟩
  walk_at "es"
  refine ⟨fun hc => ?_, fun hc => ?_⟩
  · have hc := of_decide_eq_true hc
    walk_at "es"
    have m1 : lo ≤ (lo + hi) / 2 := by omega
    have m2 : (lo + hi) / 2 < hi := by omega
    generalize (lo + hi) / 2 = mid at m1 m2
    refine ⟨fun hd => ?_, fun hd => ?_⟩
    · have hd := of_decide_eq_true hd
      walk_at "es"
      refine ⟨_, ?_, (mid - lo).toNat, by omega, lo, mid, by omega, by omega, by omega, g4, hd, rfl, rfl⟩
      walk_at "le"
    · have hd := of_decide_eq_false hd
      walk_at "es"
      refine ⟨_, ?_, (hi - (mid + 1)).toNat, by omega, mid + 1, hi, by omega, by omega, by omega, (fun k hk => ?_), g5, rfl, rfl⟩
      · walk_at "le"
      · have := sq_mono (a := (k : Int)) (b := mid) (sp := sp) (by omega) (by omega) (by omega)
        omega
  · have hc := of_decide_eq_false hc
    walk_at "es"
    have e : lo = hi := by omega
    subst e
    have en : ((lo.toNat : Nat) : Int) = lo := by omega
    have h : IsT sq sp lo.toNat := ⟨by rw [en]; exact g5, fun k hk => g4 k (by omega)⟩
    rw [it.uniq h, en] at z
    exact z
theorem sx_l_ticks (K : PySem.W.Frag) (ds : List D) (Z : D → Prop) (h : R_ticks ds Z) : SX (T_l_ticks K) (startE N_l_ticks ds) { nx := fun _ => Z .none, rt := fun d _ => Z d } := by
  obtain ⟨p, q, sp, rfl, hp, hq, ⟨hs1, hs2⟩, z⟩ := h
  show SX (T_l_ticks K) [.val (.tuple [.int p.x, .int p.y, .int p.z]), .val (.tuple [.int q.x, .int q.y, .int q.z]), .val (.int sp), .emp, .emp, .emp] _
  unfold T_l_ticks
  walk_at "es"
  have b0 := sq_nonneg p q
  have b1 := sq_bound hp hq
  have it := tF_is b0 hs1
  obtain ⟨⟨_, _⟩, ⟨_, _⟩, _, _⟩ := id hp
  obtain ⟨⟨_, _⟩, ⟨_, _⟩, _, _⟩ := id hq
  refine ex_of (eo_lcP (α := Int) (fun _ => true) (fun k => .int (if k = 0 then (p.x - q.x) * (p.x - q.x) else if k = 1 then (p.y - q.y) * (p.y - q.y) else (p.z - q.z) * (p.z - q.z))) (ei_rng1 ?_))
  walk_at "es"
  refine ⟨by omega, _, PyData.int, rfl, by rw [rngI_len]; decide, fun i hi => by simp at hi; subst hi; rfl, fun k hk => sg_name (by simp) ⟨rfl, ?_⟩, ?_⟩
  · have hk := rngI_mem.mp hk
    have h3 : (((3 : Int).toNat : Nat) : Int) = 3 := by decide
    rw [h3] at hk
    walk_at "w"
    rcases (show k = 0 ∨ k = 1 ∨ k = 2 by omega) with rfl | rfl | rfl
    · walk_at "es"
      refine ⟨rfl, rfl, fun _ => ?_⟩
      walk_at "es"
      exact ⟨rfl, rfl⟩
    · walk_at "es"
      refine ⟨rfl, rfl, fun _ => ?_⟩
      walk_at "es"
      exact ⟨rfl, rfl⟩
    · walk_at "es"
      refine ⟨rfl, rfl, fun _ => ?_⟩
      walk_at "es"
      exact ⟨rfl, rfl⟩
  have e3 : ((rngI 0 (Int.toNat 3)).filter fun _ => true).map (fun k : Int => PyData.int (if k = 0 then (p.x - q.x) * (p.x - q.x) else if k = 1 then (p.y - q.y) * (p.y - q.y) else (p.z - q.z) * (p.z - q.z))) = [(p.x - q.x) * (p.x - q.x), (p.y - q.y) * (p.y - q.y), (p.z - q.z) * (p.z - q.z)].map .int := rfl
  rw [e3]
  walk_at "es"
  have es : [(p.x - q.x) * (p.x - q.x), (p.y - q.y) * (p.y - q.y), (p.z - q.z) * (p.z - q.z)].sum = sqF p q := by
    unfold sqF
    simp only [List.sum_cons, List.sum_nil]
    omega
  rw [es]
  generalize sqF p q = sq at z b0 b1 it ⊢
  refine sx_while (fun m ρ' => ∃ t : Nat, t ≤ 1000 ∧ m = 1000 - t ∧ (∀ k : Nat, k < t → (k : Int) * (k : Int) * sp * sp < sq) ∧ ρ' = [.val (.tuple [.int p.x, .int p.y, .int p.z]), .val (.tuple [.int q.x, .int q.y, .int q.z]), .val (.int sp), .val (.int sq), .emp, .val (.int (t : Int))]) _ ⟨0, by omega, rfl, (fun k hk => by omega), rfl⟩ ?_
  rintro m ρ' ⟨t, h1, rfl, h2, rfl⟩
  walk_at "es"
  refine ⟨fun hb => ?_, fun hb => ?_⟩
  · have hb := of_decide_eq_true hb
    have hsm := t_small (by omega) hs1 (by omega) hb
    walk_at "es"
    refine ⟨_, ?_, 1000 - (t + 1), by omega, t + 1, by omega, rfl, (fun k hk => ?_), rfl⟩
    · walk_at "le"
    · rcases (show k < t ∨ k = t by omega) with q | q
      · exact h2 k q
      · rw [q]; exact hb
  · have hb := of_decide_eq_false hb
    walk_at "es"
    have h : IsT sq sp t := ⟨by omega, h2⟩
    rw [it.uniq h] at z
    exact z
def R_place : Stt → List D → (D → Stt → Prop) → Prop := fun S ds Z => ∃ size : Int, ds = [.int size] ∧ (1 ≤ size ∧ size ≤ 60) ∧ Ok S ∧ ∀ (p : P3) (S' : Stt), ((0 ≤ p.x ∧ p.x < 60) ∧ (0 ≤ p.y ∧ p.y < 60) ∧ (0 ≤ p.z ∧ p.z < 60)) → Ok S' → Z (encT3 p) S'
theorem sx_l_place (K : PySem.W.Frag) (S : Stt) (ds : List D) (Z : D → Stt → Prop) (h : R_place S ds Z) :
    SX (T_l_place K R_take) (.st S :: (ds.map .val ++ List.replicate (N_l_place.length - (ds.length + 1)) .emp)) { nx := fun ρ' => ∃ S', ρ'[0]? = some (.st S') ∧ Z .none S', rt := fun d ρ' => ∃ S', ρ'[0]? = some (.st S') ∧ Z d S' } := by
  obtain ⟨size, rfl, ⟨s1, s2⟩, ok, z⟩ := h
  show SX (T_l_place K R_take) [.st S, .val (.int size)] _
  unfold T_l_place
  walk_at "es"
  refine ⟨size, rfl, by omega, by omega, ok, fun x S1 x0 x1 ok1 => ?_⟩
  walk_at "es"
  refine ⟨size, rfl, by omega, by omega, ok1, fun y S2 y0 y1 ok2 => ?_⟩
  walk_at "es"
  refine ⟨size, rfl, by omega, by omega, ok2, fun w S3 w0 w1 ok3 => ?_⟩
  walk_at "es"
  exact z ⟨x, y, w⟩ S3 ⟨⟨x0, by simp only; omega⟩, ⟨y0, by simp only; omega⟩, w0, by simp only; omega⟩ ok3
/-- a burst: tick, place -/
structure Bu where
  t : Int
  p : P3
def encB (b : Bu) : D := .tuple [.int b.t, encT3 b.p]
def P3.near (p : P3) : Prop := (0 ≤ p.x ∧ p.x < 60) ∧ (0 ≤ p.y ∧ p.y < 60) ∧ (0 ≤ p.z ∧ p.z < 60)
theorem P3.near.ok {p : P3} (h : p.near) : p.ok := by
  obtain ⟨⟨_, _⟩, ⟨_, _⟩, _, _⟩ := h
  exact ⟨by omega, by omega, by omega⟩
def Bu.ok (b : Bu) : Prop := (0 ≤ b.t ∧ b.t < 30) ∧ b.p.near
def Burs (bs : List Bu) : Prop := bs.length ≤ 5 ∧ ∀ b ∈ bs, b.ok
def Seats (ss : List P3) : Prop := (1 ≤ ss.length ∧ ss.length ≤ 4) ∧ ∀ p ∈ ss, p.near
def R_scene : Stt → List D → (D → Stt → Prop) → Prop := fun S ds Z => ds = [.int 5] ∧ Ok S ∧ ∀ (bs : List Bu) (ss : List P3) (sp : Int) (S' : Stt), Burs bs → Seats ss → (1 ≤ sp ∧ sp ≤ 9) → Ok S' → Z (.tuple [.list (bs.map encB), .list (ss.map encT3), .int sp]) S'
def T_scene_rest (K : PySem.W.Frag) : TS :=
    (tSeq (tAsg (tLc (iRng1 (tCons (tCall (spS R_take) [] E0 (tCons (tVar 0) (tCons (tOp (rPlus K) (tVar 1) (tC (.int 1))) tNil))) tNil)) (gName 4) tYes (tTup (tCons (tCall (spS R_take) [] E0 (tCons (tVar 0) (tCons (tC (.int 30)) tNil))) (tCons (tCall (spS R_place) [] E0 (tCons (tVar 0) (tCons (tVar 2) tNil))) tNil))) [4]) (gName 3))
    (tSeq (tAsg (tLc (iRng1 (tCons (tOp (rPlus K) (tC (.int 1)) (tCall (spS R_take) [] E0 (tCons (tVar 0) (tCons (tC (.int 4)) tNil)))) tNil)) (gName 4) tYes (tCall (spS R_place) [] E0 (tCons (tVar 0) (tCons (tVar 2) tNil))) [4]) (gName 5))
    (tRet (tTup (tCons (tVar 3) (tCons (tVar 5) (tCons (tOp (rPlus K) (tC (.int 1)) (tCall (spS R_take) [] E0 (tCons (tVar 0) (tCons (tC (.int 9)) tNil)))) tNil)))))))
theorem sx_l_scene (K : PySem.W.Frag) (S : Stt) (ds : List D) (Z : D → Stt → Prop) (h : R_scene S ds Z) :
    SX (T_l_scene K R_take R_place) (.st S :: (ds.map .val ++ List.replicate (N_l_scene.length - (ds.length + 1)) .emp)) { nx := fun ρ' => ∃ S', ρ'[0]? = some (.st S') ∧ Z .none S', rt := fun d ρ' => ∃ S', ρ'[0]? = some (.st S') ∧ Z d S' } := by
  obtain ⟨rfl, ok, z⟩ := h
  show SX (T_l_scene K R_take R_place) [.st S, .val (.int 5), .emp, .emp, .emp, .emp] _
  unfold T_l_scene
  walk_at "es"
  refine ⟨2, rfl, by omega, by omega, ok, fun r S1 r0 r1 ok1 => ?_⟩
  have rest : ∀ size : Int, 1 ≤ size ∧ size ≤ 60 → SX (T_scene_rest K) [.st S1, .val (.int 5), .val (.int size), .emp, .emp, .emp] { nx := fun ρ' => ∃ S', ρ'[0]? = some (.st S') ∧ Z .none S', rt := fun d ρ' => ∃ S', ρ'[0]? = some (.st S') ∧ Z d S' } := fun size hsz => by
    unfold T_scene_rest
    refine sx_seq (sx_asg (ex_of (eo_lc (ei_rng1 ?_))))
    walk_at "es"
    refine ⟨6, rfl, by omega, by omega, ok1, fun m S2 m0 m1 ok2 => ?_⟩
    walk_at "es"
    refine ⟨by omega, fun k acc ρ' => ∃ (bs : List Bu) (S : Stt), bs.length = k ∧ (∀ b ∈ bs, b.ok) ∧ Ok S ∧ acc = bs.map encB ∧ ρ' = [.st S, .val (.int 5), .val (.int size), .emp, .emp, .emp], ⟨[], S2, rfl, (fun b hb => by cases hb), ok2, rfl, rfl⟩, ?_, ?_⟩
    · rintro k dd acc ρ' hd0 ⟨bs, S3, hl, hg, ok3, rfl, rfl⟩
      obtain ⟨hk, rfl⟩ := rng_at hd0
      refine ⟨(fun i hi => by simp at hi; subst hi; rfl), by rw [List.length_map]; omega, sg_name (by simp) ?_⟩
      walk_at "w"
      refine et_yes ⟨fun _ => ?_, (fun q => by cases q)⟩
      walk_at "es"
      refine ⟨30, rfl, by omega, by omega, ok3, fun t S4 t0 t1 ok4 => ?_⟩
      walk_at "es"
      refine ⟨size, rfl, hsz, ok4, fun p S5 hp ok5 => ?_⟩
      walk_at "es"
      refine ⟨bs ++ [⟨t, p⟩], S5, by simp [hl], ?_, ok5, by rw [List.map_append]; rfl, rfl⟩
      intro b hb
      rcases List.mem_append.mp hb with hb | hb
      · exact hg b hb
      · rw [List.mem_singleton.mp hb]
        exact ⟨⟨t0, t1⟩, hp⟩
    rintro acc ρ' ⟨bs, S3, hl, hg, ok3, rfl, rfl⟩
    rw [rng_size] at hl
    walk_at "es"
    refine ex_of (eo_lc (ei_rng1 ?_))
    walk_at "es"
    refine ⟨4, rfl, by omega, by omega, ok3, fun n S4 n0 n1 ok4 => ?_⟩
    walk_at "es"
    refine ⟨by omega, fun k acc ρ' => ∃ (ss : List P3) (S : Stt), ss.length = k ∧ (∀ b ∈ ss, b.near) ∧ Ok S ∧ acc = ss.map encT3 ∧ ρ' = [.st S, .val (.int 5), .val (.int size), .val (.list (bs.map encB)), .emp, .emp], ⟨[], S4, rfl, (fun b hb => by cases hb), ok4, rfl, rfl⟩, ?_, ?_⟩
    · rintro k dd acc ρ' hd0 ⟨ss, S5, hl2, hg2, ok5, rfl, rfl⟩
      obtain ⟨hk, rfl⟩ := rng_at hd0
      refine ⟨(fun i hi => by simp at hi; subst hi; rfl), by rw [List.length_map]; omega, sg_name (by simp) ?_⟩
      walk_at "w"
      refine et_yes ⟨fun _ => ?_, (fun q => by cases q)⟩
      walk_at "es"
      refine ⟨size, rfl, hsz, ok5, fun p S6 hp ok6 => ?_⟩
      refine ⟨ss ++ [p], S6, by simp [hl2], ?_, ok6, by rw [List.map_append]; rfl, rfl⟩
      intro b hb
      rcases List.mem_append.mp hb with hb | hb
      · exact hg2 b hb
      · rw [List.mem_singleton.mp hb]
        exact hp
    rintro acc ρ' ⟨ss, S5, hl2, hg2, ok5, rfl, rfl⟩
    rw [rng_size] at hl2
    walk_at "es"
    refine ⟨9, rfl, by omega, by omega, ok5, fun v S6 v0 v1 ok6 => ?_⟩
    walk_at "es"
    exact z bs ss (1 + v) S6 ⟨by omega, hg⟩ ⟨⟨by omega, by omega⟩, hg2⟩ ⟨by omega, by omega⟩ ok6
  rcases (show r = 0 ∨ r = 1 by omega) with rfl | rfl
  · exact opd_ixL (d := .int 6) rfl (nx_seq (rest 6 (by omega)))
  · exact opd_ixL (d := .int 60) rfl (nx_seq (rest 60 (by omega)))
end Law_k71
namespace Law_k71
open PySem L2 Pu
local macro_rules | `(tactic| walk_at "e") => `(tactic| first
  | ((with_reducible refine nx_seq ?_); (try dsimp only [List.set_cons_succ, List.set_cons_zero]))
  | ((with_reducible refine ex_vr ?_); dsimp only [VQ, List.set_cons_succ, List.set_cons_zero, List.getElem?_cons_zero, List.getElem?_cons_succ]; (fail_if_success (with_reducible show False)))
  | (with_reducible refine sx_seq ?_)
  | (with_reducible refine sx_if ?_)
  | (with_reducible refine sx_next ?_)
  | (with_reducible refine sx_ret ?_)
  | ((fail_if_success (with_reducible refine sx_asgO (eo_lst ?_))); (with_reducible refine sx_asg ?_))
  | (with_reducible refine ex_int ?_)
  | (with_reducible refine ex_str ?_)
  | (with_reducible refine ex_bl ?_)
  | (with_reducible refine ex_non ?_)
  | (with_reducible refine ex_op ?_)
  | (with_reducible refine ex_un ?_)
  | (with_reducible refine ex_chain ?_)
  | (with_reducible refine ex_call ?_)
  | (with_reducible refine ex_isT ?_)
  | (with_reducible refine ex_cb ?_)
  | (with_reducible refine ex_sl ?_)
  | (with_reducible refine ex_tup ?_)
  | (with_reducible refine ex_if ?_)
  | (with_reducible refine ex_of (eo_lst ?_))
  | (with_reducible refine ex_notV ?_)
  | (with_reducible refine ea_nil ?_)
  | (with_reducible refine ea_cons ?_)
  | (with_reducible refine ep_no ?_)
  | (with_reducible refine ep_some ?_)
  | (with_reducible refine et_test ?_)
  | (with_reducible refine et_B ?_)
  | (with_reducible refine et_and ?_)
  | (with_reducible refine et_or ?_)
  | (with_reducible refine et_not ?_)
  | (with_reducible refine et_yes ?_)
  | (with_reducible refine opd_plusI ?_)
  | (with_reducible refine opd_I0 ?_)
  | (with_reducible refine opd_B0 ?_)
  | (with_reducible refine opd_eqI ?_)
  | (with_reducible refine opd_neI ?_)
  | (with_reducible refine opd_eqS ?_)
  | (with_reducible refine opd_neS ?_)
  | (with_reducible refine opd_is ?_)
  | (with_reducible refine opd_isnt ?_)
  | (with_reducible refine opd_ixT rfl ?_)
  | (with_reducible refine opd_ixL rfl ?_)
  | (with_reducible refine und_neg ?_)
  | (with_reducible refine cbd_lenL ?_)
  | (with_reducible refine cbd_lenT ?_)
  | (with_reducible refine cbd_min2 ?_)
  | (with_reducible refine cbd_max2 ?_)
  | (with_reducible refine cbd_abs ?_)
  | (with_reducible refine cbd_int ?_)
  | (with_reducible refine cbd_tupL ?_)
  | (with_reducible refine cbd_listL ?_)
  | (with_reducible refine cbd_listT ?_)
  | (with_reducible refine cbd_sum ?_)
  | (with_reducible refine sld_T ?_)
  | (with_reducible refine sld_L ?_)
  | (with_reducible refine ex_revL ?_)
  | (with_reducible refine ex_bmL ?_)
  | (with_reducible refine ex_andV ?_)
  | (with_reducible refine ei_list ?_)
  | (with_reducible refine ei_rng1 ?_)
  | (with_reducible refine ei_rng2 ?_)
  | (with_reducible refine ei_enum ?_)
  | (with_reducible refine ei_enumT ?_)
  | (with_reducible refine ei_zip ?_)
  | (with_reducible refine sx_par ?_)
  | (with_reducible refine Exists.intro _ (And.intro rfl ?_))
  | (with_reducible refine Exists.intro _ (Exists.intro _ (And.intro rfl ?_)))
  | ((with_reducible show EX (tCall (spS _) [] _ (tCons (tVar _) _)) _ _); refine ex_callS rfl ?_)
  | ((with_reducible refine And.intro (show (_ : Nat) ≤ 100000 from ?_) ?_); (focus (simp; done)))
  | ((with_reducible refine opd_I ?_ ?_); focus (first | omega | (show CDiv _ _; exact ⟨by omega, by omega⟩) | (show CMul _ _; first | exact Or.inl ⟨by omega, by omega⟩ | exact Or.inr ⟨by omega, by omega⟩))))
local macro_rules | `(tactic| walk_at "es") => `(tactic| repeat walk_at "e")
local macro_rules | `(tactic| walk_at "w") => `(tactic| try dsimp only [wipeE, List.foldl_cons, List.foldl_nil, List.set_cons_succ, List.set_cons_zero])
local macro_rules | `(tactic| walk_at "le") => `(tactic| repeat' first | exact LeE.nil | (refine LeE.eq rfl ?_) | (refine LeE.emp ?_) | (refine LeE.eq ?_ ?_))
local macro_rules | `(tactic| walk_at "no") => `(tactic| ((refine And.intro (fun hb => absurd hb ?_) (fun _ => ?_)); (focus (first | (exact Bool.false_ne_true) | (simp; done) | (simp; omega) | (simp only [decide_eq_true_eq]; omega)))))
local macro_rules | `(tactic| walk_at "yes") => `(tactic| ((refine And.intro (fun _ => ?_) (fun hb => absurd hb ?_)); (rotate_left); (focus (first | (exact Bool.noConfusion) | (simp; done) | (simp; omega) | (simp only [decide_eq_false_iff_not]; omega)))))
theorem take_snoc {α : Type} {l : List α} {k : Nat} {x : α} (h : l[k]? = some x) : l.take (k + 1) = l.take k ++ [x] := by rw [List.take_add_one, h]; rfl
def rowOf (seat : P3) (sp : Int) (b : Bu × Nat) : Int × Int := (b.1.t + (tF (sqF b.1.p seat) sp : Int), (b.2 : Int))
def leP (a b : Int × Int) : Bool := !ltP b a
def rowsF (bs : List Bu) (seat : P3) (sp : Int) : List (Int × Int) := bs.zipIdx.map (rowOf seat sp)
def heardF (bs : List Bu) (seat : P3) (sp : Int) : List (Int × Int) := (rowsF bs seat sp).mergeSort leP
theorem sortD_P (xs : List (Int × Int)) : sortD (xs.map encP) = (xs.mergeSort leP).map encP := by
  have e := PySem.W.sort_maps (r := leP) (s := PySem.W.dataLe false id) encP (l := xs) (fun a _ b _ => by
    show (!ltP b a) = (!PySem.W.dataLt (encP b) (encP a))
    rw [dataLt_P])
  exact e.symm
theorem alike_PP (xs : List (Int × Int)) : PySem.W.AllAlike (xs.map encP) := fun x hx y hy => by
  obtain ⟨a, _, rfl⟩ := List.mem_map.mp hx
  obtain ⟨b, _, rfl⟩ := List.mem_map.mp hy
  rfl
theorem sortable_P (xs : List (Int × Int)) : PySem.W.Sortable (xs.map encP) := .inl fun x hx => by
  obtain ⟨a, _, rfl⟩ := List.mem_map.mp hx
  exact ⟨_, _, rfl⟩
theorem deep_P (xs : List (Int × Int)) : PyData.depthAll (xs.map encP) ≤ 60 := depthAll_le (dpn_map fun x _ => dpn_tup (dpn_cons dpn_int (dpn_cons dpn_int dpn_nil)))
theorem enum_zip {α : Type} (f : α → D) : ∀ (k : Nat) (xs : List α), enumD k (xs.map f) = (xs.zipIdx k).map fun p => .tuple [.int (p.2 : Int), f p.1]
  | _, [] => rfl
  | k, x :: xs => by
    rw [List.map_cons, List.zipIdx_cons, List.map_cons, ← enum_zip f (k + 1) xs]
    rfl
def R_heard : List D → (D → Prop) → Prop := fun ds Z => ∃ (bs : List Bu) (seat : P3) (sp : Int), ds = [.list (bs.map encB), encT3 seat, .int sp] ∧ Burs bs ∧ seat.near ∧ (1 ≤ sp ∧ sp ≤ 9) ∧ Z (.list ((heardF bs seat sp).map encP))
theorem sx_heard (K : PySem.W.Frag) (ds : List D) (Z : D → Prop) (h : R_heard ds Z) : SX (T_heard K R_ticks) (startE N_heard ds) { nx := fun _ => Z .none, rt := fun d _ => Z d } := by
  obtain ⟨bs, seat, sp, rfl, ⟨hl, hg⟩, hse, hsp, z⟩ := h
  show SX (T_heard K R_ticks) [.val (.list (bs.map encB)), .val (encT3 seat), .val (.int sp), .emp, .emp, .emp] _
  unfold T_heard
  walk_at "es"
  refine ex_of (eo_lcP (α := Bu × Nat) (fun _ => true) (fun b => encP (rowOf seat sp b)) (ei_enum ?_))
  walk_at "es"
  refine ⟨_, _, enum_zip encB 0 bs, by rw [List.length_zipIdx]; omega, fun i hi => by simp at hi; rcases hi with rfl | rfl | rfl <;> rfl, fun b hb => ?_, ?_⟩
  · have hb := hg b.1 (List.fst_mem_of_mem_zipIdx hb)
    refine sg_tup rfl (sgs_cons (sg_name (by simp) (sgs_cons (sg_tup rfl (sgs_cons (sg_name (by simp) (sgs_cons (sg_name (by simp) (sgs_nil (sgs_nil ⟨rfl, ?_⟩))))))))))
    walk_at "w"
    walk_at "es"
    refine ⟨rfl, rfl, fun _ => ?_⟩
    walk_at "es"
    refine ⟨b.1.p, seat, sp, rfl, hb.2.ok, hse.ok, hsp, ?_⟩
    walk_at "es"
    exact ⟨rfl, rfl⟩
  · rw [List.filter_eq_self.mpr (fun _ _ => rfl)]
    have e : (bs.zipIdx.map fun b => encP (rowOf seat sp b)) = (rowsF bs seat sp).map encP := by unfold rowsF; rw [List.map_map]; rfl
    rw [e]
    walk_at "es"
    refine cbd_sortD (alike_PP _) (sortable_P _) (deep_P _) ?_
    rw [sortD_P]
    exact z
/-! the first greatest -/
abbrev Best : Type := Int × Option Int
def stepB (b : Best) (p : Int × Int) : Best := if b.1 < p.1 then (p.1, some p.2) else b
def foldB (l : List (Int × Int)) : Best := l.foldl stepB (0, none)
theorem foldB_snoc (l : List (Int × Int)) (p : Int × Int) : foldB (l ++ [p]) = stepB (foldB l) p := by unfold foldB; rw [List.foldl_append]; rfl
theorem foldMax_ge : ∀ (l : List Int) (a : Int), a ≤ l.foldl max a ∧ ∀ x ∈ l, x ≤ l.foldl max a
  | [], a => ⟨Int.le_refl _, fun x hx => by cases hx⟩
  | b :: l, a => by
    have h := foldMax_ge l (max a b)
    refine ⟨?_, fun x hx => ?_⟩
    · have := h.1
      simp only [List.foldl_cons]
      omega
    · simp only [List.foldl_cons]
      rcases List.mem_cons.mp hx with rfl | hx
      · have := h.1
        omega
      · exact h.2 x hx
theorem foldMax_in : ∀ (l : List Int) (a : Int), l.foldl max a ∈ a :: l
  | [], a => by simp
  | b :: l, a => by
    have h := foldMax_in l (max a b)
    simp only [List.foldl_cons]
    rcases List.mem_cons.mp h with h | h
    · rw [h]
      by_cases q : a ≤ b
      · rw [Int.max_eq_right q]; simp
      · rw [Int.max_eq_left (by omega)]; simp
    · simp [h]
theorem max_mem {l : List Int} (h : 0 < l.length) : foldMax l ∈ l := by
  cases l with
  | nil => cases h
  | cons a l => exact foldMax_in l a
theorem max_ge {l : List Int} {x : Int} (h : x ∈ l) : x ≤ foldMax l := by
  cases l with
  | nil => cases h
  | cons a l =>
    have g := foldMax_ge l a
    rcases List.mem_cons.mp h with rfl | h
    · exact g.1
    · exact g.2 x h
theorem max_snoc {l : List Int} (h : 0 < l.length) (x : Int) : foldMax (l ++ [x]) = max (foldMax l) x := by
  cases l with
  | nil => cases h
  | cons a l => simp [foldMax, List.foldl_append]
def bestF (l : List (Int × Int)) : Best := if 0 < l.length ∧ 0 < foldMax (l.map Prod.fst) then (foldMax (l.map Prod.fst), some ((l.map Prod.snd).getD ((l.map Prod.fst).idxOf (foldMax (l.map Prod.fst))) 0)) else (0, none)
theorem bestF_snoc (l : List (Int × Int)) (p : Int × Int) : bestF (l ++ [p]) = stepB (bestF l) p := by
  have ml : ((l ++ [p]).map Prod.fst) = l.map Prod.fst ++ [p.1] := by simp
  have ms : ((l ++ [p]).map Prod.snd) = l.map Prod.snd ++ [p.2] := by simp
  have len : (l.map Prod.fst).length = l.length := List.length_map _
  have lens : (l.map Prod.snd).length = l.length := List.length_map _
  by_cases c0 : 0 < l.length
  · have mx : foldMax ((l ++ [p]).map Prod.fst) = max (foldMax (l.map Prod.fst)) p.1 := by rw [ml, max_snoc (by omega)]
    have fresh : foldMax (l.map Prod.fst) < p.1 → ((l ++ [p]).map Prod.fst).idxOf p.1 = l.length := fun h => by
      have hn : p.1 ∉ l.map Prod.fst := fun hm => by have := max_ge hm; omega
      rw [ml, List.idxOf_append, if_neg hn, len]
      simp
    have got : ((l ++ [p]).map Prod.snd).getD l.length 0 = p.2 := by
      rw [ms, List.getD_eq_getElem?_getD, List.getElem?_append_right (by omega), lens]
      simp
    unfold bestF stepB
    rw [mx]
    by_cases c1 : 0 < foldMax (l.map Prod.fst)
    · rw [if_pos (⟨c0, c1⟩ : 0 < l.length ∧ 0 < foldMax (l.map Prod.fst))]
      rw [if_pos (⟨by simp, by omega⟩ : 0 < (l ++ [p]).length ∧ 0 < max (foldMax (l.map Prod.fst)) p.1)]
      simp only
      by_cases c2 : foldMax (l.map Prod.fst) < p.1
      · rw [if_pos c2, Int.max_eq_right (by omega), fresh c2, got]
      · rw [if_neg c2, Int.max_eq_left (by omega)]
        have hi := max_mem (l := l.map Prod.fst) (by omega)
        have hlt : (l.map Prod.fst).idxOf (foldMax (l.map Prod.fst)) < (l.map Prod.snd).length := by
          rw [lens, ← len]
          exact List.idxOf_lt_length_iff.mpr hi
        rw [ml, List.idxOf_append, if_pos hi, ms, List.getD_eq_getElem?_getD, List.getD_eq_getElem?_getD, List.getElem?_append_left hlt]
    · rw [if_neg (fun q => c1 q.2 : ¬ (0 < l.length ∧ 0 < foldMax (l.map Prod.fst)))]
      simp only
      by_cases c2 : 0 < p.1
      · rw [if_pos (⟨by simp, by omega⟩ : 0 < (l ++ [p]).length ∧ 0 < max (foldMax (l.map Prod.fst)) p.1), if_pos c2, Int.max_eq_right (by omega), fresh (by omega), got]
      · rw [if_neg (fun q => by have := q.2; omega : ¬ (0 < (l ++ [p]).length ∧ 0 < max (foldMax (l.map Prod.fst)) p.1)), if_neg c2]
  · have e : l = [] := List.eq_nil_of_length_eq_zero (by omega)
    subst e
    have e0 : bestF [] = (0, none) := rfl
    rw [e0]
    show bestF [p] = stepB (0, none) p
    unfold stepB
    by_cases c2 : 0 < p.1
    · rw [if_pos (show ((0, none) : Best).1 < p.1 from c2)]
      unfold bestF
      rw [if_pos ⟨by simp, by simpa [foldMax] using c2⟩]
      simp [foldMax]
    · rw [if_neg (show ¬ ((0, none) : Best).1 < p.1 from c2)]
      unfold bestF
      rw [if_neg (fun q => c2 (by simpa [foldMax] using q.2))]
theorem foldB_eq (l : List (Int × Int)) : foldB l = bestF l := by
  have h : ∀ n, foldB (l.take n) = bestF (l.take n) := by
    intro n
    induction n with
    | zero => rfl
    | succ n ih =>
      cases e : l[n]? with
      | none => rw [List.take_add_one, e]; simpa using ih
      | some x => rw [take_snoc e, foldB_snoc, bestF_snoc, ih]
  have := h l.length
  rwa [List.take_length] at this
def optI : Option Int → D
  | none => .none
  | some i => .int i
def bestD (b : Best) : D := .tuple [.int b.1, optI b.2]
end Law_k71
namespace Law_k71
open PySem L2 Pu
local macro_rules | `(tactic| walk_at "e") => `(tactic| first
  | ((with_reducible refine nx_seq ?_); (try dsimp only [List.set_cons_succ, List.set_cons_zero]))
  | ((with_reducible refine ex_vr ?_); dsimp only [VQ, List.set_cons_succ, List.set_cons_zero, List.getElem?_cons_zero, List.getElem?_cons_succ]; (fail_if_success (with_reducible show False)))
  | (with_reducible refine sx_seq ?_)
  | (with_reducible refine sx_if ?_)
  | (with_reducible refine sx_next ?_)
  | (with_reducible refine sx_ret ?_)
  | ((fail_if_success (with_reducible refine sx_asgO (eo_lst ?_))); (with_reducible refine sx_asg ?_))
  | (with_reducible refine ex_int ?_)
  | (with_reducible refine ex_str ?_)
  | (with_reducible refine ex_bl ?_)
  | (with_reducible refine ex_non ?_)
  | (with_reducible refine ex_op ?_)
  | (with_reducible refine ex_un ?_)
  | (with_reducible refine ex_chain ?_)
  | (with_reducible refine ex_call ?_)
  | (with_reducible refine ex_isT ?_)
  | (with_reducible refine ex_cb ?_)
  | (with_reducible refine ex_sl ?_)
  | (with_reducible refine ex_tup ?_)
  | (with_reducible refine ex_if ?_)
  | (with_reducible refine ex_of (eo_lst ?_))
  | (with_reducible refine ex_notV ?_)
  | (with_reducible refine ea_nil ?_)
  | (with_reducible refine ea_cons ?_)
  | (with_reducible refine ep_no ?_)
  | (with_reducible refine ep_some ?_)
  | (with_reducible refine et_test ?_)
  | (with_reducible refine et_B ?_)
  | (with_reducible refine et_and ?_)
  | (with_reducible refine et_or ?_)
  | (with_reducible refine et_not ?_)
  | (with_reducible refine et_yes ?_)
  | (with_reducible refine opd_plusI ?_)
  | (with_reducible refine opd_I0 ?_)
  | (with_reducible refine opd_B0 ?_)
  | (with_reducible refine opd_eqI ?_)
  | (with_reducible refine opd_neI ?_)
  | (with_reducible refine opd_eqS ?_)
  | (with_reducible refine opd_neS ?_)
  | (with_reducible refine opd_is ?_)
  | (with_reducible refine opd_isnt ?_)
  | (with_reducible refine opd_ixT rfl ?_)
  | (with_reducible refine opd_ixL rfl ?_)
  | (with_reducible refine und_neg ?_)
  | (with_reducible refine cbd_lenL ?_)
  | (with_reducible refine cbd_lenT ?_)
  | (with_reducible refine cbd_min2 ?_)
  | (with_reducible refine cbd_max2 ?_)
  | (with_reducible refine cbd_abs ?_)
  | (with_reducible refine cbd_int ?_)
  | (with_reducible refine cbd_tupL ?_)
  | (with_reducible refine cbd_listL ?_)
  | (with_reducible refine cbd_listT ?_)
  | (with_reducible refine cbd_sum ?_)
  | (with_reducible refine sld_T ?_)
  | (with_reducible refine sld_L ?_)
  | (with_reducible refine ex_revL ?_)
  | (with_reducible refine ex_bmL ?_)
  | (with_reducible refine ex_andV ?_)
  | (with_reducible refine ei_list ?_)
  | (with_reducible refine ei_rng1 ?_)
  | (with_reducible refine ei_rng2 ?_)
  | (with_reducible refine ei_enum ?_)
  | (with_reducible refine ei_enumT ?_)
  | (with_reducible refine ei_zip ?_)
  | (with_reducible refine sx_par ?_)
  | (with_reducible refine Exists.intro _ (And.intro rfl ?_))
  | (with_reducible refine Exists.intro _ (Exists.intro _ (And.intro rfl ?_)))
  | ((with_reducible show EX (tCall (spS _) [] _ (tCons (tVar _) _)) _ _); refine ex_callS rfl ?_)
  | ((with_reducible refine And.intro (show (_ : Nat) ≤ 100000 from ?_) ?_); (focus (simp; done)))
  | ((with_reducible refine opd_I ?_ ?_); focus (first | omega | (show CDiv _ _; exact ⟨by omega, by omega⟩) | (show CMul _ _; first | exact Or.inl ⟨by omega, by omega⟩ | exact Or.inr ⟨by omega, by omega⟩))))
local macro_rules | `(tactic| walk_at "es") => `(tactic| repeat walk_at "e")
local macro_rules | `(tactic| walk_at "w") => `(tactic| try dsimp only [wipeE, List.foldl_cons, List.foldl_nil, List.set_cons_succ, List.set_cons_zero])
local macro_rules | `(tactic| walk_at "le") => `(tactic| repeat' first | exact LeE.nil | (refine LeE.eq rfl ?_) | (refine LeE.emp ?_) | (refine LeE.eq ?_ ?_))
local macro_rules | `(tactic| walk_at "no") => `(tactic| ((refine And.intro (fun hb => absurd hb ?_) (fun _ => ?_)); (focus (first | (exact Bool.false_ne_true) | (simp; done) | (simp; omega) | (simp only [decide_eq_true_eq]; omega)))))
local macro_rules | `(tactic| walk_at "yes") => `(tactic| ((refine And.intro (fun _ => ?_) (fun hb => absurd hb ?_)); (rotate_left); (focus (first | (exact Bool.noConfusion) | (simp; done) | (simp; omega) | (simp only [decide_eq_false_iff_not]; omega)))))
theorem cut_from (xs : List D) (k : Nat) : cutD xs (some (k : Int)) none = xs.drop k := by
  unfold cutD
  have e1 : HT.sIx xs.length 0 (some (k : Int)) = min k xs.length := by
    show (if (k : Int) < 0 then ((k : Int) + (xs.length : Int)).toNat else min (k : Int).toNat xs.length) = _
    rw [if_neg (by omega), Int.toNat_natCast]
  have e2 : HT.sIx xs.length xs.length none = xs.length := rfl
  rw [e1, e2]
  rcases Nat.le_total k xs.length with h | h
  · rw [Nat.min_eq_left h, List.take_of_length_le (by rw [List.length_drop]; omega)]
  · rw [Nat.min_eq_right h, List.drop_eq_nil_of_le (Nat.le_refl _), List.drop_eq_nil_of_le h]; simp
theorem cut_fromI {α : Type} (f : α → D) (xs : List α) {i : Int} {k : Nat} (h : i = (k : Int)) : cutD (xs.map f) (some i) none = (xs.drop k).map f := by
  subst h
  rw [cut_from, List.map_drop]
def ticksOf (bs : List Bu) (seat : P3) (sp : Int) : List Int := (heardF bs seat sp).map Prod.fst
theorem heard_len (bs : List Bu) (seat : P3) (sp : Int) : (heardF bs seat sp).length = bs.length := by
  unfold heardF rowsF
  rw [List.length_mergeSort, List.length_map, List.length_zipIdx]
theorem ticks_len (bs : List Bu) (seat : P3) (sp : Int) : (ticksOf bs seat sp).length = bs.length := by unfold ticksOf; rw [List.length_map, heard_len]
def gapsL (T : List Int) : List (Int × Int) := (T.zip (T.drop 1)).map fun p => (p.2 - p.1, p.1)
theorem zip_enc (xs ys : List Int) : List.zipWith (fun d f => PyData.tuple [d, f]) (xs.map PyData.int) (ys.map PyData.int) = (xs.zip ys).map encP := by
  induction xs generalizing ys with
  | nil => simp
  | cons x xs ih =>
    cases ys with
    | nil => simp
    | cons y ys => simp [ih, encP]
def R_silent : List D → (D → Prop) → Prop := fun ds Z => ∃ (bs : List Bu) (seat : P3) (sp : Int), ds = [.list (bs.map encB), encT3 seat, .int sp] ∧ Burs bs ∧ seat.near ∧ (1 ≤ sp ∧ sp ≤ 9) ∧ Z (bestD (foldB (gapsL (ticksOf bs seat sp))))
theorem heard_ticks (bs : List Bu) (seat : P3) (sp : Int) : (((heardF bs seat sp).filter fun _ => true).map fun p => PyData.int p.1) = (ticksOf bs seat sp).map .int := by
  rw [List.filter_eq_self.mpr (fun _ _ => rfl)]
  unfold ticksOf
  rw [List.map_map]
  rfl
theorem sx_silent_span (K : PySem.W.Frag) (ds : List D) (Z : D → Prop) (h : R_silent ds Z) : SX (T_silent_span K R_heard) (startE N_silent_span ds) { nx := fun _ => Z .none, rt := fun d _ => Z d } := by
  obtain ⟨bs, seat, sp, rfl, hbs, hse, hsp, z⟩ := h
  show SX (T_silent_span K R_heard) [.val (.list (bs.map encB)), .val (encT3 seat), .val (.int sp), .emp, .emp, .emp, .emp, .emp, .emp] _
  unfold T_silent_span
  walk_at "es"
  refine ex_of (eo_lcP (α := Int × Int) (fun _ => true) (fun p => .int p.1) (ei_list ?_))
  walk_at "es"
  refine ⟨bs, seat, sp, rfl, hbs, hse, hsp, ?_⟩
  refine ⟨_, rfl, heardF bs seat sp, encP, rfl, by rw [heard_len]; have := hbs.1; omega, fun i hi => by simp at hi; rcases hi with rfl | rfl <;> rfl, fun p hp => ?_, ?_⟩
  · refine sg_tup rfl (sgs_cons (sg_name (by simp) (sgs_cons (sg_name (by simp) (sgs_nil ⟨rfl, ?_⟩)))))
    walk_at "w"
    walk_at "es"
    refine ⟨rfl, rfl, fun _ => ?_⟩
    walk_at "es"
    exact ⟨rfl, rfl⟩
  rw [heard_ticks]
  have tl := ticks_len bs seat sp
  generalize ticksOf bs seat sp = T at z tl ⊢
  walk_at "es"
  refine sx_for (J := [7, 8]) (ei_zip ?_)
  walk_at "es"
  rw [cut_fromI PyData.int T (i := 1) (k := 1) rfl, zip_enc]
  refine ⟨fun k ρ' => ρ' = [.val (.list (bs.map encB)), .val (encT3 seat), .val (.int sp), .val (.list (T.map .int)), .emp, .emp, .val (.tuple [.int (foldB ((gapsL T).take k)).1, optI (foldB ((gapsL T).take k)).2]), .emp, .emp], rfl, ?_, ?_⟩
  · rintro k dd ρ' hd0 rfl
    obtain ⟨p, hp, rfl⟩ := map_at hd0
    have hg : (gapsL T)[k]? = some (p.2 - p.1, p.1) := by unfold gapsL; rw [List.getElem?_map, hp]; rfl
    have hs : foldB ((gapsL T).take (k + 1)) = stepB (foldB ((gapsL T).take k)) (p.2 - p.1, p.1) := by rw [take_snoc hg, foldB_snoc]
    generalize foldB ((gapsL T).take k) = b at hs ⊢
    refine sg_tup rfl (sgs_cons (sg_name (by simp) (sgs_cons (sg_name (by simp) (sgs_nil ?_)))))
    walk_at "w"
    walk_at "es"
    unfold stepB at hs
    refine ⟨fun hb => ?_, fun hb => ?_⟩
    · have hb := of_decide_eq_true hb
      rw [if_pos hb] at hs
      walk_at "es"
      refine ⟨_, ?_, rfl⟩
      rw [hs]
      walk_at "le"
    · have hb := of_decide_eq_false hb
      rw [if_neg hb] at hs
      walk_at "es"
      refine ⟨_, ?_, rfl⟩
      rw [hs]
      walk_at "le"
  · rintro ρ' rfl
    have e : (gapsL T).take ((T.zip (T.drop 1)).map encP).length = gapsL T := List.take_of_length_le (by unfold gapsL; rw [List.length_map, List.length_map]; exact Nat.le_refl _)
    rw [e]
    walk_at "es"
    exact z
def loudL (T : List Int) (win : Int) : List (Int × Int) := T.zipIdx.map fun p => ((((T.drop p.2).filter fun x => decide (x < p.1 + win)).length : Int), p.1)
def R_loud : List D → (D → Prop) → Prop := fun ds Z => ∃ (bs : List Bu) (seat : P3) (sp win : Int), ds = [.list (bs.map encB), encT3 seat, .int sp, .int win] ∧ Burs bs ∧ seat.near ∧ (1 ≤ sp ∧ sp ≤ 9) ∧ Z (bestD (foldB (loudL (ticksOf bs seat sp) win)))
theorem sx_loudest (K : PySem.W.Frag) (ds : List D) (Z : D → Prop) (h : R_loud ds Z) : SX (T_loudest K R_heard) (startE N_loudest ds) { nx := fun _ => Z .none, rt := fun d _ => Z d } := by
  obtain ⟨bs, seat, sp, win, rfl, hbs, hse, hsp, z⟩ := h
  show SX (T_loudest K R_heard) [.val (.list (bs.map encB)), .val (encT3 seat), .val (.int sp), .val (.int win), .emp, .emp, .emp, .emp, .emp, .emp] _
  unfold T_loudest
  walk_at "es"
  refine ex_of (eo_lcP (α := Int × Int) (fun _ => true) (fun p => .int p.1) (ei_list ?_))
  walk_at "es"
  refine ⟨bs, seat, sp, rfl, hbs, hse, hsp, ?_⟩
  refine ⟨_, rfl, heardF bs seat sp, encP, rfl, by rw [heard_len]; have := hbs.1; omega, fun i hi => by simp at hi; rcases hi with rfl | rfl <;> rfl, fun p hp => ?_, ?_⟩
  · refine sg_tup rfl (sgs_cons (sg_name (by simp) (sgs_cons (sg_name (by simp) (sgs_nil ⟨rfl, ?_⟩)))))
    walk_at "w"
    walk_at "es"
    refine ⟨rfl, rfl, fun _ => ?_⟩
    walk_at "es"
    exact ⟨rfl, rfl⟩
  rw [heard_ticks]
  have tl := ticks_len bs seat sp
  have bl := hbs.1
  generalize ticksOf bs seat sp = T at z tl ⊢
  walk_at "es"
  refine sx_for (J := [6, 5]) (ei_enum ?_)
  walk_at "es"
  rw [enum_zip]
  refine ⟨fun k ρ' => ρ' = [.val (.list (bs.map encB)), .val (encT3 seat), .val (.int sp), .val (.int win), .val (.list (T.map .int)), .emp, .emp, .val (.tuple [.int (foldB ((loudL T win).take k)).1, optI (foldB ((loudL T win).take k)).2]), .emp, .emp], rfl, ?_, ?_⟩
  · rintro k dd ρ' hd0 rfl
    obtain ⟨p, hp, rfl⟩ := map_at hd0
    have hg : (loudL T win)[k]? = some ((((T.drop p.2).filter fun x => decide (x < p.1 + win)).length : Int), p.1) := by unfold loudL; rw [List.getElem?_map, hp]; rfl
    have hs : foldB ((loudL T win).take (k + 1)) = stepB (foldB ((loudL T win).take k)) ((((T.drop p.2).filter fun x => decide (x < p.1 + win)).length : Int), p.1) := by rw [take_snoc hg, foldB_snoc]
    generalize foldB ((loudL T win).take k) = b at hs ⊢
    refine sg_tup rfl (sgs_cons (sg_name (by simp) (sgs_cons (sg_name (by simp) (sgs_nil ?_)))))
    walk_at "w"
    walk_at "es"
    refine ex_of (eo_lcP (α := Int) (fun x => decide (x < p.1 + win)) PyData.int (ei_list ?_))
    walk_at "es"
    rw [cut_fromI PyData.int T (k := p.2) rfl]
    refine ⟨T.drop p.2, PyData.int, rfl, by rw [List.length_drop]; omega, fun i hi => by simp at hi; subst hi; rfl, fun x hx => sg_name (by simp) ⟨rfl, ?_⟩, ?_⟩
    · walk_at "w"
      walk_at "es"
      refine ⟨rfl, rfl, fun _ => ?_⟩
      walk_at "es"
      exact ⟨rfl, rfl⟩
    walk_at "es"
    rw [List.length_map]
    unfold stepB at hs
    refine ⟨fun hb => ?_, fun hb => ?_⟩
    · have hb := of_decide_eq_true hb
      rw [if_pos hb] at hs
      walk_at "es"
      refine ⟨_, ?_, rfl⟩
      rw [hs]
      walk_at "le"
    · have hb := of_decide_eq_false hb
      rw [if_neg hb] at hs
      walk_at "es"
      refine ⟨_, ?_, rfl⟩
      rw [hs]
      walk_at "le"
  · rintro ρ' rfl
    have e : (loudL T win).take (T.zipIdx.map fun p => PyData.tuple [.int (p.2 : Int), .int p.1]).length = loudL T win := List.take_of_length_le (by unfold loudL; rw [List.length_map, List.length_map]; exact Nat.le_refl _)
    rw [e]
    walk_at "es"
    exact z
end Law_k71
namespace Law_k71
open PySem L2 Pu
local macro_rules | `(tactic| walk_at "e") => `(tactic| first
  | ((with_reducible refine nx_seq ?_); (try dsimp only [List.set_cons_succ, List.set_cons_zero]))
  | ((with_reducible refine ex_vr ?_); dsimp only [VQ, List.set_cons_succ, List.set_cons_zero, List.getElem?_cons_zero, List.getElem?_cons_succ]; (fail_if_success (with_reducible show False)))
  | (with_reducible refine sx_seq ?_)
  | (with_reducible refine sx_if ?_)
  | (with_reducible refine sx_next ?_)
  | (with_reducible refine sx_ret ?_)
  | ((fail_if_success (with_reducible refine sx_asgO (eo_lst ?_))); (with_reducible refine sx_asg ?_))
  | (with_reducible refine ex_int ?_)
  | (with_reducible refine ex_str ?_)
  | (with_reducible refine ex_bl ?_)
  | (with_reducible refine ex_non ?_)
  | (with_reducible refine ex_op ?_)
  | (with_reducible refine ex_un ?_)
  | (with_reducible refine ex_chain ?_)
  | (with_reducible refine ex_call ?_)
  | (with_reducible refine ex_isT ?_)
  | (with_reducible refine ex_cb ?_)
  | (with_reducible refine ex_sl ?_)
  | (with_reducible refine ex_tup ?_)
  | (with_reducible refine ex_if ?_)
  | (with_reducible refine ex_of (eo_lst ?_))
  | (with_reducible refine ex_notV ?_)
  | (with_reducible refine ea_nil ?_)
  | (with_reducible refine ea_cons ?_)
  | (with_reducible refine ep_no ?_)
  | (with_reducible refine ep_some ?_)
  | (with_reducible refine et_test ?_)
  | (with_reducible refine et_B ?_)
  | (with_reducible refine et_and ?_)
  | (with_reducible refine et_or ?_)
  | (with_reducible refine et_not ?_)
  | (with_reducible refine et_yes ?_)
  | (with_reducible refine opd_plusI ?_)
  | (with_reducible refine opd_I0 ?_)
  | (with_reducible refine opd_B0 ?_)
  | (with_reducible refine opd_eqI ?_)
  | (with_reducible refine opd_neI ?_)
  | (with_reducible refine opd_eqS ?_)
  | (with_reducible refine opd_neS ?_)
  | (with_reducible refine opd_is ?_)
  | (with_reducible refine opd_isnt ?_)
  | (with_reducible refine opd_ixT rfl ?_)
  | (with_reducible refine opd_ixL rfl ?_)
  | (with_reducible refine und_neg ?_)
  | (with_reducible refine cbd_lenL ?_)
  | (with_reducible refine cbd_lenT ?_)
  | (with_reducible refine cbd_min2 ?_)
  | (with_reducible refine cbd_max2 ?_)
  | (with_reducible refine cbd_abs ?_)
  | (with_reducible refine cbd_int ?_)
  | (with_reducible refine cbd_tupL ?_)
  | (with_reducible refine cbd_listL ?_)
  | (with_reducible refine cbd_listT ?_)
  | (with_reducible refine cbd_sum ?_)
  | (with_reducible refine sld_T ?_)
  | (with_reducible refine sld_L ?_)
  | (with_reducible refine ex_revL ?_)
  | (with_reducible refine ex_bmL ?_)
  | (with_reducible refine ex_andV ?_)
  | (with_reducible refine ei_list ?_)
  | (with_reducible refine ei_rng1 ?_)
  | (with_reducible refine ei_rng2 ?_)
  | (with_reducible refine ei_enum ?_)
  | (with_reducible refine ei_enumT ?_)
  | (with_reducible refine ei_zip ?_)
  | (with_reducible refine sx_par ?_)
  | (with_reducible refine Exists.intro _ (And.intro rfl ?_))
  | (with_reducible refine Exists.intro _ (Exists.intro _ (And.intro rfl ?_)))
  | ((with_reducible show EX (tCall (spS _) [] _ (tCons (tVar _) _)) _ _); refine ex_callS rfl ?_)
  | ((with_reducible refine And.intro (show (_ : Nat) ≤ 100000 from ?_) ?_); (focus (simp; done)))
  | ((with_reducible refine opd_I ?_ ?_); focus (first | omega | (show CDiv _ _; exact ⟨by omega, by omega⟩) | (show CMul _ _; first | exact Or.inl ⟨by omega, by omega⟩ | exact Or.inr ⟨by omega, by omega⟩))))
local macro_rules | `(tactic| walk_at "es") => `(tactic| repeat walk_at "e")
local macro_rules | `(tactic| walk_at "w") => `(tactic| try dsimp only [wipeE, List.foldl_cons, List.foldl_nil, List.set_cons_succ, List.set_cons_zero])
local macro_rules | `(tactic| walk_at "le") => `(tactic| repeat' first | exact LeE.nil | (refine LeE.eq rfl ?_) | (refine LeE.emp ?_) | (refine LeE.eq ?_ ?_))
local macro_rules | `(tactic| walk_at "no") => `(tactic| ((refine And.intro (fun hb => absurd hb ?_) (fun _ => ?_)); (focus (first | (exact Bool.false_ne_true) | (simp; done) | (simp; omega) | (simp only [decide_eq_true_eq]; omega)))))
local macro_rules | `(tactic| walk_at "yes") => `(tactic| ((refine And.intro (fun _ => ?_) (fun hb => absurd hb ?_)); (rotate_left); (focus (first | (exact Bool.noConfusion) | (simp; done) | (simp; omega) | (simp only [decide_eq_false_iff_not]; omega)))))
def mirF (p : P3) (ax at_ : Int) : P3 := ⟨if 0 = ax then 2 * at_ - p.x else p.x, if 1 = ax then 2 * at_ - p.y else p.y, if 2 = ax then 2 * at_ - p.z else p.z⟩
def Wall (w : Int × Int) : Prop := (0 ≤ w.1 ∧ w.1 ≤ 2) ∧ (-10 ≤ w.2 ∧ w.2 < 70)
theorem mir_ok {p : P3} {w : Int × Int} (h : p.near) (g : Wall w) : (mirF p w.1 w.2).ok := by
  obtain ⟨⟨_, _⟩, ⟨_, _⟩, _, _⟩ := h
  obtain ⟨_, _, _⟩ := g
  unfold mirF P3.ok
  refine ⟨?_, ?_, ?_⟩ <;> (simp only; split <;> omega)
def R_mirr : List D → (D → Prop) → Prop := fun ds Z => ∃ (p : P3) (w : Int × Int), ds = [encT3 p, encP w] ∧ p.near ∧ Wall w ∧ Z (encT3 (mirF p w.1 w.2))
theorem sx_mirrored (K : PySem.W.Frag) (ds : List D) (Z : D → Prop) (h : R_mirr ds Z) : SX (T_mirrored K) (startE N_mirrored ds) { nx := fun _ => Z .none, rt := fun d _ => Z d } := by
  obtain ⟨p, ⟨ax, at_⟩, rfl, hp, ⟨⟨a0, a1⟩, b0, b1⟩, z⟩ := h
  show SX (T_mirrored K) [.val (.tuple [.int p.x, .int p.y, .int p.z]), .val (.tuple [.int ax, .int at_]), .emp, .emp, .emp, .emp] _
  unfold T_mirrored
  refine sx_seq (sx_asgT (J := [2, 3]) ?_)
  walk_at "es"
  refine sg_tup rfl (sgs_cons (sg_name (by simp) (sgs_cons (sg_name (by simp) (sgs_nil ?_)))))
  walk_at "w"
  walk_at "es"
  refine ex_of (eo_lcP (α := Int × Nat) (fun _ => true) (fun q => .int (if (q.2 : Int) = ax then 2 * at_ - q.1 else q.1)) (ei_enumT ?_))
  walk_at "es"
  refine ⟨[p.x, p.y, p.z].zipIdx, fun q => .tuple [.int (q.2 : Int), .int q.1], rfl, by simp, fun i hi => by simp at hi; rcases hi with rfl | rfl <;> rfl, fun q hq => ?_, ?_⟩
  · refine sg_tup rfl (sgs_cons (sg_name (by simp) (sgs_cons (sg_name (by simp) (sgs_nil ⟨rfl, ?_⟩)))))
    walk_at "w"
    walk_at "es"
    refine ⟨rfl, rfl, fun _ => ?_⟩
    walk_at "es"
    refine ⟨fun hb => ?_, fun hb => ?_⟩
    · have hb := of_decide_eq_true hb
      walk_at "es"
      exact ⟨by rw [if_pos hb], rfl⟩
    · have hb := of_decide_eq_false hb
      walk_at "es"
      exact ⟨by rw [if_neg hb], rfl⟩
  · walk_at "es"
    exact z
/-! triples of ints -/
def enc3 (u : Int × Int × Int) : D := .tuple [.int u.1, .int u.2.1, .int u.2.2]
theorem alike_3 (xs : List (Int × Int × Int)) : PySem.W.AllAlike (xs.map enc3) := fun x hx y hy => by
  obtain ⟨a, _, rfl⟩ := List.mem_map.mp hx
  obtain ⟨b, _, rfl⟩ := List.mem_map.mp hy
  rfl
theorem sortable_3 (xs : List (Int × Int × Int)) : PySem.W.Sortable (xs.map enc3) := .inl fun x hx => by
  obtain ⟨a, _, rfl⟩ := List.mem_map.mp hx
  exact ⟨_, _, rfl⟩
theorem dp_3 (xs : List (Int × Int × Int)) : ∀ d ∈ xs.map enc3, DpN 3 d := dpn_map fun x _ => dpn_tup (dpn_cons dpn_int (dpn_cons dpn_int (dpn_cons dpn_int dpn_nil)))
theorem deep_3 (xs : List (Int × Int × Int)) : PyData.depthAll (xs.map enc3) ≤ 60 := Nat.le_trans (depthAll_le (dp_3 xs)) (by decide)
theorem sorted_deep (xs : List (Int × Int × Int)) : (PyData.list (sortD (xs.map enc3))).depth ≤ 60 := by
  have h : DpN 4 (PyData.list (sortD (xs.map enc3))) := dpn_list fun d hd => dp_3 xs d (List.mem_mergeSort.mp hd)
  exact Nat.le_trans h (by decide)
def coord (p : P3) (ax : Int) : Int := if ax = 0 then p.x else if ax = 1 then p.y else p.z
theorem opd_coord {K : PySem.W.Frag} {p : P3} {ax : Int} {Q : D → Prop} (h : 0 ≤ ax ∧ ax ≤ 2) (k : Q (.int (coord p ax))) : OpD (rIxA K) (encT3 p) (.int ax) Q := by
  obtain ⟨h0, h1⟩ := h
  unfold coord at k
  rcases (show ax = 0 ∨ ax = 1 ∨ ax = 2 by omega) with rfl | rfl | rfl
  · exact opd_ixT (d := .int p.x) rfl k
  · exact opd_ixT (d := .int p.y) rfl k
  · exact opd_ixT (d := .int p.z) rfl k
theorem coord_near {p : P3} (h : p.near) (ax : Int) : 0 ≤ coord p ax ∧ coord p ax < 60 := by
  obtain ⟨⟨_, _⟩, ⟨_, _⟩, _, _⟩ := h
  unfold coord
  split
  · omega
  · split <;> omega
def Walls (ws : List (Int × Int)) : Prop := ws.length ≤ 3 ∧ ∀ w ∈ ws, Wall w
def condE (seat : P3) (b : Bu × Nat) (w : (Int × Int) × Nat) : Bool := decide (0 < (coord b.1.p w.1.1 - w.1.2) * (coord seat w.1.1 - w.1.2))
def rowE (seat : P3) (sp : Int) (b : Bu × Nat) (w : (Int × Int) × Nat) : Int × Int × Int := (b.1.t + (tF (sqF (mirF b.1.p w.1.1 w.1.2) seat) sp : Int), (b.2 : Int), (w.2 : Int))
def partE (seat : P3) (sp : Int) (b : Bu × Nat) (ws : List ((Int × Int) × Nat)) : List (Int × Int × Int) := (ws.filter (condE seat b)).map (rowE seat sp b)
def echoL (bs : List Bu) (seat : P3) (ws : List (Int × Int)) (sp : Int) : List (Int × Int × Int) := bs.zipIdx.flatMap fun b => partE seat sp b ws.zipIdx
theorem partE_snoc (seat : P3) (sp : Int) (b : Bu × Nat) (ws : List ((Int × Int) × Nat)) (w : (Int × Int) × Nat) : partE seat sp b (ws ++ [w]) = partE seat sp b ws ++ if condE seat b w = true then [rowE seat sp b w] else [] := by
  unfold partE
  rw [List.filter_append, List.map_append]
  by_cases h : condE seat b w = true
  · rw [if_pos h, List.filter_cons_of_pos h]; rfl
  · rw [if_neg h, List.filter_cons_of_neg h]; rfl
theorem partE_len (seat : P3) (sp : Int) (b : Bu × Nat) (ws : List ((Int × Int) × Nat)) : (partE seat sp b ws).length ≤ ws.length := by
  unfold partE
  rw [List.length_map]
  exact List.length_filter_le _ _
theorem flat_snoc {α β : Type} (l : List α) (x : α) (f : α → List β) : (l ++ [x]).flatMap f = l.flatMap f ++ f x := by simp
theorem flat_len {α β : Type} (f : α → List β) (n : Nat) : ∀ l : List α, (∀ x, (f x).length ≤ n) → (l.flatMap f).length ≤ n * l.length
  | [], _ => by simp
  | x :: l, h => by
    rw [List.flatMap_cons, List.length_append, List.length_cons, Nat.mul_succ]
    have h1 := h x
    have h2 := flat_len f n l h
    omega
def R_echoes : List D → (D → Prop) → Prop := fun ds Z => ∃ (bs : List Bu) (seat : P3) (ws : List (Int × Int)) (sp : Int), ds = [.list (bs.map encB), encT3 seat, .list (ws.map encP), .int sp] ∧ Burs bs ∧ seat.near ∧ Walls ws ∧ (1 ≤ sp ∧ sp ≤ 9) ∧ Z (.list (sortD ((echoL bs seat ws sp).map enc3)))
theorem sx_echoes (K : PySem.W.Frag) (ds : List D) (Z : D → Prop) (h : R_echoes ds Z) : SX (T_echoes K R_ticks R_mirr) (startE N_echoes ds) { nx := fun _ => Z .none, rt := fun d _ => Z d } := by
  obtain ⟨bs, seat, ws, sp, rfl, ⟨bl, bg⟩, hse, ⟨wl, wg⟩, hsp, z⟩ := h
  show SX (T_echoes K R_ticks R_mirr) [.val (.list (bs.map encB)), .val (encT3 seat), .val (.list (ws.map encP)), .val (.int sp), .emp, .emp, .emp, .emp, .emp, .emp, .emp] _
  unfold T_echoes
  walk_at "es"
  refine sx_asgO (eo_lst ?_)
  walk_at "es"
  refine sx_for (J := [5, 6, 7]) (ei_enum ?_)
  walk_at "es"
  rw [enum_zip]
  refine ⟨fun k ρ' => ρ' = [.val (.list (bs.map encB)), .val (encT3 seat), .val (.list (ws.map encP)), .val (.int sp), .own (((bs.zipIdx.take k).flatMap fun b => partE seat sp b ws.zipIdx).map enc3), .emp, .emp, .emp, .emp, .emp, .emp], rfl, ?_, ?_⟩
  · rintro k dd ρ' hd0 rfl
    obtain ⟨b, hb, rfl⟩ := map_at hd0
    have okb := bg b.1 (List.fst_mem_of_mem_zipIdx (List.mem_of_getElem? hb))
    have hs := flat_snoc (bs.zipIdx.take k) b fun b => partE seat sp b ws.zipIdx
    rw [← take_snoc hb] at hs
    have len0 : ((bs.zipIdx.take k).flatMap fun b => partE seat sp b ws.zipIdx).length ≤ 100 := by
      have h1 := flat_len (fun b => partE seat sp b ws.zipIdx) 3 (bs.zipIdx.take k) fun b => by have := partE_len seat sp b ws.zipIdx; rw [List.length_zipIdx] at this; omega
      have h2 : (bs.zipIdx.take k).length ≤ 5 := by rw [List.length_take, List.length_zipIdx]; omega
      omega
    generalize ((bs.zipIdx.take k).flatMap fun b => partE seat sp b ws.zipIdx) = F at hs len0 ⊢
    refine sg_tup rfl (sgs_cons (sg_name (by simp) (sgs_cons (sg_tup rfl (sgs_cons (sg_name (by simp) (sgs_cons (sg_name (by simp) (sgs_nil (sgs_nil ?_))))))))))
    walk_at "w"
    refine sx_for (J := [8, 9, 10]) (ei_enum ?_)
    walk_at "es"
    rw [enum_zip]
    refine ⟨fun j ρ' => ρ' = [.val (.list (bs.map encB)), .val (encT3 seat), .val (.list (ws.map encP)), .val (.int sp), .own ((F ++ partE seat sp b (ws.zipIdx.take j)).map enc3), .val (.int (b.2 : Int)), .val (.int b.1.t), .val (encT3 b.1.p), .emp, .emp, .emp], ?_, ?_, ?_⟩
    · simp [partE]
    · rintro j dd ρ' hd1 rfl
      obtain ⟨w, hw, rfl⟩ := map_at hd1
      have okw := wg w.1 (List.fst_mem_of_mem_zipIdx (List.mem_of_getElem? hw))
      have hp := partE_snoc seat sp b (ws.zipIdx.take j) w
      rw [← take_snoc hw] at hp
      have plen := partE_len seat sp b (ws.zipIdx.take j)
      have tlen : (ws.zipIdx.take j).length ≤ 3 := by rw [List.length_take, List.length_zipIdx]; omega
      have c1 := coord_near okb.2 w.1.1
      have c2 := coord_near hse w.1.1
      have ax := okw.1
      have wr := okw.2
      refine sg_tup rfl (sgs_cons (sg_name (by simp) (sgs_cons (sg_tup rfl (sgs_cons (sg_name (by simp) (sgs_cons (sg_name (by simp) (sgs_nil (sgs_nil ?_))))))))))
      walk_at "w"
      walk_at "es"
      refine opd_coord ax ?_
      walk_at "es"
      refine opd_coord ax ?_
      walk_at "es"
      refine ⟨fun hc => ?_, fun hc => ?_⟩
      · have hc2 : condE seat b w = true := hc
        rw [if_pos hc2] at hp
        refine sx_app rfl ?_
        walk_at "es"
        refine ⟨b.1.p, w.1, rfl, okb.2, okw, ?_⟩
        walk_at "es"
        refine ⟨_, seat, sp, rfl, mir_ok okb.2 okw, hse.ok, hsp, ?_⟩
        walk_at "es"
        refine ⟨by rw [List.length_map, List.length_append]; omega, ?_⟩
        refine ⟨_, ?_, rfl⟩
        rw [hp, ← List.append_assoc, List.map_append]
        walk_at "le"
      · have hc2 : ¬ condE seat b w = true := by
          show ¬ decide _ = true
          rw [hc]; decide
        rw [if_neg hc2, List.append_nil] at hp
        walk_at "es"
        refine ⟨_, ?_, rfl⟩
        rw [hp]
        walk_at "le"
    · rintro ρ' rfl
      have e : ws.zipIdx.take (ws.zipIdx.map fun p => PyData.tuple [.int (p.2 : Int), encP p.1]).length = ws.zipIdx := List.take_of_length_le (by rw [List.length_map]; exact Nat.le_refl _)
      rw [e]
      refine ⟨_, ?_, rfl⟩
      rw [hs]
      walk_at "le"
  · rintro ρ' rfl
    have e : bs.zipIdx.take (bs.zipIdx.map fun p => PyData.tuple [.int (p.2 : Int), encB p.1]).length = bs.zipIdx := List.take_of_length_le (by rw [List.length_map]; exact Nat.le_refl _)
    rw [e]
    refine nx_seq (sx_freeze 4 rfl ?_)
    walk_at "w"
    walk_at "es"
    refine cbd_sortD (alike_3 _) (sortable_3 _) (deep_3 _) ?_
    exact z
end Law_k71
namespace Law_k71
open PySem L2 Pu
local macro_rules | `(tactic| walk_at "e") => `(tactic| first
  | ((with_reducible refine nx_seq ?_); (try dsimp only [List.set_cons_succ, List.set_cons_zero]))
  | ((with_reducible refine ex_vr ?_); dsimp only [VQ, List.set_cons_succ, List.set_cons_zero, List.getElem?_cons_zero, List.getElem?_cons_succ]; (fail_if_success (with_reducible show False)))
  | (with_reducible refine sx_seq ?_)
  | (with_reducible refine sx_if ?_)
  | (with_reducible refine sx_next ?_)
  | (with_reducible refine sx_ret ?_)
  | ((fail_if_success (with_reducible refine sx_asgO (eo_lst ?_))); (with_reducible refine sx_asg ?_))
  | (with_reducible refine ex_int ?_)
  | (with_reducible refine ex_str ?_)
  | (with_reducible refine ex_bl ?_)
  | (with_reducible refine ex_non ?_)
  | (with_reducible refine ex_op ?_)
  | (with_reducible refine ex_un ?_)
  | (with_reducible refine ex_chain ?_)
  | (with_reducible refine ex_call ?_)
  | (with_reducible refine ex_isT ?_)
  | (with_reducible refine ex_cb ?_)
  | (with_reducible refine ex_sl ?_)
  | (with_reducible refine ex_tup ?_)
  | (with_reducible refine ex_if ?_)
  | (with_reducible refine ex_of (eo_lst ?_))
  | (with_reducible refine ex_notV ?_)
  | (with_reducible refine ea_nil ?_)
  | (with_reducible refine ea_cons ?_)
  | (with_reducible refine ep_no ?_)
  | (with_reducible refine ep_some ?_)
  | (with_reducible refine et_test ?_)
  | (with_reducible refine et_B ?_)
  | (with_reducible refine et_and ?_)
  | (with_reducible refine et_or ?_)
  | (with_reducible refine et_not ?_)
  | (with_reducible refine et_yes ?_)
  | (with_reducible refine opd_plusI ?_)
  | (with_reducible refine opd_I0 ?_)
  | (with_reducible refine opd_B0 ?_)
  | (with_reducible refine opd_eqI ?_)
  | (with_reducible refine opd_neI ?_)
  | (with_reducible refine opd_eqS ?_)
  | (with_reducible refine opd_neS ?_)
  | (with_reducible refine opd_is ?_)
  | (with_reducible refine opd_isnt ?_)
  | (with_reducible refine opd_ixT rfl ?_)
  | (with_reducible refine opd_ixL rfl ?_)
  | (with_reducible refine und_neg ?_)
  | (with_reducible refine cbd_lenL ?_)
  | (with_reducible refine cbd_lenT ?_)
  | (with_reducible refine cbd_min2 ?_)
  | (with_reducible refine cbd_max2 ?_)
  | (with_reducible refine cbd_abs ?_)
  | (with_reducible refine cbd_int ?_)
  | (with_reducible refine cbd_tupL ?_)
  | (with_reducible refine cbd_listL ?_)
  | (with_reducible refine cbd_listT ?_)
  | (with_reducible refine cbd_sum ?_)
  | (with_reducible refine sld_T ?_)
  | (with_reducible refine sld_L ?_)
  | (with_reducible refine ex_revL ?_)
  | (with_reducible refine ex_bmL ?_)
  | (with_reducible refine ex_andV ?_)
  | (with_reducible refine ei_list ?_)
  | (with_reducible refine ei_rng1 ?_)
  | (with_reducible refine ei_rng2 ?_)
  | (with_reducible refine ei_enum ?_)
  | (with_reducible refine ei_enumT ?_)
  | (with_reducible refine ei_zip ?_)
  | (with_reducible refine sx_par ?_)
  | (with_reducible refine Exists.intro _ (And.intro rfl ?_))
  | (with_reducible refine Exists.intro _ (Exists.intro _ (And.intro rfl ?_)))
  | ((with_reducible show EX (tCall (spS _) [] _ (tCons (tVar _) _)) _ _); refine ex_callS rfl ?_)
  | ((with_reducible refine And.intro (show (_ : Nat) ≤ 100000 from ?_) ?_); (focus (simp; done)))
  | ((with_reducible refine opd_I ?_ ?_); focus (first | omega | (show CDiv _ _; exact ⟨by omega, by omega⟩) | (show CMul _ _; first | exact Or.inl ⟨by omega, by omega⟩ | exact Or.inr ⟨by omega, by omega⟩))))
local macro_rules | `(tactic| walk_at "es") => `(tactic| repeat walk_at "e")
local macro_rules | `(tactic| walk_at "w") => `(tactic| try dsimp only [wipeE, List.foldl_cons, List.foldl_nil, List.set_cons_succ, List.set_cons_zero])
local macro_rules | `(tactic| walk_at "le") => `(tactic| repeat' first | exact LeE.nil | (refine LeE.eq rfl ?_) | (refine LeE.emp ?_) | (refine LeE.eq ?_ ?_))
local macro_rules | `(tactic| walk_at "no") => `(tactic| ((refine And.intro (fun hb => absurd hb ?_) (fun _ => ?_)); (focus (first | (exact Bool.false_ne_true) | (simp; done) | (simp; omega) | (simp only [decide_eq_true_eq]; omega)))))
local macro_rules | `(tactic| walk_at "yes") => `(tactic| ((refine And.intro (fun _ => ?_) (fun hb => absurd hb ?_)); (rotate_left); (focus (first | (exact Bool.noConfusion) | (simp; done) | (simp; omega) | (simp only [decide_eq_false_iff_not]; omega)))))
def tAt (bs : List Bu) (seat : P3) (sp : Int) (i : Int) : Int := (bs.map fun b => b.t + (tF (sqF b.p seat) sp : Int)).getD i.toNat 0
theorem tAt_at {bs : List Bu} {seat : P3} {sp : Int} {k : Nat} {b : Bu} (h : bs[k]? = some b) : tAt bs seat sp (k : Int) = b.t + (tF (sqF b.p seat) sp : Int) := by
  unfold tAt
  rw [Int.toNat_natCast, List.getD_eq_getElem?_getD, List.getElem?_map, h]
  rfl
theorem heard_mem {bs : List Bu} {seat : P3} {sp : Int} {k : Nat} {b : Bu} (h : bs[k]? = some b) : (b.t + (tF (sqF b.p seat) sp : Int), (k : Int)) ∈ heardF bs seat sp := by
  unfold heardF
  rw [List.mem_mergeSort]
  unfold rowsF
  have hz : (b, k) ∈ bs.zipIdx := by
    refine List.mem_of_getElem? (i := k) ?_
    rw [List.getElem?_zipIdx, h]
    simp
  exact List.mem_map.mpr ⟨(b, k), hz, rfl⟩
theorem heard_nodup (bs : List Bu) (seat : P3) (sp : Int) : ((heardF bs seat sp).map Prod.snd).Nodup := by
  have p : ((heardF bs seat sp).map Prod.snd).Perm ((rowsF bs seat sp).map Prod.snd) := (List.mergeSort_perm _ _).map _
  rw [p.nodup_iff]
  have e : (rowsF bs seat sp).map Prod.snd = (bs.zipIdx.map Prod.snd).map fun k : Nat => (k : Int) := by
    unfold rowsF
    rw [List.map_map, List.map_map]
    rfl
  rw [e, List.zipIdx_map_snd]
  refine List.pairwise_map.mpr (List.Pairwise.imp ?_ List.nodup_range')
  intro a b h q
  exact h (by omega)
theorem lookup_mem : ∀ {l : List (Int × Int)} {k v : Int}, (l.map Prod.fst).Nodup → (k, v) ∈ l → l.lookup k = some v
  | [], _, _, _, h => by cases h
  | (a, b) :: l, k, v, nd, h => by
    rw [List.map_cons, List.nodup_cons] at nd
    rcases List.mem_cons.mp h with h | h
    · cases h
      simp [List.lookup]
    · have ne : k ≠ a := fun q => nd.1 (by rw [← q]; exact List.mem_map.mpr ⟨(k, v), h, rfl⟩)
      have c : (k == a) = false := beq_eq_false_iff_ne.mpr ne
      simp only [List.lookup, c]
      exact lookup_mem nd.2 h
def swapP (p : Int × Int) : Int × Int := (p.2, p.1)
theorem look_at {bs : List Bu} {seat : P3} {sp : Int} {i : Int} (h0 : 0 ≤ i) (h1 : i < bs.length) : ((heardF bs seat sp).map swapP).lookup i = some (tAt bs seat sp i) := by
  obtain ⟨k, rfl⟩ : ∃ k : Nat, i = (k : Int) := ⟨i.toNat, by omega⟩
  have hk : k < bs.length := by omega
  have hb : bs[k]? = some bs[k] := List.getElem?_eq_getElem hk
  rw [tAt_at hb]
  refine lookup_mem ?_ ?_
  · rw [List.map_map]
    exact heard_nodup bs seat sp
  · exact List.mem_map.mpr ⟨_, heard_mem hb, rfl⟩
/-! both at once -/
def nowhere : P3 := ⟨0, 0, 0⟩
def seatAt (ss : List P3) (s : Int) : P3 := ss.getD s.toNat nowhere
def cT (bs : List Bu) (ss : List P3) (sp i j s : Int) : List (Int × Int × Int) := if tAt bs (seatAt ss s) sp i = tAt bs (seatAt ss s) sp j then [(i, j, s)] else []
def rowJ (bs : List Bu) (ss : List P3) (sp i s : Int) (k : Nat) : List (Int × Int × Int) := (rngI (i + 1) k).flatMap fun j => cT bs ss sp i j s
def rowI (bs : List Bu) (ss : List P3) (sp s : Int) (k : Nat) : List (Int × Int × Int) := (rngI 0 k).flatMap fun i => rowJ bs ss sp i s ((bs.length : Int) - (i + 1)).toNat
def togL (bs : List Bu) (ss : List P3) (sp : Int) (k : Nat) : List (Int × Int × Int) := (rngI 0 k).flatMap fun s => rowI bs ss sp s bs.length
theorem rngI_succ (lo : Int) (n : Nat) : rngI lo (n + 1) = rngI lo n ++ [lo + (n : Int)] := by unfold rngI; rw [List.range_succ, List.map_append]; rfl
theorem cT_len (bs : List Bu) (ss : List P3) (sp i j s : Int) : (cT bs ss sp i j s).length ≤ 1 := by unfold cT; split <;> simp
theorem rowJ_len {bs : List Bu} (ss : List P3) (sp i s : Int) (k : Nat) : (rowJ bs ss sp i s k).length ≤ k := by
  have := flat_len (fun j => cT bs ss sp i j s) 1 (rngI (i + 1) k) fun j => cT_len _ _ _ _ _ _
  rw [rngI_len] at this
  unfold rowJ
  omega
def R_tog : List D → (D → Prop) → Prop := fun ds Z => ∃ (bs : List Bu) (ss : List P3) (sp : Int), ds = [.list (bs.map encB), .list (ss.map encT3), .int sp] ∧ Burs bs ∧ Seats ss ∧ (1 ≤ sp ∧ sp ≤ 9) ∧ Z (.list (sortD ((togL bs ss sp ss.length).map enc3)))
theorem rowI_len {bs : List Bu} (hb : bs.length ≤ 5) (ss : List P3) (sp s : Int) (k : Nat) : (rowI bs ss sp s k).length ≤ 5 * k := by
  have h : ∀ l : List Int, (∀ i ∈ l, 0 ≤ i) → (l.flatMap fun i => rowJ bs ss sp i s ((bs.length : Int) - (i + 1)).toNat).length ≤ 5 * l.length := by
    intro l
    induction l with
    | nil => intro _; simp
    | cons x l ih =>
      intro hp
      rw [List.flatMap_cons, List.length_append, List.length_cons]
      have h1 := rowJ_len (bs := bs) ss sp x s ((bs.length : Int) - (x + 1)).toNat
      have h2 := ih fun i hi => hp i (by simp [hi])
      have h3 := hp x (by simp)
      omega
  have := h (rngI 0 k) fun i hi => (rngI_mem.mp hi).1
  rw [rngI_len] at this
  exact this
theorem togL_len {bs : List Bu} (hb : bs.length ≤ 5) (ss : List P3) (sp : Int) (k : Nat) : (togL bs ss sp k).length ≤ 25 * k := by
  have := flat_len (fun s => rowI bs ss sp s bs.length) 25 (rngI 0 k) fun s => by have := rowI_len hb ss sp s bs.length; omega
  rw [rngI_len] at this
  exact this
theorem sx_together (K : PySem.W.Frag) (ds : List D) (Z : D → Prop) (h : R_tog ds Z) : SX (T_together K R_heard) (startE N_together ds) { nx := fun _ => Z .none, rt := fun d _ => Z d } := by
  obtain ⟨bs, ss, sp, rfl, hbs, ⟨⟨sl0, sl⟩, sg⟩, hsp, z⟩ := h
  obtain ⟨bl, bg⟩ := id hbs
  show SX (T_together K R_heard) [.val (.list (bs.map encB)), .val (.list (ss.map encT3)), .val (.int sp), .emp, .emp, .emp, .emp, .emp, .emp, .emp, .emp] _
  unfold T_together
  walk_at "es"
  refine sx_asgO (eo_lst ?_)
  walk_at "es"
  refine sx_for (J := [4, 5]) (ei_enum ?_)
  walk_at "es"
  refine ⟨fun k ρ' => ρ' = [.val (.list (bs.map encB)), .val (.list (ss.map encT3)), .val (.int sp), .own ((togL bs ss sp k).map enc3), .emp, .emp, .emp, .emp, .emp, .emp, .emp], rfl, ?_, ?_⟩
  · rintro s dd ρ' hd0 rfl
    rw [enum_zip] at hd0
    obtain ⟨q, hq, rfl⟩ := map_at hd0
    rw [List.getElem?_zipIdx] at hq
    obtain ⟨seat, hseat, rfl⟩ := Option.map_eq_some_iff.mp hq
    have near := sg seat (List.mem_of_getElem? hseat)
    have hsl : s < ss.length := (List.getElem?_eq_some_iff.mp hseat).1
    have eseat : seatAt ss (s : Int) = seat := by unfold seatAt; rw [Int.toNat_natCast, List.getD_eq_getElem?_getD, hseat]; rfl
    have hs : togL bs ss sp (s + 1) = togL bs ss sp s ++ rowI bs ss sp (s : Int) bs.length := by unfold togL; rw [rngI_succ, flat_snoc, Int.zero_add]
    have len0 := togL_len bl ss sp s
    generalize togL bs ss sp s = F at hs len0 ⊢
    simp only [Nat.zero_add]
    refine sg_tup rfl (sgs_cons (sg_name (by simp) (sgs_cons (sg_name (by simp) (sgs_nil ?_)))))
    walk_at "w"
    refine sx_seq (sx_asgN (by decide) ?_)
    walk_at "es"
    refine ex_of (eo_lcP (α := Int × Int) (fun _ => true) (fun p => encP (swapP p)) (ei_list ?_))
    walk_at "es"
    refine ⟨bs, seat, sp, rfl, hbs, near, hsp, ?_⟩
    refine ⟨_, rfl, heardF bs seat sp, encP, rfl, by rw [heard_len]; omega, fun i hi => by simp at hi; rcases hi with rfl | rfl <;> rfl, fun p hp => ?_, ?_⟩
    · refine sg_tup rfl (sgs_cons (sg_name (by simp) (sgs_cons (sg_name (by simp) (sgs_nil ⟨rfl, ?_⟩)))))
      walk_at "w"
      walk_at "es"
      refine ⟨rfl, rfl, fun _ => ?_⟩
      walk_at "es"
      exact ⟨rfl, rfl⟩
    have em : (((heardF bs seat sp).filter fun _ => true).map fun p => encP (swapP p)) = ((heardF bs seat sp).map swapP).map encP := by rw [List.filter_eq_self.mpr (fun _ _ => rfl), List.map_map]; rfl
    rw [em]
    walk_at "es"
    refine ⟨(heardF bs seat sp).map swapP, rfl, by rw [List.map_map]; exact heard_nodup bs seat sp, ?_⟩
    have lk := fun i h0 h1 => look_at (bs := bs) (seat := seat) (sp := sp) (i := i) h0 h1
    generalize (heardF bs seat sp).map swapP = kvs at lk ⊢
    walk_at "es"
    refine sx_for (J := [9]) (ei_rng1 ?_)
    walk_at "es"
    rw [List.length_map]
    refine ⟨by omega, fun k ρ' => ρ' = [.val (.list (bs.map encB)), .val (.list (ss.map encT3)), .val (.int sp), .own ((F ++ rowI bs ss sp (s : Int) k).map enc3), .val (.int (s : Int)), .val (encT3 seat), .st (.dct kvs), .emp, .emp, .emp, .emp], ?_, ?_, ?_⟩
    · simp [rowI, rngI]
    · rintro k dd ρ' hd1 rfl
      obtain ⟨hk, rfl⟩ := rng_at hd1
      rw [Int.zero_add]
      have hk : k < bs.length := by simpa using hk
      have hr : rowI bs ss sp (s : Int) (k + 1) = rowI bs ss sp (s : Int) k ++ rowJ bs ss sp (k : Int) (s : Int) ((bs.length : Int) - ((k : Int) + 1)).toNat := by unfold rowI; rw [rngI_succ, flat_snoc, Int.zero_add]
      have len1 := rowI_len bl ss sp (s : Int) k
      refine sg_name (by simp) ?_
      walk_at "w"
      refine sx_for (J := [10]) (ei_rng2 ?_)
      walk_at "es"
      rw [List.length_map]
      refine ⟨by omega, fun j ρ' => ρ' = [.val (.list (bs.map encB)), .val (.list (ss.map encT3)), .val (.int sp), .own ((F ++ rowI bs ss sp (s : Int) k ++ rowJ bs ss sp (k : Int) (s : Int) j).map enc3), .val (.int (s : Int)), .val (encT3 seat), .st (.dct kvs), .emp, .emp, .val (.int (k : Int)), .emp], ?_, ?_, ?_⟩
      · simp [rowJ, rngI]
      · rintro j dd ρ' hd2 rfl
        obtain ⟨hj, rfl⟩ := rng_at hd2
        have hj2 : rowJ bs ss sp (k : Int) (s : Int) (j + 1) = rowJ bs ss sp (k : Int) (s : Int) j ++ cT bs ss sp (k : Int) ((k : Int) + 1 + (j : Int)) (s : Int) := by unfold rowJ; rw [rngI_succ, flat_snoc]
        have len2 := rowJ_len (bs := bs) ss sp (k : Int) (s : Int) j
        have bj : (k : Int) + 1 + (j : Int) < bs.length := by omega
        have lk1 := lk (k : Int) (by omega) (by omega)
        have lk2 := lk ((k : Int) + 1 + (j : Int)) (by omega) bj
        unfold cT at hj2
        rw [eseat] at hj2
        refine sg_name (by simp) ?_
        walk_at "w"
        walk_at "es"
        refine ex_dget rfl ?_
        walk_at "es"
        refine ⟨(k : Int), _, kvs, rfl, rfl, lk1, ?_⟩
        refine ex_dget rfl ?_
        walk_at "es"
        refine ⟨_, _, kvs, rfl, rfl, lk2, ?_⟩
        walk_at "es"
        refine ⟨fun hb => ?_, fun hb => ?_⟩
        · have hb := of_decide_eq_true hb
          rw [if_pos hb] at hj2
          refine sx_app rfl ?_
          walk_at "es"
          refine ⟨by rw [List.length_map, List.length_append, List.length_append]; omega, ?_⟩
          refine ⟨_, ?_, rfl⟩
          rw [hj2, ← List.append_assoc, List.map_append]
          walk_at "le"
        · have hb := of_decide_eq_false hb
          rw [if_neg hb, List.append_nil] at hj2
          walk_at "es"
          refine ⟨_, ?_, rfl⟩
          rw [hj2]
          walk_at "le"
      · rintro ρ' rfl
        rw [rng_size]
        refine ⟨_, ?_, rfl⟩
        rw [hr, ← List.append_assoc]
        walk_at "le"
    · rintro ρ' rfl
      rw [rng_size, Int.toNat_natCast]
      refine ⟨_, ?_, rfl⟩
      rw [hs]
      walk_at "le"
  · rintro ρ' rfl
    rw [enumD_len, List.length_map]
    refine nx_seq (sx_freeze 3 rfl ?_)
    walk_at "w"
    walk_at "es"
    refine cbd_sortD (alike_3 _) (sortable_3 _) (deep_3 _) ?_
    exact z
end Law_k71
namespace Law_k71
open PySem L2 Pu
local macro_rules | `(tactic| walk_at "e") => `(tactic| first
  | ((with_reducible refine nx_seq ?_); (try dsimp only [List.set_cons_succ, List.set_cons_zero]))
  | ((with_reducible refine ex_vr ?_); dsimp only [VQ, List.set_cons_succ, List.set_cons_zero, List.getElem?_cons_zero, List.getElem?_cons_succ]; (fail_if_success (with_reducible show False)))
  | (with_reducible refine sx_seq ?_)
  | (with_reducible refine sx_if ?_)
  | (with_reducible refine sx_next ?_)
  | (with_reducible refine sx_ret ?_)
  | ((fail_if_success (with_reducible refine sx_asgO (eo_lst ?_))); (with_reducible refine sx_asg ?_))
  | (with_reducible refine ex_int ?_)
  | (with_reducible refine ex_str ?_)
  | (with_reducible refine ex_bl ?_)
  | (with_reducible refine ex_non ?_)
  | (with_reducible refine ex_op ?_)
  | (with_reducible refine ex_un ?_)
  | (with_reducible refine ex_chain ?_)
  | (with_reducible refine ex_call ?_)
  | (with_reducible refine ex_isT ?_)
  | (with_reducible refine ex_cb ?_)
  | (with_reducible refine ex_sl ?_)
  | (with_reducible refine ex_tup ?_)
  | (with_reducible refine ex_if ?_)
  | (with_reducible refine ex_of (eo_lst ?_))
  | (with_reducible refine ex_notV ?_)
  | (with_reducible refine ea_nil ?_)
  | (with_reducible refine ea_cons ?_)
  | (with_reducible refine ep_no ?_)
  | (with_reducible refine ep_some ?_)
  | (with_reducible refine et_test ?_)
  | (with_reducible refine et_B ?_)
  | (with_reducible refine et_and ?_)
  | (with_reducible refine et_or ?_)
  | (with_reducible refine et_not ?_)
  | (with_reducible refine et_yes ?_)
  | (with_reducible refine opd_plusI ?_)
  | (with_reducible refine opd_I0 ?_)
  | (with_reducible refine opd_B0 ?_)
  | (with_reducible refine opd_eqI ?_)
  | (with_reducible refine opd_neI ?_)
  | (with_reducible refine opd_eqS ?_)
  | (with_reducible refine opd_neS ?_)
  | (with_reducible refine opd_is ?_)
  | (with_reducible refine opd_isnt ?_)
  | (with_reducible refine opd_ixT rfl ?_)
  | (with_reducible refine opd_ixL rfl ?_)
  | (with_reducible refine und_neg ?_)
  | (with_reducible refine cbd_lenL ?_)
  | (with_reducible refine cbd_lenT ?_)
  | (with_reducible refine cbd_min2 ?_)
  | (with_reducible refine cbd_max2 ?_)
  | (with_reducible refine cbd_abs ?_)
  | (with_reducible refine cbd_int ?_)
  | (with_reducible refine cbd_tupL ?_)
  | (with_reducible refine cbd_listL ?_)
  | (with_reducible refine cbd_listT ?_)
  | (with_reducible refine cbd_sum ?_)
  | (with_reducible refine sld_T ?_)
  | (with_reducible refine sld_L ?_)
  | (with_reducible refine ex_revL ?_)
  | (with_reducible refine ex_bmL ?_)
  | (with_reducible refine ex_andV ?_)
  | (with_reducible refine ei_list ?_)
  | (with_reducible refine ei_rng1 ?_)
  | (with_reducible refine ei_rng2 ?_)
  | (with_reducible refine ei_enum ?_)
  | (with_reducible refine ei_enumT ?_)
  | (with_reducible refine ei_zip ?_)
  | (with_reducible refine sx_par ?_)
  | (with_reducible refine Exists.intro _ (And.intro rfl ?_))
  | (with_reducible refine Exists.intro _ (Exists.intro _ (And.intro rfl ?_)))
  | ((with_reducible show EX (tCall (spS _) [] _ (tCons (tVar _) _)) _ _); refine ex_callS rfl ?_)
  | ((with_reducible refine And.intro (show (_ : Nat) ≤ 100000 from ?_) ?_); (focus (simp; done)))
  | ((with_reducible refine opd_I ?_ ?_); focus (first | omega | (show CDiv _ _; exact ⟨by omega, by omega⟩) | (show CMul _ _; first | exact Or.inl ⟨by omega, by omega⟩ | exact Or.inr ⟨by omega, by omega⟩))))
local macro_rules | `(tactic| walk_at "es") => `(tactic| repeat walk_at "e")
local macro_rules | `(tactic| walk_at "w") => `(tactic| try dsimp only [wipeE, List.foldl_cons, List.foldl_nil, List.set_cons_succ, List.set_cons_zero])
local macro_rules | `(tactic| walk_at "le") => `(tactic| repeat' first | exact LeE.nil | (refine LeE.eq rfl ?_) | (refine LeE.emp ?_) | (refine LeE.eq ?_ ?_))
local macro_rules | `(tactic| walk_at "no") => `(tactic| ((refine And.intro (fun hb => absurd hb ?_) (fun _ => ?_)); (focus (first | (exact Bool.false_ne_true) | (simp; done) | (simp; omega) | (simp only [decide_eq_true_eq]; omega)))))
local macro_rules | `(tactic| walk_at "yes") => `(tactic| ((refine And.intro (fun _ => ?_) (fun hb => absurd hb ?_)); (rotate_left); (focus (first | (exact Bool.noConfusion) | (simp; done) | (simp; omega) | (simp only [decide_eq_false_iff_not]; omega)))))
def lt3 (a b : Int × Int × Int) : Bool := decide (a.1 < b.1) || (decide (a.1 = b.1) && (decide (a.2.1 < b.2.1) || (decide (a.2.1 = b.2.1) && decide (a.2.2 < b.2.2))))
theorem enc3_lt (u v : Int × Int × Int) : PySem.W.dataLt (enc3 u) (enc3 v) = lt3 u v := by
  have e : PySem.W.dataLt (enc3 u) (enc3 v) = decide ([u.1, u.2.1, u.2.2] < [v.1, v.2.1, v.2.2]) := by
    unfold enc3
    rw [PySem.W.dataLt_tuple]
    exact PySem.W.dataLt_ints [u.1, u.2.1, u.2.2] [v.1, v.2.1, v.2.2]
  rw [e]
  unfold lt3
  by_cases h1 : u.1 < v.1 <;> by_cases h2 : u.1 = v.1 <;> by_cases h3 : u.2.1 < v.2.1 <;> by_cases h4 : u.2.1 = v.2.1 <;> simp [List.cons_lt_cons_iff, h1, h2, h3, h4]
theorem lt3_ntr (u v w : Int × Int × Int) (h1 : lt3 v u = false) (h2 : lt3 w v = false) : lt3 w u = false := by
  simp only [lt3, Bool.or_eq_false_iff, Bool.and_eq_false_iff, decide_eq_false_iff_not] at *
  omega
theorem lt3_as (u v : Int × Int × Int) (h1 : lt3 u v = true) : lt3 v u = false := by
  simp only [lt3, Bool.or_eq_true, Bool.and_eq_true, decide_eq_true_eq, Bool.or_eq_false_iff, Bool.and_eq_false_iff, decide_eq_false_iff_not] at *
  omega
theorem lt3_tot (u v : Int × Int × Int) (h1 : lt3 u v = false) (h2 : lt3 v u = false) : u = v := by
  obtain ⟨u1, u2, u3⟩ := u
  obtain ⟨v1, v2, v3⟩ := v
  simp only [lt3, Bool.or_eq_false_iff, Bool.and_eq_false_iff, decide_eq_false_iff_not, Prod.mk.injEq] at *
  omega
theorem sort3 (xs : List (Int × Int × Int)) : sortD (xs.map enc3) = (xs.mergeSort fun a b => !lt3 b a).map enc3 := by
  have e := PySem.W.sort_maps (r := fun a b => !lt3 b a) (s := PySem.W.dataLe false id) enc3 (l := xs) (fun a _ b _ => by
    show (!lt3 b a) = (!PySem.W.dataLt (enc3 b) (enc3 a))
    rw [enc3_lt])
  exact e.symm
theorem sortD_perm {xs ys : List (Int × Int × Int)} (p : xs.Perm ys) : sortD (xs.map enc3) = sortD (ys.map enc3) := by
  rw [sort3, sort3]
  have pw : ∀ l : List (Int × Int × Int), (l.mergeSort fun a b => !lt3 b a).Pairwise fun a b => (!lt3 b a) = true := fun l => List.pairwise_mergeSort (fun a b c h1 h2 => by
    simp only [Bool.not_eq_true'] at h1 h2 ⊢
    exact lt3_ntr a b c h1 h2) (fun a b => by
    cases h : lt3 b a with
    | false => rfl
    | true => simp [lt3_as _ _ h]) l
  rw [uniq_of (le := fun a b => !lt3 b a) (fun a b h1 h2 => by
    simp only [Bool.not_eq_true'] at h1 h2
    exact lt3_tot a b h2 h1) (((List.mergeSort_perm xs _).trans p).trans (List.mergeSort_perm ys _).symm) (pw xs) (pw ys)]
/-! the order of gathering -/
theorem perm_congr {α β : Type} {f g : α → List β} : ∀ l : List α, (∀ x ∈ l, (f x).Perm (g x)) → (l.flatMap f).Perm (l.flatMap g)
  | [], _ => .refl _
  | x :: l, h => by
    rw [List.flatMap_cons, List.flatMap_cons]
    exact (h x (by simp)).append (perm_congr l fun y hy => h y (by simp [hy]))
theorem flat_two {α β : Type} (f g : α → List β) : ∀ l : List α, (l.flatMap fun x => f x ++ g x).Perm (l.flatMap f ++ l.flatMap g)
  | [] => .refl _
  | x :: l => by
    rw [List.flatMap_cons, List.flatMap_cons, List.flatMap_cons]
    have ih := flat_two f g l
    have h1 : (f x ++ g x ++ l.flatMap fun x => f x ++ g x).Perm (f x ++ g x ++ (l.flatMap f ++ l.flatMap g)) := ih.append_left _
    refine h1.trans ?_
    rw [List.append_assoc, List.append_assoc]
    refine List.Perm.append_left _ ?_
    rw [← List.append_assoc, ← List.append_assoc]
    exact List.perm_append_comm.append_right _
theorem flat_nil {α β : Type} : ∀ l : List α, (l.flatMap fun _ => ([] : List β)) = []
  | [] => rfl
  | _ :: l => by rw [List.flatMap_cons, flat_nil l]; rfl
theorem perm_swap {α β γ : Type} (f : α → β → List γ) (bs : List β) : ∀ as : List α, (as.flatMap fun a => bs.flatMap fun b => f a b).Perm (bs.flatMap fun b => as.flatMap fun a => f a b)
  | [] => by rw [List.flatMap_nil]; simp only [List.flatMap_nil]; rw [flat_nil]
  | a :: as => by
    rw [List.flatMap_cons]
    have ih := perm_swap f bs as
    refine (ih.append_left _).trans ?_
    have e : (bs.flatMap fun b => (a :: as).flatMap fun a => f a b) = bs.flatMap fun b => f a b ++ as.flatMap fun a => f a b := by
      congr 1
    rw [e]
    exact (flat_two _ _ bs).symm
def pairS (bs : List Bu) (ss : List P3) (sp i j : Int) (k : Nat) : List (Int × Int × Int) := (rngI 0 k).flatMap fun s => cT bs ss sp i j s
def pairJ (bs : List Bu) (ss : List P3) (sp i : Int) (k : Nat) : List (Int × Int × Int) := (rngI (i + 1) k).flatMap fun j => pairS bs ss sp i j ss.length
def pairL (bs : List Bu) (ss : List P3) (sp : Int) (k : Nat) : List (Int × Int × Int) := (rngI 0 k).flatMap fun i => pairJ bs ss sp i ((bs.length : Int) - (i + 1)).toNat
theorem tog_perm (bs : List Bu) (ss : List P3) (sp : Int) : (togL bs ss sp ss.length).Perm (pairL bs ss sp bs.length) := by
  unfold togL pairL rowI
  refine (perm_swap _ _ _).trans (perm_congr _ fun i _ => ?_)
  unfold rowJ pairJ
  exact perm_swap _ _ _
/-! lists told index by index -/
def dB : Bu := ⟨0, nowhere⟩
theorem rng_map_eq {α β : Type} {xs : List α} {f : Int → β} {g : α → β} {n : Nat} (hn : xs.length = n) (h : ∀ k : Nat, ∀ x, xs[k]? = some x → f (k : Int) = g x) : (rngI 0 n).map f = xs.map g := by
  subst hn
  apply List.ext_getElem
  · simp [rngI]
  · intro k h1 h2
    have hk : k < xs.length := by simpa using h2
    simp only [rngI, List.getElem_map, List.getElem_range, Int.zero_add]
    exact h k xs[k] (List.getElem?_eq_getElem hk)
theorem getD_at {α : Type} {l : List α} {k : Nat} {x d : α} (h : l[k]? = some x) : l.getD k d = x := by rw [List.getD_eq_getElem?_getD, h]; rfl
def dueF (bs : List Bu) (seat : P3) (sp : Int) (k : Int) : Int × Int := ((bs.getD k.toNat dB).t + (tF (sqF (bs.getD k.toNat dB).p seat) sp : Int), k)
theorem due_eq (bs : List Bu) (seat : P3) (sp : Int) : (((rngI 0 bs.length).filter fun _ => true).map fun k => encP (dueF bs seat sp k)) = (rowsF bs seat sp).map encP := by
  rw [List.filter_eq_self.mpr (fun _ _ => rfl)]
  unfold rowsF
  rw [List.map_map]
  refine rng_map_eq (by rw [List.length_zipIdx]) fun k x hx => ?_
  rw [List.getElem?_zipIdx] at hx
  obtain ⟨b, hb, rfl⟩ := Option.map_eq_some_iff.mp hx
  simp only [Function.comp, rowOf, dueF, Int.toNat_natCast, getD_at hb, Nat.zero_add]
theorem gaps_len (T : List Int) : (gapsL T).length = T.length - 1 := by unfold gapsL; simp
theorem gaps_at {T : List Int} {k : Nat} {x : Int × Int} (h : (gapsL T)[k]? = some x) : x = (T.getD (k + 1) 0 - T.getD k 0, T.getD k 0) := by
  have hk : k < T.length - 1 := by
    have := (List.getElem?_eq_some_iff.mp h).1
    rwa [gaps_len] at this
  unfold gapsL at h
  rw [List.getElem?_map] at h
  obtain ⟨q, hq, rfl⟩ := Option.map_eq_some_iff.mp h
  rw [List.getElem?_zip_eq_some] at hq
  obtain ⟨h1, h2⟩ := hq
  rw [List.getElem?_drop, Nat.add_comm] at h2
  rw [getD_at h1, getD_at h2]
def gapF (T : List Int) (k : Int) : Int := T.getD (k + 1).toNat 0 - T.getD k.toNat 0
theorem gaps_eq (T : List Int) : (((rngI 0 ((T.length : Int) - 1).toNat).filter fun _ => true).map fun k => PyData.int (gapF T k)) = ((gapsL T).map Prod.fst).map .int := by
  rw [List.filter_eq_self.mpr (fun _ _ => rfl), List.map_map]
  refine rng_map_eq (by rw [gaps_len]; omega) fun k x hx => ?_
  rw [gaps_at hx]
  have e : ((k : Int) + 1).toNat = k + 1 := by omega
  simp only [Function.comp, gapF, e, Int.toNat_natCast]
theorem loud_at {T : List Int} {win : Int} {k : Nat} {x : Int × Int} (h : (loudL T win)[k]? = some x) : x = ((((T.drop k).filter fun y => decide (y < T.getD k 0 + win)).length : Int), T.getD k 0) ∧ k < T.length := by
  unfold loudL at h
  rw [List.getElem?_map, List.getElem?_zipIdx] at h
  obtain ⟨q, hq, rfl⟩ := Option.map_eq_some_iff.mp h
  obtain ⟨t, ht, rfl⟩ := Option.map_eq_some_iff.mp hq
  rw [getD_at ht]
  exact ⟨by simp, (List.getElem?_eq_some_iff.mp ht).1⟩
theorem loud_len (T : List Int) (win : Int) : (loudL T win).length = T.length := by unfold loudL; rw [List.length_map, List.length_zipIdx]
def firstF (T : List Int) (win k : Int) : Int := (((T.drop k.toNat).filter fun y => decide (y < T.getD k.toNat 0 + win)).length : Int)
theorem firsts_eq (T : List Int) (win : Int) : (((rngI 0 T.length).filter fun _ => true).map fun k => PyData.int (firstF T win k)) = ((loudL T win).map Prod.fst).map .int := by
  rw [List.filter_eq_self.mpr (fun _ _ => rfl), List.map_map]
  refine rng_map_eq (loud_len T win) fun k x hx => ?_
  rw [(loud_at hx).1]
  simp only [Function.comp, firstF, Int.toNat_natCast]
theorem snd_gaps {T : List Int} {i : Nat} (h : i < (gapsL T).length) : ((gapsL T).map Prod.snd).getD i 0 = T.getD i 0 := by
  have e := List.getElem?_eq_getElem h
  have g := gaps_at e
  rw [List.getD_eq_getElem?_getD, List.getElem?_map, e, g]
  rfl
theorem snd_loud {T : List Int} {win : Int} {i : Nat} (h : i < (loudL T win).length) : ((loudL T win).map Prod.snd).getD i 0 = T.getD i 0 := by
  have e := List.getElem?_eq_getElem h
  have g := (loud_at e).1
  rw [List.getD_eq_getElem?_getD, List.getElem?_map, e, g]
  rfl
theorem loud_pos {T : List Int} {win : Int} (hw : 1 ≤ win) {x : Int} (h : x ∈ (loudL T win).map Prod.fst) : 0 < x := by
  obtain ⟨p, hp, rfl⟩ := List.mem_map.mp h
  obtain ⟨k, hk⟩ := List.mem_iff_getElem?.mp hp
  obtain ⟨e, hlt⟩ := loud_at hk
  rw [e]
  have hd : T.getD k 0 ∈ (T.drop k).filter fun y => decide (y < T.getD k 0 + win) := by
    rw [List.mem_filter]
    refine ⟨?_, by simp; omega⟩
    rw [List.getD_eq_getElem?_getD, List.getElem?_eq_getElem hlt]
    show T[k] ∈ T.drop k
    rw [List.drop_eq_getElem_cons hlt]
    exact List.mem_cons_self
  have := List.length_pos_of_mem hd
  simp only
  omega
/-! the mirrored way is never shorter -/
theorem tF_mono {s1 s2 sp : Int} (h0 : 0 ≤ s1) (h : s1 ≤ s2) (hs : 1 ≤ sp) : tF s1 sp ≤ tF s2 sp := by
  have a := tF_is h0 hs
  have b := tF_is (Int.le_trans h0 h) hs
  rcases Nat.lt_or_ge (tF s2 sp) (tF s1 sp) with q | q
  · have := a.less _ q
    have := b.hit
    omega
  · exact q
theorem fold_sq {p s a : Int} (h : 0 < (p - a) * (s - a)) : (p - s) * (p - s) ≤ (2 * a - p - s) * (2 * a - p - s) := by
  obtain ⟨u, hu⟩ : ∃ u, p = a + u := ⟨p - a, by omega⟩
  obtain ⟨v, hv⟩ : ∃ v, s = a + v := ⟨s - a, by omega⟩
  subst hu hv
  have e1 : a + u - a = u := by omega
  have e2 : a + v - a = v := by omega
  have e3 : a + u - (a + v) = u - v := by omega
  have e4 : 2 * a - (a + u) - (a + v) = -(u + v) := by omega
  rw [e1, e2] at h
  rw [e3, e4, Int.neg_mul_neg]
  simp only [Int.add_mul, Int.mul_add, Int.sub_mul, Int.mul_sub]
  rw [Int.mul_comm v u]
  omega
theorem mir_far {p seat : P3} {w : Int × Int} (hw : Wall w) (h : 0 < (coord p w.1 - w.2) * (coord seat w.1 - w.2)) : sqF p seat ≤ sqF (mirF p w.1 w.2) seat := by
  obtain ⟨ax, a⟩ := w
  obtain ⟨⟨a0, a1⟩, _⟩ := hw
  simp only at a0 a1 h ⊢
  rcases (show ax = 0 ∨ ax = 1 ∨ ax = 2 by omega) with rfl | rfl | rfl
  · have q : 0 < (p.x - a) * (seat.x - a) := h
    have := fold_sq q
    unfold sqF
    show _ ≤ (2 * a - p.x - seat.x) * (2 * a - p.x - seat.x) + (p.y - seat.y) * (p.y - seat.y) + (p.z - seat.z) * (p.z - seat.z)
    omega
  · have q : 0 < (p.y - a) * (seat.y - a) := h
    have := fold_sq q
    unfold sqF
    show _ ≤ (p.x - seat.x) * (p.x - seat.x) + (2 * a - p.y - seat.y) * (2 * a - p.y - seat.y) + (p.z - seat.z) * (p.z - seat.z)
    omega
  · have q : 0 < (p.z - a) * (seat.z - a) := h
    have := fold_sq q
    unfold sqF
    show _ ≤ (p.x - seat.x) * (p.x - seat.x) + (p.y - seat.y) * (p.y - seat.y) + (2 * a - p.z - seat.z) * (2 * a - p.z - seat.z)
    omega
theorem same_side {x y : Int} : 0 < x * y ↔ (x < 0 ∧ y < 0) ∨ (0 < x ∧ 0 < y) := by
  constructor
  · intro h
    rcases Int.lt_trichotomy x 0 with a | a | a
    · rcases Int.lt_trichotomy y 0 with b | b | b
      · exact .inl ⟨a, b⟩
      · rw [b, Int.mul_zero] at h; omega
      · have := Int.mul_neg_of_neg_of_pos a b; omega
    · rw [a, Int.zero_mul] at h; omega
    · rcases Int.lt_trichotomy y 0 with b | b | b
      · have := Int.mul_neg_of_pos_of_neg a b; omega
      · rw [b, Int.mul_zero] at h; omega
      · exact .inr ⟨a, b⟩
  · rintro (⟨a, b⟩ | ⟨a, b⟩)
    · exact Int.mul_pos_of_neg_of_neg a b
    · exact Int.mul_pos a b
/-! counts on both sides -/
theorem leP_trans (a b c : Int × Int) (h1 : leP a b = true) (h2 : leP b c = true) : leP a c = true := by
  simp only [leP, ltP, Bool.not_eq_true', decide_eq_false_iff_not] at *
  omega
theorem leP_total (a b : Int × Int) : (leP a b || leP b a) = true := by
  cases h : leP a b with
  | true => rfl
  | false =>
    cases g : leP b a with
    | true => rfl
    | false =>
      simp only [leP, ltP, Bool.not_eq_false', decide_eq_true_eq] at h g
      omega
theorem ticks_sorted (bs : List Bu) (seat : P3) (sp : Int) : (ticksOf bs seat sp).Pairwise (· ≤ ·) := by
  unfold ticksOf heardF
  refine List.pairwise_map.mpr ((List.pairwise_mergeSort leP_trans leP_total _).imp fun {a b} h => ?_)
  simp only [leP, ltP, Bool.not_eq_true', decide_eq_false_iff_not] at h
  omega
def countF (T : List Int) (win t : Int) : Int := ((T.filter fun x => decide (t ≤ x) && decide (x < t + win)).length : Int)
theorem max_le {l : List Int} {M : Int} (h : 0 < l.length) (g : ∀ x ∈ l, x ≤ M) : foldMax l ≤ M := g _ (max_mem h)
theorem tail_ge {T : List Int} (hs : T.Pairwise (· ≤ ·)) {k : Nat} (hk : k < T.length) {y : Int} (hy : y ∈ T.drop k) : T[k] ≤ y := by
  have h := hs.sublist (List.drop_sublist k T)
  rw [List.drop_eq_getElem_cons hk] at h hy
  rcases List.mem_cons.mp hy with rfl | hy
  · exact Int.le_refl _
  · exact (List.pairwise_cons.mp h).1 y hy
theorem drop_same {T : List Int} (hs : T.Pairwise (· ≤ ·)) (win : Int) {k : Nat} (hk : k < T.length) : ((T.drop k).filter fun x => decide (T[k] ≤ x) && decide (x < T[k] + win)) = (T.drop k).filter fun x => decide (x < T[k] + win) :=
  List.filter_congr fun y hy => by rw [decide_eq_true (tail_ge hs hk hy), Bool.true_and]
theorem loud_mem {T : List Int} {win : Int} {k : Nat} (hk : k < T.length) : (((T.drop k).filter fun x => decide (x < T[k] + win)).length : Int) ∈ (loudL T win).map Prod.fst := by
  have hk2 : k < (loudL T win).length := by rw [loud_len]; exact hk
  refine List.mem_map.mpr ⟨(loudL T win)[k], List.getElem_mem hk2, ?_⟩
  have g := (loud_at (List.getElem?_eq_getElem hk2)).1
  rw [List.getD_eq_getElem?_getD, List.getElem?_eq_getElem hk] at g
  rw [g]
  rfl
theorem count_le {T : List Int} (hs : T.Pairwise (· ≤ ·)) (win : Int) {k : Nat} (hk : k < T.length) (first : ∀ i (hi : i < k), T[i] ≠ T[k]) : countF T win T[k] ≤ (((T.drop k).filter fun x => decide (x < T[k] + win)).length : Int) := by
  rw [← drop_same hs win hk]
  have z : ((T.take k).filter fun x => decide (T[k] ≤ x) && decide (x < T[k] + win)) = [] := List.filter_eq_nil_iff.mpr fun y hy => by
    obtain ⟨i, hi, rfl⟩ := List.mem_iff_getElem.mp hy
    rw [List.length_take] at hi
    rw [List.getElem_take]
    have ne := first i (by omega)
    have le2 : T[i] ≤ T[k] := List.pairwise_iff_getElem.mp hs i k (by omega) hk (by omega)
    rw [decide_eq_false (by omega), Bool.false_and]
    decide
  show ((T.filter fun x => decide (T[k] ≤ x) && decide (x < T[k] + win)).length : Int) ≤ _
  have e1 : (T.filter fun x => decide (T[k] ≤ x) && decide (x < T[k] + win)) = ((T.take k).filter fun x => decide (T[k] ≤ x) && decide (x < T[k] + win)) ++ ((T.drop k).filter fun x => decide (T[k] ≤ x) && decide (x < T[k] + win)) := by
    rw [← List.filter_append, List.take_append_drop]
  rw [e1, z, List.nil_append]
  exact Int.le_refl _
theorem counts_max {T : List Int} (hs : T.Pairwise (· ≤ ·)) (h0 : 0 < T.length) (win : Int) : foldMax (T.map (countF T win)) = foldMax ((loudL T win).map Prod.fst) := by
  have l1 : 0 < (T.map (countF T win)).length := by rw [List.length_map]; exact h0
  have l2 : 0 < ((loudL T win).map Prod.fst).length := by rw [List.length_map, loud_len]; exact h0
  refine Int.le_antisymm (max_le l1 fun x hx => ?_) (max_le l2 fun x hx => ?_)
  · obtain ⟨t, ht, rfl⟩ := List.mem_map.mp hx
    have hk : T.idxOf t < T.length := List.idxOf_lt_length_iff.mpr ht
    have et : T[T.idxOf t] = t := List.getElem_idxOf hk
    have le := max_ge (loud_mem (win := win) hk)
    have c := count_le hs win hk fun i hi q => by
      have nf := List.not_of_lt_findIdx (p := fun x => x == t) (xs := T) (i := i) hi
      rw [q, et] at nf
      simp at nf
    rw [et] at c le
    omega
  · obtain ⟨p, hp, rfl⟩ := List.mem_map.mp hx
    obtain ⟨k, hk⟩ := List.mem_iff_getElem?.mp hp
    obtain ⟨e, hlt⟩ := loud_at hk
    rw [e]
    have g : T.getD k 0 = T[k] := by rw [List.getD_eq_getElem?_getD, List.getElem?_eq_getElem hlt]; rfl
    simp only [g]
    rw [← drop_same hs win hlt]
    have h1 : ((T.filter fun x => decide (T[k] ≤ x) && decide (x < T[k] + win)).length : Int) ≤ foldMax (T.map (countF T win)) := max_ge (List.mem_map.mpr ⟨_, List.getElem_mem hlt, rfl⟩)
    have h2 := ((List.drop_sublist k T).filter fun x => decide (T[k] ≤ x) && decide (x < T[k] + win)).length_le
    omega
end Law_k71
namespace Law_k71
open PySem L2 Pu
local macro_rules | `(tactic| walk_at "e") => `(tactic| first
  | ((with_reducible refine nx_seq ?_); (try dsimp only [List.set_cons_succ, List.set_cons_zero]))
  | ((with_reducible refine ex_vr ?_); dsimp only [VQ, List.set_cons_succ, List.set_cons_zero, List.getElem?_cons_zero, List.getElem?_cons_succ]; (fail_if_success (with_reducible show False)))
  | (with_reducible refine sx_seq ?_)
  | (with_reducible refine sx_if ?_)
  | (with_reducible refine sx_next ?_)
  | (with_reducible refine sx_ret ?_)
  | ((fail_if_success (with_reducible refine sx_asgO (eo_lst ?_))); (with_reducible refine sx_asg ?_))
  | (with_reducible refine ex_int ?_)
  | (with_reducible refine ex_str ?_)
  | (with_reducible refine ex_bl ?_)
  | (with_reducible refine ex_non ?_)
  | (with_reducible refine ex_op ?_)
  | (with_reducible refine ex_un ?_)
  | (with_reducible refine ex_chain ?_)
  | (with_reducible refine ex_call ?_)
  | (with_reducible refine ex_isT ?_)
  | (with_reducible refine ex_cb ?_)
  | (with_reducible refine ex_sl ?_)
  | (with_reducible refine ex_tup ?_)
  | (with_reducible refine ex_if ?_)
  | (with_reducible refine ex_of (eo_lst ?_))
  | (with_reducible refine ex_notV ?_)
  | (with_reducible refine ea_nil ?_)
  | (with_reducible refine ea_cons ?_)
  | (with_reducible refine ep_no ?_)
  | (with_reducible refine ep_some ?_)
  | (with_reducible refine et_test ?_)
  | (with_reducible refine et_B ?_)
  | (with_reducible refine et_and ?_)
  | (with_reducible refine et_or ?_)
  | (with_reducible refine et_not ?_)
  | (with_reducible refine et_yes ?_)
  | (with_reducible refine opd_plusI ?_)
  | (with_reducible refine opd_I0 ?_)
  | (with_reducible refine opd_B0 ?_)
  | (with_reducible refine opd_eqI ?_)
  | (with_reducible refine opd_neI ?_)
  | (with_reducible refine opd_eqS ?_)
  | (with_reducible refine opd_neS ?_)
  | (with_reducible refine opd_is ?_)
  | (with_reducible refine opd_isnt ?_)
  | (with_reducible refine opd_ixT rfl ?_)
  | (with_reducible refine opd_ixL rfl ?_)
  | (with_reducible refine und_neg ?_)
  | (with_reducible refine cbd_lenL ?_)
  | (with_reducible refine cbd_lenT ?_)
  | (with_reducible refine cbd_min2 ?_)
  | (with_reducible refine cbd_max2 ?_)
  | (with_reducible refine cbd_abs ?_)
  | (with_reducible refine cbd_int ?_)
  | (with_reducible refine cbd_tupL ?_)
  | (with_reducible refine cbd_listL ?_)
  | (with_reducible refine cbd_listT ?_)
  | (with_reducible refine cbd_sum ?_)
  | (with_reducible refine sld_T ?_)
  | (with_reducible refine sld_L ?_)
  | (with_reducible refine ex_revL ?_)
  | (with_reducible refine ex_bmL ?_)
  | (with_reducible refine ex_andV ?_)
  | (with_reducible refine ei_list ?_)
  | (with_reducible refine ei_rng1 ?_)
  | (with_reducible refine ei_rng2 ?_)
  | (with_reducible refine ei_enum ?_)
  | (with_reducible refine ei_enumT ?_)
  | (with_reducible refine ei_zip ?_)
  | (with_reducible refine sx_par ?_)
  | (with_reducible refine Exists.intro _ (And.intro rfl ?_))
  | (with_reducible refine Exists.intro _ (Exists.intro _ (And.intro rfl ?_)))
  | ((with_reducible show EX (tCall (spS _) [] _ (tCons (tVar _) _)) _ _); refine ex_callS rfl ?_)
  | ((with_reducible refine And.intro (show (_ : Nat) ≤ 100000 from ?_) ?_); (focus (simp; done)))
  | ((with_reducible refine opd_I ?_ ?_); focus (first | omega | (show CDiv _ _; exact ⟨by omega, by omega⟩) | (show CMul _ _; first | exact Or.inl ⟨by omega, by omega⟩ | exact Or.inr ⟨by omega, by omega⟩))))
local macro_rules | `(tactic| walk_at "es") => `(tactic| repeat walk_at "e")
local macro_rules | `(tactic| walk_at "w") => `(tactic| try dsimp only [wipeE, List.foldl_cons, List.foldl_nil, List.set_cons_succ, List.set_cons_zero])
local macro_rules | `(tactic| walk_at "le") => `(tactic| repeat' first | exact LeE.nil | (refine LeE.eq rfl ?_) | (refine LeE.emp ?_) | (refine LeE.eq ?_ ?_))
local macro_rules | `(tactic| walk_at "no") => `(tactic| ((refine And.intro (fun hb => absurd hb ?_) (fun _ => ?_)); (focus (first | (exact Bool.false_ne_true) | (simp; done) | (simp; omega) | (simp only [decide_eq_true_eq]; omega)))))
local macro_rules | `(tactic| walk_at "yes") => `(tactic| ((refine And.intro (fun _ => ?_) (fun hb => absurd hb ?_)); (rotate_left); (focus (first | (exact Bool.noConfusion) | (simp; done) | (simp; omega) | (simp only [decide_eq_false_iff_not]; omega)))))
theorem heard_deep (l : List (Int × Int)) : (PyData.list (l.map encP)).depth ≤ 60 := by
  have h : DpN 3 (PyData.list (l.map encP)) := dpn_list (dpn_map fun x _ => dpn_tup (dpn_cons dpn_int (dpn_cons dpn_int dpn_nil)))
  exact Nat.le_trans h (by decide)
theorem bestD_deep (b : Best) : (bestD b).depth ≤ 60 := by
  have h : DpN 3 (bestD b) := dpn_tup (dpn_cons dpn_int (dpn_cons (by cases b.2 <;> simp [optI, DpN, PyData.depth]) dpn_nil))
  exact Nat.le_trans h (by decide)
theorem ex_span {K : PySem.W.Frag} {ρ : Pu.Env} {Q : D → Pu.Env → Prop} {T : List Int} (h17 : ρ[17]? = some (.val (.list (T.map .int)))) (h18 : ρ[18]? = some (.val (.list (((gapsL T).map Prod.fst).map .int)))) (k : Q (bestD (foldB (gapsL T))) ρ) :
    EX (tIf (tAnd (tTest (tOp (rI0 fun i j => .bl (decide (j < i))) (tCB (rLen K) (tCons (tVar 18) tNil)) (tC (.int 0)))) (tTest (tOp (rI0 fun i j => .bl (decide (j < i))) (tCB (rMxD K) (tCons (tVar 18) tNil)) (tC (.int 0))))) (tTup (tCons (tCB (rMxD K) (tCons (tVar 18) tNil)) (tCons (tOp (rIxA K) (tVar 17) (tBM K "list" (rIndex K) (tVar 18) (tCons (tCB (rMxD K) (tCons (tVar 18) tNil)) tNil))) tNil))) (tTup (tCons (tC (.int 0)) (tCons (tC .non) tNil)))) ρ Q := by
  rw [foldB_eq] at k
  unfold bestF at k
  have ln : (((gapsL T).map Prod.fst).map PyData.int).length = (gapsL T).length := by rw [List.length_map, List.length_map]
  refine ex_if (et_and (et_test (ex_op (ex_cb (ea_cons (ex_var h18 (ea_nil (cbd_lenL (ex_int (opd_B0 ⟨_, rfl, fun hb => ?_, fun hb => ?_⟩))))))))))
  · have hb := of_decide_eq_true hb
    rw [ln] at hb
    have hpos : 0 < ((gapsL T).map Prod.fst).length := by rw [List.length_map]; omega
    refine et_test (ex_op (ex_cb (ea_cons (ex_var h18 (ea_nil (cbd_maxI hpos (ex_int (opd_B0 ⟨_, rfl, fun hc => ?_, fun hc => ?_⟩))))))))
    · have hc := of_decide_eq_true hc
      rw [if_pos ⟨by omega, hc⟩] at k
      have hm := max_mem hpos
      have hi : ((gapsL T).map Prod.fst).idxOf (foldMax ((gapsL T).map Prod.fst)) < (gapsL T).length := by
        have := List.idxOf_lt_length_iff.mpr hm
        rwa [List.length_map] at this
      have gl := gaps_len T
      rw [snd_gaps hi] at k
      refine ex_tup (ea_cons (ex_cb (ea_cons (ex_var h18 (ea_nil (cbd_maxI hpos (ea_cons (ex_op (ex_var h17 (ex_bmL (ex_var h18 ⟨_, rfl, ea_cons (ex_cb (ea_cons (ex_var h18 (ea_nil (cbd_maxI hpos (ea_nil (mtd_indexI hm ?_)))))))⟩)))))))))))
      refine opd_ixM 0 (by omega) (by omega) (ea_nil ⟨by simp, ?_⟩)
      rw [Int.toNat_natCast]
      exact k
    · have hc := of_decide_eq_false hc
      rw [if_neg (fun q => hc q.2)] at k
      exact ex_tup (ea_cons (ex_int (ea_cons (ex_non (ea_nil ⟨by simp, k⟩)))))
  · have hb := of_decide_eq_false hb
    rw [ln] at hb
    rw [if_neg (fun q => by have := q.1; omega)] at k
    exact ⟨(fun q => by cases q), fun _ => ex_tup (ea_cons (ex_int (ea_cons (ex_non (ea_nil ⟨by simp, k⟩)))))⟩
theorem ex_most {K : PySem.W.Frag} {ρ : Pu.Env} {Q : D → Pu.Env → Prop} {T : List Int} {win : Int} (hw : 1 ≤ win) (h17 : ρ[17]? = some (.val (.list (T.map .int)))) (h22 : ρ[22]? = some (.val (.list (((loudL T win).map Prod.fst).map .int)))) (k : Q (bestD (foldB (loudL T win))) ρ) :
    EX (tIf (tTest (tOp (rI0 fun i j => .bl (decide (j < i))) (tCB (rLen K) (tCons (tVar 22) tNil)) (tC (.int 0)))) (tTup (tCons (tCB (rMxD K) (tCons (tVar 22) tNil)) (tCons (tOp (rIxA K) (tVar 17) (tBM K "list" (rIndex K) (tVar 22) (tCons (tCB (rMxD K) (tCons (tVar 22) tNil)) tNil))) tNil))) (tTup (tCons (tC (.int 0)) (tCons (tC .non) tNil)))) ρ Q := by
  rw [foldB_eq] at k
  unfold bestF at k
  have ln : (((loudL T win).map Prod.fst).map PyData.int).length = (loudL T win).length := by rw [List.length_map, List.length_map]
  refine ex_if (et_test (ex_op (ex_cb (ea_cons (ex_var h22 (ea_nil (cbd_lenL (ex_int (opd_B0 ⟨_, rfl, fun hb => ?_, fun hb => ?_⟩)))))))))
  · have hb := of_decide_eq_true hb
    rw [ln] at hb
    have hpos : 0 < ((loudL T win).map Prod.fst).length := by rw [List.length_map]; omega
    have hm := max_mem hpos
    rw [if_pos ⟨by omega, loud_pos hw hm⟩] at k
    have hi : ((loudL T win).map Prod.fst).idxOf (foldMax ((loudL T win).map Prod.fst)) < (loudL T win).length := by
      have := List.idxOf_lt_length_iff.mpr hm
      rwa [List.length_map] at this
    have gl := loud_len T win
    rw [snd_loud hi] at k
    refine ex_tup (ea_cons (ex_cb (ea_cons (ex_var h22 (ea_nil (cbd_maxI hpos (ea_cons (ex_op (ex_var h17 (ex_bmL (ex_var h22 ⟨_, rfl, ea_cons (ex_cb (ea_cons (ex_var h22 (ea_nil (cbd_maxI hpos (ea_nil (mtd_indexI hm ?_)))))))⟩)))))))))))
    refine opd_ixM 0 (by omega) (by omega) (ea_nil ⟨by simp, ?_⟩)
    rw [Int.toNat_natCast]
    exact k
  · have hb := of_decide_eq_false hb
    rw [ln] at hb
    rw [if_neg (fun q => by have := q.1; omega)] at k
    exact ex_tup (ea_cons (ex_int (ea_cons (ex_non (ea_nil ⟨by simp, k⟩)))))
theorem et_side {K : PySem.W.Frag} {ρ : Pu.Env} {Q : Bool → Pu.Env → Prop} {p seat : P3} {ax a : Int} (h10 : ρ[10]? = some (.val (encT3 p))) (h28 : ρ[28]? = some (.val (.int ax))) (h29 : ρ[29]? = some (.val (.int a))) (h6 : ρ[6]? = some (.val (encT3 seat))) (hax : 0 ≤ ax ∧ ax ≤ 2)
    (k : Q (decide (0 < (coord p ax - a) * (coord seat ax - a))) ρ) : ET (tOr (tAnd (tTest (tOp (rI0 fun i j => .bl (decide (i < j))) (tOp (rIxA K) (tVar 10) (tVar 28)) (tVar 29))) (tTest (tOp (rI0 fun i j => .bl (decide (i < j))) (tOp (rIxA K) (tVar 6) (tVar 28)) (tVar 29)))) (tAnd (tTest (tOp (rI0 fun i j => .bl (decide (j < i))) (tOp (rIxA K) (tVar 10) (tVar 28)) (tVar 29))) (tTest (tOp (rI0 fun i j => .bl (decide (j < i))) (tOp (rIxA K) (tVar 6) (tVar 28)) (tVar 29))))) ρ Q := by
  have e : (0 < (coord p ax - a) * (coord seat ax - a)) ↔ (coord p ax < a ∧ coord seat ax < a) ∨ (a < coord p ax ∧ a < coord seat ax) := by
    rw [same_side]
    omega
  have tt : (coord p ax < a ∧ coord seat ax < a) ∨ (a < coord p ax ∧ a < coord seat ax) → Q true ρ := fun h => by rw [decide_eq_true (e.mpr h)] at k; exact k
  have ff : ¬ ((coord p ax < a ∧ coord seat ax < a) ∨ (a < coord p ax ∧ a < coord seat ax)) → Q false ρ := fun h => by rw [decide_eq_false (fun q => h (e.mp q))] at k; exact k
  have second : ¬ (coord p ax < a ∧ coord seat ax < a) → ET (tAnd (tTest (tOp (rI0 fun i j => .bl (decide (j < i))) (tOp (rIxA K) (tVar 10) (tVar 28)) (tVar 29))) (tTest (tOp (rI0 fun i j => .bl (decide (j < i))) (tOp (rIxA K) (tVar 6) (tVar 28)) (tVar 29)))) ρ Q := fun n => by
    refine et_and (et_test (ex_op (ex_op (ex_var h10 (ex_var h28 (opd_coord hax (ex_var h29 (opd_B0 ⟨_, rfl, fun hb => ?_, fun hb => ?_⟩))))))))
    · have hb := of_decide_eq_true hb
      refine et_test (ex_op (ex_op (ex_var h6 (ex_var h28 (opd_coord hax (ex_var h29 (opd_B0 ⟨_, rfl, ?_⟩)))))))
      by_cases c : a < coord seat ax
      · rw [decide_eq_true c]; exact tt (.inr ⟨hb, c⟩)
      · rw [decide_eq_false c]; exact ff (fun q => q.elim n fun q => c q.2)
    · have hb := of_decide_eq_false hb
      exact ff (fun q => q.elim n fun q => hb q.1)
  refine et_or (et_and (et_test (ex_op (ex_op (ex_var h10 (ex_var h28 (opd_coord hax (ex_var h29 (opd_B0 ⟨_, rfl, fun hb => ?_, fun hb => ?_⟩)))))))))
  · have hb := of_decide_eq_true hb
    refine et_test (ex_op (ex_op (ex_var h6 (ex_var h28 (opd_coord hax (ex_var h29 (opd_B0 ⟨_, rfl, ?_⟩)))))))
    by_cases c : coord seat ax < a
    · rw [decide_eq_true c]; exact ⟨fun _ => tt (.inl ⟨hb, c⟩), (fun q => by cases q)⟩
    · rw [decide_eq_false c]; exact ⟨(fun q => by cases q), fun _ => second fun q => c q.2⟩
  · have hb := of_decide_eq_false hb
    exact ⟨(fun q => by cases q), fun _ => second fun q => hb q.1⟩
theorem sh_T3 {p : P3} (h : p.near) : Sh 6010 (encT3 p) := by
  obtain ⟨⟨_, _⟩, ⟨_, _⟩, _, _⟩ := h
  exact sh_tup (m := 3) (sh_cons (sh_int (by omega)) (sh_cons (sh_int (by omega)) (sh_cons (sh_int (by omega)) sh_nil))) (by simp)
theorem sh_scene {bs : List Bu} {ss : List P3} (hb : Burs bs) (hs : Seats ss) : Sh 200000 (.tuple [.list (bs.map encB), .list (ss.map encT3)]) := by
  have b1 : ∀ d ∈ bs.map encB, Sh 12028 d := sh_map fun b hm => by
    have ok := hb.2 b hm
    have t := ok.1
    exact sh_tup (m := 2) (sh_cons ((sh_int (i := b.t) (by omega)).up (m := 6010) (by omega)) (sh_cons (sh_T3 ok.2) sh_nil)) (by simp)
  have s1 : ∀ d ∈ ss.map encT3, Sh 6010 d := sh_map fun p hm => sh_T3 (hs.2 p hm)
  have b2 := sh_list (m := 5) b1 (by rw [List.length_map]; exact hb.1)
  have s2 := sh_list (m := 4) s1 (by rw [List.length_map]; exact hs.1.2)
  exact (sh_tup (m := 2) (sh_cons b2 (sh_cons (s2.up (by omega)) sh_nil)) (by simp)).up (by omega)
theorem scene_deep (bs : List Bu) (ss : List P3) : (PyData.tuple [.list (bs.map encB), .list (ss.map encT3)]).depth ≤ 60 := by
  have h : DpN 10 (PyData.tuple [.list (bs.map encB), .list (ss.map encT3)]) := dpn_tup (dpn_cons (dpn_list (dpn_map fun x _ => dpn_tup (dpn_cons dpn_int (dpn_cons (dpn_tup (dpn_cons dpn_int (dpn_cons dpn_int (dpn_cons dpn_int dpn_nil)))) dpn_nil)))) (dpn_cons (dpn_list (dpn_map fun x _ => dpn_tup (dpn_cons dpn_int (dpn_cons dpn_int (dpn_cons dpn_int dpn_nil))))) dpn_nil))
  exact Nat.le_trans h (by decide)
def R_law : List D → (D → Prop) → Prop := fun ds Z => ∃ ns : List Int, ds = [.list (ns.map .int)] ∧ Z (.bool true)
end Law_k71
namespace Law_k71
open PySem L2 Pu
local macro_rules | `(tactic| walk_at "e") => `(tactic| first
  | ((with_reducible refine nx_seq ?_); (try dsimp only [List.set_cons_succ, List.set_cons_zero]))
  | ((with_reducible refine ex_vr ?_); dsimp only [VQ, List.set_cons_succ, List.set_cons_zero, List.getElem?_cons_zero, List.getElem?_cons_succ]; (fail_if_success (with_reducible show False)))
  | (with_reducible refine sx_seq ?_)
  | (with_reducible refine sx_if ?_)
  | (with_reducible refine sx_next ?_)
  | (with_reducible refine sx_ret ?_)
  | ((fail_if_success (with_reducible refine sx_asgO (eo_lst ?_))); (with_reducible refine sx_asg ?_))
  | (with_reducible refine ex_int ?_)
  | (with_reducible refine ex_str ?_)
  | (with_reducible refine ex_bl ?_)
  | (with_reducible refine ex_non ?_)
  | (with_reducible refine ex_op ?_)
  | (with_reducible refine ex_un ?_)
  | (with_reducible refine ex_chain ?_)
  | (with_reducible refine ex_call ?_)
  | (with_reducible refine ex_isT ?_)
  | (with_reducible refine ex_cb ?_)
  | (with_reducible refine ex_sl ?_)
  | (with_reducible refine ex_tup ?_)
  | (with_reducible refine ex_if ?_)
  | (with_reducible refine ex_of (eo_lst ?_))
  | (with_reducible refine ex_notV ?_)
  | (with_reducible refine ea_nil ?_)
  | (with_reducible refine ea_cons ?_)
  | (with_reducible refine ep_no ?_)
  | (with_reducible refine ep_some ?_)
  | (with_reducible refine et_test ?_)
  | (with_reducible refine et_B ?_)
  | (with_reducible refine et_and ?_)
  | (with_reducible refine et_or ?_)
  | (with_reducible refine et_not ?_)
  | (with_reducible refine et_yes ?_)
  | (with_reducible refine opd_plusI ?_)
  | (with_reducible refine opd_I0 ?_)
  | (with_reducible refine opd_B0 ?_)
  | (with_reducible refine opd_eqI ?_)
  | (with_reducible refine opd_neI ?_)
  | (with_reducible refine opd_eqS ?_)
  | (with_reducible refine opd_neS ?_)
  | (with_reducible refine opd_is ?_)
  | (with_reducible refine opd_isnt ?_)
  | (with_reducible refine opd_ixT rfl ?_)
  | (with_reducible refine opd_ixL rfl ?_)
  | (with_reducible refine und_neg ?_)
  | (with_reducible refine cbd_lenL ?_)
  | (with_reducible refine cbd_lenT ?_)
  | (with_reducible refine cbd_min2 ?_)
  | (with_reducible refine cbd_max2 ?_)
  | (with_reducible refine cbd_abs ?_)
  | (with_reducible refine cbd_int ?_)
  | (with_reducible refine cbd_tupL ?_)
  | (with_reducible refine cbd_listL ?_)
  | (with_reducible refine cbd_listT ?_)
  | (with_reducible refine cbd_sum ?_)
  | (with_reducible refine sld_T ?_)
  | (with_reducible refine sld_L ?_)
  | (with_reducible refine ex_revL ?_)
  | (with_reducible refine ex_bmL ?_)
  | (with_reducible refine ex_andV ?_)
  | (with_reducible refine ei_list ?_)
  | (with_reducible refine ei_rng1 ?_)
  | (with_reducible refine ei_rng2 ?_)
  | (with_reducible refine ei_enum ?_)
  | (with_reducible refine ei_enumT ?_)
  | (with_reducible refine ei_zip ?_)
  | (with_reducible refine sx_par ?_)
  | (with_reducible refine Exists.intro _ (And.intro rfl ?_))
  | (with_reducible refine Exists.intro _ (Exists.intro _ (And.intro rfl ?_)))
  | ((with_reducible show EX (tCall (spS _) [] _ (tCons (tVar _) _)) _ _); refine ex_callS rfl ?_)
  | ((with_reducible refine And.intro (show (_ : Nat) ≤ 100000 from ?_) ?_); (focus (simp; done)))
  | ((with_reducible refine opd_I ?_ ?_); focus (first | omega | (show CDiv _ _; exact ⟨by omega, by omega⟩) | (show CMul _ _; first | exact Or.inl ⟨by omega, by omega⟩ | exact Or.inr ⟨by omega, by omega⟩))))
local macro_rules | `(tactic| walk_at "es") => `(tactic| repeat walk_at "e")
local macro_rules | `(tactic| walk_at "w") => `(tactic| try dsimp only [wipeE, List.foldl_cons, List.foldl_nil, List.set_cons_succ, List.set_cons_zero])
local macro_rules | `(tactic| walk_at "le") => `(tactic| repeat' first | exact LeE.nil | (refine LeE.eq rfl ?_) | (refine LeE.emp ?_) | (refine LeE.eq ?_ ?_))
local macro_rules | `(tactic| walk_at "no") => `(tactic| ((refine And.intro (fun hb => absurd hb ?_) (fun _ => ?_)); (focus (first | (exact Bool.false_ne_true) | (simp; done) | (simp; omega) | (simp only [decide_eq_true_eq]; omega)))))
local macro_rules | `(tactic| walk_at "yes") => `(tactic| ((refine And.intro (fun _ => ?_) (fun hb => absurd hb ?_)); (rotate_left); (focus (first | (exact Bool.noConfusion) | (simp; done) | (simp; omega) | (simp only [decide_eq_false_iff_not]; omega)))))
theorem at_last {xs : List D} {x : D} : atI (xs ++ [x]) (-1) = some x := by
  unfold atI ixN
  have e : ((-1 : Int) + (((xs ++ [x]).length : Nat) : Int)).toNat = xs.length := by simp only [List.length_append, List.length_cons, List.length_nil]; omega
  simp only [List.length_append, List.length_cons, List.length_nil] at e ⊢
  first
    | (rw [if_neg (by omega), if_pos (by omega), e]; simp)
    | (rw [if_pos (by omega), if_pos (by omega), e]; simp)
    | (simp; omega)
def T_law_end (K : PySem.W.Frag) : TS :=
    (tSeq (tAsg (tLc (iRng1 (tCons (tCall (spS R_take) [] E0 (tCons (tVar 1) (tCons (tC (.int 4)) tNil))) tNil)) (gName 8) tYes (tTup (tCons (tCall (spS R_take) [] E0 (tCons (tVar 1) (tCons (tC (.int 3)) tNil))) (tCons (tOp (rI0 fun i j => .int (i - j)) (tCall (spS R_take) [] E0 (tCons (tVar 1) (tCons (tC (.int 80)) tNil))) (tC (.int 10))) tNil))) [8]) (gName 24))
    (tSeq (tAsg (tLst tNil) (gName 25))
    (tSeq (tFor (iRng1 (tCons (tCB (rLen K) (tCons (tVar 2) tNil)) tNil)) (gName 26)
      (tSeq (tAsg (tOp (rIxA K) (tOp (rIxA K) (tVar 2) (tVar 26)) (tC (.int 1))) (gName 10))
    (tFor (iRng1 (tCons (tCB (rLen K) (tCons (tVar 24) tNil)) tNil)) (gName 27)
      (tSeq (tAsg (tOp (rIxA K) (tVar 24) (tVar 27)) (gTup K 2 (gCons (gName 28) (gCons (gName 29) gNil))))
    (tIfS (tOr (tAnd (tTest (tOp (rI0 fun i j => .bl (decide (i < j))) (tOp (rIxA K) (tVar 10) (tVar 28)) (tVar 29))) (tTest (tOp (rI0 fun i j => .bl (decide (i < j))) (tOp (rIxA K) (tVar 6) (tVar 28)) (tVar 29)))) (tAnd (tTest (tOp (rI0 fun i j => .bl (decide (j < i))) (tOp (rIxA K) (tVar 10) (tVar 28)) (tVar 29))) (tTest (tOp (rI0 fun i j => .bl (decide (j < i))) (tOp (rIxA K) (tVar 6) (tVar 28)) (tVar 29)))))
      (tSeq (tAsg (tCB (rTup K) (tCons (tLc (iRng1 (tCons (tC (.int 3)) tNil)) (gName 8) tYes (tIf (tTest (tOp (rEqP K) (tVar 8) (tVar 28))) (tOp (rI0 fun i j => .int (i - j)) (tOp (rI CMul fun i j => .int (i * j)) (tC (.int 2)) (tVar 29)) (tOp (rIxA K) (tVar 10) (tVar 8))) (tOp (rIxA K) (tVar 10) (tVar 8))) [8]) tNil)) (gName 30))
    (tSeq (tDrop (tBM K "list" rAppend (tVar 25) (tCons (tTup (tCons (tOp (rPlus K) (tOp (rIxA K) (tOp (rIxA K) (tVar 2) (tVar 26)) (tC (.int 0))) (tCall (spP R_ticks) [] E0 (tCons (tVar 30) (tCons (tVar 6) (tCons (tVar 4) tNil))))) (tCons (tVar 26) (tCons (tVar 27) tNil)))) tNil)))
    (tIfS (tTest (tOp (rI0 fun i j => .bl (decide (i < j))) (tOp (rIxA K) (tOp (rIxA K) (tVar 25) (tUn (rU fun i => .int (-i)) (tC (.int 1)))) (tC (.int 0))) (tOp (rPlus K) (tOp (rIxA K) (tOp (rIxA K) (tVar 2) (tVar 26)) (tC (.int 0))) (tCall (spP R_ticks) [] E0 (tCons (tVar 10) (tCons (tVar 6) (tCons (tVar 4) tNil)))))))
      (tRet (tC (.bl false)))
      tNext)))
      tNext)))))
    (tRet (tAndV (tOp (rEqP K) (tCall (spP R_echoes) [] E0 (tCons (tVar 2) (tCons (tVar 6) (tCons (tVar 24) (tCons (tVar 4) tNil))))) (tCB (rSrD K) (tCons (tVar 25) tNil))) (tOp (rEqP K) (tCB (rRepr K) (tCons (tTup (tCons (tVar 2) (tCons (tVar 3) tNil))) tNil)) (tVar 5)))))))
theorem sx_end {K : PySem.W.Frag} {Z : D → Prop} {ns : List Int} {S2 : Stt} {bs : List Bu} {ss : List P3} {sp win : Int} {kt : Str} {seat : P3} {T : List Int} {a11 a18 a19 a21 a22 a23 : Slot} (hbs : Burs bs) (hss : Seats ss) (hsp : 1 ≤ sp ∧ sp ≤ 9) (hseat : seat.near) (ok2 : Ok S2)
    (hkt : (PyData.tuple [.list (bs.map encB), .list (ss.map encT3)]).shown = kt) (z : Z (.bool true)) : SX (T_law_end K) [.val (.list (ns.map .int)), .st S2, .val (.list (bs.map encB)), .val (.list (ss.map encT3)), .val (.int sp), .val (.str kt), .val (encT3 seat), .val (.list ((heardF bs seat sp).map encP)), .emp, .emp, .emp, a11, .emp, .emp, .emp, .emp, .emp, .val (.list (T.map .int)), a18, a19, .val (.int win), a21, a22, a23, .emp, .emp, .emp, .emp, .emp, .emp, .emp] { nx := fun _ => Z .none, rt := fun d _ => Z d } := by
  obtain ⟨bl, bg⟩ := id hbs
  have getB : ∀ {k : Nat}, k < bs.length → (bs.getD k dB).ok := fun {k} h1 => by
    refine bg _ ?_
    rw [List.getD_eq_getElem?_getD, List.getElem?_eq_getElem h1]
    exact List.getElem_mem _
  unfold T_law_end
  refine sx_seq (sx_asg (ex_of (eo_lc (ei_rng1 ?_))))
  walk_at "es"
  refine ⟨4, rfl, by omega, by omega, ok2, fun m S3 m0 m1 ok3 => ?_⟩
  walk_at "es"
  refine ⟨by omega, fun k acc ρ' => ∃ (ws : List (Int × Int)) (S : Stt), ws.length = k ∧ (∀ w ∈ ws, Wall w) ∧ Ok S ∧ acc = ws.map encP ∧ ρ' = [.val (.list (ns.map .int)), .st S, .val (.list (bs.map encB)), .val (.list (ss.map encT3)), .val (.int sp), .val (.str kt), .val (encT3 seat), .val (.list ((heardF bs seat sp).map encP)), .emp, .emp, .emp, a11, .emp, .emp, .emp, .emp, .emp, .val (.list (T.map .int)), a18, a19, .val (.int win), a21, a22, a23, .emp, .emp, .emp, .emp, .emp, .emp, .emp], ⟨[], S3, rfl, (fun b hb => by cases hb), ok3, rfl, rfl⟩, ?_, ?_⟩
  · rintro k dd acc ρ' hd0 ⟨ws, S, hl, hg, ok, rfl, rfl⟩
    obtain ⟨hk, rfl⟩ := rng_at hd0
    refine ⟨(fun i hi => by simp at hi; subst hi; rfl), by rw [List.length_map]; omega, sg_name (by simp) ?_⟩
    walk_at "w"
    refine et_yes ⟨fun _ => ?_, (fun q => by cases q)⟩
    walk_at "es"
    refine ⟨3, rfl, by omega, by omega, ok, fun x S4 x0 x1 ok4 => ?_⟩
    walk_at "es"
    refine ⟨80, rfl, by omega, by omega, ok4, fun y S5 y0 y1 ok5 => ?_⟩
    walk_at "es"
    refine ⟨ws ++ [(x, y - 10)], S5, by simp [hl], ?_, ok5, by rw [List.map_append]; rfl, rfl⟩
    intro w hw
    rcases List.mem_append.mp hw with hw | hw
    · exact hg w hw
    · rw [List.mem_singleton.mp hw]
      exact ⟨⟨x0, by simp only; omega⟩, by simp only; omega, by simp only; omega⟩
  rintro acc ρ' ⟨ws, S4, wl, wg, ok4, rfl, rfl⟩
  rw [rng_size] at wl
  have wl3 : ws.length ≤ 3 := by omega
  have getW : ∀ {k : Nat}, k < ws.length → Wall (ws.getD k (0, 0)) := fun {k} h1 => by
    refine wg _ ?_
    rw [List.getD_eq_getElem?_getD, List.getElem?_eq_getElem h1]
    exact List.getElem_mem _
  walk_at "es"
  refine sx_asgO (eo_lst ?_)
  walk_at "es"
  refine sx_for (J := [26]) (ei_rng1 ?_)
  walk_at "es"
  rw [List.length_map, Int.toNat_natCast]
  refine ⟨by omega, fun k ρ' => ρ' = [.val (.list (ns.map .int)), .st S4, .val (.list (bs.map encB)), .val (.list (ss.map encT3)), .val (.int sp), .val (.str kt), .val (encT3 seat), .val (.list ((heardF bs seat sp).map encP)), .emp, .emp, .emp, a11, .emp, .emp, .emp, .emp, .emp, .val (.list (T.map .int)), a18, a19, .val (.int win), a21, a22, a23, .val (.list (ws.map encP)), .own (((bs.zipIdx.take k).flatMap fun b => partE seat sp b ws.zipIdx).map enc3), .emp, .emp, .emp, .emp, .emp], rfl, ?_, ?_⟩
  · rintro k dd ρ' hd0 rfl
    obtain ⟨hk, rfl⟩ := rng_at hd0
    rw [Int.zero_add]
    have okb := getB hk
    have hB : bs[k]? = some (bs.getD k dB) := by rw [List.getD_eq_getElem?_getD, List.getElem?_eq_getElem hk]; rfl
    generalize hBv : bs.getD k dB = B at okb hB
    have hz : bs.zipIdx[k]? = some (B, k) := by rw [List.getElem?_zipIdx, hB]; simp
    have hs := flat_snoc (bs.zipIdx.take k) (B, k) fun b => partE seat sp b ws.zipIdx
    rw [← take_snoc hz] at hs
    have len0 : ((bs.zipIdx.take k).flatMap fun b => partE seat sp b ws.zipIdx).length ≤ 100 := by
      have h1 := flat_len (fun b => partE seat sp b ws.zipIdx) 3 (bs.zipIdx.take k) fun b => by have := partE_len seat sp b ws.zipIdx; rw [List.length_zipIdx] at this; omega
      have h2 : (bs.zipIdx.take k).length ≤ 5 := by rw [List.length_take, List.length_zipIdx]; omega
      omega
    generalize ((bs.zipIdx.take k).flatMap fun b => partE seat sp b ws.zipIdx) = F at hs len0 ⊢
    have eB : bs.getD (k : Int).toNat dB = B := by rw [Int.toNat_natCast]; exact hBv
    refine sg_name (by simp) ?_
    walk_at "w"
    walk_at "es"
    refine opd_ixM dB (by omega) (by omega) ?_
    rw [eB]
    walk_at "es"
    refine opd_ixT (d := encT3 B.p) rfl ?_
    walk_at "es"
    refine sx_for (J := [27]) (ei_rng1 ?_)
    walk_at "es"
    rw [List.length_map, Int.toNat_natCast]
    refine ⟨by omega, fun j ρ' => ρ' = [.val (.list (ns.map .int)), .st S4, .val (.list (bs.map encB)), .val (.list (ss.map encT3)), .val (.int sp), .val (.str kt), .val (encT3 seat), .val (.list ((heardF bs seat sp).map encP)), .emp, .emp, .val (encT3 B.p), a11, .emp, .emp, .emp, .emp, .emp, .val (.list (T.map .int)), a18, a19, .val (.int win), a21, a22, a23, .val (.list (ws.map encP)), .own ((F ++ partE seat sp (B, k) (ws.zipIdx.take j)).map enc3), .val (.int (k : Int)), .emp, .emp, .emp, .emp], ?_, ?_, ?_⟩
    · simp [partE]
    · rintro j dd ρ' hd1 rfl
      obtain ⟨hj, rfl⟩ := rng_at hd1
      rw [Int.zero_add]
      have okw := getW hj
      have hW : ws[j]? = some (ws.getD j (0, 0)) := by rw [List.getD_eq_getElem?_getD, List.getElem?_eq_getElem hj]; rfl
      generalize hWv : ws.getD j (0, 0) = w at okw hW
      have hz2 : ws.zipIdx[j]? = some (w, j) := by rw [List.getElem?_zipIdx, hW]; simp
      have hp := partE_snoc seat sp (B, k) (ws.zipIdx.take j) (w, j)
      rw [← take_snoc hz2] at hp
      have plen := partE_len seat sp (B, k) (ws.zipIdx.take j)
      have tlen : (ws.zipIdx.take j).length ≤ 3 := by rw [List.length_take, List.length_zipIdx]; omega
      have eW : ws.getD (j : Int).toNat (0, 0) = w := by rw [Int.toNat_natCast]; exact hWv
      have ax := okw.1
      have wr := okw.2
      refine sg_name (by simp) ?_
      walk_at "w"
      refine sx_seq (sx_asgT (J := [28, 29]) ?_)
      walk_at "es"
      refine opd_ixM (0, 0) (by omega) (by omega) ?_
      rw [eW]
      refine sg_tup rfl (sgs_cons (sg_name (by simp) (sgs_cons (sg_name (by simp) (sgs_nil ?_)))))
      walk_at "w"
      refine nx_seq ?_
      refine sx_if (et_side rfl rfl rfl rfl ax ?_)
      refine ⟨fun hc => ?_, fun hc => ?_⟩
      · have hc2 : condE seat (B, k) (w, j) = true := hc
        have hc3 := of_decide_eq_true hc
        rw [if_pos hc2] at hp
        walk_at "es"
        refine ex_of (eo_lcP (α := Int) (fun _ => true) (fun q => .int (if q = w.1 then 2 * w.2 - coord B.p q else coord B.p q)) (ei_rng1 ?_))
        walk_at "es"
        refine ⟨by omega, rngI 0 3, PyData.int, rfl, by rw [rngI_len]; decide, fun i hi => by simp at hi; subst hi; rfl, fun q hq => sg_name (by simp) ⟨rfl, ?_⟩, ?_⟩
        · have hq := rngI_mem.mp hq
          have hq2 : 0 ≤ q ∧ q ≤ 2 := by omega
          walk_at "w"
          walk_at "es"
          refine ⟨rfl, rfl, fun _ => ?_⟩
          walk_at "es"
          refine ⟨fun hb => ?_, fun hb => ?_⟩
          · have hb := of_decide_eq_true hb
            walk_at "es"
            refine opd_coord hq2 ?_
            walk_at "es"
            exact ⟨by rw [if_pos hb], rfl⟩
          · have hb := of_decide_eq_false hb
            walk_at "es"
            refine opd_coord hq2 ?_
            exact ⟨by rw [if_neg hb], rfl⟩
        have em : ((rngI 0 3).filter fun _ => true).map (fun q : Int => PyData.int (if q = w.1 then 2 * w.2 - coord B.p q else coord B.p q)) = [.int (mirF B.p w.1 w.2).x, .int (mirF B.p w.1 w.2).y, .int (mirF B.p w.1 w.2).z] := rfl
        rw [em]
        walk_at "es"
        refine sx_app rfl ?_
        walk_at "es"
        refine opd_ixM dB (by omega) (by omega) ?_
        rw [eB]
        walk_at "es"
        refine opd_ixT (d := .int B.t) rfl ?_
        walk_at "es"
        refine ⟨mirF B.p w.1 w.2, seat, sp, rfl, mir_ok okb.2 okw, hseat.ok, hsp, ?_⟩
        walk_at "es"
        refine ⟨by rw [List.length_map, List.length_append]; omega, ?_⟩
        refine nx_seq ?_
        walk_at "w"
        refine sx_if (et_test (ex_op (ex_op (ex_ixO rfl ?_))))
        walk_at "es"
        refine ⟨_, -1, _, rfl, rfl, at_last, ?_⟩
        walk_at "es"
        refine opd_ixM dB (by omega) (by omega) ?_
        rw [eB]
        walk_at "es"
        refine opd_ixT (d := .int B.t) rfl ?_
        walk_at "es"
        refine ⟨B.p, seat, sp, rfl, okb.2.ok, hseat.ok, hsp, ?_⟩
        walk_at "es"
        have far := tF_mono (sp := sp) (sq_nonneg B.p seat) (mir_far (p := B.p) (seat := seat) okw hc3) hsp.1
        walk_at "no"
        walk_at "es"
        refine ⟨_, ?_, rfl⟩
        rw [hp, ← List.append_assoc, List.map_append]
        walk_at "le"
      · have hc2 : ¬ condE seat (B, k) (w, j) = true := by
          show ¬ decide _ = true
          rw [hc]; decide
        rw [if_neg hc2, List.append_nil] at hp
        walk_at "es"
        refine ⟨_, ?_, rfl⟩
        rw [hp]
        walk_at "le"
    · rintro ρ' rfl
      have e : ws.zipIdx.take ((rngI 0 ws.length).map PyData.int).length = ws.zipIdx := List.take_of_length_le (by rw [rng_size, List.length_zipIdx]; exact Nat.le_refl _)
      rw [e]
      refine ⟨_, ?_, rfl⟩
      rw [hs]
      walk_at "le"
  rintro ρ' rfl
  have e : bs.zipIdx.take ((rngI 0 bs.length).map PyData.int).length = bs.zipIdx := List.take_of_length_le (by rw [rng_size, List.length_zipIdx]; exact Nat.le_refl _)
  rw [e]
  refine nx_seq (sx_freeze 25 rfl ?_)
  walk_at "w"
  walk_at "es"
  refine ⟨bs, seat, ws, sp, rfl, hbs, hseat, ⟨wl3, wg⟩, hsp, ?_⟩
  walk_at "es"
  refine cbd_sortD (alike_3 _) (sortable_3 _) (deep_3 _) ?_
  refine opd_eqSelf (sorted_deep _) ?_
  walk_at "es"
  refine ⟨fun _ => ?_, (fun q => by cases q)⟩
  walk_at "es"
  refine cbd_repr (sh_scene hbs hss) (by decide) (scene_deep bs ss) ?_
  rw [hkt]
  walk_at "es"
  rw [decide_eq_true rfl]
  exact z
end Law_k71
namespace Law_k71
open PySem L2 Pu
local macro_rules | `(tactic| walk_at "e") => `(tactic| first
  | ((with_reducible refine nx_seq ?_); (try dsimp only [List.set_cons_succ, List.set_cons_zero]))
  | ((with_reducible refine ex_vr ?_); dsimp only [VQ, List.set_cons_succ, List.set_cons_zero, List.getElem?_cons_zero, List.getElem?_cons_succ]; (fail_if_success (with_reducible show False)))
  | (with_reducible refine sx_seq ?_)
  | (with_reducible refine sx_if ?_)
  | (with_reducible refine sx_next ?_)
  | (with_reducible refine sx_ret ?_)
  | ((fail_if_success (with_reducible refine sx_asgO (eo_lst ?_))); (with_reducible refine sx_asg ?_))
  | (with_reducible refine ex_int ?_)
  | (with_reducible refine ex_str ?_)
  | (with_reducible refine ex_bl ?_)
  | (with_reducible refine ex_non ?_)
  | (with_reducible refine ex_op ?_)
  | (with_reducible refine ex_un ?_)
  | (with_reducible refine ex_chain ?_)
  | (with_reducible refine ex_call ?_)
  | (with_reducible refine ex_isT ?_)
  | (with_reducible refine ex_cb ?_)
  | (with_reducible refine ex_sl ?_)
  | (with_reducible refine ex_tup ?_)
  | (with_reducible refine ex_if ?_)
  | (with_reducible refine ex_of (eo_lst ?_))
  | (with_reducible refine ex_notV ?_)
  | (with_reducible refine ea_nil ?_)
  | (with_reducible refine ea_cons ?_)
  | (with_reducible refine ep_no ?_)
  | (with_reducible refine ep_some ?_)
  | (with_reducible refine et_test ?_)
  | (with_reducible refine et_B ?_)
  | (with_reducible refine et_and ?_)
  | (with_reducible refine et_or ?_)
  | (with_reducible refine et_not ?_)
  | (with_reducible refine et_yes ?_)
  | (with_reducible refine opd_plusI ?_)
  | (with_reducible refine opd_I0 ?_)
  | (with_reducible refine opd_B0 ?_)
  | (with_reducible refine opd_eqI ?_)
  | (with_reducible refine opd_neI ?_)
  | (with_reducible refine opd_eqS ?_)
  | (with_reducible refine opd_neS ?_)
  | (with_reducible refine opd_is ?_)
  | (with_reducible refine opd_isnt ?_)
  | (with_reducible refine opd_ixT rfl ?_)
  | (with_reducible refine opd_ixL rfl ?_)
  | (with_reducible refine und_neg ?_)
  | (with_reducible refine cbd_lenL ?_)
  | (with_reducible refine cbd_lenT ?_)
  | (with_reducible refine cbd_min2 ?_)
  | (with_reducible refine cbd_max2 ?_)
  | (with_reducible refine cbd_abs ?_)
  | (with_reducible refine cbd_int ?_)
  | (with_reducible refine cbd_tupL ?_)
  | (with_reducible refine cbd_listL ?_)
  | (with_reducible refine cbd_listT ?_)
  | (with_reducible refine cbd_sum ?_)
  | (with_reducible refine sld_T ?_)
  | (with_reducible refine sld_L ?_)
  | (with_reducible refine ex_revL ?_)
  | (with_reducible refine ex_bmL ?_)
  | (with_reducible refine ex_andV ?_)
  | (with_reducible refine ei_list ?_)
  | (with_reducible refine ei_rng1 ?_)
  | (with_reducible refine ei_rng2 ?_)
  | (with_reducible refine ei_enum ?_)
  | (with_reducible refine ei_enumT ?_)
  | (with_reducible refine ei_zip ?_)
  | (with_reducible refine sx_par ?_)
  | (with_reducible refine Exists.intro _ (And.intro rfl ?_))
  | (with_reducible refine Exists.intro _ (Exists.intro _ (And.intro rfl ?_)))
  | ((with_reducible show EX (tCall (spS _) [] _ (tCons (tVar _) _)) _ _); refine ex_callS rfl ?_)
  | ((with_reducible refine And.intro (show (_ : Nat) ≤ 100000 from ?_) ?_); (focus (simp; done)))
  | ((with_reducible refine opd_I ?_ ?_); focus (first | omega | (show CDiv _ _; exact ⟨by omega, by omega⟩) | (show CMul _ _; first | exact Or.inl ⟨by omega, by omega⟩ | exact Or.inr ⟨by omega, by omega⟩))))
local macro_rules | `(tactic| walk_at "es") => `(tactic| repeat walk_at "e")
local macro_rules | `(tactic| walk_at "w") => `(tactic| try dsimp only [wipeE, List.foldl_cons, List.foldl_nil, List.set_cons_succ, List.set_cons_zero])
local macro_rules | `(tactic| walk_at "le") => `(tactic| repeat' first | exact LeE.nil | (refine LeE.eq rfl ?_) | (refine LeE.emp ?_) | (refine LeE.eq ?_ ?_))
local macro_rules | `(tactic| walk_at "no") => `(tactic| ((refine And.intro (fun hb => absurd hb ?_) (fun _ => ?_)); (focus (first | (exact Bool.false_ne_true) | (simp; done) | (simp; omega) | (simp only [decide_eq_true_eq]; omega)))))
local macro_rules | `(tactic| walk_at "yes") => `(tactic| ((refine And.intro (fun _ => ?_) (fun hb => absurd hb ?_)); (rotate_left); (focus (first | (exact Bool.noConfusion) | (simp; done) | (simp; omega) | (simp only [decide_eq_false_iff_not]; omega)))))
def T_rest (K : PySem.W.Frag) : TS :=
    (tSeq (tAsg (tLc (iList K (tVar 7)) (gTup K 2 (gCons (gName 9) (gCons (gName 8) gNil))) tYes (tVar 9) [9, 8]) (gName 17))
    (tSeq (tAsg (tLc (iRng1 (tCons (tOp (rI0 fun i j => .int (i - j)) (tCB (rLen K) (tCons (tVar 17) tNil)) (tC (.int 1))) tNil)) (gName 8) tYes (tOp (rI0 fun i j => .int (i - j)) (tOp (rIxA K) (tVar 17) (tOp (rPlus K) (tVar 8) (tC (.int 1)))) (tOp (rIxA K) (tVar 17) (tVar 8))) [8]) (gName 18))
    (tSeq (tAsg (tIf (tAnd (tTest (tOp (rI0 fun i j => .bl (decide (j < i))) (tCB (rLen K) (tCons (tVar 18) tNil)) (tC (.int 0)))) (tTest (tOp (rI0 fun i j => .bl (decide (j < i))) (tCB (rMxD K) (tCons (tVar 18) tNil)) (tC (.int 0))))) (tTup (tCons (tCB (rMxD K) (tCons (tVar 18) tNil)) (tCons (tOp (rIxA K) (tVar 17) (tBM K "list" (rIndex K) (tVar 18) (tCons (tCB (rMxD K) (tCons (tVar 18) tNil)) tNil))) tNil))) (tTup (tCons (tC (.int 0)) (tCons (tC .non) tNil)))) (gName 19))
    (tSeq (tIfS (tTest (tOp (rNeP K) (tCall (spP R_silent) [] E0 (tCons (tVar 2) (tCons (tVar 6) (tCons (tVar 4) tNil)))) (tVar 19)))
      (tRet (tC (.bl false)))
      tNext)
    (tSeq (tAsg (tOp (rPlus K) (tC (.int 1)) (tCall (spS R_take) [] E0 (tCons (tVar 1) (tCons (tC (.int 12)) tNil)))) (gName 20))
    (tSeq (tAsg (tLc (iList K (tVar 17)) (gName 9) tYes (tCB (rLen K) (tCons (tLc (iList K (tVar 17)) (gName 15) (tTest (tChain (rI0 fun i j => .bl (decide (i ≤ j))) (rI0 fun i j => .bl (decide (i < j))) (tVar 9) (tVar 15) (tOp (rPlus K) (tVar 9) (tVar 20)))) (tVar 15) [15]) tNil)) [9]) (gName 21))
    (tSeq (tAsg (tLc (iRng1 (tCons (tCB (rLen K) (tCons (tVar 17) tNil)) tNil)) (gName 8) tYes (tCB (rLen K) (tCons (tLc (iList K (tSl (rSl K) (tVar 17) (tPart (tVar 8)) tNoPart)) (gName 15) (tTest (tOp (rI0 fun i j => .bl (decide (i < j))) (tVar 15) (tOp (rPlus K) (tOp (rIxA K) (tVar 17) (tVar 8)) (tVar 20)))) (tVar 15) [15]) tNil)) [8]) (gName 22))
    (tSeq (tAsg (tIf (tTest (tOp (rI0 fun i j => .bl (decide (j < i))) (tCB (rLen K) (tCons (tVar 22) tNil)) (tC (.int 0)))) (tTup (tCons (tCB (rMxD K) (tCons (tVar 22) tNil)) (tCons (tOp (rIxA K) (tVar 17) (tBM K "list" (rIndex K) (tVar 22) (tCons (tCB (rMxD K) (tCons (tVar 22) tNil)) tNil))) tNil))) (tTup (tCons (tC (.int 0)) (tCons (tC .non) tNil)))) (gName 23))
    (tSeq (tIfS (tOr (tTest (tOp (rNeP K) (tCall (spP R_loud) [] E0 (tCons (tVar 2) (tCons (tVar 6) (tCons (tVar 4) (tCons (tVar 20) tNil))))) (tVar 23))) (tAnd (tTest (tOp (rI0 fun i j => .bl (decide (j < i))) (tCB (rLen K) (tCons (tVar 21) tNil)) (tC (.int 0)))) (tTest (tOp (rNeP K) (tCB (rMxD K) (tCons (tVar 21) tNil)) (tOp (rIxA K) (tVar 23) (tC (.int 0)))))))
      (tRet (tC (.bl false)))
      tNext)
    (T_law_end K))))))))))
theorem sx_rest {K : PySem.W.Frag} {Z : D → Prop} {ns : List Int} {S1 : Stt} {bs : List Bu} {ss : List P3} {sp : Int} {kt : Str} {seat : P3} {a11 : Slot} (hbs : Burs bs) (hss : Seats ss) (hsp : 1 ≤ sp ∧ sp ≤ 9) (hseat : seat.near) (ok1 : Ok S1)
    (hkt : (PyData.tuple [.list (bs.map encB), .list (ss.map encT3)]).shown = kt) (z : Z (.bool true)) : SX (T_rest K) [.val (.list (ns.map .int)), .st S1, .val (.list (bs.map encB)), .val (.list (ss.map encT3)), .val (.int sp), .val (.str kt), .val (encT3 seat), .val (.list ((heardF bs seat sp).map encP)), .emp, .emp, .emp, a11, .emp, .emp, .emp, .emp, .emp, .emp, .emp, .emp, .emp, .emp, .emp, .emp, .emp, .emp, .emp, .emp, .emp, .emp, .emp] { nx := fun _ => Z .none, rt := fun d _ => Z d } := by
  obtain ⟨bl, bg⟩ := id hbs
  unfold T_rest
  walk_at "es"
  refine ex_of (eo_lcP (α := Int × Int) (fun _ => true) (fun p => .int p.1) (ei_list ?_))
  walk_at "es"
  refine ⟨by rw [heard_len]; omega, fun i hi => by simp at hi; rcases hi with rfl | rfl <;> rfl, fun p hp => ?_, ?_⟩
  · refine sg_tup rfl (sgs_cons (sg_name (by simp) (sgs_cons (sg_name (by simp) (sgs_nil ⟨rfl, ?_⟩)))))
    walk_at "w"
    walk_at "es"
    refine ⟨rfl, rfl, fun _ => ?_⟩
    walk_at "es"
    exact ⟨rfl, rfl⟩
  rw [heard_ticks]
  have tl := ticks_len bs seat sp
  have srt := ticks_sorted bs seat sp
  generalize hT : ticksOf bs seat sp = T at tl srt ⊢
  walk_at "es"
  refine ex_of (eo_lcP (α := Int) (fun _ => true) (fun k => .int (gapF T k)) (ei_rng1 ?_))
  walk_at "es"
  rw [List.length_map]
  refine ⟨by omega, rngI 0 ((T.length : Int) - 1).toNat, PyData.int, rfl, by rw [rngI_len]; omega, fun i hi => by simp at hi; subst hi; rfl, fun k hk => sg_name (by simp) ⟨rfl, ?_⟩, ?_⟩
  · have hk := rngI_mem.mp hk
    walk_at "w"
    walk_at "es"
    refine ⟨rfl, rfl, fun _ => ?_⟩
    walk_at "es"
    refine opd_ixM 0 (by omega) (by omega) ?_
    walk_at "es"
    refine opd_ixM 0 (by omega) (by omega) ?_
    walk_at "es"
    exact ⟨rfl, rfl⟩
  rw [gaps_eq]
  refine nx_seq ?_
  walk_at "w"
  refine sx_seq (sx_asg (ex_span rfl rfl ?_))
  walk_at "es"
  refine ⟨bs, seat, sp, rfl, hbs, hseat, hsp, ?_⟩
  rw [hT]
  walk_at "es"
  refine opd_neSelf (bestD_deep _) ?_
  walk_at "es"
  walk_at "no"
  walk_at "es"
  refine ⟨12, rfl, by omega, by omega, ok1, fun v S2 v0 v1 ok2 => ?_⟩
  walk_at "es"
  generalize hw : (1 : Int) + v = win
  have hw1 : 1 ≤ win := by omega
  refine ex_of (eo_lcP (α := Int) (fun _ => true) (fun t => .int (countF T win t)) (ei_list ?_))
  walk_at "es"
  refine ⟨by omega, fun i hi => by simp at hi; subst hi; rfl, fun t ht => sg_name (by simp) ⟨rfl, ?_⟩, ?_⟩
  · walk_at "w"
    walk_at "es"
    refine ⟨rfl, rfl, fun _ => ?_⟩
    walk_at "es"
    refine ex_of (eo_lcP (α := Int) (fun x => decide (t ≤ x) && decide (x < t + win)) PyData.int (ei_list ?_))
    walk_at "es"
    refine ⟨by omega, fun i hi => by simp at hi; subst hi; rfl, fun x hx => sg_name (by simp) ⟨rfl, ?_⟩, ?_⟩
    · walk_at "w"
      walk_at "es"
      refine ⟨fun hb => ?_, fun hb => ?_⟩
      · walk_at "es"
        refine ⟨by rw [hb, Bool.true_and], rfl, fun _ => ?_⟩
        walk_at "es"
        exact ⟨rfl, rfl⟩
      · walk_at "es"
        refine ⟨by rw [hb, Bool.false_and], rfl, fun _ => ?_⟩
        walk_at "es"
        exact ⟨rfl, rfl⟩
    walk_at "es"
    rw [List.length_map]
    exact ⟨rfl, rfl⟩
  have ec : ((T.filter fun _ => true).map fun t => PyData.int (countF T win t)) = (T.map (countF T win)).map .int := by rw [List.filter_eq_self.mpr (fun _ _ => rfl), List.map_map]; rfl
  rw [ec]
  walk_at "es"
  refine ex_of (eo_lcP (α := Int) (fun _ => true) (fun k => .int (firstF T win k)) (ei_rng1 ?_))
  walk_at "es"
  rw [List.length_map, Int.toNat_natCast]
  refine ⟨by omega, rngI 0 T.length, PyData.int, rfl, by rw [rngI_len]; omega, fun i hi => by simp at hi; subst hi; rfl, fun k hk => sg_name (by simp) ⟨rfl, ?_⟩, ?_⟩
  · have hk := rngI_mem.mp hk
    walk_at "w"
    walk_at "es"
    refine ⟨rfl, rfl, fun _ => ?_⟩
    walk_at "es"
    refine ex_of (eo_lcP (α := Int) (fun x => decide (x < T.getD k.toNat 0 + win)) PyData.int (ei_list ?_))
    walk_at "es"
    rw [cut_fromI PyData.int T (i := k) (k := k.toNat) (by omega)]
    refine ⟨T.drop k.toNat, PyData.int, rfl, by rw [List.length_drop]; omega, fun i hi => by simp at hi; subst hi; rfl, fun x hx => sg_name (by simp) ⟨rfl, ?_⟩, ?_⟩
    · walk_at "w"
      walk_at "es"
      refine opd_ixM 0 (by omega) (by omega) ?_
      walk_at "es"
      refine ⟨rfl, rfl, fun _ => ?_⟩
      walk_at "es"
      exact ⟨rfl, rfl⟩
    walk_at "es"
    rw [List.length_map]
    exact ⟨rfl, rfl⟩
  rw [firsts_eq]
  refine nx_seq ?_
  walk_at "w"
  refine sx_seq (sx_asg (ex_most hw1 rfl rfl ?_))
  walk_at "es"
  refine ⟨bs, seat, sp, win, rfl, hbs, hseat, hsp, ?_⟩
  rw [hT]
  walk_at "es"
  refine opd_neSelf (bestD_deep _) ?_
  walk_at "es"
  walk_at "no"
  walk_at "es"
  refine ⟨fun hb => ?_, fun hb => ?_⟩
  · have hb := of_decide_eq_true hb
    rw [List.length_map, List.length_map] at hb
    have h0 : 0 < T.length := by omega
    have hmx : (foldB (loudL T win)).1 = foldMax (T.map (countF T win)) := by
      rw [counts_max srt h0, foldB_eq]
      unfold bestF
      have hpos : 0 < ((loudL T win).map Prod.fst).length := by rw [List.length_map, loud_len]; exact h0
      rw [if_pos ⟨by rw [loud_len]; exact h0, loud_pos hw1 (max_mem hpos)⟩]
    walk_at "es"
    refine cbd_maxI (by rw [List.length_map]; exact h0) ?_
    walk_at "es"
    refine opd_ixT (d := .int (foldB (loudL T win)).1) rfl ?_
    walk_at "es"
    rw [hmx]
    walk_at "no"
    exact sx_next (nx_seq (sx_end hbs hss hsp hseat ok2 hkt z))
  · try walk_at "no"
    first
      | exact sx_next (nx_seq (sx_end hbs hss hsp hseat ok2 hkt z))
      | exact ⟨(fun q => by cases q), fun _ => sx_next (nx_seq (sx_end hbs hss hsp hseat ok2 hkt z))⟩
end Law_k71
namespace Law_k71
open PySem L2 Pu
local macro_rules | `(tactic| walk_at "e") => `(tactic| first
  | ((with_reducible refine nx_seq ?_); (try dsimp only [List.set_cons_succ, List.set_cons_zero]))
  | ((with_reducible refine ex_vr ?_); dsimp only [VQ, List.set_cons_succ, List.set_cons_zero, List.getElem?_cons_zero, List.getElem?_cons_succ]; (fail_if_success (with_reducible show False)))
  | (with_reducible refine sx_seq ?_)
  | (with_reducible refine sx_if ?_)
  | (with_reducible refine sx_next ?_)
  | (with_reducible refine sx_ret ?_)
  | ((fail_if_success (with_reducible refine sx_asgO (eo_lst ?_))); (with_reducible refine sx_asg ?_))
  | (with_reducible refine ex_int ?_)
  | (with_reducible refine ex_str ?_)
  | (with_reducible refine ex_bl ?_)
  | (with_reducible refine ex_non ?_)
  | (with_reducible refine ex_op ?_)
  | (with_reducible refine ex_un ?_)
  | (with_reducible refine ex_chain ?_)
  | (with_reducible refine ex_call ?_)
  | (with_reducible refine ex_isT ?_)
  | (with_reducible refine ex_cb ?_)
  | (with_reducible refine ex_sl ?_)
  | (with_reducible refine ex_tup ?_)
  | (with_reducible refine ex_if ?_)
  | (with_reducible refine ex_of (eo_lst ?_))
  | (with_reducible refine ex_notV ?_)
  | (with_reducible refine ea_nil ?_)
  | (with_reducible refine ea_cons ?_)
  | (with_reducible refine ep_no ?_)
  | (with_reducible refine ep_some ?_)
  | (with_reducible refine et_test ?_)
  | (with_reducible refine et_B ?_)
  | (with_reducible refine et_and ?_)
  | (with_reducible refine et_or ?_)
  | (with_reducible refine et_not ?_)
  | (with_reducible refine et_yes ?_)
  | (with_reducible refine opd_plusI ?_)
  | (with_reducible refine opd_I0 ?_)
  | (with_reducible refine opd_B0 ?_)
  | (with_reducible refine opd_eqI ?_)
  | (with_reducible refine opd_neI ?_)
  | (with_reducible refine opd_eqS ?_)
  | (with_reducible refine opd_neS ?_)
  | (with_reducible refine opd_is ?_)
  | (with_reducible refine opd_isnt ?_)
  | (with_reducible refine opd_ixT rfl ?_)
  | (with_reducible refine opd_ixL rfl ?_)
  | (with_reducible refine und_neg ?_)
  | (with_reducible refine cbd_lenL ?_)
  | (with_reducible refine cbd_lenT ?_)
  | (with_reducible refine cbd_min2 ?_)
  | (with_reducible refine cbd_max2 ?_)
  | (with_reducible refine cbd_abs ?_)
  | (with_reducible refine cbd_int ?_)
  | (with_reducible refine cbd_tupL ?_)
  | (with_reducible refine cbd_listL ?_)
  | (with_reducible refine cbd_listT ?_)
  | (with_reducible refine cbd_sum ?_)
  | (with_reducible refine sld_T ?_)
  | (with_reducible refine sld_L ?_)
  | (with_reducible refine ex_revL ?_)
  | (with_reducible refine ex_bmL ?_)
  | (with_reducible refine ex_andV ?_)
  | (with_reducible refine ei_list ?_)
  | (with_reducible refine ei_rng1 ?_)
  | (with_reducible refine ei_rng2 ?_)
  | (with_reducible refine ei_enum ?_)
  | (with_reducible refine ei_enumT ?_)
  | (with_reducible refine ei_zip ?_)
  | (with_reducible refine sx_par ?_)
  | (with_reducible refine Exists.intro _ (And.intro rfl ?_))
  | (with_reducible refine Exists.intro _ (Exists.intro _ (And.intro rfl ?_)))
  | ((with_reducible show EX (tCall (spS _) [] _ (tCons (tVar _) _)) _ _); refine ex_callS rfl ?_)
  | ((with_reducible refine And.intro (show (_ : Nat) ≤ 100000 from ?_) ?_); (focus (simp; done)))
  | ((with_reducible refine opd_I ?_ ?_); focus (first | omega | (show CDiv _ _; exact ⟨by omega, by omega⟩) | (show CMul _ _; first | exact Or.inl ⟨by omega, by omega⟩ | exact Or.inr ⟨by omega, by omega⟩))))
local macro_rules | `(tactic| walk_at "es") => `(tactic| repeat walk_at "e")
local macro_rules | `(tactic| walk_at "w") => `(tactic| try dsimp only [wipeE, List.foldl_cons, List.foldl_nil, List.set_cons_succ, List.set_cons_zero])
local macro_rules | `(tactic| walk_at "le") => `(tactic| repeat' first | exact LeE.nil | (refine LeE.eq rfl ?_) | (refine LeE.emp ?_) | (refine LeE.eq ?_ ?_))
local macro_rules | `(tactic| walk_at "no") => `(tactic| ((refine And.intro (fun hb => absurd hb ?_) (fun _ => ?_)); (focus (first | (exact Bool.false_ne_true) | (simp; done) | (simp; omega) | (simp only [decide_eq_true_eq]; omega)))))
local macro_rules | `(tactic| walk_at "yes") => `(tactic| ((refine And.intro (fun _ => ?_) (fun hb => absurd hb ?_)); (rotate_left); (focus (first | (exact Bool.noConfusion) | (simp; done) | (simp; omega) | (simp only [decide_eq_false_iff_not]; omega)))))
theorem pairS_len {bs : List Bu} {ss : List P3} (sp i j : Int) (k : Nat) : (pairS bs ss sp i j k).length ≤ k := by
  have := flat_len (fun s => cT bs ss sp i j s) 1 (rngI 0 k) fun j => cT_len _ _ _ _ _ _
  rw [rngI_len] at this
  unfold pairS
  omega
theorem pairJ_len {bs : List Bu} {ss : List P3} (hs : ss.length ≤ 4) (sp i : Int) (k : Nat) : (pairJ bs ss sp i k).length ≤ 4 * k := by
  have := flat_len (fun j => pairS bs ss sp i j ss.length) 4 (rngI (i + 1) k) fun j => by have := pairS_len (bs := bs) (ss := ss) sp i j ss.length; omega
  rw [rngI_len] at this
  unfold pairJ
  omega
theorem pairL_len {bs : List Bu} {ss : List P3} (hb : bs.length ≤ 5) (hs : ss.length ≤ 4) (sp : Int) (k : Nat) : (pairL bs ss sp k).length ≤ 20 * k := by
  have h : ∀ l : List Int, (∀ i ∈ l, 0 ≤ i) → (l.flatMap fun i => pairJ bs ss sp i ((bs.length : Int) - (i + 1)).toNat).length ≤ 20 * l.length := by
    intro l
    induction l with
    | nil => intro _; simp
    | cons x l ih =>
      intro hp
      rw [List.flatMap_cons, List.length_append, List.length_cons]
      have h1 := pairJ_len (bs := bs) hs sp x ((bs.length : Int) - (x + 1)).toNat
      have h2 := ih fun i hi => hp i (by simp [hi])
      have h3 := hp x (by simp)
      omega
  have := h (rngI 0 k) fun i hi => (rngI_mem.mp hi).1
  rw [rngI_len] at this
  exact this
theorem tAt_D {bs : List Bu} {seat : P3} {sp i : Int} (h0 : 0 ≤ i) (h1 : i < bs.length) : tAt bs seat sp i = (bs.getD i.toNat dB).t + (tF (sqF (bs.getD i.toNat dB).p seat) sp : Int) := by
  obtain ⟨k, rfl⟩ : ∃ k : Nat, i = (k : Int) := ⟨i.toNat, by omega⟩
  have hb : bs[k]? = some bs[k] := List.getElem?_eq_getElem (by omega)
  rw [tAt_at hb, Int.toNat_natCast, getD_at hb]
theorem sx_law (K : PySem.W.Frag) (ds : List D) (Z : D → Prop) (h : R_law ds Z) : SX (T_law K R_state R_scene R_heard R_tog R_silent R_take R_ticks R_ticks R_loud R_echoes) (startE N_law ds) { nx := fun _ => Z .none, rt := fun d _ => Z d } := by
  obtain ⟨ns, rfl, z⟩ := h
  show SX (T_law K R_state R_scene R_heard R_tog R_silent R_take R_ticks R_ticks R_loud R_echoes) [.val (.list (ns.map .int)), .emp, .emp, .emp, .emp, .emp, .emp, .emp, .emp, .emp, .emp, .emp, .emp, .emp, .emp, .emp, .emp, .emp, .emp, .emp, .emp, .emp, .emp, .emp, .emp, .emp, .emp, .emp, .emp, .emp, .emp] _
  unfold T_law
  refine sx_seq (sx_asgN (by decide) ?_)
  walk_at "es"
  refine ⟨ns, rfl, fun S0 ok0 => ?_⟩
  walk_at "es"
  refine sx_asgT (J := [2, 3, 4]) ?_
  walk_at "es"
  refine ⟨rfl, ok0, fun bs ss sp S1 hbs hss hsp ok1 => ?_⟩
  refine sg_tup rfl (sgs_cons (sg_name (by simp) (sgs_cons (sg_name (by simp) (sgs_cons (sg_name (by simp) (sgs_nil ?_)))))))
  walk_at "w"
  walk_at "es"
  refine cbd_repr (sh_scene hbs hss) (by decide) (scene_deep bs ss) ?_
  generalize hkt : PyData.shown _ = kt
  obtain ⟨bl, bg⟩ := id hbs
  obtain ⟨⟨sl0, sl⟩, sg⟩ := id hss
  walk_at "es"
  refine opd_ixM nowhere (by omega) (by omega) ?_
  have hseat : (ss.getD (Int.toNat 0) nowhere).near := by
    refine sg _ ?_
    rw [List.getD_eq_getElem?_getD, List.getElem?_eq_getElem (show Int.toNat 0 < ss.length from by simp; omega)]
    exact List.getElem_mem _
  generalize ss.getD (Int.toNat 0) nowhere = seat at hseat ⊢
  have getB : ∀ {k : Int}, 0 ≤ k → k < bs.length → (bs.getD k.toNat dB).ok := fun {k} h0 h1 => by
    refine bg _ ?_
    rw [List.getD_eq_getElem?_getD, List.getElem?_eq_getElem (show k.toNat < bs.length from by omega)]
    exact List.getElem_mem _
  have getS : ∀ {s : Int}, 0 ≤ s → s < ss.length → (ss.getD s.toNat nowhere).near := fun {s} h0 h1 => by
    refine sg _ ?_
    rw [List.getD_eq_getElem?_getD, List.getElem?_eq_getElem (show s.toNat < ss.length from by omega)]
    exact List.getElem_mem _
  walk_at "es"
  refine ex_of (eo_lcP (α := Int) (fun _ => true) (fun k => encP (dueF bs seat sp k)) (ei_rng1 ?_))
  walk_at "es"
  rw [List.length_map, Int.toNat_natCast]
  refine ⟨by omega, rngI 0 bs.length, PyData.int, rfl, by rw [rngI_len]; omega, fun i hi => by simp at hi; subst hi; rfl, fun k hk => sg_name (by simp) ⟨rfl, ?_⟩, ?_⟩
  · have hk := rngI_mem.mp hk
    have okb := getB hk.1 (by omega)
    walk_at "w"
    walk_at "es"
    refine ⟨rfl, rfl, fun _ => ?_⟩
    walk_at "es"
    refine opd_ixM dB (by omega) (by omega) ?_
    walk_at "es"
    refine opd_ixT (d := .int (bs.getD k.toNat dB).t) rfl ?_
    walk_at "es"
    refine opd_ixM dB (by omega) (by omega) ?_
    walk_at "es"
    refine opd_ixT (d := encT3 (bs.getD k.toNat dB).p) rfl ?_
    walk_at "es"
    refine ⟨(bs.getD k.toNat dB).p, seat, sp, rfl, okb.2.ok, hseat.ok, hsp, ?_⟩
    walk_at "es"
    exact ⟨rfl, rfl⟩
  rw [due_eq]
  walk_at "es"
  refine cbd_sortD (alike_PP _) (sortable_P _) (deep_P _) ?_
  rw [sortD_P]
  show NX _ _
  have eh : (rowsF bs seat sp).mergeSort leP = heardF bs seat sp := rfl
  rw [eh]
  walk_at "es"
  refine ⟨bs, seat, sp, rfl, hbs, hseat, hsp, ?_⟩
  walk_at "es"
  refine opd_neSelf (heard_deep _) ?_
  walk_at "es"
  walk_at "no"
  walk_at "es"
  refine sx_for (J := [9, 10]) (ei_list ?_)
  walk_at "es"
  refine ⟨fun _ ρ' => ρ' = [.val (.list (ns.map .int)), .st S1, .val (.list (bs.map encB)), .val (.list (ss.map encT3)), .val (.int sp), .val (.str kt), .val (encT3 seat), .val (.list ((heardF bs seat sp).map encP)), .emp, .emp, .emp, .emp, .emp, .emp, .emp, .emp, .emp, .emp, .emp, .emp, .emp, .emp, .emp, .emp, .emp, .emp, .emp, .emp, .emp, .emp, .emp], rfl, ?_, ?_⟩
  · rintro k dd ρ' hd0 rfl
    obtain ⟨b, hb, rfl⟩ := map_at hd0
    have okb := bg b (List.mem_of_getElem? hb)
    refine sg_tup rfl (sgs_cons (sg_name (by simp) (sgs_cons (sg_name (by simp) (sgs_nil ?_)))))
    walk_at "w"
    walk_at "es"
    refine ⟨b.p, seat, sp, rfl, okb.2.ok, hseat.ok, hsp, ?_⟩
    walk_at "es"
    refine ⟨b.p, seat, sp, rfl, okb.2.ok, hseat.ok, hsp, ?_⟩
    walk_at "es"
    walk_at "no"
    walk_at "es"
    refine ⟨_, ?_, rfl⟩
    walk_at "le"
  rintro ρ' rfl
  walk_at "es"
  refine sx_asgO (eo_lst ?_)
  walk_at "es"
  refine sx_for (J := [12]) (ei_rng1 ?_)
  walk_at "es"
  rw [List.length_map, Int.toNat_natCast]
  refine ⟨by omega, fun k ρ' => ρ' = [.val (.list (ns.map .int)), .st S1, .val (.list (bs.map encB)), .val (.list (ss.map encT3)), .val (.int sp), .val (.str kt), .val (encT3 seat), .val (.list ((heardF bs seat sp).map encP)), .emp, .emp, .emp, .own ((pairL bs ss sp k).map enc3), .emp, .emp, .emp, .emp, .emp, .emp, .emp, .emp, .emp, .emp, .emp, .emp, .emp, .emp, .emp, .emp, .emp, .emp, .emp], rfl, ?_, ?_⟩
  · rintro i dd ρ' hd0 rfl
    obtain ⟨hi, rfl⟩ := rng_at hd0
    rw [Int.zero_add]
    have hI : pairL bs ss sp (i + 1) = pairL bs ss sp i ++ pairJ bs ss sp (i : Int) ((bs.length : Int) - ((i : Int) + 1)).toNat := by unfold pairL; rw [rngI_succ, flat_snoc, Int.zero_add]
    have li := pairL_len bl sl sp i
    refine sg_name (by simp) ?_
    walk_at "w"
    refine sx_for (J := [13]) (ei_rng2 ?_)
    walk_at "es"
    rw [List.length_map]
    refine ⟨by omega, fun j ρ' => ρ' = [.val (.list (ns.map .int)), .st S1, .val (.list (bs.map encB)), .val (.list (ss.map encT3)), .val (.int sp), .val (.str kt), .val (encT3 seat), .val (.list ((heardF bs seat sp).map encP)), .emp, .emp, .emp, .own ((pairL bs ss sp i ++ pairJ bs ss sp (i : Int) j).map enc3), .val (.int (i : Int)), .emp, .emp, .emp, .emp, .emp, .emp, .emp, .emp, .emp, .emp, .emp, .emp, .emp, .emp, .emp, .emp, .emp, .emp], ?_, ?_, ?_⟩
    · simp [pairJ, rngI]
    · rintro j dd ρ' hd1 rfl
      obtain ⟨hj, rfl⟩ := rng_at hd1
      have hJ : pairJ bs ss sp (i : Int) (j + 1) = pairJ bs ss sp (i : Int) j ++ pairS bs ss sp (i : Int) ((i : Int) + 1 + (j : Int)) ss.length := by unfold pairJ; rw [rngI_succ, flat_snoc]
      have lj := pairJ_len (bs := bs) sl sp (i : Int) j
      have jn : (i : Int) + 1 + (j : Int) < bs.length := by omega
      have jp : 0 ≤ (i : Int) + 1 + (j : Int) := by omega
      generalize (i : Int) + 1 + (j : Int) = jj at hJ jn jp ⊢
      refine sg_name (by simp) ?_
      walk_at "w"
      refine sx_for (J := [14]) (ei_rng1 ?_)
      walk_at "es"
      rw [List.length_map, Int.toNat_natCast]
      refine ⟨by omega, fun s ρ' => ρ' = [.val (.list (ns.map .int)), .st S1, .val (.list (bs.map encB)), .val (.list (ss.map encT3)), .val (.int sp), .val (.str kt), .val (encT3 seat), .val (.list ((heardF bs seat sp).map encP)), .emp, .emp, .emp, .own ((pairL bs ss sp i ++ pairJ bs ss sp (i : Int) j ++ pairS bs ss sp (i : Int) jj s).map enc3), .val (.int (i : Int)), .val (.int jj), .emp, .emp, .emp, .emp, .emp, .emp, .emp, .emp, .emp, .emp, .emp, .emp, .emp, .emp, .emp, .emp, .emp], ?_, ?_, ?_⟩
      · simp [pairS, rngI]
      · rintro s dd ρ' hd2 rfl
        obtain ⟨hs, rfl⟩ := rng_at hd2
        rw [Int.zero_add]
        have hS : pairS bs ss sp (i : Int) jj (s + 1) = pairS bs ss sp (i : Int) jj s ++ cT bs ss sp (i : Int) jj (s : Int) := by unfold pairS; rw [rngI_succ, flat_snoc, Int.zero_add]
        have ls := pairS_len (bs := bs) (ss := ss) sp (i : Int) jj s
        have ob1 := getB (k := (i : Int)) (by omega) (by omega)
        have ob2 := getB (k := jj) jp jn
        have os := getS (s := (s : Int)) (by omega) (by omega)
        have t1 : tAt bs (seatAt ss (s : Int)) sp (i : Int) = (bs.getD (i : Int).toNat dB).t + (tF (sqF (bs.getD (i : Int).toNat dB).p (seatAt ss (s : Int))) sp : Int) := tAt_D (by omega) (by omega)
        have t2 : tAt bs (seatAt ss (s : Int)) sp jj = (bs.getD jj.toNat dB).t + (tF (sqF (bs.getD jj.toNat dB).p (seatAt ss (s : Int))) sp : Int) := tAt_D jp jn
        unfold cT at hS
        rw [t1, t2] at hS
        refine sg_name (by simp) ?_
        walk_at "w"
        walk_at "es"
        refine opd_ixM dB (by omega) (by omega) ?_
        walk_at "es"
        refine opd_ixT (d := .int (bs.getD (i : Int).toNat dB).t) rfl ?_
        walk_at "es"
        refine opd_ixM dB (by omega) (by omega) ?_
        walk_at "es"
        refine opd_ixT (d := encT3 (bs.getD (i : Int).toNat dB).p) rfl ?_
        walk_at "es"
        refine opd_ixM nowhere (by omega) (by omega) ?_
        walk_at "es"
        refine ⟨(bs.getD (i : Int).toNat dB).p, seatAt ss (s : Int), sp, rfl, ob1.2.ok, os.ok, hsp, ?_⟩
        walk_at "es"
        refine opd_ixM dB (by omega) (by omega) ?_
        walk_at "es"
        refine opd_ixT (d := .int (bs.getD jj.toNat dB).t) rfl ?_
        walk_at "es"
        refine opd_ixM dB (by omega) (by omega) ?_
        walk_at "es"
        refine opd_ixT (d := encT3 (bs.getD jj.toNat dB).p) rfl ?_
        walk_at "es"
        refine opd_ixM nowhere (by omega) (by omega) ?_
        walk_at "es"
        refine ⟨(bs.getD jj.toNat dB).p, seatAt ss (s : Int), sp, rfl, ob2.2.ok, os.ok, hsp, ?_⟩
        walk_at "es"
        refine sx_ext rfl ?_
        walk_at "es"
        have llen : ((pairL bs ss sp i ++ pairJ bs ss sp (i : Int) j ++ pairS bs ss sp (i : Int) jj s).map enc3).length ≤ 1000 := by rw [List.length_map, List.length_append, List.length_append]; omega
        refine ⟨fun hc => ?_, fun hc => ?_⟩
        · have hc := of_decide_eq_true hc
          rw [if_pos hc] at hS
          walk_at "es"
          refine ⟨_, _, rfl, rfl, by simp only [List.length_cons, List.length_nil]; omega, ?_⟩
          refine ⟨_, ?_, rfl⟩
          rw [hS, ← List.append_assoc, List.map_append]
          walk_at "le"
        · have hc := of_decide_eq_false hc
          rw [if_neg hc, List.append_nil] at hS
          walk_at "es"
          refine ⟨_, _, rfl, rfl, by simp only [List.length_nil]; omega, ?_⟩
          refine ⟨_, ?_, rfl⟩
          rw [hS, List.append_nil]
          walk_at "le"
      · rintro ρ' rfl
        rw [rng_size]
        refine ⟨_, ?_, rfl⟩
        rw [hJ, ← List.append_assoc]
        walk_at "le"
    · rintro ρ' rfl
      rw [rng_size]
      refine ⟨_, ?_, rfl⟩
      rw [hI]
      walk_at "le"
  rintro ρ' rfl
  rw [rng_size]
  refine nx_seq (sx_freeze 11 rfl ?_)
  walk_at "w"
  walk_at "es"
  refine ⟨bs, ss, sp, rfl, hbs, hss, hsp, ?_⟩
  walk_at "es"
  refine cbd_sortD (alike_3 _) (sortable_3 _) (deep_3 _) ?_
  rw [sortD_perm (tog_perm bs ss sp)]
  refine opd_neSelf (sorted_deep _) ?_
  walk_at "es"
  walk_at "no"
  exact sx_next (nx_seq (sx_rest hbs hss hsp hseat ok1 hkt z))
end Law_k71
namespace Law_k71
open PySem L2 Pu

def topS (i : Nat) : Stmt := PySem.Challenge.pw_firescore_k71_whole_sounds.main.body.getD i (.Pass ⟨0, 0, 0, 0⟩)
abbrev s_apart : Stmt := topS 1
abbrev s_ticks_for : Stmt := topS 2
abbrev s_heard : Stmt := topS 3
abbrev s_mirrored : Stmt := topS 4
abbrev s_echoes : Stmt := topS 5
abbrev s_together : Stmt := topS 6
abbrev s_silent_span : Stmt := topS 7
abbrev s_loudest : Stmt := topS 8
abbrev s_l_state : Stmt := topS 10
abbrev s_l_take : Stmt := topS 11
abbrev s_l_ticks : Stmt := topS 12
abbrev s_l_place : Stmt := topS 13
abbrev s_l_scene : Stmt := topS 14
abbrev s_law : Stmt := topS 15
theorem sc_apart : FnScope N_apart ["one", "other"] (defScope s_apart) := ⟨rfl, rfl, rfl, by decide +kernel, rfl, by decide +kernel, by decide +kernel⟩
theorem sc_ticks_for : FnScope N_ticks_for ["one", "other", "speed"] (defScope s_ticks_for) := ⟨rfl, rfl, rfl, by decide +kernel, rfl, by decide +kernel, by decide +kernel⟩
theorem sc_heard : FnScope N_heard ["bursts", "seat", "speed"] (defScope s_heard) := ⟨rfl, rfl, rfl, by decide +kernel, rfl, by decide +kernel, by decide +kernel⟩
theorem sc_mirrored : FnScope N_mirrored ["place", "wall"] (defScope s_mirrored) := ⟨rfl, rfl, rfl, by decide +kernel, rfl, by decide +kernel, by decide +kernel⟩
theorem sc_echoes : FnScope N_echoes ["bursts", "seat", "walls", "speed"] (defScope s_echoes) := ⟨rfl, rfl, rfl, by decide +kernel, rfl, by decide +kernel, by decide +kernel⟩
theorem sc_together : FnScope N_together ["bursts", "seats", "speed"] (defScope s_together) := ⟨rfl, rfl, rfl, by decide +kernel, rfl, by decide +kernel, by decide +kernel⟩
theorem sc_silent_span : FnScope N_silent_span ["bursts", "seat", "speed"] (defScope s_silent_span) := ⟨rfl, rfl, rfl, by decide +kernel, rfl, by decide +kernel, by decide +kernel⟩
theorem sc_loudest : FnScope N_loudest ["bursts", "seat", "speed", "window"] (defScope s_loudest) := ⟨rfl, rfl, rfl, by decide +kernel, rfl, by decide +kernel, by decide +kernel⟩
theorem sc_l_state : FnScope N_l_state ["script"] (defScope s_l_state) := ⟨rfl, rfl, rfl, by decide +kernel, rfl, by decide +kernel, by decide +kernel⟩
theorem sc_l_take : FnScope N_l_take ["state", "most"] (defScope s_l_take) := ⟨rfl, rfl, rfl, by decide +kernel, rfl, by decide +kernel, by decide +kernel⟩
theorem sc_l_ticks : FnScope N_l_ticks ["one", "other", "speed"] (defScope s_l_ticks) := ⟨rfl, rfl, rfl, by decide +kernel, rfl, by decide +kernel, by decide +kernel⟩
theorem sc_l_place : FnScope N_l_place ["state", "size"] (defScope s_l_place) := ⟨rfl, rfl, rfl, by decide +kernel, rfl, by decide +kernel, by decide +kernel⟩
theorem sc_l_scene : FnScope N_l_scene ["state", "most"] (defScope s_l_scene) := ⟨rfl, rfl, rfl, by decide +kernel, rfl, by decide +kernel, by decide +kernel⟩
theorem sc_law : FnScope N_law ["script"] (defScope s_law) := ⟨rfl, rfl, rfl, by decide +kernel, rfl, by decide +kernel, by decide +kernel⟩
section
variable {P : Program} {w : World} {K : PySem.W.Frag} {mg : Str → Option Value} {base : Heap} {f : Addr} {fd : FuncData} {k : Nat}
theorem ps_apart {cdv : Value} {A : Around} {outer : List PySem.Env} {s : Shared} {H : Hp} {E : XK} (bn : Bn mg) (hr : Room k (A.deeper (PyProof.Rows.envOfC "apart" (defScope s_apart) s.heap.objs.size f cdv))) :
    PSs (cxOf CX0 P w K mg base N_apart "apart" (defScope s_apart) f cdv A outer s H E).nox (defBody s_apart) (T_apart K) :=
  have nd := sc_apart.nd
  (pss_one (ps_ret (pe_op op_plus (pe_op op_plus (pe_op op_pow (pe_op op_sub (pe_ix ix_any (pv 0) pe_int (fun _ _ => rfl)) (pe_ix ix_any (pv 1) pe_int (fun _ _ => rfl))) pe_int) (pe_op op_pow (pe_op op_sub (pe_ix ix_any (pv 0) pe_int (fun _ _ => rfl)) (pe_ix ix_any (pv 1) pe_int (fun _ _ => rfl))) pe_int)) (pe_op op_pow (pe_op op_sub (pe_ix ix_any (pv 0) pe_int (fun _ _ => rfl)) (pe_ix ix_any (pv 1) pe_int (fun _ _ => rfl))) pe_int))))
theorem ok_apart {R : List D → (D → Prop) → Prop} (F : Fun K "apart" "apart" s_apart f fd) (bn : Bn mg) (len : ∀ ds Z, R ds Z → ds.length = 2) (sx : ∀ ds Z, R ds Z → SX (T_apart K) (startE N_apart ds) { nx := fun _ => Z .none, rt := fun d _ => Z d }) :
    FnOk P w K mg base CX0 (k + 1) f fd ["one", "other"] (spP R) := fn_pure F sc_apart len fun cdv A outer s H E hr => ⟨_, ps_apart bn hr, sx⟩
theorem ps_ticks_for {cdv : Value} {A : Around} {outer : List PySem.Env} {s : Shared} {H : Hp} {E : XK} (bn : Bn mg) (hr : Room k (A.deeper (PyProof.Rows.envOfC "ticks_for" (defScope s_ticks_for) s.heap.objs.size f cdv))) {R_apart : List D → (D → Prop) → Prop} {k_apart : Nat} (C_apart : Cal P w K mg base "apart" ["one", "other"] (spP R_apart) k_apart) (h_apart : k_apart ≤ k) :
    PSs (cxOf CX0 P w K mg base N_ticks_for "ticks_for" (defScope s_ticks_for) f cdv A outer s H E).nox (defBody s_ticks_for) (T_ticks_for K R_apart) :=
  have nd := sc_ticks_for.nd
  (pss_cons (ps_set (i := 3) nd rfl (by first | exact Or.inl rfl | exact Or.inr rfl) (pe_cal C_apart (hr.mono h_apart) (by rfl) (pa_cons (pv 0) (pa_cons (pv 1) pa_nil))))
    (pss_cons (ps_asg (pe_tup (pa_cons pe_int (pa_cons pe_int pa_nil))) (pg_tup (n := 2) rfl (pgs_cons (pg_name (i := 4) nd rfl (by first | exact Or.inl rfl | exact Or.inr rfl)) (pgs_cons (pg_name (i := 5) nd rfl (by first | exact Or.inl rfl | exact Or.inr rfl)) pgs_nil))))
    (pss_cons (ps_while PassesOwn.never (pt_cmpR op_lt (pe_op op_mul (pe_op op_mul (pe_op op_mul (pv 5) (pv 5)) (pv 2)) (pv 2)) (pv 3) (nomark _))
      (pss_one (ps_set (i := 5) nd rfl (by first | exact Or.inl rfl | exact Or.inr rfl) (pe_op op_mul pe_int (pv 5)))))
    (pss_cons (ps_while PassesOwn.never (pt_cmpR op_lt (pv 4) (pv 5) (nomark _))
      (pss_cons (ps_set (i := 6) nd rfl (by first | exact Or.inl rfl | exact Or.inr rfl) (pe_op op_fdiv (pe_op op_plus (pv 4) (pv 5)) pe_int))
    (pss_one (ps_if (pt_cmpR op_ge (pe_op op_mul (pe_op op_mul (pe_op op_mul (pv 6) (pv 6)) (pv 2)) (pv 2)) (pv 3) (nomark _))
      (pss_one (ps_set (i := 5) nd rfl (by first | exact Or.inl rfl | exact Or.inr rfl) (pv 6)))
      (pss_one (ps_set (i := 4) nd rfl (by first | exact Or.inl rfl | exact Or.inr rfl) (pe_op op_plus (pv 6) pe_int)))))))
    (pss_one (ps_ret (pv 4)))))))
theorem ok_ticks_for {R : List D → (D → Prop) → Prop} (F : Fun K "ticks_for" "ticks_for" s_ticks_for f fd) (bn : Bn mg) {R_apart : List D → (D → Prop) → Prop} {k_apart : Nat} (C_apart : Cal P w K mg base "apart" ["one", "other"] (spP R_apart) k_apart) (h_apart : k_apart ≤ k) (len : ∀ ds Z, R ds Z → ds.length = 3) (sx : ∀ ds Z, R ds Z → SX (T_ticks_for K R_apart) (startE N_ticks_for ds) { nx := fun _ => Z .none, rt := fun d _ => Z d }) :
    FnOk P w K mg base CX0 (k + 1) f fd ["one", "other", "speed"] (spP R) := fn_pure F sc_ticks_for len fun cdv A outer s H E hr => ⟨_, ps_ticks_for bn hr C_apart h_apart, sx⟩
theorem ps_heard {cdv : Value} {A : Around} {outer : List PySem.Env} {s : Shared} {H : Hp} {E : XK} (bn : Bn mg) (hr : Room k (A.deeper (PyProof.Rows.envOfC "heard" (defScope s_heard) s.heap.objs.size f cdv))) {R_ticks_for : List D → (D → Prop) → Prop} {k_ticks_for : Nat} (C_ticks_for : Cal P w K mg base "ticks_for" ["one", "other", "speed"] (spP R_ticks_for) k_ticks_for) (h_ticks_for : k_ticks_for ≤ k) :
    PSs (cxOf CX0 P w K mg base N_heard "heard" (defScope s_heard) f cdv A outer s H E).nox (defBody s_heard) (T_heard K R_ticks_for) :=
  have nd := sc_heard.nd
  (pss_one (ps_ret (pe_callB (cb_sortD hr.units) (by rfl) bn.sorted_ (by decide +kernel) (pa_cons (pe_lc (own := [("at", 5), ("tick", 3), ("place", 4)]) (g := (gTup K 2 (gCons (gName 5) (gCons (gTup K 2 (gCons (gName 3) (gCons (gName 4) gNil))) gNil)))) (tt := tYes) rfl nd (pi_enum (by rfl) bn.enumerate_ (pa_cons (pv 0) pa_nil)) (blkOk_by (N := N_heard) (sc := defScope s_heard) (by decide +kernel)) (fun _ _ _ _ _ => (pg_tup (n := 2) rfl (pgs_cons (pg_name (i := 5) nd rfl (by first | exact Or.inl rfl | exact Or.inr rfl)) (pgs_cons (pg_tup (n := 2) rfl (pgs_cons (pg_name (i := 3) nd rfl (by first | exact Or.inl rfl | exact Or.inr rfl)) (pgs_cons (pg_name (i := 4) nd rfl (by first | exact Or.inl rfl | exact Or.inr rfl)) pgs_nil))) pgs_nil)))) (fun _ _ _ _ _ => pts_nil) (fun _ _ _ _ _ => (pe_tup (pa_cons (pe_op op_plus (pv 3) (pe_cal C_ticks_for (hr.mono h_ticks_for) (by rfl) (pa_cons (pv 4) (pa_cons (pv 1) (pa_cons (pv 2) pa_nil))))) (pa_cons (pv 5) pa_nil))))) pa_nil))))
theorem ok_heard {R : List D → (D → Prop) → Prop} (F : Fun K "heard" "heard" s_heard f fd) (bn : Bn mg) {R_ticks_for : List D → (D → Prop) → Prop} {k_ticks_for : Nat} (C_ticks_for : Cal P w K mg base "ticks_for" ["one", "other", "speed"] (spP R_ticks_for) k_ticks_for) (h_ticks_for : k_ticks_for ≤ k) (len : ∀ ds Z, R ds Z → ds.length = 3) (sx : ∀ ds Z, R ds Z → SX (T_heard K R_ticks_for) (startE N_heard ds) { nx := fun _ => Z .none, rt := fun d _ => Z d }) :
    FnOk P w K mg base CX0 (k + 1) f fd ["bursts", "seat", "speed"] (spP R) := fn_pure F sc_heard len fun cdv A outer s H E hr => ⟨_, ps_heard bn hr C_ticks_for h_ticks_for, sx⟩
theorem ps_mirrored {cdv : Value} {A : Around} {outer : List PySem.Env} {s : Shared} {H : Hp} {E : XK} (bn : Bn mg) (hr : Room k (A.deeper (PyProof.Rows.envOfC "mirrored" (defScope s_mirrored) s.heap.objs.size f cdv))) :
    PSs (cxOf CX0 P w K mg base N_mirrored "mirrored" (defScope s_mirrored) f cdv A outer s H E).nox (defBody s_mirrored) (T_mirrored K) :=
  have nd := sc_mirrored.nd
  (pss_cons (ps_asg (pv 1) (pg_tup (n := 2) rfl (pgs_cons (pg_name (i := 2) nd rfl (by first | exact Or.inl rfl | exact Or.inr rfl)) (pgs_cons (pg_name (i := 3) nd rfl (by first | exact Or.inl rfl | exact Or.inr rfl)) pgs_nil))))
    (pss_one (ps_ret (pe_callTy cb_tuple (by rfl) bn.tuple_ (by decide +kernel) (pa_cons (pe_lc (own := [("turn", 5), ("one", 4)]) (g := (gTup K 2 (gCons (gName 5) (gCons (gName 4) gNil)))) (tt := tYes) rfl nd (pi_enumT (by rfl) bn.enumerate_ (pa_cons (pv 0) pa_nil)) (blkOk_by (N := N_mirrored) (sc := defScope s_mirrored) (by decide +kernel)) (fun _ _ _ _ _ => (pg_tup (n := 2) rfl (pgs_cons (pg_name (i := 5) nd rfl (by first | exact Or.inl rfl | exact Or.inr rfl)) (pgs_cons (pg_name (i := 4) nd rfl (by first | exact Or.inl rfl | exact Or.inr rfl)) pgs_nil)))) (fun _ _ _ _ _ => pts_nil) (fun _ _ _ _ _ => (pe_ifExp (pt_cmpR (op_eqP hr.units) (pv 5) (pv 2) (nomark _)) (pe_op op_sub (pe_op op_mul pe_int (pv 3)) (pv 4)) (pv 4)))) pa_nil)))))
theorem ok_mirrored {R : List D → (D → Prop) → Prop} (F : Fun K "mirrored" "mirrored" s_mirrored f fd) (bn : Bn mg) (len : ∀ ds Z, R ds Z → ds.length = 2) (sx : ∀ ds Z, R ds Z → SX (T_mirrored K) (startE N_mirrored ds) { nx := fun _ => Z .none, rt := fun d _ => Z d }) :
    FnOk P w K mg base CX0 (k + 1) f fd ["place", "wall"] (spP R) := fn_pure F sc_mirrored len fun cdv A outer s H E hr => ⟨_, ps_mirrored bn hr, sx⟩
theorem ps_echoes {cdv : Value} {A : Around} {outer : List PySem.Env} {s : Shared} {H : Hp} {E : XK} (bn : Bn mg) (hr : Room k (A.deeper (PyProof.Rows.envOfC "echoes" (defScope s_echoes) s.heap.objs.size f cdv))) {R_ticks_for : List D → (D → Prop) → Prop} {k_ticks_for : Nat} (C_ticks_for : Cal P w K mg base "ticks_for" ["one", "other", "speed"] (spP R_ticks_for) k_ticks_for) (h_ticks_for : k_ticks_for ≤ k) {R_mirrored : List D → (D → Prop) → Prop} {k_mirrored : Nat} (C_mirrored : Cal P w K mg base "mirrored" ["place", "wall"] (spP R_mirrored) k_mirrored) (h_mirrored : k_mirrored ≤ k) :
    PSs (cxOf CX0 P w K mg base N_echoes "echoes" (defScope s_echoes) f cdv A outer s H E).nox (defBody s_echoes) (T_echoes K R_ticks_for R_mirrored) :=
  have nd := sc_echoes.nd
  (pss_cons (ps_set (i := 4) nd rfl (by first | exact Or.inl rfl | exact Or.inr rfl) (pe_lst pa_nil))
    (pss_cons (ps_for PassesOwn.never rfl (pi_enum (by rfl) bn.enumerate_ (pa_cons (pv 0) pa_nil)) (pg_tup (n := 2) rfl (pgs_cons (pg_name (i := 5) nd rfl (by first | exact Or.inl rfl | exact Or.inr rfl)) (pgs_cons (pg_tup (n := 2) rfl (pgs_cons (pg_name (i := 6) nd rfl (by first | exact Or.inl rfl | exact Or.inr rfl)) (pgs_cons (pg_name (i := 7) nd rfl (by first | exact Or.inl rfl | exact Or.inr rfl)) pgs_nil))) pgs_nil)))
      (pss_one (ps_for PassesOwn.never rfl (pi_enum (by rfl) bn.enumerate_ (pa_cons (pv 2) pa_nil)) (pg_tup (n := 2) rfl (pgs_cons (pg_name (i := 8) nd rfl (by first | exact Or.inl rfl | exact Or.inr rfl)) (pgs_cons (pg_tup (n := 2) rfl (pgs_cons (pg_name (i := 9) nd rfl (by first | exact Or.inl rfl | exact Or.inr rfl)) (pgs_cons (pg_name (i := 10) nd rfl (by first | exact Or.inl rfl | exact Or.inr rfl)) pgs_nil))) pgs_nil)))
      (pss_one (ps_if (pt_cmpR op_gt (pe_op op_mul (pe_op op_sub (pe_ix ix_any (pv 7) (pv 9) (fun _ _ => rfl)) (pv 10)) (pe_op op_sub (pe_ix ix_any (pv 1) (pv 9) (fun _ _ => rfl)) (pv 10))) pe_int (nomark _))
      (pss_one (ps_expr (pe_bm PySem.F.plainAttrs_list PySem.F.slot_list_append PySem.F.type_list_append mt_append (pv 4) (pa_cons (pe_tup (pa_cons (pe_op op_plus (pv 6) (pe_cal C_ticks_for (hr.mono h_ticks_for) (by rfl) (pa_cons (pe_cal C_mirrored (hr.mono h_mirrored) (by rfl) (pa_cons (pv 7) (pa_cons (pe_tup (pa_cons (pv 9) (pa_cons (pv 10) pa_nil))) pa_nil))) (pa_cons (pv 1) (pa_cons (pv 3) pa_nil))))) (pa_cons (pv 5) (pa_cons (pv 8) pa_nil)))) pa_nil))))
      pss_nil)))))
    (pss_one (ps_ret (pe_callB (cb_sortD hr.units) (by rfl) bn.sorted_ (by decide +kernel) (pa_cons (pv 4) pa_nil))))))
theorem ok_echoes {R : List D → (D → Prop) → Prop} (F : Fun K "echoes" "echoes" s_echoes f fd) (bn : Bn mg) {R_ticks_for : List D → (D → Prop) → Prop} {k_ticks_for : Nat} (C_ticks_for : Cal P w K mg base "ticks_for" ["one", "other", "speed"] (spP R_ticks_for) k_ticks_for) (h_ticks_for : k_ticks_for ≤ k) {R_mirrored : List D → (D → Prop) → Prop} {k_mirrored : Nat} (C_mirrored : Cal P w K mg base "mirrored" ["place", "wall"] (spP R_mirrored) k_mirrored) (h_mirrored : k_mirrored ≤ k) (len : ∀ ds Z, R ds Z → ds.length = 4) (sx : ∀ ds Z, R ds Z → SX (T_echoes K R_ticks_for R_mirrored) (startE N_echoes ds) { nx := fun _ => Z .none, rt := fun d _ => Z d }) :
    FnOk P w K mg base CX0 (k + 1) f fd ["bursts", "seat", "walls", "speed"] (spP R) := fn_pure F sc_echoes len fun cdv A outer s H E hr => ⟨_, ps_echoes bn hr C_ticks_for h_ticks_for C_mirrored h_mirrored, sx⟩
theorem ps_together {cdv : Value} {A : Around} {outer : List PySem.Env} {s : Shared} {H : Hp} {E : XK} (bn : Bn mg) (hr : Room k (A.deeper (PyProof.Rows.envOfC "together" (defScope s_together) s.heap.objs.size f cdv))) {R_heard : List D → (D → Prop) → Prop} {k_heard : Nat} (C_heard : Cal P w K mg base "heard" ["bursts", "seat", "speed"] (spP R_heard) k_heard) (h_heard : k_heard ≤ k) :
    PSs (cxOf CX0 P w K mg base N_together "together" (defScope s_together) f cdv A outer s H E).nox (defBody s_together) (T_together K R_heard) :=
  have nd := sc_together.nd
  (pss_cons (ps_set (i := 3) nd rfl (by first | exact Or.inl rfl | exact Or.inr rfl) (pe_lst pa_nil))
    (pss_cons (ps_for PassesOwn.never rfl (pi_enum (by rfl) bn.enumerate_ (pa_cons (pv 1) pa_nil)) (pg_tup (n := 2) rfl (pgs_cons (pg_name (i := 4) nd rfl (by first | exact Or.inl rfl | exact Or.inr rfl)) (pgs_cons (pg_name (i := 5) nd rfl (by first | exact Or.inl rfl | exact Or.inr rfl)) pgs_nil)))
      (pss_cons (ps_set (i := 6) nd rfl (by first | exact Or.inl rfl | exact Or.inr rfl) (pe_callTy (cb_dictN rfl) (by rfl) bn.dict_ (by decide +kernel) (pa_cons (pe_lc (own := [("tick", 8), ("at", 7)]) (g := (gTup K 2 (gCons (gName 8) (gCons (gName 7) gNil)))) (tt := tYes) rfl nd (pi_list (pe_cal C_heard (hr.mono h_heard) (by rfl) (pa_cons (pv 0) (pa_cons (pv 5) (pa_cons (pv 2) pa_nil))))) (blkOk_by (N := N_together) (sc := defScope s_together) (by decide +kernel)) (fun _ _ _ _ _ => (pg_tup (n := 2) rfl (pgs_cons (pg_name (i := 8) nd rfl (by first | exact Or.inl rfl | exact Or.inr rfl)) (pgs_cons (pg_name (i := 7) nd rfl (by first | exact Or.inl rfl | exact Or.inr rfl)) pgs_nil)))) (fun _ _ _ _ _ => pts_nil) (fun _ _ _ _ _ => (pe_tup (pa_cons (pv 7) (pa_cons (pv 8) pa_nil))))) pa_nil)))
    (pss_one (ps_for PassesOwn.never rfl (pi_range1 (by rfl) bn.range_ (pa_cons (pe_callB cb_len (by rfl) bn.len_ (by decide +kernel) (pa_cons (pv 0) pa_nil)) pa_nil)) (pg_name (i := 9) nd rfl (by first | exact Or.inl rfl | exact Or.inr rfl))
      (pss_one (ps_for PassesOwn.never rfl (pi_range2 (by rfl) bn.range_ (pa_cons (pe_op op_plus (pv 9) pe_int) (pa_cons (pe_callB cb_len (by rfl) bn.len_ (by decide +kernel) (pa_cons (pv 0) pa_nil)) pa_nil))) (pg_name (i := 10) nd rfl (by first | exact Or.inl rfl | exact Or.inr rfl))
      (pss_one (ps_if (pt_cmpR (op_eqP hr.units) (pe_dget (hu_of hr) (pv 6) (pv 9) (fun _ _ => rfl)) (pe_dget (hu_of hr) (pv 6) (pv 10) (fun _ _ => rfl)) (nomark _))
      (pss_one (ps_expr (pe_bm PySem.F.plainAttrs_list PySem.F.slot_list_append PySem.F.type_list_append mt_append (pv 3) (pa_cons (pe_tup (pa_cons (pv 9) (pa_cons (pv 10) (pa_cons (pv 4) pa_nil)))) pa_nil))))
      pss_nil))))))))
    (pss_one (ps_ret (pe_callB (cb_sortD hr.units) (by rfl) bn.sorted_ (by decide +kernel) (pa_cons (pv 3) pa_nil))))))
theorem ok_together {R : List D → (D → Prop) → Prop} (F : Fun K "together" "together" s_together f fd) (bn : Bn mg) {R_heard : List D → (D → Prop) → Prop} {k_heard : Nat} (C_heard : Cal P w K mg base "heard" ["bursts", "seat", "speed"] (spP R_heard) k_heard) (h_heard : k_heard ≤ k) (len : ∀ ds Z, R ds Z → ds.length = 3) (sx : ∀ ds Z, R ds Z → SX (T_together K R_heard) (startE N_together ds) { nx := fun _ => Z .none, rt := fun d _ => Z d }) :
    FnOk P w K mg base CX0 (k + 1) f fd ["bursts", "seats", "speed"] (spP R) := fn_pure F sc_together len fun cdv A outer s H E hr => ⟨_, ps_together bn hr C_heard h_heard, sx⟩
theorem ps_silent_span {cdv : Value} {A : Around} {outer : List PySem.Env} {s : Shared} {H : Hp} {E : XK} (bn : Bn mg) (hr : Room k (A.deeper (PyProof.Rows.envOfC "silent_span" (defScope s_silent_span) s.heap.objs.size f cdv))) {R_heard : List D → (D → Prop) → Prop} {k_heard : Nat} (C_heard : Cal P w K mg base "heard" ["bursts", "seat", "speed"] (spP R_heard) k_heard) (h_heard : k_heard ≤ k) :
    PSs (cxOf CX0 P w K mg base N_silent_span "silent_span" (defScope s_silent_span) f cdv A outer s H E).nox (defBody s_silent_span) (T_silent_span K R_heard) :=
  have nd := sc_silent_span.nd
  (pss_cons (ps_setLc (i := 3) (own := [("tick", 4), ("at", 5)]) (g := (gTup K 2 (gCons (gName 4) (gCons (gName 5) gNil)))) (tt := tYes) rfl nd rfl rfl (sw_true rfl rfl rfl (by decide +kernel)) (pi_list (pe_cal C_heard (hr.mono h_heard) (by rfl) (pa_cons (pv 0) (pa_cons (pv 1) (pa_cons (pv 2) pa_nil))))) (blkOk_by (N := N_silent_span) (sc := defScope s_silent_span) (by decide +kernel)) (fun _ _ _ _ _ => (pg_tup (n := 2) rfl (pgs_cons (pg_name (i := 4) nd rfl (by first | exact Or.inl rfl | exact Or.inr rfl)) (pgs_cons (pg_name (i := 5) nd rfl (by first | exact Or.inl rfl | exact Or.inr rfl)) pgs_nil)))) (fun _ _ _ _ _ => pts_nil) (fun _ _ _ _ _ => (pv 4)))
    (pss_cons (ps_set (i := 6) nd rfl (by first | exact Or.inl rfl | exact Or.inr rfl) (pe_tup (pa_cons pe_int (pa_cons pe_non pa_nil))))
    (pss_cons (ps_for PassesOwn.never rfl (pi_zip (by rfl) bn.zip_ (pa_cons (pv 3) (pa_cons (pe_slice sl_any (pv 3) (po_some pe_int) po_none) pa_nil))) (pg_tup (n := 2) rfl (pgs_cons (pg_name (i := 7) nd rfl (by first | exact Or.inl rfl | exact Or.inr rfl)) (pgs_cons (pg_name (i := 8) nd rfl (by first | exact Or.inl rfl | exact Or.inr rfl)) pgs_nil)))
      (pss_one (ps_if (pt_cmpR op_gt (pe_op op_sub (pv 8) (pv 7)) (pe_ix ix_any (pv 6) pe_int (fun _ _ => rfl)) (nomark _))
      (pss_one (ps_set (i := 6) nd rfl (by first | exact Or.inl rfl | exact Or.inr rfl) (pe_tup (pa_cons (pe_op op_sub (pv 8) (pv 7)) (pa_cons (pv 7) pa_nil)))))
      pss_nil)))
    (pss_one (ps_ret (pv 6))))))
theorem ok_silent_span {R : List D → (D → Prop) → Prop} (F : Fun K "silent_span" "silent_span" s_silent_span f fd) (bn : Bn mg) {R_heard : List D → (D → Prop) → Prop} {k_heard : Nat} (C_heard : Cal P w K mg base "heard" ["bursts", "seat", "speed"] (spP R_heard) k_heard) (h_heard : k_heard ≤ k) (len : ∀ ds Z, R ds Z → ds.length = 3) (sx : ∀ ds Z, R ds Z → SX (T_silent_span K R_heard) (startE N_silent_span ds) { nx := fun _ => Z .none, rt := fun d _ => Z d }) :
    FnOk P w K mg base CX0 (k + 1) f fd ["bursts", "seat", "speed"] (spP R) := fn_pure F sc_silent_span len fun cdv A outer s H E hr => ⟨_, ps_silent_span bn hr C_heard h_heard, sx⟩
theorem ps_loudest {cdv : Value} {A : Around} {outer : List PySem.Env} {s : Shared} {H : Hp} {E : XK} (bn : Bn mg) (hr : Room k (A.deeper (PyProof.Rows.envOfC "loudest" (defScope s_loudest) s.heap.objs.size f cdv))) {R_heard : List D → (D → Prop) → Prop} {k_heard : Nat} (C_heard : Cal P w K mg base "heard" ["bursts", "seat", "speed"] (spP R_heard) k_heard) (h_heard : k_heard ≤ k) :
    PSs (cxOf CX0 P w K mg base N_loudest "loudest" (defScope s_loudest) f cdv A outer s H E).nox (defBody s_loudest) (T_loudest K R_heard) :=
  have nd := sc_loudest.nd
  (pss_cons (ps_setLc (i := 4) (own := [("tick", 5), ("at", 6)]) (g := (gTup K 2 (gCons (gName 5) (gCons (gName 6) gNil)))) (tt := tYes) rfl nd rfl rfl (sw_true rfl rfl rfl (by decide +kernel)) (pi_list (pe_cal C_heard (hr.mono h_heard) (by rfl) (pa_cons (pv 0) (pa_cons (pv 1) (pa_cons (pv 2) pa_nil))))) (blkOk_by (N := N_loudest) (sc := defScope s_loudest) (by decide +kernel)) (fun _ _ _ _ _ => (pg_tup (n := 2) rfl (pgs_cons (pg_name (i := 5) nd rfl (by first | exact Or.inl rfl | exact Or.inr rfl)) (pgs_cons (pg_name (i := 6) nd rfl (by first | exact Or.inl rfl | exact Or.inr rfl)) pgs_nil)))) (fun _ _ _ _ _ => pts_nil) (fun _ _ _ _ _ => (pv 5)))
    (pss_cons (ps_set (i := 7) nd rfl (by first | exact Or.inl rfl | exact Or.inr rfl) (pe_tup (pa_cons pe_int (pa_cons pe_non pa_nil))))
    (pss_cons (ps_for PassesOwn.never rfl (pi_enum (by rfl) bn.enumerate_ (pa_cons (pv 4) pa_nil)) (pg_tup (n := 2) rfl (pgs_cons (pg_name (i := 6) nd rfl (by first | exact Or.inl rfl | exact Or.inr rfl)) (pgs_cons (pg_name (i := 5) nd rfl (by first | exact Or.inl rfl | exact Or.inr rfl)) pgs_nil)))
      (pss_cons (ps_set (i := 8) nd rfl (by first | exact Or.inl rfl | exact Or.inr rfl) (pe_callB cb_len (by rfl) bn.len_ (by decide +kernel) (pa_cons (pe_lc (own := [("one", 9)]) (g := (gName 9)) (tt := (tTest (tOp (rI0 fun i j => .bl (decide (i < j))) (tVar 9) (tOp (rPlus K) (tVar 5) (tVar 3))))) rfl nd (pi_list (pe_slice sl_any (pv 4) (po_some (pv 6)) po_none)) (blkOk_by (N := N_loudest) (sc := defScope s_loudest) (by decide +kernel)) (fun _ _ _ _ _ => (pg_name (i := 9) nd rfl (by first | exact Or.inl rfl | exact Or.inr rfl))) (fun _ _ _ _ _ => (pts_one (pt_cmpR op_lt (pv 9) (pe_op op_plus (pv 5) (pv 3)) (nomark _)))) (fun _ _ _ _ _ => (pv 9))) pa_nil)))
    (pss_one (ps_if (pt_cmpR op_gt (pv 8) (pe_ix ix_any (pv 7) pe_int (fun _ _ => rfl)) (nomark _))
      (pss_one (ps_set (i := 7) nd rfl (by first | exact Or.inl rfl | exact Or.inr rfl) (pe_tup (pa_cons (pv 8) (pa_cons (pv 5) pa_nil)))))
      pss_nil))))
    (pss_one (ps_ret (pv 7))))))
theorem ok_loudest {R : List D → (D → Prop) → Prop} (F : Fun K "loudest" "loudest" s_loudest f fd) (bn : Bn mg) {R_heard : List D → (D → Prop) → Prop} {k_heard : Nat} (C_heard : Cal P w K mg base "heard" ["bursts", "seat", "speed"] (spP R_heard) k_heard) (h_heard : k_heard ≤ k) (len : ∀ ds Z, R ds Z → ds.length = 4) (sx : ∀ ds Z, R ds Z → SX (T_loudest K R_heard) (startE N_loudest ds) { nx := fun _ => Z .none, rt := fun d _ => Z d }) :
    FnOk P w K mg base CX0 (k + 1) f fd ["bursts", "seat", "speed", "window"] (spP R) := fn_pure F sc_loudest len fun cdv A outer s H E hr => ⟨_, ps_loudest bn hr C_heard h_heard, sx⟩
theorem ps_l_state {cdv : Value} {A : Around} {outer : List PySem.Env} {s : Shared} {H : Hp} {E : XK} (bn : Bn mg) (hr : Room k (A.deeper (PyProof.Rows.envOfC "_law_state" (defScope s_l_state) s.heap.objs.size f cdv))) :
    PSs (cxOf CX0 P w K mg base N_l_state "_law_state" (defScope s_l_state) f cdv A outer s H E).nox (defBody s_l_state) (T_l_state K) :=
  have nd := sc_l_state.nd
  (pss_cons (ps_setLc (i := 1) (own := [("cell", 2)]) (g := (gName 2)) (tt := tYes) rfl nd rfl rfl (sw_true rfl rfl rfl (by decide +kernel)) (pi_list (pe_slice sl_any (pv 0) po_none (po_some pe_int))) (blkOk_by (N := N_l_state) (sc := defScope s_l_state) (by decide +kernel)) (fun _ _ _ _ _ => (pg_name (i := 2) nd rfl (by first | exact Or.inl rfl | exact Or.inr rfl))) (fun _ _ _ _ _ => pts_nil) (fun _ _ _ _ _ => (pe_callB cb_abs (by rfl) bn.abs_ (by decide +kernel) (pa_cons (pv 2) pa_nil))))
    (pss_cons (ps_if (pt_cmpR (op_eqP hr.units) (pe_callB cb_len (by rfl) bn.len_ (by decide +kernel) (pa_cons (pv 1) pa_nil)) pe_int (nomark _))
      (pss_one (ps_set (i := 1) nd rfl (by first | exact Or.inl rfl | exact Or.inr rfl) (pe_lst (pa_cons pe_int pa_nil))))
      pss_nil)
    (pss_one (ps_ret (pe_lst (pa_cons pe_int (pa_cons (pv 1) pa_nil)))))))
theorem ps_l_take {cdv : Value} {A : Around} {outer : List PySem.Env} {s : Shared} {H : Hp} {E : XK} (bn : Bn mg) (hr : Room k (A.deeper (PyProof.Rows.envOfC "_law_take" (defScope s_l_take) s.heap.objs.size f cdv))) :
    PSs (cxOf CX0 P w K mg base N_l_take "_law_take" (defScope s_l_take) f cdv A outer s H E).nox (defBody s_l_take) (T_l_take K) :=
  have nd := sc_l_take.nd
  (pss_cons (ps_set (i := 2) nd rfl (by first | exact Or.inl rfl | exact Or.inr rfl) (pe_ix ix_any (pv 0) pe_int (fun _ _ => rfl)))
    (pss_cons (ps_set (i := 3) nd rfl (by first | exact Or.inl rfl | exact Or.inr rfl) (pe_op op_mod (pe_ix ix_any (pv 0) pe_int (fun _ _ => rfl)) (pe_callB cb_len (by rfl) bn.len_ (by decide +kernel) (pa_cons (pv 2) pa_nil))))
    (pss_cons (ps_set (i := 4) nd rfl (by first | exact Or.inl rfl | exact Or.inr rfl) (pe_ix ix_any (pv 2) (pv 3) (fun _ _ => rfl)))
    (pss_cons (ps_if (pt_cmpR op_ge (pv 4) pe_int (nomark _))
      (pss_cons (ps_asg (pe_op op_fdiv (pv 4) (pv 1)) (pg_sub (pv 2) (pv 3) set_list))
    (pss_one (ps_ret (pe_op op_mod (pv 4) (pv 1)))))
      pss_nil)
    (pss_cons (ps_asg (pe_op op_plus (pe_ix ix_any (pv 0) pe_int (fun _ _ => rfl)) pe_int) (pg_sub (pv 0) pe_int set_list))
    (pss_cons (ps_set (i := 5) nd rfl (by first | exact Or.inl rfl | exact Or.inr rfl) (pe_op op_mod (pe_callTy cb_int (by rfl) bn.int_ (by decide +kernel) (pa_cons (pe_op op_plus (pe_op op_mul (pv 4) pe_int) (pe_op op_mul (pe_ix ix_any (pv 0) pe_int (fun _ _ => rfl)) pe_int)) pa_nil)) pe_int))
    (pss_cons (ps_set (i := 5) nd rfl (by first | exact Or.inl rfl | exact Or.inr rfl) (pe_op op_mod (pe_callTy cb_int (by rfl) bn.int_ (by decide +kernel) (pa_cons (pe_op op_plus (pe_op op_mul (pv 5) pe_int) (pe_op op_mul (pe_ix ix_any (pv 0) pe_int (fun _ _ => rfl)) pe_int)) pa_nil)) pe_int))
    (pss_one (ps_ret (pe_op op_mod (pe_op op_fdiv (pv 5) pe_int) (pv 1)))))))))))
theorem ps_l_ticks {cdv : Value} {A : Around} {outer : List PySem.Env} {s : Shared} {H : Hp} {E : XK} (bn : Bn mg) (hr : Room k (A.deeper (PyProof.Rows.envOfC "_law_ticks" (defScope s_l_ticks) s.heap.objs.size f cdv))) :
    PSs (cxOf CX0 P w K mg base N_l_ticks "_law_ticks" (defScope s_l_ticks) f cdv A outer s H E).nox (defBody s_l_ticks) (T_l_ticks K) :=
  have nd := sc_l_ticks.nd
  (pss_cons (ps_set (i := 3) nd rfl (by first | exact Or.inl rfl | exact Or.inr rfl) (pe_callB (cr_sum rfl) (by rfl) bn.sum_ (by decide +kernel) (pa_cons (pe_lc (own := [("k", 4)]) (g := (gName 4)) (tt := tYes) rfl nd (pi_range1 (by rfl) bn.range_ (pa_cons pe_int pa_nil)) (blkOk_by (N := N_l_ticks) (sc := defScope s_l_ticks) (by decide +kernel)) (fun _ _ _ _ _ => (pg_name (i := 4) nd rfl (by first | exact Or.inl rfl | exact Or.inr rfl))) (fun _ _ _ _ _ => pts_nil) (fun _ _ _ _ _ => (pe_op op_mul (pe_op op_sub (pe_ix ix_any (pv 0) (pv 4) (fun _ _ => rfl)) (pe_ix ix_any (pv 1) (pv 4) (fun _ _ => rfl))) (pe_op op_sub (pe_ix ix_any (pv 0) (pv 4) (fun _ _ => rfl)) (pe_ix ix_any (pv 1) (pv 4) (fun _ _ => rfl)))))) pa_nil)))
    (pss_cons (ps_set (i := 5) nd rfl (by first | exact Or.inl rfl | exact Or.inr rfl) pe_int)
    (pss_cons (ps_while PassesOwn.never (pt_cmpR op_lt (pe_op op_mul (pe_op op_mul (pe_op op_mul (pv 5) (pv 5)) (pv 2)) (pv 2)) (pv 3) (nomark _))
      (pss_one (ps_set (i := 5) nd rfl (by first | exact Or.inl rfl | exact Or.inr rfl) (pe_op op_plus (pv 5) pe_int))))
    (pss_one (ps_ret (pv 5))))))
theorem ok_l_ticks {R : List D → (D → Prop) → Prop} (F : Fun K "_law_ticks" "_law_ticks" s_l_ticks f fd) (bn : Bn mg) (len : ∀ ds Z, R ds Z → ds.length = 3) (sx : ∀ ds Z, R ds Z → SX (T_l_ticks K) (startE N_l_ticks ds) { nx := fun _ => Z .none, rt := fun d _ => Z d }) :
    FnOk P w K mg base CX0 (k + 1) f fd ["one", "other", "speed"] (spP R) := fn_pure F sc_l_ticks len fun cdv A outer s H E hr => ⟨_, ps_l_ticks bn hr, sx⟩
theorem ps_l_place {cdv : Value} {A : Around} {outer : List PySem.Env} {s : Shared} {H : Hp} {E : XK} (bn : Bn mg) (hr : Room k (A.deeper (PyProof.Rows.envOfC "_law_place" (defScope s_l_place) s.heap.objs.size f cdv))) {R_l_take : Stt → List D → (D → Stt → Prop) → Prop} {k_l_take : Nat} (C_l_take : Cal P w K mg base "_law_take" ["state", "most"] (spS R_l_take) k_l_take) (h_l_take : k_l_take ≤ k) :
    PSs (cxOf CX0 P w K mg base N_l_place "_law_place" (defScope s_l_place) f cdv A outer s H E).nox (defBody s_l_place) (T_l_place K R_l_take) :=
  have nd := sc_l_place.nd
  (pss_one (ps_ret (pe_tup (pa_cons (pe_cal C_l_take (hr.mono h_l_take) (by rfl) (pa_cons (pv 0) (pa_cons (pv 1) pa_nil))) (pa_cons (pe_cal C_l_take (hr.mono h_l_take) (by rfl) (pa_cons (pv 0) (pa_cons (pv 1) pa_nil))) (pa_cons (pe_cal C_l_take (hr.mono h_l_take) (by rfl) (pa_cons (pv 0) (pa_cons (pv 1) pa_nil))) pa_nil))))))
theorem ok_l_place {R : Stt → List D → (D → Stt → Prop) → Prop} (F : Fun K "_law_place" "_law_place" s_l_place f fd) (bn : Bn mg) {R_l_take : Stt → List D → (D → Stt → Prop) → Prop} {k_l_take : Nat} (C_l_take : Cal P w K mg base "_law_take" ["state", "most"] (spS R_l_take) k_l_take) (h_l_take : k_l_take ≤ k) (len : ∀ S ds Z, R S ds Z → ds.length + 1 = 2) (sx : ∀ S ds Z, R S ds Z → SX (T_l_place K R_l_take) (.st S :: (ds.map .val ++ List.replicate (N_l_place.length - (ds.length + 1)) .emp)) { nx := fun ρ' => ∃ S', ρ'[0]? = some (.st S') ∧ Z .none S', rt := fun d ρ' => ∃ S', ρ'[0]? = some (.st S') ∧ Z d S' }) :
    FnOk P w K mg base CX0 (k + 1) f fd ["state", "size"] (spS R) := fn_state F sc_l_place len fun cdv A outer s H E hr => ⟨_, ps_l_place bn hr C_l_take h_l_take, sx⟩
theorem ps_l_scene {cdv : Value} {A : Around} {outer : List PySem.Env} {s : Shared} {H : Hp} {E : XK} (bn : Bn mg) (hr : Room k (A.deeper (PyProof.Rows.envOfC "_law_scene" (defScope s_l_scene) s.heap.objs.size f cdv))) {R_l_take : Stt → List D → (D → Stt → Prop) → Prop} {k_l_take : Nat} (C_l_take : Cal P w K mg base "_law_take" ["state", "most"] (spS R_l_take) k_l_take) (h_l_take : k_l_take ≤ k) {R_l_place : Stt → List D → (D → Stt → Prop) → Prop} {k_l_place : Nat} (C_l_place : Cal P w K mg base "_law_place" ["state", "size"] (spS R_l_place) k_l_place) (h_l_place : k_l_place ≤ k) :
    PSs (cxOf CX0 P w K mg base N_l_scene "_law_scene" (defScope s_l_scene) f cdv A outer s H E).nox (defBody s_l_scene) (T_l_scene K R_l_take R_l_place) :=
  have nd := sc_l_scene.nd
  (pss_cons (ps_set (i := 2) nd rfl (by first | exact Or.inl rfl | exact Or.inr rfl) (pe_ix ix_any (pe_lst (pa_cons pe_int (pa_cons pe_int pa_nil))) (pe_cal C_l_take (hr.mono h_l_take) (by rfl) (pa_cons (pv 0) (pa_cons pe_int pa_nil))) (fun _ _ => rfl)))
    (pss_cons (ps_setLc (i := 3) (own := [("k", 4)]) (g := (gName 4)) (tt := tYes) rfl nd rfl rfl (sw_true rfl rfl rfl (by decide +kernel)) (pi_range1 (by rfl) bn.range_ (pa_cons (pe_cal C_l_take (hr.mono h_l_take) (by rfl) (pa_cons (pv 0) (pa_cons (pe_op op_plus (pv 1) pe_int) pa_nil))) pa_nil)) (blkOk_by (N := N_l_scene) (sc := defScope s_l_scene) (by decide +kernel)) (fun _ _ _ _ _ => (pg_name (i := 4) nd rfl (by first | exact Or.inl rfl | exact Or.inr rfl))) (fun _ _ _ _ _ => pts_nil) (fun _ _ _ _ _ => (pe_tup (pa_cons (pe_cal C_l_take (hr.mono h_l_take) (by rfl) (pa_cons (pv 0) (pa_cons pe_int pa_nil))) (pa_cons (pe_cal C_l_place (hr.mono h_l_place) (by rfl) (pa_cons (pv 0) (pa_cons (pv 2) pa_nil))) pa_nil)))))
    (pss_cons (ps_setLc (i := 5) (own := [("k", 4)]) (g := (gName 4)) (tt := tYes) rfl nd rfl rfl (sw_true rfl rfl rfl (by decide +kernel)) (pi_range1 (by rfl) bn.range_ (pa_cons (pe_op op_plus pe_int (pe_cal C_l_take (hr.mono h_l_take) (by rfl) (pa_cons (pv 0) (pa_cons pe_int pa_nil)))) pa_nil)) (blkOk_by (N := N_l_scene) (sc := defScope s_l_scene) (by decide +kernel)) (fun _ _ _ _ _ => (pg_name (i := 4) nd rfl (by first | exact Or.inl rfl | exact Or.inr rfl))) (fun _ _ _ _ _ => pts_nil) (fun _ _ _ _ _ => (pe_cal C_l_place (hr.mono h_l_place) (by rfl) (pa_cons (pv 0) (pa_cons (pv 2) pa_nil)))))
    (pss_one (ps_ret (pe_tup (pa_cons (pv 3) (pa_cons (pv 5) (pa_cons (pe_op op_plus pe_int (pe_cal C_l_take (hr.mono h_l_take) (by rfl) (pa_cons (pv 0) (pa_cons pe_int pa_nil)))) pa_nil)))))))))
theorem ok_l_scene {R : Stt → List D → (D → Stt → Prop) → Prop} (F : Fun K "_law_scene" "_law_scene" s_l_scene f fd) (bn : Bn mg) {R_l_take : Stt → List D → (D → Stt → Prop) → Prop} {k_l_take : Nat} (C_l_take : Cal P w K mg base "_law_take" ["state", "most"] (spS R_l_take) k_l_take) (h_l_take : k_l_take ≤ k) {R_l_place : Stt → List D → (D → Stt → Prop) → Prop} {k_l_place : Nat} (C_l_place : Cal P w K mg base "_law_place" ["state", "size"] (spS R_l_place) k_l_place) (h_l_place : k_l_place ≤ k) (len : ∀ S ds Z, R S ds Z → ds.length + 1 = 2) (sx : ∀ S ds Z, R S ds Z → SX (T_l_scene K R_l_take R_l_place) (.st S :: (ds.map .val ++ List.replicate (N_l_scene.length - (ds.length + 1)) .emp)) { nx := fun ρ' => ∃ S', ρ'[0]? = some (.st S') ∧ Z .none S', rt := fun d ρ' => ∃ S', ρ'[0]? = some (.st S') ∧ Z d S' }) :
    FnOk P w K mg base CX0 (k + 1) f fd ["state", "most"] (spS R) := fn_state F sc_l_scene len fun cdv A outer s H E hr => ⟨_, ps_l_scene bn hr C_l_take h_l_take C_l_place h_l_place, sx⟩
theorem ps_law {cdv : Value} {A : Around} {outer : List PySem.Env} {s : Shared} {H : Hp} {E : XK} (bn : Bn mg) (hr : Room k (A.deeper (PyProof.Rows.envOfC "law" (defScope s_law) s.heap.objs.size f cdv))) (hgd : (A.deeper (PyProof.Rows.envOfC "law" (defScope s_law) s.heap.objs.size f cdv)).guards = some []) {R_l_state : List D → (Stt → Prop) → Prop} {k_l_state : Nat} (C_l_state : Cal P w K mg base "_law_state" ["script"] (spN R_l_state) k_l_state) (h_l_state : k_l_state ≤ k) {R_l_scene : Stt → List D → (D → Stt → Prop) → Prop} {k_l_scene : Nat} (C_l_scene : Cal P w K mg base "_law_scene" ["state", "most"] (spS R_l_scene) k_l_scene) (h_l_scene : k_l_scene ≤ k) {R_heard : List D → (D → Prop) → Prop} {k_heard : Nat} (C_heard : Cal P w K mg base "heard" ["bursts", "seat", "speed"] (spP R_heard) k_heard) (h_heard : k_heard ≤ k) {R_together : List D → (D → Prop) → Prop} {k_together : Nat} (C_together : Cal P w K mg base "together" ["bursts", "seats", "speed"] (spP R_together) k_together) (h_together : k_together ≤ k) {R_silent_span : List D → (D → Prop) → Prop} {k_silent_span : Nat} (C_silent_span : Cal P w K mg base "silent_span" ["bursts", "seat", "speed"] (spP R_silent_span) k_silent_span) (h_silent_span : k_silent_span ≤ k) {R_l_take : Stt → List D → (D → Stt → Prop) → Prop} {k_l_take : Nat} (C_l_take : Cal P w K mg base "_law_take" ["state", "most"] (spS R_l_take) k_l_take) (h_l_take : k_l_take ≤ k) {R_ticks_for : List D → (D → Prop) → Prop} {k_ticks_for : Nat} (C_ticks_for : Cal P w K mg base "ticks_for" ["one", "other", "speed"] (spP R_ticks_for) k_ticks_for) (h_ticks_for : k_ticks_for ≤ k) {R_l_ticks : List D → (D → Prop) → Prop} {k_l_ticks : Nat} (C_l_ticks : Cal P w K mg base "_law_ticks" ["one", "other", "speed"] (spP R_l_ticks) k_l_ticks) (h_l_ticks : k_l_ticks ≤ k) {R_loudest : List D → (D → Prop) → Prop} {k_loudest : Nat} (C_loudest : Cal P w K mg base "loudest" ["bursts", "seat", "speed", "window"] (spP R_loudest) k_loudest) (h_loudest : k_loudest ≤ k) {R_echoes : List D → (D → Prop) → Prop} {k_echoes : Nat} (C_echoes : Cal P w K mg base "echoes" ["bursts", "seat", "walls", "speed"] (spP R_echoes) k_echoes) (h_echoes : k_echoes ≤ k) :
    PSs (cxOf CX0 P w K mg base N_law "law" (defScope s_law) f cdv A outer s H E).nox (defBody s_law) (T_law K R_l_state R_l_scene R_heard R_together R_silent_span R_l_take R_ticks_for R_l_ticks R_loudest R_echoes) :=
  have nd := sc_law.nd
  (pss_cons (ps_set (i := 1) nd rfl (by first | exact Or.inl rfl | exact Or.inr rfl) (pe_cal C_l_state (hr.mono h_l_state) (by rfl) (pa_cons (pv 0) pa_nil)))
    (pss_cons (ps_asg (pe_cal C_l_scene (hr.mono h_l_scene) (by rfl) (pa_cons (pv 1) (pa_cons pe_int pa_nil))) (pg_tup (n := 3) rfl (pgs_cons (pg_name (i := 2) nd rfl (by first | exact Or.inl rfl | exact Or.inr rfl)) (pgs_cons (pg_name (i := 3) nd rfl (by first | exact Or.inl rfl | exact Or.inr rfl)) (pgs_cons (pg_name (i := 4) nd rfl (by first | exact Or.inl rfl | exact Or.inr rfl)) pgs_nil)))))
    (pss_cons (ps_set (i := 5) nd rfl (by first | exact Or.inl rfl | exact Or.inr rfl) (pe_callB (cb_repr hr.units hgd) (by rfl) bn.repr_ (by decide +kernel) (pa_cons (pe_tup (pa_cons (pv 2) (pa_cons (pv 3) pa_nil))) pa_nil)))
    (pss_cons (ps_set (i := 6) nd rfl (by first | exact Or.inl rfl | exact Or.inr rfl) (pe_ix ix_any (pv 3) pe_int (fun _ _ => rfl)))
    (pss_cons (ps_set (i := 7) nd rfl (by first | exact Or.inl rfl | exact Or.inr rfl) (pe_callB (cb_sortD hr.units) (by rfl) bn.sorted_ (by decide +kernel) (pa_cons (pe_lc (own := [("k", 8)]) (g := (gName 8)) (tt := tYes) rfl nd (pi_range1 (by rfl) bn.range_ (pa_cons (pe_callB cb_len (by rfl) bn.len_ (by decide +kernel) (pa_cons (pv 2) pa_nil)) pa_nil)) (blkOk_by (N := N_law) (sc := defScope s_law) (by decide +kernel)) (fun _ _ _ _ _ => (pg_name (i := 8) nd rfl (by first | exact Or.inl rfl | exact Or.inr rfl))) (fun _ _ _ _ _ => pts_nil) (fun _ _ _ _ _ => (pe_tup (pa_cons (pe_op op_plus (pe_ix ix_any (pe_ix ix_any (pv 2) (pv 8) (fun _ _ => rfl)) pe_int (fun _ _ => rfl)) (pe_cal C_l_ticks (hr.mono h_l_ticks) (by rfl) (pa_cons (pe_ix ix_any (pe_ix ix_any (pv 2) (pv 8) (fun _ _ => rfl)) pe_int (fun _ _ => rfl)) (pa_cons (pv 6) (pa_cons (pv 4) pa_nil))))) (pa_cons (pv 8) pa_nil))))) pa_nil)))
    (pss_cons (ps_if (pt_cmpR (op_neP hr.units) (pe_cal C_heard (hr.mono h_heard) (by rfl) (pa_cons (pv 2) (pa_cons (pv 6) (pa_cons (pv 4) pa_nil)))) (pv 7) (nomark _))
      (pss_one (ps_ret pe_bl))
      pss_nil)
    (pss_cons (ps_for PassesOwn.never rfl (pi_list (pv 2)) (pg_tup (n := 2) rfl (pgs_cons (pg_name (i := 9) nd rfl (by first | exact Or.inl rfl | exact Or.inr rfl)) (pgs_cons (pg_name (i := 10) nd rfl (by first | exact Or.inl rfl | exact Or.inr rfl)) pgs_nil)))
      (pss_one (ps_if (pt_cmpR (op_neP hr.units) (pe_cal C_ticks_for (hr.mono h_ticks_for) (by rfl) (pa_cons (pv 10) (pa_cons (pv 6) (pa_cons (pv 4) pa_nil)))) (pe_cal C_l_ticks (hr.mono h_l_ticks) (by rfl) (pa_cons (pv 10) (pa_cons (pv 6) (pa_cons (pv 4) pa_nil)))) (nomark _))
      (pss_one (ps_ret pe_bl))
      pss_nil)))
    (pss_cons (ps_set (i := 11) nd rfl (by first | exact Or.inl rfl | exact Or.inr rfl) (pe_lst pa_nil))
    (pss_cons (ps_for PassesOwn.never rfl (pi_range1 (by rfl) bn.range_ (pa_cons (pe_callB cb_len (by rfl) bn.len_ (by decide +kernel) (pa_cons (pv 2) pa_nil)) pa_nil)) (pg_name (i := 12) nd rfl (by first | exact Or.inl rfl | exact Or.inr rfl))
      (pss_one (ps_for PassesOwn.never rfl (pi_range2 (by rfl) bn.range_ (pa_cons (pe_op op_plus (pv 12) pe_int) (pa_cons (pe_callB cb_len (by rfl) bn.len_ (by decide +kernel) (pa_cons (pv 2) pa_nil)) pa_nil))) (pg_name (i := 13) nd rfl (by first | exact Or.inl rfl | exact Or.inr rfl))
      (pss_one (ps_for PassesOwn.never rfl (pi_range1 (by rfl) bn.range_ (pa_cons (pe_callB cb_len (by rfl) bn.len_ (by decide +kernel) (pa_cons (pv 3) pa_nil)) pa_nil)) (pg_name (i := 14) nd rfl (by first | exact Or.inl rfl | exact Or.inr rfl))
      (pss_cons (ps_set (i := 15) nd rfl (by first | exact Or.inl rfl | exact Or.inr rfl) (pe_op op_plus (pe_ix ix_any (pe_ix ix_any (pv 2) (pv 12) (fun _ _ => rfl)) pe_int (fun _ _ => rfl)) (pe_cal C_l_ticks (hr.mono h_l_ticks) (by rfl) (pa_cons (pe_ix ix_any (pe_ix ix_any (pv 2) (pv 12) (fun _ _ => rfl)) pe_int (fun _ _ => rfl)) (pa_cons (pe_ix ix_any (pv 3) (pv 14) (fun _ _ => rfl)) (pa_cons (pv 4) pa_nil))))))
    (pss_cons (ps_set (i := 16) nd rfl (by first | exact Or.inl rfl | exact Or.inr rfl) (pe_op op_plus (pe_ix ix_any (pe_ix ix_any (pv 2) (pv 13) (fun _ _ => rfl)) pe_int (fun _ _ => rfl)) (pe_cal C_l_ticks (hr.mono h_l_ticks) (by rfl) (pa_cons (pe_ix ix_any (pe_ix ix_any (pv 2) (pv 13) (fun _ _ => rfl)) pe_int (fun _ _ => rfl)) (pa_cons (pe_ix ix_any (pv 3) (pv 14) (fun _ _ => rfl)) (pa_cons (pv 4) pa_nil))))))
    (pss_one (ps_expr (pe_bm PySem.F.plainAttrs_list PySem.F.slot_list_extend PySem.F.type_list_extend mt_extR (pv 11) (pa_cons (pe_ifExp (pt_cmpR (op_eqP hr.units) (pv 15) (pv 16) (nomark _)) (pe_lst (pa_cons (pe_tup (pa_cons (pv 12) (pa_cons (pv 13) (pa_cons (pv 14) pa_nil)))) pa_nil)) (pe_lst pa_nil)) pa_nil)))))))))))
    (pss_cons (ps_if (pt_cmpR (op_neP hr.units) (pe_cal C_together (hr.mono h_together) (by rfl) (pa_cons (pv 2) (pa_cons (pv 3) (pa_cons (pv 4) pa_nil)))) (pe_callB (cb_sortD hr.units) (by rfl) bn.sorted_ (by decide +kernel) (pa_cons (pv 11) pa_nil)) (nomark _))
      (pss_one (ps_ret pe_bl))
      pss_nil)
    (pss_cons (ps_set (i := 17) nd rfl (by first | exact Or.inl rfl | exact Or.inr rfl) (pe_lc (own := [("tick", 9), ("k", 8)]) (g := (gTup K 2 (gCons (gName 9) (gCons (gName 8) gNil)))) (tt := tYes) rfl nd (pi_list (pv 7)) (blkOk_by (N := N_law) (sc := defScope s_law) (by decide +kernel)) (fun _ _ _ _ _ => (pg_tup (n := 2) rfl (pgs_cons (pg_name (i := 9) nd rfl (by first | exact Or.inl rfl | exact Or.inr rfl)) (pgs_cons (pg_name (i := 8) nd rfl (by first | exact Or.inl rfl | exact Or.inr rfl)) pgs_nil)))) (fun _ _ _ _ _ => pts_nil) (fun _ _ _ _ _ => (pv 9))))
    (pss_cons (ps_setLc (i := 18) (own := [("k", 8)]) (g := (gName 8)) (tt := tYes) rfl nd rfl rfl (sw_true rfl rfl rfl (by decide +kernel)) (pi_range1 (by rfl) bn.range_ (pa_cons (pe_op op_sub (pe_callB cb_len (by rfl) bn.len_ (by decide +kernel) (pa_cons (pv 17) pa_nil)) pe_int) pa_nil)) (blkOk_by (N := N_law) (sc := defScope s_law) (by decide +kernel)) (fun _ _ _ _ _ => (pg_name (i := 8) nd rfl (by first | exact Or.inl rfl | exact Or.inr rfl))) (fun _ _ _ _ _ => pts_nil) (fun _ _ _ _ _ => (pe_op op_sub (pe_ix ix_any (pv 17) (pe_op op_plus (pv 8) pe_int) (fun _ _ => rfl)) (pe_ix ix_any (pv 17) (pv 8) (fun _ _ => rfl)))))
    (pss_cons (ps_set (i := 19) nd rfl (by first | exact Or.inl rfl | exact Or.inr rfl) (pe_ifExp (PW.pt (pw_and (pt_cmpR op_gt (pe_callB cb_len (by rfl) bn.len_ (by decide +kernel) (pa_cons (pv 18) pa_nil)) pe_int (nomark _)) (pw_and1 (pt_cmpR op_gt (pe_callB (cb_maxD rfl hr.units) (by rfl) bn.max_ (by decide +kernel) (pa_cons (pv 18) pa_nil)) pe_int (nomark _))))) (pe_tup (pa_cons (pe_callB (cb_maxD rfl hr.units) (by rfl) bn.max_ (by decide +kernel) (pa_cons (pv 18) pa_nil)) (pa_cons (pe_ix ix_any (pv 17) (pe_bm PySem.F.plainAttrs_list PySem.F.slot_list_index PySem.F.type_list_index mt_index (pv 18) (pa_cons (pe_callB (cb_maxD rfl hr.units) (by rfl) bn.max_ (by decide +kernel) (pa_cons (pv 18) pa_nil)) pa_nil)) (fun _ _ => rfl)) pa_nil))) (pe_tup (pa_cons pe_int (pa_cons pe_non pa_nil)))))
    (pss_cons (ps_if (pt_cmpR (op_neP hr.units) (pe_cal C_silent_span (hr.mono h_silent_span) (by rfl) (pa_cons (pv 2) (pa_cons (pv 6) (pa_cons (pv 4) pa_nil)))) (pv 19) (nomark _))
      (pss_one (ps_ret pe_bl))
      pss_nil)
    (pss_cons (ps_set (i := 20) nd rfl (by first | exact Or.inl rfl | exact Or.inr rfl) (pe_op op_plus pe_int (pe_cal C_l_take (hr.mono h_l_take) (by rfl) (pa_cons (pv 1) (pa_cons pe_int pa_nil)))))
    (pss_cons (ps_setLc (i := 21) (own := [("tick", 9)]) (g := (gName 9)) (tt := tYes) rfl nd rfl rfl (sw_true rfl rfl rfl (by decide +kernel)) (pi_list (pv 17)) (blkOk_by (N := N_law) (sc := defScope s_law) (by decide +kernel)) (fun _ _ _ _ _ => (pg_name (i := 9) nd rfl (by first | exact Or.inl rfl | exact Or.inr rfl))) (fun _ _ _ _ _ => pts_nil) (fun _ _ _ _ _ => (pe_callB cb_len (by rfl) bn.len_ (by decide +kernel) (pa_cons (pe_lc (own := [("one", 15)]) (g := (gName 15)) (tt := (tTest (tChain (rI0 fun i j => .bl (decide (i ≤ j))) (rI0 fun i j => .bl (decide (i < j))) (tVar 9) (tVar 15) (tOp (rPlus K) (tVar 9) (tVar 20))))) rfl nd (pi_list (pv 17)) (blkOk_by (by with_unfolding_all rfl)) (fun _ _ _ _ _ => (pg_name (i := 15) nd rfl (by first | exact Or.inl rfl | exact Or.inr rfl))) (fun _ _ _ _ _ => (pts_one (pt_chain op_le op_lt (pv 9) (pv 15) (pe_op op_plus (pv 9) (pv 20))))) (fun _ _ _ _ _ => (pv 15))) pa_nil))))
    (pss_cons (ps_setLc (i := 22) (own := [("k", 8)]) (g := (gName 8)) (tt := tYes) rfl nd rfl rfl (sw_true rfl rfl rfl (by decide +kernel)) (pi_range1 (by rfl) bn.range_ (pa_cons (pe_callB cb_len (by rfl) bn.len_ (by decide +kernel) (pa_cons (pv 17) pa_nil)) pa_nil)) (blkOk_by (N := N_law) (sc := defScope s_law) (by decide +kernel)) (fun _ _ _ _ _ => (pg_name (i := 8) nd rfl (by first | exact Or.inl rfl | exact Or.inr rfl))) (fun _ _ _ _ _ => pts_nil) (fun _ _ _ _ _ => (pe_callB cb_len (by rfl) bn.len_ (by decide +kernel) (pa_cons (pe_lc (own := [("one", 15)]) (g := (gName 15)) (tt := (tTest (tOp (rI0 fun i j => .bl (decide (i < j))) (tVar 15) (tOp (rPlus K) (tOp (rIxA K) (tVar 17) (tVar 8)) (tVar 20))))) rfl nd (pi_list (pe_slice sl_any (pv 17) (po_some (pv 8)) po_none)) (blkOk_by (by with_unfolding_all rfl)) (fun _ _ _ _ _ => (pg_name (i := 15) nd rfl (by first | exact Or.inl rfl | exact Or.inr rfl))) (fun _ _ _ _ _ => (pts_one (pt_cmpR op_lt (pv 15) (pe_op op_plus (pe_ix ix_any (pv 17) (pv 8) (fun _ _ => rfl)) (pv 20)) (nomark _)))) (fun _ _ _ _ _ => (pv 15))) pa_nil))))
    (pss_cons (ps_set (i := 23) nd rfl (by first | exact Or.inl rfl | exact Or.inr rfl) (pe_ifExp (pt_cmpR op_gt (pe_callB cb_len (by rfl) bn.len_ (by decide +kernel) (pa_cons (pv 22) pa_nil)) pe_int (nomark _)) (pe_tup (pa_cons (pe_callB (cb_maxD rfl hr.units) (by rfl) bn.max_ (by decide +kernel) (pa_cons (pv 22) pa_nil)) (pa_cons (pe_ix ix_any (pv 17) (pe_bm PySem.F.plainAttrs_list PySem.F.slot_list_index PySem.F.type_list_index mt_index (pv 22) (pa_cons (pe_callB (cb_maxD rfl hr.units) (by rfl) bn.max_ (by decide +kernel) (pa_cons (pv 22) pa_nil)) pa_nil)) (fun _ _ => rfl)) pa_nil))) (pe_tup (pa_cons pe_int (pa_cons pe_non pa_nil)))))
    (pss_cons (ps_if (PW.pt (pw_or (pt_cmpR (op_neP hr.units) (pe_cal C_loudest (hr.mono h_loudest) (by rfl) (pa_cons (pv 2) (pa_cons (pv 6) (pa_cons (pv 4) (pa_cons (pv 20) pa_nil))))) (pv 23) (nomark _)) (pw_or1 (PW.pt (pw_and (pt_cmpR op_gt (pe_callB cb_len (by rfl) bn.len_ (by decide +kernel) (pa_cons (pv 21) pa_nil)) pe_int (nomark _)) (pw_and1 (pt_cmpR (op_neP hr.units) (pe_callB (cb_maxD rfl hr.units) (by rfl) bn.max_ (by decide +kernel) (pa_cons (pv 21) pa_nil)) (pe_ix ix_any (pv 23) pe_int (fun _ _ => rfl)) (nomark _))))))))
      (pss_one (ps_ret pe_bl))
      pss_nil)
    (pss_cons (ps_setLc (i := 24) (own := [("k", 8)]) (g := (gName 8)) (tt := tYes) rfl nd rfl rfl (sw_true rfl rfl rfl (by decide +kernel)) (pi_range1 (by rfl) bn.range_ (pa_cons (pe_cal C_l_take (hr.mono h_l_take) (by rfl) (pa_cons (pv 1) (pa_cons pe_int pa_nil))) pa_nil)) (blkOk_by (N := N_law) (sc := defScope s_law) (by decide +kernel)) (fun _ _ _ _ _ => (pg_name (i := 8) nd rfl (by first | exact Or.inl rfl | exact Or.inr rfl))) (fun _ _ _ _ _ => pts_nil) (fun _ _ _ _ _ => (pe_tup (pa_cons (pe_cal C_l_take (hr.mono h_l_take) (by rfl) (pa_cons (pv 1) (pa_cons pe_int pa_nil))) (pa_cons (pe_op op_sub (pe_cal C_l_take (hr.mono h_l_take) (by rfl) (pa_cons (pv 1) (pa_cons pe_int pa_nil))) pe_int) pa_nil)))))
    (pss_cons (ps_set (i := 25) nd rfl (by first | exact Or.inl rfl | exact Or.inr rfl) (pe_lst pa_nil))
    (pss_cons (ps_for PassesOwn.never rfl (pi_range1 (by rfl) bn.range_ (pa_cons (pe_callB cb_len (by rfl) bn.len_ (by decide +kernel) (pa_cons (pv 2) pa_nil)) pa_nil)) (pg_name (i := 26) nd rfl (by first | exact Or.inl rfl | exact Or.inr rfl))
      (pss_cons (ps_set (i := 10) nd rfl (by first | exact Or.inl rfl | exact Or.inr rfl) (pe_ix ix_any (pe_ix ix_any (pv 2) (pv 26) (fun _ _ => rfl)) pe_int (fun _ _ => rfl)))
    (pss_one (ps_for PassesOwn.never rfl (pi_range1 (by rfl) bn.range_ (pa_cons (pe_callB cb_len (by rfl) bn.len_ (by decide +kernel) (pa_cons (pv 24) pa_nil)) pa_nil)) (pg_name (i := 27) nd rfl (by first | exact Or.inl rfl | exact Or.inr rfl))
      (pss_cons (ps_asg (pe_ix ix_any (pv 24) (pv 27) (fun _ _ => rfl)) (pg_tup (n := 2) rfl (pgs_cons (pg_name (i := 28) nd rfl (by first | exact Or.inl rfl | exact Or.inr rfl)) (pgs_cons (pg_name (i := 29) nd rfl (by first | exact Or.inl rfl | exact Or.inr rfl)) pgs_nil))))
    (pss_one (ps_if (PW.pt (pw_or (PW.pt (pw_and (pt_cmpR op_lt (pe_ix ix_any (pv 10) (pv 28) (fun _ _ => rfl)) (pv 29) (nomark _)) (pw_and1 (pt_cmpR op_lt (pe_ix ix_any (pv 6) (pv 28) (fun _ _ => rfl)) (pv 29) (nomark _))))) (pw_or1 (PW.pt (pw_and (pt_cmpR op_gt (pe_ix ix_any (pv 10) (pv 28) (fun _ _ => rfl)) (pv 29) (nomark _)) (pw_and1 (pt_cmpR op_gt (pe_ix ix_any (pv 6) (pv 28) (fun _ _ => rfl)) (pv 29) (nomark _))))))))
      (pss_cons (ps_set (i := 30) nd rfl (by first | exact Or.inl rfl | exact Or.inr rfl) (pe_callTy cb_tuple (by rfl) bn.tuple_ (by decide +kernel) (pa_cons (pe_lc (own := [("k", 8)]) (g := (gName 8)) (tt := tYes) rfl nd (pi_range1 (by rfl) bn.range_ (pa_cons pe_int pa_nil)) (blkOk_by (N := N_law) (sc := defScope s_law) (by decide +kernel)) (fun _ _ _ _ _ => (pg_name (i := 8) nd rfl (by first | exact Or.inl rfl | exact Or.inr rfl))) (fun _ _ _ _ _ => pts_nil) (fun _ _ _ _ _ => (pe_ifExp (pt_cmpR (op_eqP hr.units) (pv 8) (pv 28) (nomark _)) (pe_op op_sub (pe_op op_mul pe_int (pv 29)) (pe_ix ix_any (pv 10) (pv 8) (fun _ _ => rfl))) (pe_ix ix_any (pv 10) (pv 8) (fun _ _ => rfl))))) pa_nil)))
    (pss_cons (ps_expr (pe_bm PySem.F.plainAttrs_list PySem.F.slot_list_append PySem.F.type_list_append mt_append (pv 25) (pa_cons (pe_tup (pa_cons (pe_op op_plus (pe_ix ix_any (pe_ix ix_any (pv 2) (pv 26) (fun _ _ => rfl)) pe_int (fun _ _ => rfl)) (pe_cal C_l_ticks (hr.mono h_l_ticks) (by rfl) (pa_cons (pv 30) (pa_cons (pv 6) (pa_cons (pv 4) pa_nil))))) (pa_cons (pv 26) (pa_cons (pv 27) pa_nil)))) pa_nil)))
    (pss_one (ps_if (pt_cmpR op_lt (pe_ix ix_any (pe_ix ix_any (pv 25) (pe_un un_neg pe_int) (fun _ _ => rfl)) pe_int (fun _ _ => rfl)) (pe_op op_plus (pe_ix ix_any (pe_ix ix_any (pv 2) (pv 26) (fun _ _ => rfl)) pe_int (fun _ _ => rfl)) (pe_cal C_l_ticks (hr.mono h_l_ticks) (by rfl) (pa_cons (pv 10) (pa_cons (pv 6) (pa_cons (pv 4) pa_nil))))) (nomark _))
      (pss_one (ps_ret pe_bl))
      pss_nil))))
      pss_nil)))))))
    (pss_one (ps_ret (pe_and (pe_cmpR (op_eqP hr.units) (pe_cal C_echoes (hr.mono h_echoes) (by rfl) (pa_cons (pv 2) (pa_cons (pv 6) (pa_cons (pv 24) (pa_cons (pv 4) pa_nil))))) (pe_callB (cb_sortD hr.units) (by rfl) bn.sorted_ (by decide +kernel) (pa_cons (pv 25) pa_nil)) (nomark _)) (pe_one (pe_cmpR (op_eqP hr.units) (pe_callB (cb_repr hr.units hgd) (by rfl) bn.repr_ (by decide +kernel) (pa_cons (pe_tup (pa_cons (pv 2) (pa_cons (pv 3) pa_nil))) pa_nil)) (pv 5) (nomark _))))))))))))))))))))))))))))
theorem top_law {R : List D → (D → Prop) → Prop} (F : Fun K "law" "law" s_law f fd) (bn : Bn mg) {R_l_state : List D → (Stt → Prop) → Prop} {k_l_state : Nat} (C_l_state : Cal P w K mg base "_law_state" ["script"] (spN R_l_state) k_l_state) (h_l_state : k_l_state ≤ k) {R_l_scene : Stt → List D → (D → Stt → Prop) → Prop} {k_l_scene : Nat} (C_l_scene : Cal P w K mg base "_law_scene" ["state", "most"] (spS R_l_scene) k_l_scene) (h_l_scene : k_l_scene ≤ k) {R_heard : List D → (D → Prop) → Prop} {k_heard : Nat} (C_heard : Cal P w K mg base "heard" ["bursts", "seat", "speed"] (spP R_heard) k_heard) (h_heard : k_heard ≤ k) {R_together : List D → (D → Prop) → Prop} {k_together : Nat} (C_together : Cal P w K mg base "together" ["bursts", "seats", "speed"] (spP R_together) k_together) (h_together : k_together ≤ k) {R_silent_span : List D → (D → Prop) → Prop} {k_silent_span : Nat} (C_silent_span : Cal P w K mg base "silent_span" ["bursts", "seat", "speed"] (spP R_silent_span) k_silent_span) (h_silent_span : k_silent_span ≤ k) {R_l_take : Stt → List D → (D → Stt → Prop) → Prop} {k_l_take : Nat} (C_l_take : Cal P w K mg base "_law_take" ["state", "most"] (spS R_l_take) k_l_take) (h_l_take : k_l_take ≤ k) {R_ticks_for : List D → (D → Prop) → Prop} {k_ticks_for : Nat} (C_ticks_for : Cal P w K mg base "ticks_for" ["one", "other", "speed"] (spP R_ticks_for) k_ticks_for) (h_ticks_for : k_ticks_for ≤ k) {R_l_ticks : List D → (D → Prop) → Prop} {k_l_ticks : Nat} (C_l_ticks : Cal P w K mg base "_law_ticks" ["one", "other", "speed"] (spP R_l_ticks) k_l_ticks) (h_l_ticks : k_l_ticks ≤ k) {R_loudest : List D → (D → Prop) → Prop} {k_loudest : Nat} (C_loudest : Cal P w K mg base "loudest" ["bursts", "seat", "speed", "window"] (spP R_loudest) k_loudest) (h_loudest : k_loudest ≤ k) {R_echoes : List D → (D → Prop) → Prop} {k_echoes : Nat} (C_echoes : Cal P w K mg base "echoes" ["bursts", "seat", "walls", "speed"] (spP R_echoes) k_echoes) (h_echoes : k_echoes ≤ k) (room : RoomTop (k + 1)) (len : ∀ ds Z, R ds Z → ds.length = 1) (sx : ∀ ds Z, R ds Z → SX (T_law K R_l_state R_l_scene R_heard R_together R_silent_span R_l_take R_ticks_for R_l_ticks R_loudest R_echoes) (startE N_law ds) { nx := fun _ => Z .none, rt := fun d _ => Z d }) :
    TopOk P w K mg base f fd ["script"] (spP R) := top_pure F sc_law len room fun cdv s H E hr => ⟨_, ps_law bn hr rfl C_l_state h_l_state C_l_scene h_l_scene C_heard h_heard C_together h_together C_silent_span h_silent_span C_l_take h_l_take C_ticks_for h_ticks_for C_l_ticks h_l_ticks C_loudest h_loudest C_echoes h_echoes, sx⟩
end
end Law_k71
namespace Law_k71
open PySem L2 Pu
section
variable {P : Program} {w : World} {K : PySem.W.Frag} {mg : Str → Option Value} {base : Heap} {f : Addr} {fd : FuncData} {k : Nat}
theorem len_l_place : ∀ S ds Z, R_place S ds Z → ds.length + 1 = 2 := by
  intro S ds Z h
  unfold R_place at h
  repeat (obtain ⟨e, h⟩ := h; try subst e)
  all_goals rfl
theorem len_l_scene : ∀ S ds Z, R_scene S ds Z → ds.length + 1 = 2 := by
  intro S ds Z h
  unfold R_scene at h
  repeat (obtain ⟨e, h⟩ := h; try subst e)
  all_goals rfl
theorem len_apart : ∀ ds Z, R_apart ds Z → ds.length = 2 := by
  intro ds Z h
  unfold R_apart at h
  repeat (obtain ⟨e, h⟩ := h; try subst e)
  all_goals rfl
theorem len_ticks_for : ∀ ds Z, R_ticks ds Z → ds.length = 3 := by
  intro ds Z h
  unfold R_ticks at h
  repeat (obtain ⟨e, h⟩ := h; try subst e)
  all_goals rfl
theorem len_heard : ∀ ds Z, R_heard ds Z → ds.length = 3 := by
  intro ds Z h
  unfold R_heard at h
  repeat (obtain ⟨e, h⟩ := h; try subst e)
  all_goals rfl
theorem len_together : ∀ ds Z, R_tog ds Z → ds.length = 3 := by
  intro ds Z h
  unfold R_tog at h
  repeat (obtain ⟨e, h⟩ := h; try subst e)
  all_goals rfl
theorem len_silent_span : ∀ ds Z, R_silent ds Z → ds.length = 3 := by
  intro ds Z h
  unfold R_silent at h
  repeat (obtain ⟨e, h⟩ := h; try subst e)
  all_goals rfl
theorem len_l_ticks : ∀ ds Z, R_ticks ds Z → ds.length = 3 := by
  intro ds Z h
  unfold R_ticks at h
  repeat (obtain ⟨e, h⟩ := h; try subst e)
  all_goals rfl
theorem len_loudest : ∀ ds Z, R_loud ds Z → ds.length = 4 := by
  intro ds Z h
  unfold R_loud at h
  repeat (obtain ⟨e, h⟩ := h; try subst e)
  all_goals rfl
theorem len_mirrored : ∀ ds Z, R_mirr ds Z → ds.length = 2 := by
  intro ds Z h
  unfold R_mirr at h
  repeat (obtain ⟨e, h⟩ := h; try subst e)
  all_goals rfl
theorem len_echoes : ∀ ds Z, R_echoes ds Z → ds.length = 4 := by
  intro ds Z h
  unfold R_echoes at h
  repeat (obtain ⟨e, h⟩ := h; try subst e)
  all_goals rfl
theorem len_law : ∀ ds Z, R_law ds Z → ds.length = 1 := by
  intro ds Z h
  unfold R_law at h
  repeat (obtain ⟨e, h⟩ := h; try subst e)
  all_goals rfl
end
theorem all_mk {l : PySem.W.OpenLaw} {w : World} {K : PySem.W.Frag} {h : Heap} {mg : Str → Option Value} {fa f1 f2 f3 f4 f5 f6 f7 f8 f9 f10 f11 f12 f13 f14 : Addr} (X : K.In h) (G : h.Ns mainGlobals mg) (hfa : mg "law" = some (.ref fa))
    {od1 an1 od2 an2 od3 an3 od4 an4 od5 an5 od6 an6 od7 an7 od8 an8 od9 an9 od10 an10 od11 an11 od12 an12 od13 an13 od14 an14 : Option Addr} {sl1 sl2 sl3 sl4 sl5 sl6 sl7 sl8 sl9 sl10 sl11 sl12 sl13 sl14 : Array (Option Value)}
    {oc1 kV1 dc1 pm1 cd1 ct1 oc2 kV2 dc2 pm2 cd2 ct2 oc3 kV3 dc3 pm3 cd3 ct3 oc4 kV4 dc4 pm4 cd4 ct4 oc5 kV5 dc5 pm5 cd5 ct5 oc6 kV6 dc6 pm6 cd6 ct6 oc7 kV7 dc7 pm7 cd7 ct7 oc8 kV8 dc8 pm8 cd8 ct8 oc9 kV9 dc9 pm9 cd9 ct9 oc10 kV10 dc10 pm10 cd10 ct10 oc11 kV11 dc11 pm11 cd11 ct11 oc12 kV12 dc12 pm12 cd12 ct12 oc13 kV13 dc13 pm13 cd13 ct13 oc14 kV14 dc14 pm14 cd14 ct14 : Value}
    (a1 : PySem.W.nsIn K mainGlobals "apart" = some (some (.ref f1))) (l1 : K.lookup f1 = some ⟨oc1, od1, .func (PySem.W.fnOf "apart" "apart" (defArgs s_apart) (defBody s_apart) (defScope s_apart) .none kV1 dc1 pm1 an1 cd1 ct1), sl1⟩) (c1 : PySem.W.codeIn K cd1 "apart" = true) (k1 : PySem.W.keepIn K (.ref f1) = true)
    (a2 : PySem.W.nsIn K mainGlobals "ticks_for" = some (some (.ref f2))) (l2 : K.lookup f2 = some ⟨oc2, od2, .func (PySem.W.fnOf "ticks_for" "ticks_for" (defArgs s_ticks_for) (defBody s_ticks_for) (defScope s_ticks_for) .none kV2 dc2 pm2 an2 cd2 ct2), sl2⟩) (c2 : PySem.W.codeIn K cd2 "ticks_for" = true) (k2 : PySem.W.keepIn K (.ref f2) = true)
    (a3 : PySem.W.nsIn K mainGlobals "heard" = some (some (.ref f3))) (l3 : K.lookup f3 = some ⟨oc3, od3, .func (PySem.W.fnOf "heard" "heard" (defArgs s_heard) (defBody s_heard) (defScope s_heard) .none kV3 dc3 pm3 an3 cd3 ct3), sl3⟩) (c3 : PySem.W.codeIn K cd3 "heard" = true) (k3 : PySem.W.keepIn K (.ref f3) = true)
    (a4 : PySem.W.nsIn K mainGlobals "mirrored" = some (some (.ref f4))) (l4 : K.lookup f4 = some ⟨oc4, od4, .func (PySem.W.fnOf "mirrored" "mirrored" (defArgs s_mirrored) (defBody s_mirrored) (defScope s_mirrored) .none kV4 dc4 pm4 an4 cd4 ct4), sl4⟩) (c4 : PySem.W.codeIn K cd4 "mirrored" = true) (k4 : PySem.W.keepIn K (.ref f4) = true)
    (a5 : PySem.W.nsIn K mainGlobals "echoes" = some (some (.ref f5))) (l5 : K.lookup f5 = some ⟨oc5, od5, .func (PySem.W.fnOf "echoes" "echoes" (defArgs s_echoes) (defBody s_echoes) (defScope s_echoes) .none kV5 dc5 pm5 an5 cd5 ct5), sl5⟩) (c5 : PySem.W.codeIn K cd5 "echoes" = true) (k5 : PySem.W.keepIn K (.ref f5) = true)
    (a6 : PySem.W.nsIn K mainGlobals "together" = some (some (.ref f6))) (l6 : K.lookup f6 = some ⟨oc6, od6, .func (PySem.W.fnOf "together" "together" (defArgs s_together) (defBody s_together) (defScope s_together) .none kV6 dc6 pm6 an6 cd6 ct6), sl6⟩) (c6 : PySem.W.codeIn K cd6 "together" = true) (k6 : PySem.W.keepIn K (.ref f6) = true)
    (a7 : PySem.W.nsIn K mainGlobals "silent_span" = some (some (.ref f7))) (l7 : K.lookup f7 = some ⟨oc7, od7, .func (PySem.W.fnOf "silent_span" "silent_span" (defArgs s_silent_span) (defBody s_silent_span) (defScope s_silent_span) .none kV7 dc7 pm7 an7 cd7 ct7), sl7⟩) (c7 : PySem.W.codeIn K cd7 "silent_span" = true) (k7 : PySem.W.keepIn K (.ref f7) = true)
    (a8 : PySem.W.nsIn K mainGlobals "loudest" = some (some (.ref f8))) (l8 : K.lookup f8 = some ⟨oc8, od8, .func (PySem.W.fnOf "loudest" "loudest" (defArgs s_loudest) (defBody s_loudest) (defScope s_loudest) .none kV8 dc8 pm8 an8 cd8 ct8), sl8⟩) (c8 : PySem.W.codeIn K cd8 "loudest" = true) (k8 : PySem.W.keepIn K (.ref f8) = true)
    (a9 : PySem.W.nsIn K mainGlobals "_law_state" = some (some (.ref f9))) (l9 : K.lookup f9 = some ⟨oc9, od9, .func (PySem.W.fnOf "_law_state" "_law_state" (defArgs s_l_state) (defBody s_l_state) (defScope s_l_state) .none kV9 dc9 pm9 an9 cd9 ct9), sl9⟩) (c9 : PySem.W.codeIn K cd9 "_law_state" = true) (k9 : PySem.W.keepIn K (.ref f9) = true)
    (a10 : PySem.W.nsIn K mainGlobals "_law_take" = some (some (.ref f10))) (l10 : K.lookup f10 = some ⟨oc10, od10, .func (PySem.W.fnOf "_law_take" "_law_take" (defArgs s_l_take) (defBody s_l_take) (defScope s_l_take) .none kV10 dc10 pm10 an10 cd10 ct10), sl10⟩) (c10 : PySem.W.codeIn K cd10 "_law_take" = true) (k10 : PySem.W.keepIn K (.ref f10) = true)
    (a11 : PySem.W.nsIn K mainGlobals "_law_ticks" = some (some (.ref f11))) (l11 : K.lookup f11 = some ⟨oc11, od11, .func (PySem.W.fnOf "_law_ticks" "_law_ticks" (defArgs s_l_ticks) (defBody s_l_ticks) (defScope s_l_ticks) .none kV11 dc11 pm11 an11 cd11 ct11), sl11⟩) (c11 : PySem.W.codeIn K cd11 "_law_ticks" = true) (k11 : PySem.W.keepIn K (.ref f11) = true)
    (a12 : PySem.W.nsIn K mainGlobals "_law_place" = some (some (.ref f12))) (l12 : K.lookup f12 = some ⟨oc12, od12, .func (PySem.W.fnOf "_law_place" "_law_place" (defArgs s_l_place) (defBody s_l_place) (defScope s_l_place) .none kV12 dc12 pm12 an12 cd12 ct12), sl12⟩) (c12 : PySem.W.codeIn K cd12 "_law_place" = true) (k12 : PySem.W.keepIn K (.ref f12) = true)
    (a13 : PySem.W.nsIn K mainGlobals "_law_scene" = some (some (.ref f13))) (l13 : K.lookup f13 = some ⟨oc13, od13, .func (PySem.W.fnOf "_law_scene" "_law_scene" (defArgs s_l_scene) (defBody s_l_scene) (defScope s_l_scene) .none kV13 dc13 pm13 an13 cd13 ct13), sl13⟩) (c13 : PySem.W.codeIn K cd13 "_law_scene" = true) (k13 : PySem.W.keepIn K (.ref f13) = true)
    (a14 : PySem.W.nsIn K mainGlobals "law" = some (some (.ref f14))) (l14 : K.lookup f14 = some ⟨oc14, od14, .func (PySem.W.fnOf "law" "law" (defArgs s_law) (defBody s_law) (defScope s_law) .none kV14 dc14 pm14 an14 cd14 ct14), sl14⟩) (c14 : PySem.W.codeIn K cd14 "law" = true) (k14 : PySem.W.keepIn K (.ref f14) = true)
    (z1 : PySem.W.nsIn K mainGlobals "len" = some none) (z2 : PySem.W.nsIn K mainGlobals "range" = some none) (z3 : PySem.W.nsIn K mainGlobals "min" = some none) (z4 : PySem.W.nsIn K mainGlobals "max" = some none) (z5 : PySem.W.nsIn K mainGlobals "abs" = some none) (z6 : PySem.W.nsIn K mainGlobals "sum" = some none) (z7 : PySem.W.nsIn K mainGlobals "int" = some none) (z8 : PySem.W.nsIn K mainGlobals "list" = some none) (z9 : PySem.W.nsIn K mainGlobals "tuple" = some none) (z10 : PySem.W.nsIn K mainGlobals "sorted" = some none) (z11 : PySem.W.nsIn K mainGlobals "isinstance" = some none) (z12 : PySem.W.nsIn K mainGlobals "enumerate" = some none) (z13 : PySem.W.nsIn K mainGlobals "zip" = some none) (z14 : PySem.W.nsIn K mainGlobals "set" = some none) (z15 : PySem.W.nsIn K mainGlobals "repr" = some none) (z16 : PySem.W.nsIn K mainGlobals "all" = some none) (z17 : PySem.W.nsIn K mainGlobals "any" = some none) (z18 : PySem.W.nsIn K mainGlobals "dict" = some none) (z19 : PySem.W.nsIn K mainGlobals "reversed" = some none) (z20 : PySem.W.nsIn K mainGlobals "str" = some none) :
    ∃ fd : FuncData, (∀ (s : Shared) (v : Value), BindsTo s fd ⟨[v], []⟩ [("script", v)]) ∧ ∀ base : Heap, K.In base → base.Ns mainGlobals mg → TopOk l.prog w K mg base fa fd ["script"] (spP R_law) := by
  have e := hfa.symm.trans (PySem.W.mg_of X G a14)
  cases e
  have bn : Bn mg := ⟨PySem.W.mg_none_of X G z1, PySem.W.mg_none_of X G z2, PySem.W.mg_none_of X G z3, PySem.W.mg_none_of X G z4, PySem.W.mg_none_of X G z5, PySem.W.mg_none_of X G z6, PySem.W.mg_none_of X G z7, PySem.W.mg_none_of X G z8, PySem.W.mg_none_of X G z9, PySem.W.mg_none_of X G z10, PySem.W.mg_none_of X G z11, PySem.W.mg_none_of X G z12, PySem.W.mg_none_of X G z13, PySem.W.mg_none_of X G z14, PySem.W.mg_none_of X G z15, PySem.W.mg_none_of X G z16, PySem.W.mg_none_of X G z17, PySem.W.mg_none_of X G z18, PySem.W.mg_none_of X G z19, PySem.W.mg_none_of X G z20⟩
  have F1 := fun_mk (st := s_apart) l1 c1 k1
  have b1 := F1.binds (ps := ["one", "other"]) fun _ _ _ _ _ _ us hl => match us, hl with | [_, _], _ => rfl
  have F2 := fun_mk (st := s_ticks_for) l2 c2 k2
  have b2 := F2.binds (ps := ["one", "other", "speed"]) fun _ _ _ _ _ _ us hl => match us, hl with | [_, _, _], _ => rfl
  have F3 := fun_mk (st := s_heard) l3 c3 k3
  have b3 := F3.binds (ps := ["bursts", "seat", "speed"]) fun _ _ _ _ _ _ us hl => match us, hl with | [_, _, _], _ => rfl
  have F4 := fun_mk (st := s_mirrored) l4 c4 k4
  have b4 := F4.binds (ps := ["place", "wall"]) fun _ _ _ _ _ _ us hl => match us, hl with | [_, _], _ => rfl
  have F5 := fun_mk (st := s_echoes) l5 c5 k5
  have b5 := F5.binds (ps := ["bursts", "seat", "walls", "speed"]) fun _ _ _ _ _ _ us hl => match us, hl with | [_, _, _, _], _ => rfl
  have F6 := fun_mk (st := s_together) l6 c6 k6
  have b6 := F6.binds (ps := ["bursts", "seats", "speed"]) fun _ _ _ _ _ _ us hl => match us, hl with | [_, _, _], _ => rfl
  have F7 := fun_mk (st := s_silent_span) l7 c7 k7
  have b7 := F7.binds (ps := ["bursts", "seat", "speed"]) fun _ _ _ _ _ _ us hl => match us, hl with | [_, _, _], _ => rfl
  have F8 := fun_mk (st := s_loudest) l8 c8 k8
  have b8 := F8.binds (ps := ["bursts", "seat", "speed", "window"]) fun _ _ _ _ _ _ us hl => match us, hl with | [_, _, _, _], _ => rfl
  have F9 := fun_mk (st := s_l_state) l9 c9 k9
  have b9 := F9.binds (ps := ["script"]) fun _ _ _ _ _ _ us hl => match us, hl with | [_], _ => rfl
  have F10 := fun_mk (st := s_l_take) l10 c10 k10
  have b10 := F10.binds (ps := ["state", "most"]) fun _ _ _ _ _ _ us hl => match us, hl with | [_, _], _ => rfl
  have F11 := fun_mk (st := s_l_ticks) l11 c11 k11
  have b11 := F11.binds (ps := ["one", "other", "speed"]) fun _ _ _ _ _ _ us hl => match us, hl with | [_, _, _], _ => rfl
  have F12 := fun_mk (st := s_l_place) l12 c12 k12
  have b12 := F12.binds (ps := ["state", "size"]) fun _ _ _ _ _ _ us hl => match us, hl with | [_, _], _ => rfl
  have F13 := fun_mk (st := s_l_scene) l13 c13 k13
  have b13 := F13.binds (ps := ["state", "most"]) fun _ _ _ _ _ _ us hl => match us, hl with | [_, _], _ => rfl
  have F14 := fun_mk (st := s_law) l14 c14 k14
  have b14 := F14.binds (ps := ["script"]) fun _ _ _ _ _ _ us hl => match us, hl with | [_], _ => rfl
  refine ⟨PySem.W.fnOf "law" "law" (defArgs s_law) (defBody s_law) (defScope s_law) .none kV14 dc14 pm14 an14 cd14 ct14, fun s v => .of_eq rfl, fun base _ _ => ?_⟩
  have C_l_state : Cal l.prog w K mg base "_law_state" ["script"] (spN R_state) 1 := ⟨_, _, fn_newstate (k := 0) F9 sc_l_state fun cdv A outer s H E hr => ps_l_state bn hr, PySem.W.mg_of X G a9, F9.kp, b9⟩
  have C_l_take : Cal l.prog w K mg base "_law_take" ["state", "most"] (spS R_take) 1 := ⟨_, _, fn_take (k := 0) F10 sc_l_take fun cdv A outer s H E hr => ps_l_take bn hr, PySem.W.mg_of X G a10, F10.kp, b10⟩
  have C_l_place : Cal l.prog w K mg base "_law_place" ["state", "size"] (spS R_place) 2 := ⟨_, _, ok_l_place (k := 1) F12 bn C_l_take (by decide) len_l_place (sx_l_place K), PySem.W.mg_of X G a12, F12.kp, b12⟩
  have C_l_scene : Cal l.prog w K mg base "_law_scene" ["state", "most"] (spS R_scene) 3 := ⟨_, _, ok_l_scene (k := 2) F13 bn C_l_take (by decide) C_l_place (by decide) len_l_scene (sx_l_scene K), PySem.W.mg_of X G a13, F13.kp, b13⟩
  have C_apart : Cal l.prog w K mg base "apart" ["one", "other"] (spP R_apart) 1 := ⟨_, _, ok_apart (k := 0) F1 bn len_apart (sx_apart K), PySem.W.mg_of X G a1, F1.kp, b1⟩
  have C_ticks_for : Cal l.prog w K mg base "ticks_for" ["one", "other", "speed"] (spP R_ticks) 2 := ⟨_, _, ok_ticks_for (k := 1) F2 bn C_apart (by decide) len_ticks_for (sx_ticks_for K), PySem.W.mg_of X G a2, F2.kp, b2⟩
  have C_heard : Cal l.prog w K mg base "heard" ["bursts", "seat", "speed"] (spP R_heard) 3 := ⟨_, _, ok_heard (k := 2) F3 bn C_ticks_for (by decide) len_heard (sx_heard K), PySem.W.mg_of X G a3, F3.kp, b3⟩
  have C_together : Cal l.prog w K mg base "together" ["bursts", "seats", "speed"] (spP R_tog) 4 := ⟨_, _, ok_together (k := 3) F6 bn C_heard (by decide) len_together (sx_together K), PySem.W.mg_of X G a6, F6.kp, b6⟩
  have C_silent_span : Cal l.prog w K mg base "silent_span" ["bursts", "seat", "speed"] (spP R_silent) 4 := ⟨_, _, ok_silent_span (k := 3) F7 bn C_heard (by decide) len_silent_span (sx_silent_span K), PySem.W.mg_of X G a7, F7.kp, b7⟩
  have C_l_ticks : Cal l.prog w K mg base "_law_ticks" ["one", "other", "speed"] (spP R_ticks) 1 := ⟨_, _, ok_l_ticks (k := 0) F11 bn len_l_ticks (sx_l_ticks K), PySem.W.mg_of X G a11, F11.kp, b11⟩
  have C_loudest : Cal l.prog w K mg base "loudest" ["bursts", "seat", "speed", "window"] (spP R_loud) 4 := ⟨_, _, ok_loudest (k := 3) F8 bn C_heard (by decide) len_loudest (sx_loudest K), PySem.W.mg_of X G a8, F8.kp, b8⟩
  have C_mirrored : Cal l.prog w K mg base "mirrored" ["place", "wall"] (spP R_mirr) 1 := ⟨_, _, ok_mirrored (k := 0) F4 bn len_mirrored (sx_mirrored K), PySem.W.mg_of X G a4, F4.kp, b4⟩
  have C_echoes : Cal l.prog w K mg base "echoes" ["bursts", "seat", "walls", "speed"] (spP R_echoes) 3 := ⟨_, _, ok_echoes (k := 2) F5 bn C_ticks_for (by decide) C_mirrored (by decide) len_echoes (sx_echoes K), PySem.W.mg_of X G a5, F5.kp, b5⟩
  exact top_law (k := 4) F14 bn C_l_state (by decide) C_l_scene (by decide) C_heard (by decide) C_together (by decide) C_silent_span (by decide) C_l_take (by decide) C_ticks_for (by decide) C_l_ticks (by decide) C_loudest (by decide) C_echoes (by decide) ⟨rfl, by decide, by decide⟩ len_law (sx_law K)
theorem walk {l : PySem.W.OpenLaw} {q : Program} {loose : List Str} {XP : (Str → Option Value) → Heap → Prop} {YP : World → Heap → Prop} {d : DefRec} {K : Params → PySem.W.Frag} (hn : l.most = some 63) (hdf : d.params.defaults = [])
    (hY : ∀ (w : World) (h : Heap), YP w h → (K w.params).In h) (nl : ∀ w : World, noLs (K w.params) = true)
    (F : ∀ (w : World) (mg : Str → Option Value) (fa : Addr) (h : Heap), (K w.params).In h → h.Ns mainGlobals mg → mg d.name = some (.ref fa) →
      ∃ fd : FuncData, (∀ (s : Shared) (u : Value), BindsTo s fd ⟨[u], []⟩ [("script", u)]) ∧ ∀ base : Heap, (K w.params).In base → base.Ns mainGlobals mg → TopOk l.prog w (K w.params) mg base fa fd ["script"] (spP R_law)) :
    PySem.W.WalkO q loose XP YP l.row.toRowW d [] (fun f vs => PySem.call f vs) :=
  walk_top (n := 63) (x := "script") (R := R_law) hn (by decide) hdf hY nl F fun ns hl => ⟨ns, rfl, rfl⟩
end Law_k71
open PySem PySem.W PyProof.Rows
set_option maxHeartbeats 0 in
theorem PySem.Challenge.cw_firescore_k71_whole_sounds_holds : PySem.Challenge.rw_firescore_k71_whole_sounds.Holds := by
  w_on; o_law; k_head; (case hw => w_witness2)
  k_fill
  refine Law_k71.walk (l := PySem.Challenge.rw_firescore_k71_whole_sounds) rfl rfl (fun w h Y => PySem.W.kIn_of Y) (fun w => ?NL) ?F
  case NL => rfl
  case F =>
    intro w mg fa h KX G hmg
    refine' Law_k71.all_mk KX G hmg ?a1 ?l1 ?c1 ?k1 ?a2 ?l2 ?c2 ?k2 ?a3 ?l3 ?c3 ?k3 ?a4 ?l4 ?c4 ?k4 ?a5 ?l5 ?c5 ?k5 ?a6 ?l6 ?c6 ?k6 ?a7 ?l7 ?c7 ?k7 ?a8 ?l8 ?c8 ?k8 ?a9 ?l9 ?c9 ?k9 ?a10 ?l10 ?c10 ?k10 ?a11 ?l11 ?c11 ?k11 ?a12 ?l12 ?c12 ?k12 ?a13 ?l13 ?c13 ?k13 ?a14 ?l14 ?c14 ?k14 ?z1 ?z2 ?z3 ?z4 ?z5 ?z6 ?z7 ?z8 ?z9 ?z10 ?z11 ?z12 ?z13 ?z14 ?z15 ?z16 ?z17 ?z18 ?z19 ?z20
    (case a1 => k_is); (case l1 => k_is); (case c1 => k_is); (case k1 => k_is)
    (case a2 => k_is); (case l2 => k_is); (case c2 => k_is); (case k2 => k_is)
    (case a3 => k_is); (case l3 => k_is); (case c3 => k_is); (case k3 => k_is)
    (case a4 => k_is); (case l4 => k_is); (case c4 => k_is); (case k4 => k_is)
    (case a5 => k_is); (case l5 => k_is); (case c5 => k_is); (case k5 => k_is)
    (case a6 => k_is); (case l6 => k_is); (case c6 => k_is); (case k6 => k_is)
    (case a7 => k_is); (case l7 => k_is); (case c7 => k_is); (case k7 => k_is)
    (case a8 => k_is); (case l8 => k_is); (case c8 => k_is); (case k8 => k_is)
    (case a9 => k_is); (case l9 => k_is); (case c9 => k_is); (case k9 => k_is)
    (case a10 => k_is); (case l10 => k_is); (case c10 => k_is); (case k10 => k_is)
    (case a11 => k_is); (case l11 => k_is); (case c11 => k_is); (case k11 => k_is)
    (case a12 => k_is); (case l12 => k_is); (case c12 => k_is); (case k12 => k_is)
    (case a13 => k_is); (case l13 => k_is); (case c13 => k_is); (case k13 => k_is)
    (case a14 => k_is); (case l14 => k_is); (case c14 => k_is); (case k14 => k_is)
    (case z1 => k_is)
    (case z2 => k_is)
    (case z3 => k_is)
    (case z4 => k_is)
    (case z5 => k_is)
    (case z6 => k_is)
    (case z7 => k_is)
    (case z8 => k_is)
    (case z9 => k_is)
    (case z10 => k_is)
    (case z11 => k_is)
    (case z12 => k_is)
    (case z13 => k_is)
    (case z14 => k_is)
    (case z15 => k_is)
    (case z16 => k_is)
    (case z17 => k_is)
    (case z18 => k_is)
    (case z19 => k_is)
    (case z20 => k_is)
