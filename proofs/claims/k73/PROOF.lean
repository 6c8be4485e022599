import PyProof.Rows.All
import Wide.All
import OpenK.AllK
import Wide.FinOn
import HandS.ForMost
import HandS.TupAny
import HandS.Zip
import KE.SortData
import KE.DataMinMax
import KE.DataEq
import KE.DataFind
import HandS.Style
import PySem.Challenge.RW_firescore_k73_whole_smoke
set_option Elab.async false
set_option linter.all false
set_option autoImplicit false
set_option maxRecDepth 100000
set_option maxHeartbeats 4000000
/-! Pu: the hand layer's readings over pure data: slots hold data, own lists, a state; no addresses. -/
namespace Pu
open PySem L2

abbrev D := PyData
mutual
/-- the value v reads as the datum d in the frozen part F of the heap -/
inductive Rp (F : Hp) : V → D → Prop
  | non : Rp F .non .none
  | bl (b : Bool) : Rp F (.bl b) (.bool b)
  | int (i : Int) : Rp F (.int i) (.int i)
  | str (x : Str) : Rp F (.str x) (.str x)
  | lst {a : Addr} {xs : List V} {ds : List D} : Rd F a (.lst xs) → RpA F xs ds → Rp F (.ref a) (.list ds)
  | tup {a : Addr} {xs : List V} {ds : List D} : F a = some (.tup xs) → RpA F xs ds → Rp F (.ref a) (.tuple ds)
inductive RpA (F : Hp) : List V → List D → Prop
  | nil : RpA F [] []
  | cons {v : V} {vs : List V} {d : D} {ds : List D} : Rp F v d → RpA F vs ds → RpA F (v :: vs) (d :: ds)
end
theorem rd_mono {F G : Hp} {a : Addr} {u : HO} (e : Same F G) (h : Rd F a u) : Rd G a u := by
  rcases h with h | ⟨o, h⟩
  · exact .inl (e _ _ h)
  · exact .inr ⟨o, e _ _ h⟩
mutual
theorem Rp.mono {F G : Hp} (e : Same F G) : ∀ (d : D) {v : V}, Rp F v d → Rp G v d
  | .none, _, h => by cases h; exact .non
  | .bool b, _, h => by cases h; exact .bl b
  | .int i, _, h => by cases h; exact .int i
  | .str x, _, h => by cases h; exact .str x
  | .list ds, _, h => by
    cases h with
    | lst h1 h2 => exact .lst (rd_mono e h1) (RpA.mono e ds h2)
  | .tuple ds, _, h => by
    cases h with
    | tup h1 h2 => exact .tup (e _ _ h1) (RpA.mono e ds h2)
  | .dict _, _, h => by cases h
theorem RpA.mono {F G : Hp} (e : Same F G) : ∀ (ds : List D) {vs : List V}, RpA F vs ds → RpA G vs ds
  | [], _, h => by cases h; exact .nil
  | d :: ds, _, h => by
    cases h with
    | cons h1 h2 => exact .cons (Rp.mono e d h1) (RpA.mono e ds h2)
end
theorem Rp.up {F G : Hp} {d : D} {v : V} (h : Rp F v d) (e : Same F G) : Rp G v d := Rp.mono e d h
theorem RpA.up {F G : Hp} {ds : List D} {vs : List V} (h : RpA F vs ds) (e : Same F G) : RpA G vs ds := RpA.mono e ds h
theorem sqL_rd {K : PySem.W.Frag} {F H : Hp} {a : Addr} {xs : List V} (h : Rd F a (.lst xs)) (e : Same F H) : SqL K H a xs := .inl (rd_mono e h)
theorem sqT_rd {K : PySem.W.Frag} {F H : Hp} {a : Addr} {xs : List V} (h : F a = some (.tup xs)) (e : Same F H) : SqT K H a xs := .inl (.inl (e _ _ h))
mutual
theorem Rp.dp {K : PySem.W.Frag} {F H : Hp} (e : Same F H) : ∀ (d : D) {v : V}, Rp F v d → Dp K H v d
  | .none, _, h => by cases h; exact .non
  | .bool b, _, h => by cases h; exact .bl b
  | .int i, _, h => by cases h; exact .int i
  | .str x, _, h => by cases h; exact .str x
  | .list ds, _, h => by
    cases h with
    | lst h1 h2 => exact .lst (sqL_rd h1 e) (RpA.dp e ds h2)
  | .tuple ds, _, h => by
    cases h with
    | tup h1 h2 => exact .tup (sqT_rd h1 e) (RpA.dp e ds h2)
  | .dict _, _, h => by cases h
theorem RpA.dp {K : PySem.W.Frag} {F H : Hp} (e : Same F H) : ∀ (ds : List D) {vs : List V}, RpA F vs ds → DpAll K H vs ds
  | [], _, h => by cases h; exact .nil
  | d :: ds, _, h => by
    cases h with
    | cons h1 h2 => exact .cons (Rp.dp e d h1) (RpA.dp e ds h2)
end
section
variable {F : Hp}
theorem Rp.int_inv {v : V} {i : Int} (h : Rp F v (.int i)) : v = .int i := by cases h; rfl
theorem Rp.bl_inv {v : V} {b : Bool} (h : Rp F v (.bool b)) : v = .bl b := by cases h; rfl
theorem Rp.str_inv {v : V} {x : Str} (h : Rp F v (.str x)) : v = .str x := by cases h; rfl
theorem Rp.non_inv {v : V} (h : Rp F v .none) : v = .non := by cases h; rfl
theorem Rp.lst_inv {v : V} {ds : List D} (h : Rp F v (.list ds)) : ∃ a xs, v = .ref a ∧ Rd F a (.lst xs) ∧ RpA F xs ds := by
  cases h with
  | lst h1 h2 => exact ⟨_, _, rfl, h1, h2⟩
theorem Rp.tup_inv {v : V} {ds : List D} (h : Rp F v (.tuple ds)) : ∃ a xs, v = .ref a ∧ F a = some (.tup xs) ∧ RpA F xs ds := by
  cases h with
  | tup h1 h2 => exact ⟨_, _, rfl, h1, h2⟩
theorem RpA.len : ∀ {vs : List V} {ds : List D}, RpA F vs ds → vs.length = ds.length
  | _, [], h => by cases h; rfl
  | _, d :: ds, h => by
    cases h with
    | cons h1 h2 => simp [RpA.len h2]
theorem RpA.get : ∀ {vs : List V} {ds : List D} {k : Nat} {d : D}, RpA F vs ds → ds[k]? = some d → ∃ v, vs[k]? = some v ∧ Rp F v d
  | _, [], k, d, h, e => by simp at e
  | _, a :: ds, 0, d, h, e => by
    cases h with
    | cons h1 h2 =>
      simp at e
      subst e
      exact ⟨_, rfl, h1⟩
  | _, a :: ds, k + 1, d, h, e => by
    cases h with
    | cons h1 h2 =>
      obtain ⟨v, e1, e2⟩ := RpA.get (k := k) h2 (by simpa using e)
      exact ⟨v, by simpa using e1, e2⟩
theorem RpA.get' : ∀ {vs : List V} {ds : List D} {k : Nat} {v : V}, RpA F vs ds → vs[k]? = some v → ∃ d, ds[k]? = some d ∧ Rp F v d := fun {vs ds k v} h e => by
  have hk : k < ds.length := by rw [← h.len]; exact (List.getElem?_eq_some_iff.mp e).1
  obtain ⟨w, e1, e2⟩ := h.get (List.getElem?_eq_getElem hk)
  rw [e] at e1
  cases e1
  exact ⟨_, List.getElem?_eq_getElem hk, e2⟩
theorem RpA.app : ∀ {vs ws : List V} {ds es : List D}, RpA F vs ds → RpA F ws es → RpA F (vs ++ ws) (ds ++ es)
  | _, _, [], es, h, g => by cases h; exact g
  | _, _, d :: ds, es, h, g => by
    cases h with
    | cons h1 h2 => exact .cons h1 (RpA.app h2 g)
theorem RpA.take : ∀ {vs : List V} {ds : List D} (n : Nat), RpA F vs ds → RpA F (vs.take n) (ds.take n)
  | _, _, 0, h => by simp; exact .nil
  | _, [], n + 1, h => by cases h; exact .nil
  | _, d :: ds, n + 1, h => by
    cases h with
    | cons h1 h2 => exact .cons h1 (RpA.take n h2)
theorem RpA.drop : ∀ {vs : List V} {ds : List D} (n : Nat), RpA F vs ds → RpA F (vs.drop n) (ds.drop n)
  | _, _, 0, h => by simpa using h
  | _, [], n + 1, h => by cases h; exact .nil
  | _, d :: ds, n + 1, h => by
    cases h with
    | cons h1 h2 => exact RpA.drop n h2
theorem RpA.set : ∀ {vs : List V} {ds : List D} {v : V} {d : D} (n : Nat), RpA F vs ds → Rp F v d → RpA F (vs.set n v) (ds.set n d)
  | _, [], _, _, n, h, g => by cases h; exact .nil
  | _, e :: ds, _, _, 0, h, g => by
    cases h with
    | cons h1 h2 => exact .cons g h2
  | _, e :: ds, _, _, n + 1, h, g => by
    cases h with
    | cons h1 h2 => exact .cons h1 (RpA.set n h2 g)
theorem RpA.ints : ∀ (ns : List Int), RpA F (ns.map V.int) (ns.map PyData.int)
  | [] => .nil
  | n :: ns => .cons (.int n) (RpA.ints ns)
theorem RpA.ints_inv : ∀ {ns : List Int} {vs : List V}, RpA F vs (ns.map PyData.int) → vs = ns.map V.int
  | [], _, h => by cases h; rfl
  | n :: ns, _, h => by
    cases h with
    | cons h1 h2 =>
      rw [h1.int_inv, RpA.ints_inv h2]
      rfl
theorem RpA.rev {vs : List V} {ds : List D} (h : RpA F vs ds) : RpA F vs.reverse ds.reverse := by
  induction ds generalizing vs with
  | nil => cases h; exact .nil
  | cons d ds ih =>
    cases h with
    | cons h1 h2 =>
      rw [List.reverse_cons, List.reverse_cons]
      exact (ih h2).app (.cons h1 .nil)
end

/-! ### state, slots, the world -/
inductive Stt where
  | two (a b : Int)
  | cel (a : Int) (cs : List Int)
def StAt (H : Hp) : Stt → Addr → List Addr → Prop
  | .two a b, s, as => as = [s] ∧ H s = some (.lst [.int a, .int b])
  | .cel a cs, s, as => ∃ c, as = [s, c] ∧ s ≠ c ∧ H s = some (.lst [.int a, .ref c]) ∧ H c = some (.lst (cs.map V.int))
inductive Slot where
  | emp
  | val (d : D)
  | own (ds : List D)
  | st (S : Stt)
abbrev Env := List Slot
structure Base where
  F0 : Hp
  H0 : Hp
  M : Addr → Prop
  pin : Option (Addr × List Addr) := none
/-- from (F, H) to (F', H'): all is kept but what M has -/
structure Gr (M : Addr → Prop) (F H F' H' : Hp) : Prop where
  ff : Same F F'
  fh : Same F' H'
  kp : ∀ a o, H a = some o → ¬ M a → H' a = some o
  al : ∀ a, H a ≠ none → H' a ≠ none
  fr : ∀ a, H a ≠ none → F a = none → F' a = none
theorem Gr.refl {M : Addr → Prop} {F H : Hp} (e : Same F H) : Gr M F H F H := ⟨Same.refl F, e, fun _ _ h _ => h, fun _ h => h, fun _ _ h => h⟩
theorem Gr.trans {M M1 M2 : Addr → Prop} {F H F1 H1 F2 H2 : Hp} (a : Gr M1 F H F1 H1) (b : Gr M2 F1 H1 F2 H2) (i1 : ∀ x, H x ≠ none → M1 x → M x) (i2 : ∀ x, H x ≠ none → M2 x → M x) : Gr M F H F2 H2 :=
  ⟨a.ff.trans b.ff, b.fh, fun x o h m => b.kp x o (a.kp x o h fun z => m (i1 x (by rw [h]; intro q; cases q) z)) fun z => m (i2 x (by rw [h]; intro q; cases q) z), fun x h => b.al x (a.al x h), fun x h e => b.fr x (a.al x h) (a.fr x h e)⟩
/-- nothing changes -/
abbrev Non : Addr → Prop := fun _ => False

def SlotOk (B : Base) (F H : Hp) : Slot → Option (Option V) → List Addr → Prop
  | .emp, _, as => as = []
  | .val d, x, as => as = [] ∧ ∃ v, x = some (some v) ∧ Rp F v d
  | .own ds, x, as => ∃ p vs, as = [p] ∧ B.H0 p = none ∧ x = some (some (.ref p)) ∧ H p = some (.lst vs) ∧ RpA F vs ds
  | .st S, x, as => ∃ s, x = some (some (.ref s)) ∧ StAt H S s as
/-- a state that came as the first argument stays where it is -/
def PinOk (B : Base) (ad : Nat → List Addr) (ρ : Env) (σ : St) : Prop := ∀ s as, B.pin = some (s, as) → ∀ S, ρ[0]? = some (Slot.st S) → σ[0]? = some (some (.ref s)) ∧ ad 0 = as
theorem PinOk.to {B : Base} {ad ad' : Nat → List Addr} {ρ ρ' : Env} {σ σ' : St} (h : PinOk B ad ρ σ) (k : ∀ S, ρ'[0]? = some (Slot.st S) → (∃ S', ρ[0]? = some (Slot.st S')) ∧ σ'[0]? = σ[0]? ∧ ad' 0 = ad 0) : PinOk B ad' ρ' σ' := fun s as e S q => by
  obtain ⟨⟨S', e1⟩, e2, e3⟩ := k S q
  rw [e2, e3]
  exact h s as e S' e1
structure WA (B : Base) (ad : Nat → List Addr) (ρ : Env) (σ : St) (F H : Hp) : Prop where
  gr : Gr B.M B.F0 B.H0 F H
  len : σ.length = ρ.length
  sl : ∀ i s, ρ[i]? = some s → SlotOk B F H s σ[i]? (ad i)
  fz : ∀ i p, p ∈ ad i → F p = none ∧ (B.H0 p = none ∨ B.M p)
  dj : ∀ i j p, p ∈ ad i → p ∈ ad j → i = j
  out : ∀ i, ρ[i]? = none → ad i = []
  pin : PinOk B ad ρ σ
def W (B : Base) (ρ : Env) (σ : St) (F H : Hp) : Prop := ∃ ad, WA B ad ρ σ F H
/-- the addresses of the states -/
def MS (ad : Nat → List Addr) (ρ : Env) (a : Addr) : Prop := ∃ (i : Nat) (S : Stt), ρ[i]? = some (Slot.st S) ∧ a ∈ ad i
/-- behind an expression -/
structure Post (B : Base) (ad : Nat → List Addr) (σ : St) (ρ : Env) (F H : Hp) (ρ' : Env) (F' H' : Hp) : Prop where
  wa : WA B ad ρ' σ F' H'
  gr : Gr (MS ad ρ) F H F' H'
  sh : ∀ (i : Nat) (S' : Stt), ρ'[i]? = some (Slot.st S') → ∃ S, ρ[i]? = some (Slot.st S)
section
variable {B : Base} {ad : Nat → List Addr} {ρ ρ' ρ1 ρ2 : Env} {σ : St} {F H F' H' F1 H1 F2 H2 : Hp}
theorem Post.refl (w : WA B ad ρ σ F H) : Post B ad σ ρ F H ρ F H := ⟨w, Gr.refl w.gr.fh, fun i S h => ⟨S, h⟩⟩
theorem Post.trans (a : Post B ad σ ρ F H ρ1 F1 H1) (b : Post B ad σ ρ1 F1 H1 ρ2 F2 H2) : Post B ad σ ρ F H ρ2 F2 H2 :=
  ⟨b.wa, a.gr.trans b.gr (fun _ _ h => h) fun x _ ⟨i, S, h, m⟩ => let ⟨S', h'⟩ := a.sh i S h; ⟨i, S', h', m⟩, fun i S h => let ⟨S1, h1⟩ := b.sh i S h; a.sh i S1 h1⟩
theorem WA.lv (w : WA B ad ρ σ F H) {i : Nat} {p : Addr} (h : p ∈ ad i) : H p ≠ none := by
  cases e : ρ[i]? with
  | none => rw [w.out i e] at h; cases h
  | some s =>
    have k := w.sl i s e
    cases s with
    | emp => have k : ad i = [] := k; rw [k] at h; cases h
    | val d => have k : ad i = [] := k.1; rw [k] at h; cases h
    | own ds =>
      obtain ⟨q, vs, k, _, _, k2, _⟩ := k
      rw [k] at h
      have e : p = q := by simpa using h
      rw [e, k2]
      intro z; cases z
    | st S =>
      obtain ⟨s, _, k⟩ := k
      cases S with
      | two a b =>
        obtain ⟨k, k2⟩ := k
        rw [k] at h
        have e : p = s := by simpa using h
        rw [e, k2]
        intro z; cases z
      | cel a cs =>
        obtain ⟨c, k, _, k2, k3⟩ := k
        rw [k] at h
        have e : p = s ∨ p = c := by simpa using h
        rcases e with e | e
        · rw [e, k2]
          intro z; cases z
        · rw [e, k3]
          intro z; cases z
/-- nothing tracked changes, F grows -/
theorem WA.grow (w : WA B ad ρ σ F H) (g : Gr Non F H F' H') : WA B ad ρ σ F' H' where
  gr := w.gr.trans g (fun _ _ h => h) fun _ _ h => h.elim
  len := w.len
  sl := fun i s h => by
    have k := w.sl i s h
    cases s with
    | emp => exact k
    | val d =>
      obtain ⟨k, v, e, r⟩ := k
      exact ⟨k, v, e, r.up g.ff⟩
    | own ds =>
      obtain ⟨p, vs, k, k0, k1, k2, r⟩ := k
      exact ⟨p, vs, k, k0, k1, g.kp _ _ k2 id, r.up g.ff⟩
    | st S =>
      obtain ⟨s, k1, k⟩ := k
      refine ⟨s, k1, ?_⟩
      cases S with
      | two a b => exact ⟨k.1, g.kp _ _ k.2 id⟩
      | cel a cs =>
        obtain ⟨c, k, kn, k2, k3⟩ := k
        exact ⟨c, k, kn, g.kp _ _ k2 id, g.kp _ _ k3 id⟩
  fz := fun i p h => ⟨g.fr p (w.lv h) (w.fz i p h).1, (w.fz i p h).2⟩
  dj := w.dj
  out := w.out
  pin := w.pin
theorem Post.of (w : WA B ad ρ σ F H) (g : Gr Non F H F' H') : Post B ad σ ρ F H ρ F' H' := ⟨w.grow g, ⟨g.ff, g.fh, fun a o h _ => g.kp a o h id, g.al, g.fr⟩, fun i S h => ⟨S, h⟩⟩
theorem Gr.heap (e : Same F H) (g : Same H H') : Gr Non F H F H' where
  ff := Same.refl F
  fh := e.trans g
  kp := fun a o h _ => g a o h
  al := fun a h => by
    cases q : H a with
    | none => exact absurd q h
    | some o =>
      rw [g a o q]
      intro z
      cases z
  fr := fun _ _ h => h
theorem same_upd {p : Addr} {o : HO} (h : H p = none) : Same H (upd H p o) := fun b u q => by rw [upd_ne (ne_of_none q h)]; exact q
/-- a new object is laid and frozen -/
theorem Gr.new {p : Addr} {o : HO} (e : Same F H) (h : H p = none) : Gr Non F H (upd F p o) (upd H p o) where
  ff := same_upd (by
    cases q : F p with
    | none => rfl
    | some u => rw [e p u q] at h; cases h)
  fh := fun a u q => by
    by_cases ha : a = p
    · subst ha; rw [upd_same] at q ⊢; exact q
    · rw [upd_ne ha] at q ⊢; exact e a u q
  kp := fun a u q _ => by rw [upd_ne (ne_of_none q h)]; exact q
  al := fun a q => by
    by_cases ha : a = p
    · subst ha; rw [upd_same]; intro z; cases z
    · rw [upd_ne ha]; exact q
  fr := fun a q z => by
    have ha : a ≠ p := fun z => q (z ▸ h)
    rw [upd_ne ha]
    exact z
end

/-! ### expressions over pure data -/
def EX (te : TE) (ρ : Env) (Q : D → Env → Prop) : Prop := ∀ B ad σ F H, WA B ad ρ σ F H → ∀ Z : VK, (∀ d ρ' v F' H', Q d ρ' → Post B ad σ ρ F H ρ' F' H' → Rp F' v d → Z v H') → te σ H Z
def EA (ta : TA) (ρ : Env) (Q : List D → Env → Prop) : Prop := ∀ B ad σ F H, WA B ad ρ σ F H → ∀ Z : List V → Hp → Prop, (∀ ds ρ' vs F' H', Q ds ρ' → Post B ad σ ρ F H ρ' F' H' → RpA F' vs ds → Z vs H') → ta σ H Z
def ET (tt : TT) (ρ : Env) (Q : Bool → Env → Prop) : Prop := ∀ B ad σ F H, WA B ad ρ σ F H → ∀ Z : Bool → Hp → Prop, (∀ b ρ' F' H', Q b ρ' → Post B ad σ ρ F H ρ' F' H' → Z b H') → tt σ H Z
/-- a new list, not yet frozen -/
def EO (te : TE) (ρ : Env) (Q : List D → Env → Prop) : Prop := ∀ B ad σ F H, WA B ad ρ σ F H → ∀ Z : VK,
  (∀ ds ρ' p vs F' H', Q ds ρ' → Post B ad σ ρ F H ρ' F' H' → F' p = none → H p = none → H' p = some (.lst vs) → RpA F' vs ds → Z (.ref p) H') → te σ H Z
def EPt (to : TO) (ρ : Env) (Q : Option Int → Env → Prop) : Prop := ∀ B ad σ F H, WA B ad ρ σ F H → ∀ Z : Option Int → Hp → Prop, (∀ o ρ' F' H', Q o ρ' → Post B ad σ ρ F H ρ' F' H' → Z o H') → to σ H Z
/-- operations by data -/
def OpD (r : R2) (d1 d2 : D) (K : D → Prop) : Prop := ∀ F H x y, Same F H → Rp F x d1 → Rp F y d2 → ∀ Z : VK, (∀ d v F' H', K d → Gr Non F H F' H' → Rp F' v d → Z v H') → r x y H Z
def OpO (r : R2) (d1 d2 : D) (K : List D → Prop) : Prop := ∀ F H x y, Same F H → Rp F x d1 → Rp F y d2 → ∀ Z : VK, (∀ ds p vs H', K ds → Same H H' → H p = none → H' p = some (.lst vs) → RpA F vs ds → Z (.ref p) H') → r x y H Z
def UnD (r : V → Hp → VK → Prop) (d1 : D) (K : D → Prop) : Prop := ∀ F H x, Same F H → Rp F x d1 → ∀ Z : VK, (∀ d v F' H', K d → Gr Non F H F' H' → Rp F' v d → Z v H') → r x H Z
def CbD (r : List V → Hp → VK → Prop) (ds : List D) (K : D → Prop) : Prop := ∀ F H vs, Same F H → RpA F vs ds → ∀ Z : VK, (∀ d v F' H', K d → Gr Non F H F' H' → Rp F' v d → Z v H') → r vs H Z
def CbO (r : List V → Hp → VK → Prop) (ds : List D) (K : List D → Prop) : Prop := ∀ F H vs, Same F H → RpA F vs ds → ∀ Z : VK, (∀ es p ws H', K es → Same H H' → H p = none → H' p = some (.lst ws) → RpA F ws es → Z (.ref p) H') → r vs H Z
def SlD (r : V → Option Int → Option Int → Hp → VK → Prop) (d1 : D) (lo hi : Option Int) (K : D → Prop) : Prop := ∀ F H x, Same F H → Rp F x d1 → ∀ Z : VK, (∀ d v F' H', K d → Gr Non F H F' H' → Rp F' v d → Z v H') → r x lo hi H Z
def SlO (r : V → Option Int → Option Int → Hp → VK → Prop) (d1 : D) (lo hi : Option Int) (K : List D → Prop) : Prop := ∀ F H x, Same F H → Rp F x d1 → ∀ Z : VK, (∀ ds p vs H', K ds → Same H H' → H p = none → H' p = some (.lst vs) → RpA F vs ds → Z (.ref p) H') → r x lo hi H Z

section
variable {B : Base} {ad : Nat → List Addr} {ρ ρ' ρ1 ρ2 : Env} {σ : St} {F H F' H' F1 H1 F2 H2 : Hp} {te ta tb tc : TE} {tt tu : TT} {t : TA} {Q Q' : D → Env → Prop}
theorem WA.newp (w : WA B ad ρ σ F H) {p : Addr} (h : H p = none) : F p = none ∧ B.H0 p = none ∧ ∀ i, p ∉ ad i := by
  refine ⟨w.gr.fh.free h, ?_, fun i m => w.lv m h⟩
  cases q : B.H0 p with
  | none => rfl
  | some o => exact absurd h (w.gr.al p (by rw [q]; intro z; cases z))
/-- a list that nobody owns is frozen -/
theorem WA.freeze (w : WA B ad ρ σ F H) {p : Addr} {vs : List V} (hF : F p = none) (h0 : B.H0 p = none) (hn : ∀ i, p ∉ ad i) (hp : H p = some (.lst vs)) : WA B ad ρ σ (upd F p (.lst vs)) H where
  gr := ⟨w.gr.ff.trans (same_upd hF), fun a o e => by
    by_cases ha : a = p
    · subst ha; rw [upd_same] at e; rw [hp]; exact e
    · rw [upd_ne ha] at e; exact w.gr.fh a o e, w.gr.kp, w.gr.al, fun a e z => by
    have ha : a ≠ p := fun q => e (by rw [q]; exact h0)
    rw [upd_ne ha]
    exact w.gr.fr a e z⟩
  len := w.len
  sl := fun i s e => by
    have k := w.sl i s e
    have up := same_upd (o := .lst vs) hF
    cases s with
    | emp => exact k
    | val d =>
      obtain ⟨k, v, e, r⟩ := k
      exact ⟨k, v, e, r.up up⟩
    | own ds =>
      obtain ⟨q, ws, k, k0, k1, k2, r⟩ := k
      exact ⟨q, ws, k, k0, k1, k2, r.up up⟩
    | st S => exact k
  fz := fun i q m => by
    have ne : q ≠ p := fun z => hn i (z ▸ m)
    rw [upd_ne ne]
    exact w.fz i q m
  dj := w.dj
  out := w.out
  pin := w.pin
theorem Post.freeze (w : Post B ad σ ρ F H ρ' F' H') (w0 : WA B ad ρ σ F H) {p : Addr} {vs : List V} (hF : F' p = none) (hH : H p = none) (hp : H' p = some (.lst vs)) : Post B ad σ ρ F H ρ' (upd F' p (.lst vs)) H' :=
  have n := w0.newp hH
  have f := w.wa.freeze hF n.2.1 n.2.2 hp
  ⟨f, ⟨w.gr.ff.trans (same_upd hF), f.gr.fh, w.gr.kp, w.gr.al, fun a e z => by
    have ha : a ≠ p := fun q => e (by rw [q]; exact hH)
    rw [upd_ne ha]
    exact w.gr.fr a e z⟩, w.sh⟩

/-! #### the rules -/
theorem EX.imp (h : EX te ρ Q) (k : ∀ d ρ', Q d ρ' → Q' d ρ') : EX te ρ Q' := fun B ad σ F H w Z z => h B ad σ F H w Z fun d ρ' v F' H' q p r => z d ρ' v F' H' (k d ρ' q) p r
theorem ex_of {Q : D → Env → Prop} (h : EO te ρ fun ds ρ' => Q (.list ds) ρ') : EX te ρ Q := fun B ad σ F H w Z z => h B ad σ F H w Z fun ds ρ' p vs F' H' q P hF hH hp r =>
  z _ ρ' _ (upd F' p (.lst vs)) H' q (P.freeze w hF hH hp) (.lst (.inl upd_same) (r.up (same_upd hF)))
theorem ex_var {i : Nat} {d : D} (h : ρ[i]? = some (.val d)) (q : Q d ρ) : EX (tVar i) ρ Q := fun B ad σ F H w Z z => by
  obtain ⟨_, v, e, r⟩ := w.sl i _ h
  exact ⟨v, e, z d ρ v F H q (Post.refl w) r⟩
theorem ex_c {v : V} {d : D} (r : ∀ F, Rp F v d) (q : Q d ρ) : EX (tC v) ρ Q := fun B ad σ F H w Z z => z d ρ v F H q (Post.refl w) (r F)
theorem ex_int {i : Int} (q : Q (.int i) ρ) : EX (tC (.int i)) ρ Q := ex_c (fun _ => .int i) q
theorem ex_str {x : Str} (q : Q (.str x) ρ) : EX (tC (.str x)) ρ Q := ex_c (fun _ => .str x) q
theorem ex_bl {b : Bool} (q : Q (.bool b) ρ) : EX (tC (.bl b)) ρ Q := ex_c (fun _ => .bl b) q
theorem ex_non (q : Q .none ρ) : EX (tC .non) ρ Q := ex_c (fun _ => .non) q
theorem ex_op {r : R2} (h : EX ta ρ fun d1 ρ1 => EX tb ρ1 fun d2 ρ2 => OpD r d1 d2 fun d => Q d ρ2) : EX (tOp r ta tb) ρ Q := fun B ad σ F H w Z z =>
  h B ad σ F H w _ fun d1 ρ1 x F1 H1 q1 p1 r1 => q1 B ad σ F1 H1 p1.wa _ fun d2 ρ2 y F2 H2 q2 p2 r2 =>
    q2 F2 H2 x y p2.wa.gr.fh (r1.up p2.gr.ff) r2 Z fun d v F' H' kd g rv => z d ρ2 v F' H' kd ((p1.trans p2).trans (Post.of p2.wa g)) rv
theorem eo_op {r : R2} {Q : List D → Env → Prop} (h : EX ta ρ fun d1 ρ1 => EX tb ρ1 fun d2 ρ2 => OpO r d1 d2 fun d => Q d ρ2) : EO (tOp r ta tb) ρ Q := fun B ad σ F H w Z z =>
  h B ad σ F H w _ fun d1 ρ1 x F1 H1 q1 p1 r1 => q1 B ad σ F1 H1 p1.wa _ fun d2 ρ2 y F2 H2 q2 p2 r2 =>
    q2 F2 H2 x y p2.wa.gr.fh (r1.up p2.gr.ff) r2 Z fun ds p vs H' kd e hn hp rv => z ds ρ2 p vs F2 H' kd ((p1.trans p2).trans (Post.of p2.wa (Gr.heap p2.wa.gr.fh e))) (p2.wa.newp hn).1 (by
      cases q : H p with
      | none => rfl
      | some o => exact absurd hn (p2.gr.al p (p1.gr.al p (by rw [q]; intro z; cases z)))) hp rv
theorem ex_un {r : V → Hp → VK → Prop} (h : EX ta ρ fun d1 ρ1 => UnD r d1 fun d => Q d ρ1) : EX (tUn r ta) ρ Q := fun B ad σ F H w Z z =>
  h B ad σ F H w _ fun d1 ρ1 x F1 H1 q1 p1 r1 => q1 F1 H1 x p1.wa.gr.fh r1 Z fun d v F' H' kd g rv => z d ρ1 v F' H' kd (p1.trans (Post.of p1.wa g)) rv
theorem ea_nil {Q : List D → Env → Prop} (q : Q [] ρ) : EA tNil ρ Q := fun B ad σ F H w Z z => z [] ρ [] F H q (Post.refl w) .nil
theorem ea_cons {Q : List D → Env → Prop} (h : EX te ρ fun d ρ1 => EA t ρ1 fun ds ρ2 => Q (d :: ds) ρ2) : EA (tCons te t) ρ Q := fun B ad σ F H w Z z =>
  h B ad σ F H w _ fun d ρ1 v F1 H1 q1 p1 r1 => q1 B ad σ F1 H1 p1.wa _ fun ds ρ2 vs F2 H2 q2 p2 r2 => z (d :: ds) ρ2 (v :: vs) F2 H2 q2 (p1.trans p2) (.cons (r1.up p2.gr.ff) r2)
theorem ex_cb {r : List V → Hp → VK → Prop} (h : EA t ρ fun ds ρ1 => CbD r ds fun d => Q d ρ1) : EX (tCB r t) ρ Q := fun B ad σ F H w Z z =>
  h B ad σ F H w _ fun ds ρ1 vs F1 H1 q1 p1 r1 => q1 F1 H1 vs p1.wa.gr.fh r1 Z fun d v F' H' kd g rv => z d ρ1 v F' H' kd (p1.trans (Post.of p1.wa g)) rv
theorem eo_cb {r : List V → Hp → VK → Prop} {Q : List D → Env → Prop} (h : EA t ρ fun ds ρ1 => CbO r ds fun d => Q d ρ1) : EO (tCB r t) ρ Q := fun B ad σ F H w Z z =>
  h B ad σ F H w _ fun ds ρ1 vs F1 H1 q1 p1 r1 => q1 F1 H1 vs p1.wa.gr.fh r1 Z fun es p ws H' kd e hn hp rv => z es ρ1 p ws F1 H' kd (p1.trans (Post.of p1.wa (Gr.heap p1.wa.gr.fh e))) (p1.wa.newp hn).1 (by
      cases q : H p with
      | none => rfl
      | some o => exact absurd hn (p1.gr.al p (by rw [q]; intro z; cases z))) hp rv
theorem ex_tup (h : EA t ρ fun ds ρ1 => ds.length ≤ 100000 ∧ Q (.tuple ds) ρ1) : EX (tTup t) ρ Q := fun B ad σ F H w Z z =>
  h B ad σ F H w _ fun ds ρ1 vs F1 H1 q1 p1 r1 => ⟨Nat.le_trans (by rw [r1.len]; exact q1.1) (by decide), fun p hp =>
    z _ ρ1 _ (upd F1 p (.tup vs)) _ q1.2 (p1.trans (Post.of p1.wa (Gr.new p1.wa.gr.fh hp))) (.tup upd_same (r1.up (Gr.new p1.wa.gr.fh hp).ff))⟩
theorem eo_lst {Q : List D → Env → Prop} (h : EA t ρ fun ds ρ1 => ds.length ≤ 100000 ∧ Q ds ρ1) : EO (tLst t) ρ Q := fun B ad σ F H w Z z =>
  h B ad σ F H w _ fun ds ρ1 vs F1 H1 q1 p1 r1 => ⟨Nat.le_trans (by rw [r1.len]; exact q1.1) (by decide), fun p hp =>
    z _ ρ1 p vs F1 _ q1.2 (p1.trans (Post.of p1.wa (Gr.heap p1.wa.gr.fh (same_upd hp)))) (p1.wa.newp hp).1 (by
      cases q : H p with
      | none => rfl
      | some o => exact absurd hp (p1.gr.al p (by rw [q]; intro z; cases z))) upd_same r1⟩
/-! slices -/
theorem ep_no {Q : Option Int → Env → Prop} (q : Q none ρ) : EPt tNoPart ρ Q := fun B ad σ F H w Z z => z none ρ F H q (Post.refl w)
theorem ep_some {Q : Option Int → Env → Prop} (h : EX te ρ fun d ρ1 => ∃ i, d = .int i ∧ Q (some i) ρ1) : EPt (tPart te) ρ Q := fun B ad σ F H w Z z =>
  h B ad σ F H w _ fun d ρ1 v F1 H1 q1 p1 r1 => by
    obtain ⟨i, rfl, q⟩ := q1
    exact ⟨i, r1.int_inv, z _ ρ1 F1 H1 q p1⟩
theorem ex_sl {r : V → Option Int → Option Int → Hp → VK → Prop} {tl th : TO} (h : EX te ρ fun d1 ρ1 => EPt tl ρ1 fun lo ρ2 => EPt th ρ2 fun hi ρ3 => SlD r d1 lo hi fun d => Q d ρ3) : EX (tSl r te tl th) ρ Q := fun B ad σ F H w Z z =>
  h B ad σ F H w _ fun d1 ρ1 x F1 H1 q1 p1 r1 => q1 B ad σ F1 H1 p1.wa _ fun lo ρ2 F2 H2 q2 p2 => q2 B ad σ F2 H2 p2.wa _ fun hi ρ3 F3 H3 q3 p3 =>
    q3 F3 H3 x p3.wa.gr.fh ((r1.up p2.gr.ff).up p3.gr.ff) Z fun d v F' H' kd g rv => z d ρ3 v F' H' kd (((p1.trans p2).trans p3).trans (Post.of p3.wa g)) rv
theorem eo_sl {r : V → Option Int → Option Int → Hp → VK → Prop} {tl th : TO} {Q : List D → Env → Prop} (h : EX te ρ fun d1 ρ1 => EPt tl ρ1 fun lo ρ2 => EPt th ρ2 fun hi ρ3 => SlO r d1 lo hi fun d => Q d ρ3) : EO (tSl r te tl th) ρ Q := fun B ad σ F H w Z z =>
  h B ad σ F H w _ fun d1 ρ1 x F1 H1 q1 p1 r1 => q1 B ad σ F1 H1 p1.wa _ fun lo ρ2 F2 H2 q2 p2 => q2 B ad σ F2 H2 p2.wa _ fun hi ρ3 F3 H3 q3 p3 =>
    q3 F3 H3 x p3.wa.gr.fh ((r1.up p2.gr.ff).up p3.gr.ff) Z fun ds p vs H' kd e hn hp rv => z ds ρ3 p vs F3 H' kd (((p1.trans p2).trans p3).trans (Post.of p3.wa (Gr.heap p3.wa.gr.fh e))) (p3.wa.newp hn).1 (by
      cases q : H p with
      | none => rfl
      | some o => exact absurd hn (p3.gr.al p (p2.gr.al p (p1.gr.al p (by rw [q]; intro z; cases z))))) hp rv
/-! tests -/
theorem et_imp {Q Q' : Bool → Env → Prop} (h : ET tt ρ Q) (k : ∀ b ρ', Q b ρ' → Q' b ρ') : ET tt ρ Q' := fun B ad σ F H w Z z => h B ad σ F H w Z fun b ρ' F' H' q p => z b ρ' F' H' (k b ρ' q) p
theorem et_test {Q : Bool → Env → Prop} (h : EX te ρ fun d ρ1 => ∃ b, d = .bool b ∧ Q b ρ1) : ET (tTest te) ρ Q := fun B ad σ F H w Z z =>
  h B ad σ F H w _ fun d ρ1 v F1 H1 q1 p1 r1 => by
    obtain ⟨b, rfl, q⟩ := q1
    exact ⟨b, r1.bl_inv, z b ρ1 F1 H1 q p1⟩
theorem et_B {Q : Bool → Env → Prop} (h : EX te ρ fun d ρ1 => ∃ b, d = .bool b ∧ Q b ρ1) : ET (tB te) ρ Q := et_test h
theorem et_and {Q : Bool → Env → Prop} (h : ET tt ρ fun b ρ1 => (b = true → ET tu ρ1 Q) ∧ (b = false → Q false ρ1)) : ET (tAnd tt tu) ρ Q := fun B ad σ F H w Z z =>
  h B ad σ F H w _ fun b ρ1 F1 H1 q1 p1 => by
    cases b with
    | true =>
      show tu σ H1 Z
      exact q1.1 rfl B ad σ F1 H1 p1.wa Z fun b ρ' F' H' q p => z b ρ' F' H' q (p1.trans p)
    | false =>
      show Z false H1
      exact z false ρ1 F1 H1 (q1.2 rfl) p1
theorem et_or {Q : Bool → Env → Prop} (h : ET tt ρ fun b ρ1 => (b = true → Q true ρ1) ∧ (b = false → ET tu ρ1 Q)) : ET (tOr tt tu) ρ Q := fun B ad σ F H w Z z =>
  h B ad σ F H w _ fun b ρ1 F1 H1 q1 p1 => by
    cases b with
    | true =>
      show Z true H1
      exact z true ρ1 F1 H1 (q1.1 rfl) p1
    | false =>
      show tu σ H1 Z
      exact q1.2 rfl B ad σ F1 H1 p1.wa Z fun b ρ' F' H' q p => z b ρ' F' H' q (p1.trans p)
theorem et_not {Q : Bool → Env → Prop} (h : ET tt ρ fun b ρ1 => Q (!b) ρ1) : ET (tNot tt) ρ Q := fun B ad σ F H w Z z => h B ad σ F H w _ fun b ρ1 F1 H1 q p => z (!b) ρ1 F1 H1 q p
theorem ex_andV (h : EX ta ρ fun d ρ1 => ∃ b, d = .bool b ∧ (b = true → EX tb ρ1 Q) ∧ (b = false → Q (.bool false) ρ1)) : EX (tAndV ta tb) ρ Q := fun B ad σ F H w Z z =>
  h B ad σ F H w _ fun d ρ1 v F1 H1 q1 p1 r1 => by
    obtain ⟨b, rfl, k1, k2⟩ := q1
    refine ⟨b, r1.bl_inv, ?_⟩
    cases b with
    | true =>
      show tb σ H1 Z
      exact k1 rfl B ad σ F1 H1 p1.wa Z fun d ρ' v F' H' q p r => z d ρ' v F' H' q (p1.trans p) r
    | false =>
      show Z (.bl false) H1
      exact z _ ρ1 _ F1 H1 (k2 rfl) p1 (.bl false)
theorem ex_orV (h : EX ta ρ fun d ρ1 => ∃ b, d = .bool b ∧ (b = true → Q (.bool true) ρ1) ∧ (b = false → EX tb ρ1 Q)) : EX (tOrV ta tb) ρ Q := fun B ad σ F H w Z z =>
  h B ad σ F H w _ fun d ρ1 v F1 H1 q1 p1 r1 => by
    obtain ⟨b, rfl, k1, k2⟩ := q1
    refine ⟨b, r1.bl_inv, ?_⟩
    cases b with
    | true =>
      show Z (.bl true) H1
      exact z _ ρ1 _ F1 H1 (k1 rfl) p1 (.bl true)
    | false =>
      show tb σ H1 Z
      exact k2 rfl B ad σ F1 H1 p1.wa Z fun d ρ' v F' H' q p r => z d ρ' v F' H' q (p1.trans p) r
theorem ex_notV (h : EX ta ρ fun d ρ1 => ∃ b, d = .bool b ∧ Q (.bool !b) ρ1) : EX (tNotV ta) ρ Q := fun B ad σ F H w Z z =>
  h B ad σ F H w _ fun d ρ1 v F1 H1 q1 p1 r1 => by
    obtain ⟨b, rfl, k⟩ := q1
    exact ⟨b, r1.bl_inv, z _ ρ1 _ F1 H1 k p1 (.bl _)⟩
theorem ex_if (h : ET tt ρ fun b ρ1 => (b = true → EX ta ρ1 Q) ∧ (b = false → EX tb ρ1 Q)) : EX (tIf tt ta tb) ρ Q := fun B ad σ F H w Z z =>
  h B ad σ F H w _ fun b ρ1 F1 H1 q1 p1 => by
    cases b with
    | true =>
      show ta σ H1 Z
      exact q1.1 rfl B ad σ F1 H1 p1.wa Z fun d ρ' v F' H' q p r => z d ρ' v F' H' q (p1.trans p) r
    | false =>
      show tb σ H1 Z
      exact q1.2 rfl B ad σ F1 H1 p1.wa Z fun d ρ' v F' H' q p r => z d ρ' v F' H' q (p1.trans p) r
theorem ex_chain {r r' : R2} (h : EX ta ρ fun d1 ρ1 => EX tb ρ1 fun d2 ρ2 => OpD r d1 d2 fun d => ∃ b, d = .bool b ∧ (b = true → EX tc ρ2 fun d3 ρ3 => OpD r' d2 d3 fun d => Q d ρ3) ∧ (b = false → Q (.bool false) ρ2)) : EX (tChain r r' ta tb tc) ρ Q := fun B ad σ F H w Z z =>
  h B ad σ F H w _ fun d1 ρ1 x F1 H1 q1 p1 r1 => q1 B ad σ F1 H1 p1.wa _ fun d2 ρ2 y F2 H2 q2 p2 r2 =>
    q2 F2 H2 x y p2.wa.gr.fh (r1.up p2.gr.ff) r2 _ fun d v F3 H3 kd g rv => by
      obtain ⟨b, rfl, k1, k2⟩ := kd
      refine ⟨b, rv.bl_inv, ?_⟩
      have p3 := (p1.trans p2).trans (Post.of p2.wa g)
      cases b with
      | true =>
        show tc σ H3 fun w' H4 => r' y w' H4 Z
        exact k1 rfl B ad σ F3 H3 p3.wa _ fun d3 ρ3 u F4 H4 q4 p4 r4 => q4 F4 H4 y u p4.wa.gr.fh ((r2.up g.ff).up p4.gr.ff) r4 Z fun d v F' H' kd g rv => z d ρ3 v F' H' kd ((p3.trans p4).trans (Post.of p4.wa g)) rv
      | false =>
        show Z (.bl false) H3
        exact z _ ρ2 _ F3 H3 (k2 rfl) p3 (.bl false)
end
/-! ### operations -/
section
variable {K : PySem.W.Frag} {Q : D → Prop} {i j : Int} {d d1 d2 : D} {ds es : List D}
theorem opd_I0 {g : Int → Int → Int} (k : Q (.int (g i j))) : OpD (rI0 fun i j => .int (g i j)) (.int i) (.int j) Q := fun F H x y e rx ry Z z => ⟨i, j, rx.int_inv, ry.int_inv, z _ _ F H k (Gr.refl e) (.int _)⟩
theorem opd_B0 {g : Int → Int → Bool} (k : Q (.bool (g i j))) : OpD (rI0 fun i j => .bl (g i j)) (.int i) (.int j) Q := fun F H x y e rx ry Z z => ⟨i, j, rx.int_inv, ry.int_inv, z _ _ F H k (Gr.refl e) (.bl _)⟩
theorem opd_I {C : Int → Int → Prop} {g : Int → Int → Int} (c : C i j) (k : Q (.int (g i j))) : OpD (rI C fun i j => .int (g i j)) (.int i) (.int j) Q := fun F H x y e rx ry Z z => ⟨i, j, rx.int_inv, ry.int_inv, c, z _ _ F H k (Gr.refl e) (.int _)⟩
theorem und_neg (k : Q (.int (-i))) : UnD (rU fun i => .int (-i)) (.int i) Q := fun F H x e rx Z z => ⟨i, rx.int_inv, z _ _ F H k (Gr.refl e) (.int _)⟩
theorem opd_eq (s1 : SeqAt.shaped d1 = true) (s2 : SeqAt.shaped d2 = true) (k : Q (.bool (PyData.eqv d1 d2))) : OpD (rEqD K) d1 d2 Q := fun F H x y e rx ry Z z => ⟨d1, d2, rx.dp e, ry.dp e, s1, s2, z _ _ F H k (Gr.refl e) (.bl _)⟩
theorem opd_ne (s1 : SeqAt.shaped d1 = true) (s2 : SeqAt.shaped d2 = true) (k : Q (.bool (!PyData.eqv d1 d2))) : OpD (rNeD K) d1 d2 Q := fun F H x y e rx ry Z z => ⟨d1, d2, rx.dp e, ry.dp e, s1, s2, z _ _ F H k (Gr.refl e) (.bl _)⟩
def isN : D → Bool
  | .none => true
  | _ => false
theorem isN_of {F : Hp} {x : V} (r : Rp F x d) : decide (x = .non) = isN d := by cases r <;> rfl
def rIs : R2 := fun x y H Q => y = .non ∧ Q (.bl (decide (x = .non))) H
def rIsnt : R2 := fun x y H Q => y = .non ∧ Q (.bl (!decide (x = .non))) H
theorem op_is {X : Cx} : OpR X (compareOp .Is) rIs := op_isN
theorem op_isnt {X : Cx} : OpR X (compareOp .IsNot) rIsnt := op_notN
theorem opd_is (k : Q (.bool (isN d))) : OpD rIs d .none Q := fun F H x y e rx ry Z z => ⟨ry.non_inv, by rw [isN_of rx]; exact z _ _ F H k (Gr.refl e) (.bl _)⟩
theorem opd_isnt (k : Q (.bool (!isN d))) : OpD rIsnt d .none Q := fun F H x y e rx ry Z z => ⟨ry.non_inv, by rw [isN_of rx]; exact z _ _ F H k (Gr.refl e) (.bl _)⟩
/-! an item -/
theorem RpA.at_ {F : Hp} {vs : List V} (r : RpA F vs ds) (h : atI ds i = some d) : ∃ v, atI vs i = some v ∧ Rp F v d := by
  unfold atI at h ⊢
  rw [r.len]
  cases e : ixN ds.length i with
  | none => rw [e] at h; cases h
  | some k =>
    rw [e] at h
    exact r.get (k := k) h
def rIxA (K : PySem.W.Frag) : R2 := fun x y H Q => rIxL K x y H Q ∨ rIxT K x y H Q
theorem ix_any {X : Cx} : IxR X (rIxA X.K) := IxR.or ix_list ix_tup
theorem opd_ixL (h : atI ds i = some d) (k : Q d) : OpD (rIxA K) (.list ds) (.int i) Q := fun F H x y e rx ry Z z => by
  obtain ⟨a, xs, rfl, h1, h2⟩ := rx.lst_inv
  obtain ⟨v, hv, rv⟩ := h2.at_ h
  exact .inl ⟨a, xs, i, v, rfl, ry.int_inv, sqL_rd h1 e, hv, z _ _ F H k (Gr.refl e) rv⟩
theorem opd_ixT (h : atI ds i = some d) (k : Q d) : OpD (rIxA K) (.tuple ds) (.int i) Q := fun F H x y e rx ry Z z => by
  obtain ⟨a, xs, rfl, h1, h2⟩ := rx.tup_inv
  obtain ⟨v, hv, rv⟩ := h2.at_ h
  exact .inr ⟨a, xs, i, v, rfl, ry.int_inv, sqT_rd h1 e, hv, z _ _ F H k (Gr.refl e) rv⟩
/-! + -/
def rCatR : R2 := fun x y H Q => ∃ l b xs zs, x = .ref l ∧ y = .ref b ∧ Rd H l (.lst xs) ∧ Rd H b (.lst zs) ∧ xs.length + zs.length ≤ sizeLine ∧ ∀ p, H p = none → Q (.ref p) (upd H p (.lst (xs ++ zs)))
theorem op_catR {X : Cx} : OpR X (binaryOp .Add) rCatR := by
  intro pins s σ H x y v u Q I rx ry h
  obtain ⟨l, b, xs, zs, rfl, rfl, hH, hB, hz, q⟩ := h
  cases rx
  cases ry
  obtain ⟨z, its, n, r, e⟩ := hH.ok I.hok
  obtain ⟨z2, its2, n2, r2, e2⟩ := hB.ok I.hok
  have hl := r.length
  have hl2 := r2.length
  refine PySem.P.add_list e e2 ?_ (by rw [List.size_toArray, List.size_toArray]; omega)
  have ea : its.toArray ++ its2.toArray = (its ++ its2).toArray := by simp
  rw [ea]
  exact ⟨.ref _, _, I.lnew (t' := s.toks) (r.append r2) (by rw [List.length_append]; omega), rfl, q _ I.fresh⟩
def rPlus (K : PySem.W.Frag) : R2 := fun x y H Q => (fun x y H Q => rI0 (fun i j => .int (i + j)) x y H Q ∨ rCatR x y H Q) x y H Q ∨ rCatA K x y H Q
theorem op_plus {X : Cx} : OpR X (binaryOp .Add) (rPlus X.K) := OpR.or (OpR.or op_add op_catR) op_catA
theorem opd_plusI (k : Q (.int (i + j))) : OpD (rPlus K) (.int i) (.int j) Q := fun F H x y e rx ry Z z => .inl (.inl (opd_I0 k F H x y e rx ry Z z))
theorem opo_plusL {Q : List D → Prop} (hz : ds.length + es.length ≤ 1000000) (k : Q (ds ++ es)) : OpO (rPlus K) (.list ds) (.list es) Q := fun F H x y e rx ry Z z => by
  obtain ⟨a, xs, rfl, h1, h2⟩ := rx.lst_inv
  obtain ⟨b, ys, rfl, g1, g2⟩ := ry.lst_inv
  exact .inl (.inr ⟨a, b, xs, ys, rfl, rfl, rd_mono e h1, rd_mono e g1, Nat.le_trans (by rw [h2.len, g2.len]; exact hz) (by decide), fun p hp => z _ p _ _ k (same_upd hp) hp upd_same (h2.app g2)⟩)
theorem opd_plusT (hz : ds.length + es.length ≤ 1000000) (k : Q (.tuple (ds ++ es))) : OpD (rPlus K) (.tuple ds) (.tuple es) Q := fun F H x y e rx ry Z z => by
  obtain ⟨a, xs, rfl, h1, h2⟩ := rx.tup_inv
  obtain ⟨b, ys, rfl, g1, g2⟩ := ry.tup_inv
  refine .inr ⟨a, b, xs, ys, rfl, rfl, sqT_rd h1 e, sqT_rd g1 e, Nat.le_trans (by rw [h2.len, g2.len]; exact hz) (by decide), fun q => ?_, fun _ q => ?_, fun _ _ p hp => ?_⟩
  · subst q
    cases h2
    exact z _ _ F H k (Gr.refl e) ry
  · subst q
    cases g2
    rw [List.append_nil] at k
    exact z _ _ F H k (Gr.refl e) rx
  · exact z _ _ _ _ k (Gr.new e hp) (.tup upd_same ((h2.app g2).up (Gr.new e hp).ff))
/-! slices -/
def rSl (K : PySem.W.Frag) : V → Option Int → Option Int → Hp → VK → Prop := fun x lo hi H Q => rSlL K x lo hi H Q ∨ rSlA K x lo hi H Q
theorem sl_any {X : Cx} : SlR X (rSl X.K) := SlR.or sl_list sl_tupA
def cutD (xs : List D) (lo hi : Option Int) : List D := (xs.drop (HT.sIx xs.length 0 lo)).take (HT.sIx xs.length xs.length hi - HT.sIx xs.length 0 lo)
theorem RpA.cut {F : Hp} {vs : List V} (r : RpA F vs ds) (lo hi : Option Int) : RpA F (cutV vs lo hi) (cutD ds lo hi) := by
  unfold cutV cutD
  rw [r.len]
  exact (r.drop _).take _
theorem slo_L {Q : List D → Prop} {lo hi : Option Int} (k : Q (cutD ds lo hi)) : SlO (rSl K) (.list ds) lo hi Q := fun F H x e rx Z z => by
  obtain ⟨a, xs, rfl, h1, h2⟩ := rx.lst_inv
  exact .inl ⟨a, xs, rfl, sqL_rd h1 e, fun p hp => z _ p _ _ k (same_upd hp) hp upd_same (h2.cut lo hi)⟩
theorem sld_T {lo hi : Option Int} (k : Q (.tuple (cutD ds lo hi))) : SlD (rSl K) (.tuple ds) lo hi Q := fun F H x e rx Z z => by
  obtain ⟨a, xs, rfl, h1, h2⟩ := rx.tup_inv
  refine .inr ⟨a, xs, rfl, sqT_rd h1 e, fun w => ?_, fun w p hp => z _ _ _ _ k (Gr.new e hp) (.tup upd_same ((h2.cut lo hi).up (Gr.new e hp).ff))⟩
  have ec : cutD ds lo hi = ds := by
    rw [h2.len] at w
    unfold cutD
    rw [w.1, w.2, List.drop_zero, Nat.sub_zero, List.take_length]
  rw [ec] at k
  exact z _ _ F H k (Gr.refl e) rx
/-! built-ins -/
def rLen (K : PySem.W.Frag) : List V → Hp → VK → Prop := fun xs H Q => ∃ x n, xs = [x] ∧ LenV K x H n ∧ Q (.int (n : Int)) H
theorem cb_len {X : Cx} : CallR X (.builtin "len") (rLen X.K) := call_len
theorem RpA.one {F : Hp} {vs : List V} (h : RpA F vs [d]) : ∃ v, vs = [v] ∧ Rp F v d := by
  cases h with
  | cons h1 h2 => cases h2; exact ⟨_, rfl, h1⟩
theorem RpA.two {F : Hp} {vs : List V} (h : RpA F vs [d1, d2]) : ∃ v u, vs = [v, u] ∧ Rp F v d1 ∧ Rp F u d2 := by
  cases h with
  | cons h1 h2 => obtain ⟨u, rfl, r⟩ := h2.one; exact ⟨_, _, rfl, h1, r⟩
theorem cbd_lenL (k : Q (.int (ds.length : Int))) : CbD (rLen K) [.list ds] Q := fun F H vs e r Z z => by
  obtain ⟨v, rfl, rv⟩ := r.one
  obtain ⟨a, xs, rfl, h1, h2⟩ := rv.lst_inv
  exact ⟨_, ds.length, rfl, .inl ⟨xs, sqL_rd h1 e, h2.len.symm⟩, z _ _ F H k (Gr.refl e) (.int _)⟩
theorem cbd_lenT (k : Q (.int (ds.length : Int))) : CbD (rLen K) [.tuple ds] Q := fun F H vs e r Z z => by
  obtain ⟨v, rfl, rv⟩ := r.one
  obtain ⟨a, xs, rfl, h1, h2⟩ := rv.tup_inv
  exact ⟨_, ds.length, rfl, .inr ⟨xs, sqT_rd h1 e, h2.len.symm⟩, z _ _ F H k (Gr.refl e) (.int _)⟩
def rAbs : List V → Hp → VK → Prop := fun xs H Q => ∃ i, xs = [.int i] ∧ Q (.int (if i < 0 then -i else i)) H
theorem cb_abs {X : Cx} : CallR X (.builtin "abs") rAbs := call_abs
theorem cbd_abs (k : Q (.int (i.natAbs : Int))) : CbD rAbs [.int i] Q := fun F H vs e r Z z => by
  obtain ⟨v, rfl, rv⟩ := r.one
  refine ⟨i, by rw [rv.int_inv], ?_⟩
  have e2 : (if i < 0 then -i else i) = (i.natAbs : Int) := by
    by_cases h : i < 0
    · rw [if_pos h]; omega
    · rw [if_neg h]; omega
  rw [e2]
  exact z _ _ F H k (Gr.refl e) (.int _)
def rMx2 : List V → Hp → VK → Prop := fun xs H Q => ∃ i j, xs = [.int i, .int j] ∧ Q (.int (if j > i then j else i)) H
def rMn2 : List V → Hp → VK → Prop := fun xs H Q => ∃ i j, xs = [.int i, .int j] ∧ Q (.int (if j < i then j else i)) H
theorem cb_max2 {X : Cx} (hc : X.calm = true) : CallR X (.builtin "max") rMx2 := call_max2 hc
theorem cb_min2 {X : Cx} (hc : X.calm = true) : CallR X (.builtin "min") rMn2 := call_min2 hc
theorem cbd_max2 (k : Q (.int (max i j))) : CbD rMx2 [.int i, .int j] Q := fun F H vs e r Z z => by
  obtain ⟨v, u, rfl, rv, ru⟩ := r.two
  refine ⟨i, j, by rw [rv.int_inv, ru.int_inv], ?_⟩
  have e2 : (if j > i then j else i) = max i j := by
    by_cases h : j > i
    · rw [if_pos h]; omega
    · rw [if_neg h]; omega
  rw [e2]
  exact z _ _ F H k (Gr.refl e) (.int _)
theorem cbd_min2 (k : Q (.int (min i j))) : CbD rMn2 [.int i, .int j] Q := fun F H vs e r Z z => by
  obtain ⟨v, u, rfl, rv, ru⟩ := r.two
  refine ⟨i, j, by rw [rv.int_inv, ru.int_inv], ?_⟩
  have e2 : (if j < i then j else i) = min i j := by
    by_cases h : j < i
    · rw [if_pos h]; omega
    · rw [if_neg h]; omega
  rw [e2]
  exact z _ _ F H k (Gr.refl e) (.int _)
def rInt : List V → Hp → VK → Prop := fun xs H Q => (∃ i, xs = [.int i] ∧ Q (.int i) H) ∨ ∃ k, xs = [.bl k] ∧ Q (.int (if k then 1 else 0)) H
theorem cb_int {X : Cx} : CallR X (.type "int") rInt := call_int1
theorem cbd_int (k : Q (.int i)) : CbD rInt [.int i] Q := fun F H vs e r Z z => by
  obtain ⟨v, rfl, rv⟩ := r.one
  exact .inl ⟨i, by rw [rv.int_inv], z _ _ F H k (Gr.refl e) (.int _)⟩
def rList (K : PySem.W.Frag) : List V → Hp → VK → Prop := fun xs H Q => ∃ p ys, xs = [.ref p] ∧ (SqL K H p ys ∨ SqT K H p ys) ∧ ∀ l, H l = none → Q (.ref l) (upd H l (.lst ys))
theorem cb_list {X : Cx} : CallR X (.type "list") (rList X.K) := call_list_of
theorem cbo_listL {Q : List D → Prop} (k : Q ds) : CbO (rList K) [.list ds] Q := fun F H vs e r Z z => by
  obtain ⟨v, rfl, rv⟩ := r.one
  obtain ⟨a, xs, rfl, h1, h2⟩ := rv.lst_inv
  exact ⟨a, xs, rfl, .inl (sqL_rd h1 e), fun p hp => z _ p _ _ k (same_upd hp) hp upd_same h2⟩
theorem cbo_listT {Q : List D → Prop} (k : Q ds) : CbO (rList K) [.tuple ds] Q := fun F H vs e r Z z => by
  obtain ⟨v, rfl, rv⟩ := r.one
  obtain ⟨a, xs, rfl, h1, h2⟩ := rv.tup_inv
  exact ⟨a, xs, rfl, .inr (sqT_rd h1 e), fun p hp => z _ p _ _ k (same_upd hp) hp upd_same h2⟩
def rTup (K : PySem.W.Frag) : List V → Hp → VK → Prop := fun xs H Q => ∃ p ys, xs = [.ref p] ∧ ((SqL K H p ys ∧ ∀ l, H l = none → Q (.ref l) (upd H l (.tup ys))) ∨ (SqT K H p ys ∧ Q (.ref p) H))
theorem cb_tuple {X : Cx} : CallR X (.type "tuple") (rTup X.K) := call_tuple_of
theorem cbd_tupL (k : Q (.tuple ds)) : CbD (rTup K) [.list ds] Q := fun F H vs e r Z z => by
  obtain ⟨v, rfl, rv⟩ := r.one
  obtain ⟨a, xs, rfl, h1, h2⟩ := rv.lst_inv
  exact ⟨a, xs, rfl, .inl ⟨sqL_rd h1 e, fun p hp => z _ _ _ _ k (Gr.new e hp) (.tup upd_same (h2.up (Gr.new e hp).ff))⟩⟩
theorem cbd_sum {ns : List Int} (k : Q (.int ns.sum)) : CbD (rSum K) [.list (ns.map .int)] Q := fun F H vs e r Z z => by
  obtain ⟨v, rfl, rv⟩ := r.one
  obtain ⟨a, xs, rfl, h1, h2⟩ := rv.lst_inv
  exact ⟨a, ns, rfl, by rw [← h2.ints_inv]; exact sqL_rd h1 e, z _ _ F H k (Gr.refl e) (.int _)⟩
/-- isinstance(x, tuple) -/
theorem ex_isT {te : TE} {ρ : Env} {Q : D → Env → Prop} (h : EX te ρ fun d ρ1 => ∃ ds, d = .tuple ds ∧ Q (.bool true) ρ1) : EX (tCB RZ.rIsTy (tCons te (tCons (tC (.ty "tuple")) tNil))) ρ Q := fun B ad σ F H w Z z =>
  h B ad σ F H w _ fun d ρ1 v F1 H1 q1 p1 r1 => by
    obtain ⟨ds, rfl, q⟩ := q1
    obtain ⟨a, xs, rfl, h1, h2⟩ := r1.tup_inv
    exact ⟨.ref a, "tuple", rfl, .tup (p1.wa.gr.fh _ _ h1), z _ ρ1 _ F1 H1 q p1 (.bl true)⟩
end

/-! ### own lists -/
section
variable {B : Base} {ad : Nat → List Addr} {ρ ρ' : Env} {σ : St} {F H F' H' : Hp} {te tb : TE} {Q : D → Env → Prop}
theorem get_set {α : Type} {l : List α} {i j : Nat} {x y : α} (h : (l.set i x)[j]? = some y) : (j = i ∧ y = x) ∨ (j ≠ i ∧ l[j]? = some y) := by
  by_cases e : j = i
  · subst e
    by_cases hl : j < l.length
    · rw [List.getElem?_set_self hl] at h
      exact .inl ⟨rfl, (Option.some.inj h).symm⟩
    · rw [List.getElem?_eq_none (by simpa using hl)] at h
      cases h
  · rw [List.getElem?_set_ne (Ne.symm e)] at h
    exact .inr ⟨e, h⟩
theorem get_set' {α : Type} {l : List α} {i j : Nat} {x : α} (h : (l.set i x)[j]? = none) : l[j]? = none := by
  rw [List.getElem?_eq_none_iff] at h ⊢
  simpa using h
/-- slot i's own list is frozen where it stands -/
theorem WA.lend (w : WA B ad ρ σ F H) {i : Nat} {ds : List D} (h : ρ[i]? = some (.own ds)) : ∃ p vs, ad i = [p] ∧ F p = none ∧ H p = some (.lst vs) ∧ RpA F vs ds ∧ B.H0 p = none ∧ σ[i]? = some (some (.ref p)) ∧
    WA B (fun k => if k = i then [] else ad k) (ρ.set i (.val (.list ds))) σ (upd F p (.lst vs)) H := by
  obtain ⟨p, vs, k, k0, k1, k2, r⟩ := w.sl i _ h
  have hF : F p = none := (w.fz i p (by rw [k]; simp)).1
  have up := same_upd (o := .lst vs) hF
  refine ⟨p, vs, k, hF, k2, r, k0, k1, ?_⟩
  have hn : ∀ j, j ≠ i → p ∉ ad j := fun j hj m => hj (w.dj j i p m (by rw [k]; simp))
  refine ⟨⟨w.gr.ff.trans up, fun a o e => ?_, w.gr.kp, w.gr.al, fun a e z => ?_⟩, by rw [List.length_set]; exact w.len, fun j s e => ?_, fun j q m => ?_, fun j1 j2 q m1 m2 => ?_, fun j e => ?_, w.pin.to fun S e => by
    rcases get_set e with ⟨_, q⟩ | ⟨hj, e⟩
    · cases q
    · exact ⟨⟨S, e⟩, rfl, if_neg hj⟩⟩
  · by_cases ha : a = p
    · subst ha; rw [upd_same] at e; rw [k2]; exact e
    · rw [upd_ne ha] at e; exact w.gr.fh a o e
  · have ha : a ≠ p := fun q => e (by rw [q]; exact k0)
    rw [upd_ne ha]
    exact w.gr.fr a e z
  · rcases get_set e with ⟨rfl, rfl⟩ | ⟨hj, e⟩
    · exact ⟨if_pos rfl, _, k1, .lst (.inl upd_same) (r.up up)⟩
    · have q := w.sl j s e
      rw [if_neg hj]
      cases s with
      | emp => exact q
      | val d =>
        obtain ⟨k, v, e, r⟩ := q
        exact ⟨k, v, e, r.up up⟩
      | own es =>
        obtain ⟨q, ws, k, k0, k1, k2, r⟩ := q
        exact ⟨q, ws, k, k0, k1, k2, r.up up⟩
      | st S => exact q
  · by_cases hj : j = i
    · simp [hj] at m
    · simp only [if_neg hj] at m
      have ne : q ≠ p := fun z => hn j hj (z ▸ m)
      rw [upd_ne ne]
      exact w.fz j q m
  · by_cases h1 : j1 = i
    · simp [h1] at m1
    · by_cases h2 : j2 = i
      · simp [h2] at m2
      · simp only [if_neg h1] at m1
        simp only [if_neg h2] at m2
        exact w.dj j1 j2 q m1 m2
  · by_cases hj : j = i
    · show (if j = i then [] else ad j) = []
      rw [if_pos hj]
    · show (if j = i then [] else ad j) = []
      rw [if_neg hj]
      exact w.out j (get_set' e)
def scalD : D → Bool
  | .none => true
  | .bool _ => true
  | .int _ => true
  | .str _ => true
  | _ => false
theorem scal_any {d : D} {v : V} (h : scalD d = true) (r : Rp F v d) : Rp F' v d := by
  cases r with
  | non => exact .non
  | bl b => exact .bl b
  | int i => exact .int i
  | str x => exact .str x
  | lst _ _ => cases h
  | tup _ _ => cases h
/-- behind a loan, with nothing changed but the heap's new objects -/
theorem WA.back (w : WA B ad ρ σ F H) {i : Nat} {ds : List D} (h : ρ[i]? = some (.own ds)) {F1 : Hp} {ad1 : Nat → List Addr} {ρ1 : Env} (e1 : ρ1 = ρ.set i (.val (.list ds))) (ea : ad1 = fun k => if k = i then [] else ad k)
    (hF1 : Same F F1) (p : Post B ad1 σ ρ1 F1 H ρ1 F' H') : Post B ad σ ρ F H ρ F H' := by
  subst e1 ea
  have hi : i < ρ.length := (List.getElem?_eq_some_iff.mp h).1
  have ms : ∀ a, MS (fun k => if k = i then [] else ad k) (ρ.set i (.val (.list ds))) a → MS ad ρ a := fun a ⟨j, S, e, m⟩ => by
    rcases get_set e with ⟨_, q⟩ | ⟨hj, e⟩
    · cases q
    · simp only [if_neg hj] at m
      exact ⟨j, S, e, m⟩
  have fh : Same F H' := (hF1.trans p.gr.ff).trans p.gr.fh
  have nms : ∀ j q, q ∈ ad j → (∀ S, ρ[j]? ≠ some (Slot.st S)) → ¬ MS ad ρ q := fun j q m hj ⟨j', S, e, m'⟩ => by
    have := w.dj j j' q m m'
    subst this
    exact hj S e
  refine ⟨⟨⟨w.gr.ff, fh, p.wa.gr.kp, p.wa.gr.al, w.gr.fr⟩, w.len, fun j s e => ?_, w.fz, w.dj, w.out, w.pin⟩, ⟨Same.refl F, fh, fun a o e m => p.gr.kp a o e fun z => m (ms a z), p.gr.al, fun _ _ z => z⟩, fun j S e => ⟨S, e⟩⟩
  have k := w.sl j s e
  cases s with
  | emp => exact k
  | val d => exact k
  | own es =>
    obtain ⟨q, ws, k, k0, k1, k2, r⟩ := k
    refine ⟨q, ws, k, k0, k1, p.gr.kp q _ k2 fun z => nms j q (by rw [k]; simp) (fun S z => by rw [e] at z; cases z) (ms q z), r⟩
  | st S =>
    have hj : j ≠ i := fun z => by subst z; rw [h] at e; cases e
    have k' := p.wa.sl j (.st S) (by rw [List.getElem?_set_ne (Ne.symm hj)]; exact e)
    simp only [if_neg hj] at k'
    exact k'
theorem ex_lend (i : Nat) {ds : List D} (h : ρ[i]? = some (.own ds)) (k : EX te (ρ.set i (.val (.list ds))) fun d ρ' => ρ' = ρ.set i (.val (.list ds)) ∧ scalD d = true ∧ Q d ρ) : EX te ρ Q := fun B ad σ F H w Z z => by
  obtain ⟨p, vs, k1, k2, k3, k4, k5, k6, w2⟩ := w.lend h
  refine k B _ σ _ H w2 Z fun d ρ' v F' H' q P r => ?_
  obtain ⟨rfl, sc, q⟩ := q
  exact z d ρ v F H' q (w.back h rfl rfl (same_upd k2) P) (scal_any sc r)
theorem et_lend (i : Nat) {tt : TT} {Q : Bool → Env → Prop} {ds : List D} (h : ρ[i]? = some (.own ds)) (k : ET tt (ρ.set i (.val (.list ds))) fun b ρ' => ρ' = ρ.set i (.val (.list ds)) ∧ Q b ρ) : ET tt ρ Q := fun B ad σ F H w Z z => by
  obtain ⟨p, vs, k1, k2, k3, k4, k5, k6, w2⟩ := w.lend h
  refine k B _ σ _ H w2 Z fun d ρ' F' H' q P => ?_
  obtain ⟨rfl, q⟩ := q
  exact z d ρ F H' q (w.back h rfl rfl (same_upd k2) P)
/-- x[k], x an own list -/
theorem ex_ixO {K : PySem.W.Frag} {i : Nat} {es : List D} (h : ρ[i]? = some (.own es)) (k : EX tb ρ fun d ρ2 => ∃ ds j e, ρ2[i]? = some (.own ds) ∧ d = .int j ∧ atI ds j = some e ∧ Q e ρ2) : EX (tOp (rIxA K) (tVar i) tb) ρ Q := fun B ad σ F H w Z z => by
  obtain ⟨p0, _, _, _, k1, _⟩ := w.sl i _ h
  refine ⟨_, k1, k B ad σ F H w _ fun d ρ2 y F2 H2 q2 p2 r2 => ?_⟩
  obtain ⟨ds, j, e, h2, rfl, hj, q⟩ := q2
  obtain ⟨p, vs, _, _, k2, k3, rr⟩ := p2.wa.sl i _ h2
  rw [k1] at k2
  cases k2
  obtain ⟨v, hv, rv⟩ := rr.at_ hj
  exact .inl ⟨_, vs, j, v, rfl, r2.int_inv, .inl (.inl k3), hv, z e ρ2 v F2 H2 q p2 rv⟩
theorem ex_lenO {K : PySem.W.Frag} {i : Nat} {ds : List D} (h : ρ[i]? = some (.own ds)) (q : Q (.int (ds.length : Int)) ρ) : EX (tCB (rLen K) (tCons (tVar i) tNil)) ρ Q := fun B ad σ F H w Z z => by
  obtain ⟨p, vs, _, _, k1, k3, rr⟩ := w.sl i _ h
  exact ⟨_, k1, _, ds.length, rfl, .inl ⟨vs, .inl (.inl k3), rr.len.symm⟩, z _ ρ _ F H q (Post.refl w) (.int _)⟩
end

/-! ### statements -/
structure Po where
  nx : Env → Prop
  rt : D → Env → Prop
  bk : Env → Prop := fun _ => False
  ct : Env → Prop := fun _ => False
def SX (ts : TS) (ρ : Env) (P : Po) : Prop := ∀ B σ F H, W B ρ σ F H → ∀ Dn : Ends, (∀ ρ' σ' F' H', P.nx ρ' → W B ρ' σ' F' H' → Dn.nx σ' H') → (∀ d ρ' σ' v F' H', P.rt d ρ' → W B ρ' σ' F' H' → Rp F' v d → Dn.rt v H') →
  (∀ ρ' σ' F' H', P.bk ρ' → W B ρ' σ' F' H' → Dn.bk σ' H') → (∀ ρ' σ' F' H', P.ct ρ' → W B ρ' σ' F' H' → Dn.ct σ' H') → ts Dn σ H
/-- ρ' knows no more than ρ -/
inductive LeE : Env → Env → Prop
  | nil : LeE [] []
  | emp {s : Slot} {ρ' ρ : Env} : LeE ρ' ρ → LeE (.emp :: ρ') (s :: ρ)
  | eq {s s' : Slot} {ρ' ρ : Env} : s = s' → LeE ρ' ρ → LeE (s :: ρ') (s' :: ρ)
theorem LeE.refl : ∀ ρ, LeE ρ ρ
  | [] => .nil
  | _ :: ρ => .eq rfl (LeE.refl ρ)
theorem LeE.len {ρ' ρ : Env} (h : LeE ρ' ρ) : ρ'.length = ρ.length := by
  induction h with
  | nil => rfl
  | emp _ ih => simp [ih]
  | eq _ _ ih => simp [ih]
theorem LeE.get {ρ' ρ : Env} (h : LeE ρ' ρ) : ∀ {i : Nat} {s : Slot}, ρ'[i]? = some s → s = .emp ∨ ρ[i]? = some s := by
  induction h with
  | nil => intro i s e; simp at e
  | emp _ ih =>
    intro i s e
    cases i with
    | zero => simp at e; exact .inl e.symm
    | succ i => exact ih (by simpa using e)
  | eq q _ ih =>
    intro i s e
    cases i with
    | zero => simp at e; subst e; subst q; exact .inr rfl
    | succ i => exact ih (by simpa using e)
theorem WA.weak {B : Base} {ad : Nat → List Addr} {ρ ρ' : Env} {σ : St} {F H : Hp} (w : WA B ad ρ σ F H) (l : LeE ρ' ρ) : W B ρ' σ F H := by
  refine ⟨fun i => match ρ'[i]? with | some .emp => [] | _ => ad i, w.gr, by rw [l.len]; exact w.len, fun i s e => ?_, fun i p m => ?_, fun i j p m1 m2 => ?_, fun i e => ?_, w.pin.to fun S e => by
    rcases l.get e with h | h
    · cases h
    · exact ⟨⟨S, h⟩, rfl, by
        show (match ρ'[0]? with | some .emp => [] | _ => ad 0) = ad 0
        rw [e]⟩⟩
  · rcases l.get e with h | h
    · subst h
      show (match ρ'[i]? with | some .emp => [] | _ => ad i) = []
      rw [e]
    · have k := w.sl i s h
      show SlotOk B F H s σ[i]? (match ρ'[i]? with | some .emp => [] | _ => ad i)
      rw [e]
      cases s with
      | emp => rfl
      | _ => exact k
  · exact w.fz i p (by
      revert m
      show p ∈ (match ρ'[i]? with | some .emp => [] | _ => ad i) → p ∈ ad i
      split <;> simp)
  · have g : ∀ i, p ∈ (match ρ'[i]? with | some .emp => [] | _ => ad i) → p ∈ ad i := fun i => by split <;> simp
    exact w.dj i j p (g i m1) (g j m2)
  · show (match ρ'[i]? with | some .emp => [] | _ => ad i) = []
    rw [e]
    exact w.out i (by
      rw [List.getElem?_eq_none_iff] at e ⊢
      rw [← l.len]; exact e)
theorem W.weak {B : Base} {ρ ρ' : Env} {σ : St} {F H : Hp} (w : W B ρ σ F H) (l : LeE ρ' ρ) : W B ρ' σ F H := let ⟨_, w⟩ := w; w.weak l
/-- a slot is stored -/
theorem WA.setVal {B : Base} {ad : Nat → List Addr} {ρ : Env} {σ : St} {F H : Hp} (w : WA B ad ρ σ F H) (i : Nat) {d : D} {v : V} (r : Rp F v d) : W B (ρ.set i (.val d)) (σ.set i (some v)) F H := by
  refine ⟨fun k => if k = i then [] else ad k, w.gr, by rw [List.length_set, List.length_set]; exact w.len, fun j s e => ?_, fun j p m => ?_, fun j1 j2 q m1 m2 => ?_, fun j e => ?_, w.pin.to fun S e => by
    rcases get_set e with ⟨_, q⟩ | ⟨hj, e⟩
    · cases q
    · exact ⟨⟨S, e⟩, List.getElem?_set_ne (Ne.symm hj), if_neg hj⟩⟩
  · rcases get_set e with ⟨rfl, rfl⟩ | ⟨hj, e'⟩
    · have hi : j < σ.length := by
        have := (List.getElem?_eq_some_iff.mp e).1
        rw [List.length_set] at this
        rw [w.len]; exact this
      exact ⟨if_pos rfl, v, List.getElem?_set_self hi, r⟩
    · rw [if_neg hj, List.getElem?_set_ne (Ne.symm hj)]
      exact w.sl j s e'
  · by_cases hj : j = i
    · simp [hj] at m
    · simp only [if_neg hj] at m
      exact w.fz j p m
  · by_cases h1 : j1 = i
    · simp [h1] at m1
    · by_cases h2 : j2 = i
      · simp [h2] at m2
      · simp only [if_neg h1] at m1
        simp only [if_neg h2] at m2
        exact w.dj j1 j2 q m1 m2
  · show (if j = i then [] else ad j) = []
    by_cases hj : j = i
    · rw [if_pos hj]
    · rw [if_neg hj]
      exact w.out j (get_set' e)
theorem WA.setOwn {B : Base} {ad : Nat → List Addr} {ρ : Env} {σ : St} {F H : Hp} (w : WA B ad ρ σ F H) (i : Nat) {ds : List D} {p : Addr} {vs : List V} (hF : F p = none) (h0 : B.H0 p = none) (hn : ∀ i, p ∉ ad i) (hp : H p = some (.lst vs)) (r : RpA F vs ds) :
    W B (ρ.set i (.own ds)) (σ.set i (some (.ref p))) F H := by
  refine ⟨fun k => if k = i then (if i < ρ.length then [p] else []) else ad k, w.gr, by rw [List.length_set, List.length_set]; exact w.len, fun j s e => ?_, fun j q m => ?_, fun j1 j2 q m1 m2 => ?_, fun j e => ?_, w.pin.to fun S e => by
    rcases get_set e with ⟨_, q⟩ | ⟨hj, e⟩
    · cases q
    · exact ⟨⟨S, e⟩, List.getElem?_set_ne (Ne.symm hj), if_neg hj⟩⟩
  · rcases get_set e with ⟨rfl, rfl⟩ | ⟨hj, e'⟩
    · have hi : j < ρ.length := by
        have := (List.getElem?_eq_some_iff.mp e).1
        rwa [List.length_set] at this
      exact ⟨p, vs, by rw [if_pos rfl, if_pos hi], h0, List.getElem?_set_self (by rw [w.len]; exact hi), hp, r⟩
    · rw [if_neg hj, List.getElem?_set_ne (Ne.symm hj)]
      exact w.sl j s e'
  · by_cases hj : j = i
    · simp only [if_pos hj] at m
      by_cases hi : i < ρ.length
      · simp only [if_pos hi, List.mem_singleton] at m
        subst m
        exact ⟨hF, .inl h0⟩
      · simp [if_neg hi] at m
    · simp only [if_neg hj] at m
      exact w.fz j q m
  · have g : ∀ j, q ∈ (if j = i then (if i < ρ.length then [p] else []) else ad j) → (j = i ∧ q = p) ∨ (j ≠ i ∧ q ∈ ad j) := fun j m => by
      by_cases hj : j = i
      · simp only [if_pos hj] at m
        by_cases hi : i < ρ.length
        · simp only [if_pos hi, List.mem_singleton] at m
          exact .inl ⟨hj, m⟩
        · simp [if_neg hi] at m
      · simp only [if_neg hj] at m
        exact .inr ⟨hj, m⟩
    rcases g j1 m1 with ⟨a1, b1⟩ | ⟨a1, b1⟩ <;> rcases g j2 m2 with ⟨a2, b2⟩ | ⟨a2, b2⟩
    · rw [a1, a2]
    · exact absurd (b1 ▸ b2) (hn j2)
    · exact absurd (b2 ▸ b1) (hn j1)
    · exact w.dj j1 j2 q b1 b2
  · show (if j = i then (if i < ρ.length then [p] else []) else ad j) = []
    have e' := get_set' e
    by_cases hj : j = i
    · subst hj
      rw [if_pos rfl, if_neg (by rw [List.getElem?_eq_none_iff] at e'; omega)]
    · rw [if_neg hj]
      exact w.out j e'
/-- an own list is changed in place -/
theorem WA.mut {B : Base} {ad : Nat → List Addr} {ρ : Env} {σ : St} {F H : Hp} (w : WA B ad ρ σ F H) {i : Nat} {ds es : List D} {p : Addr} {ws : List V} (h : ρ[i]? = some (.own ds)) (hp : σ[i]? = some (some (.ref p))) (r : RpA F ws es) :
    W B (ρ.set i (.own es)) σ F (upd H p (.lst ws)) := by
  obtain ⟨p', vs, k, k0, k1, k2, _⟩ := w.sl i _ h
  rw [hp] at k1
  cases k1
  have hF : F p = none := (w.fz i p (by rw [k]; simp)).1
  have hn : ∀ j, j ≠ i → p ∉ ad j := fun j hj m => hj (w.dj j i p m (by rw [k]; simp))
  have ne0 : ∀ a o, B.H0 a = some o → a ≠ p := fun a o e z => by rw [z, k0] at e; cases e
  refine ⟨ad, ⟨w.gr.ff, fun a o e => ?_, fun a o e m => ?_, fun a e => ?_, w.gr.fr⟩, by rw [List.length_set]; exact w.len, fun j s e => ?_, w.fz, w.dj, fun j e => w.out j (get_set' e), w.pin.to fun S e => by
    rcases get_set e with ⟨_, q⟩ | ⟨hj, e⟩
    · cases q
    · exact ⟨⟨S, e⟩, rfl, rfl⟩⟩
  · rw [upd_ne (fun z => by rw [z, hF] at e; cases e)]
    exact w.gr.fh a o e
  · rw [upd_ne (ne0 a o e)]
    exact w.gr.kp a o e m
  · by_cases ha : a = p
    · rw [ha, upd_same]; intro z; cases z
    · rw [upd_ne ha]; exact w.gr.al a e
  · rcases get_set e with ⟨rfl, rfl⟩ | ⟨hj, e⟩
    · exact ⟨p, ws, k, k0, hp, upd_same, r⟩
    · have q := w.sl j s e
      cases s with
      | emp => exact q
      | val d => exact q
      | own es =>
        obtain ⟨q, vs, k1, k2, k3, k4, k5⟩ := q
        refine ⟨q, vs, k1, k2, k3, ?_, k5⟩
        rw [upd_ne (fun z => hn j hj (by rw [k1, z]; simp))]
        exact k4
      | st S =>
        obtain ⟨s, k1, q⟩ := q
        refine ⟨s, k1, ?_⟩
        cases S with
        | two a b =>
          refine ⟨q.1, ?_⟩
          rw [upd_ne (fun z => hn j hj (by rw [q.1, z]; simp))]
          exact q.2
        | cel a cs =>
          obtain ⟨c, q1, q2, q3, q4⟩ := q
          refine ⟨c, q1, q2, ?_, ?_⟩
          · rw [upd_ne (fun z => hn j hj (by rw [q1, z]; simp))]
            exact q3
          · rw [upd_ne (fun z => hn j hj (by rw [q1, z]; simp))]
            exact q4

/-! #### the rules for statements -/
section
variable {ρ ρ' : Env} {P : Po} {te ta tb : TE} {tt : TT} {t u : TS}
/-- what follows, perhaps with less known -/
def NX (P : Po) (ρ : Env) : Prop := ∃ ρ', LeE ρ' ρ ∧ P.nx ρ'
theorem nx_same (h : P.nx ρ) : NX P ρ := ⟨ρ, LeE.refl ρ, h⟩
theorem nx_le (l : LeE ρ' ρ) (h : P.nx ρ') : NX P ρ := ⟨ρ', l, h⟩
def CTn (P : Po) (ρ : Env) : Prop := ∃ ρ', LeE ρ' ρ ∧ P.ct ρ'
theorem sx_weak (l : LeE ρ' ρ) (h : SX t ρ' P) : SX t ρ P := fun B σ F H w => h B σ F H (w.weak l)
/-- then u -/
def Po.seq (P : Po) (u : TS) : Po := { P with nx := fun ρ' => SX u ρ' P }
theorem nx_seq (h : SX u ρ P) : NX (P.seq u) ρ := nx_same h
theorem nx_seqw (l : LeE ρ' ρ) (h : SX u ρ' P) : NX (P.seq u) ρ := nx_le l h
theorem sx_seq (h : SX t ρ (P.seq u)) : SX (tSeq t u) ρ P := fun B σ F H w Dn n r b c =>
  h B σ F H w { Dn with nx := u Dn } (fun ρ' σ' F' H' q w' => q B σ' F' H' w' Dn n r b c) r b c
theorem sx_next (h : NX P ρ) : SX tNext ρ P := fun B σ F H w Dn n r b c => let ⟨ρ', l, q⟩ := h; n ρ' σ F H q (w.weak l)
theorem sx_asg {i : Nat} (h : EX te ρ fun d ρ1 => NX P (ρ1.set i (.val d))) : SX (tAsg te (gName i)) ρ P := fun B σ F H w Dn n r b c => by
  obtain ⟨ad, w⟩ := w
  exact h B ad σ F H w _ fun d ρ1 v F1 H1 q p rv => let ⟨ρ', l, q⟩ := q; n ρ' _ F1 H1 q ((p.wa.setVal i rv).weak l)
theorem sx_asgO {i : Nat} (h : EO te ρ fun ds ρ1 => NX P (ρ1.set i (.own ds))) : SX (tAsg te (gName i)) ρ P := fun B σ F H w Dn n r b c => by
  obtain ⟨ad, w⟩ := w
  refine h B ad σ F H w _ fun ds ρ1 p vs F1 H1 q P hF hH hp rv => ?_
  obtain ⟨ρ', l, q⟩ := q
  have k := w.newp hH
  exact n ρ' _ F1 H1 q ((P.wa.setOwn i hF k.2.1 k.2.2 hp rv).weak l)
theorem sx_if (h : ET tt ρ fun b ρ1 => (b = true → SX t ρ1 P) ∧ (b = false → SX u ρ1 P)) : SX (tIfS tt t u) ρ P := fun B σ F H w Dn n r bk c => by
  obtain ⟨ad, w⟩ := w
  refine h B ad σ F H w _ fun b ρ1 F1 H1 q p => ?_
  cases b with
  | true =>
    show t Dn σ H1
    exact q.1 rfl B σ F1 H1 ⟨ad, p.wa⟩ Dn n r bk c
  | false =>
    show u Dn σ H1
    exact q.2 rfl B σ F1 H1 ⟨ad, p.wa⟩ Dn n r bk c
theorem sx_ret (h : EX te ρ fun d ρ1 => P.rt d ρ1) : SX (tRet te) ρ P := fun B σ F H w Dn n r b c => by
  obtain ⟨ad, w⟩ := w
  exact h B ad σ F H w _ fun d ρ1 v F1 H1 q p rv => r d ρ1 σ v F1 H1 q ⟨ad, p.wa⟩ rv
theorem sx_retN (h : P.rt .none ρ) : SX tRetN ρ P := fun B σ F H w Dn n r b c => r .none ρ σ .non F H h w .non
theorem sx_brk (h : P.bk ρ) : SX tBreak ρ P := fun B σ F H w Dn n r b c => b ρ σ F H h w
theorem sx_cont (h : CTn P ρ) : SX tCont ρ P := fun B σ F H w Dn n r b c => let ⟨ρ', l, q⟩ := h; c ρ' σ F H q (w.weak l)
theorem sx_drop (h : EX te ρ fun _ ρ1 => NX P ρ1) : SX (tDrop te) ρ P := fun B σ F H w Dn n r b c => by
  obtain ⟨ad, w⟩ := w
  exact h B ad σ F H w _ fun d ρ1 v F1 H1 q p rv => let ⟨ρ', l, q⟩ := q; n ρ' σ F1 H1 q (p.wa.weak l)
theorem W.freeze {B : Base} {σ : St} {F H : Hp} (w : W B ρ σ F H) {i : Nat} {ds : List D} (h : ρ[i]? = some (.own ds)) : ∃ F', W B (ρ.set i (.val (.list ds))) σ F' H := by
  obtain ⟨ad, w⟩ := w
  obtain ⟨p, vs, _, _, _, _, _, _, w2⟩ := w.lend h
  exact ⟨_, _, w2⟩
theorem sx_freeze (i : Nat) {ds : List D} (h : ρ[i]? = some (.own ds)) (k : SX t (ρ.set i (.val (.list ds))) P) : SX t ρ P := fun B σ F H w => by
  obtain ⟨F', w2⟩ := w.freeze h
  exact k B σ F' H w2
/-- x.append(e), x an own list -/
theorem sx_app {K : PySem.W.Frag} {i : Nat} {es : List D} (h : ρ[i]? = some (.own es)) (k : EX te ρ fun d ρ1 => ∃ ds, ρ1[i]? = some (.own ds) ∧ ds.length < 1000000 ∧ NX P (ρ1.set i (.own (ds ++ [d])))) : SX (tDrop (tBM K "list" rAppend (tVar i) (tCons te tNil))) ρ P := fun B σ F H w Dn n r b c => by
  obtain ⟨ad, w⟩ := w
  obtain ⟨p0, vs0, _, _, k1, k0, _⟩ := w.sl i _ h
  refine ⟨_, k1, .inl ⟨rfl, _, .inl (.inl k0)⟩, k B ad σ F H w _ fun d ρ1 v F1 H1 q1 p1 r1 => ?_⟩
  obtain ⟨ds, h1, hz, ρ', l, q⟩ := q1
  obtain ⟨p, vs, _, _, k2, k3, rr⟩ := p1.wa.sl i _ h1
  have e := k1.symm.trans k2
  cases e
  exact ⟨_, vs, v, rfl, rfl, k3, Nat.lt_of_lt_of_le (by rw [rr.len]; exact hz) (by decide), n ρ' σ F1 _ q ((p1.wa.mut h1 k2 (rr.app (.cons r1 .nil))).weak l)⟩
/-- x[j] = e, x an own list -/
theorem sx_setO {i : Nat} {es : List D} (h : EX te ρ fun d ρ1 => ρ1[i]? = some (.own es) ∧ EX tb ρ1 fun j ρ2 => ∃ ds k m, ρ2[i]? = some (.own ds) ∧ j = .int k ∧ ixN ds.length k = some m ∧ NX P (ρ2.set i (.own (ds.set m d)))) : SX (tAsg te (gSub (tVar i) tb rSetL)) ρ P := fun B σ F H w Dn n r b c => by
  obtain ⟨ad, w⟩ := w
  refine h B ad σ F H w _ fun d ρ1 v F1 H1 q1 p1 r1 => ?_
  obtain ⟨h1, q1⟩ := q1
  obtain ⟨p0, vs0, _, _, k1, k0, _⟩ := p1.wa.sl i _ h1
  refine ⟨_, k1, q1 B ad σ F1 H1 p1.wa _ fun j ρ2 y F2 H2 q2 p2 r2 => ?_⟩
  obtain ⟨ds, k, m, h2, rfl, hm, ρ', l, q⟩ := q2
  obtain ⟨p, vs, _, _, k2, k3, rr⟩ := p2.wa.sl i _ h2
  have e := k1.symm.trans k2
  cases e
  exact ⟨_, vs, k, m, rfl, r2.int_inv, k3, by rw [rr.len]; exact hm, n ρ' σ F2 _ q ((p2.wa.mut h2 k2 (rr.set m (r1.up p2.gr.ff))).weak l)⟩
/-- a, b = e, f -/
theorem sx_par {i j : Nat} {t : TA} (h : EA t ρ fun ds ρ1 => ∃ d e, ds = [d, e] ∧ NX P ((ρ1.set i (.val d)).set j (.val e))) : SX (tPar i j t) ρ P := fun B σ F H w Dn n r b c => by
  obtain ⟨ad, w⟩ := w
  refine h B ad σ F H w _ fun ds ρ1 vs F1 H1 q p rv => ?_
  obtain ⟨d, e, rfl, ρ', l, q⟩ := q
  obtain ⟨v, u, rfl, r1, r2⟩ := rv.two
  obtain ⟨ad2, w2⟩ := p.wa.setVal i r1
  exact ⟨v, u, rfl, n ρ' _ F1 H1 q ((w2.setVal j r2).weak l)⟩
/-! targets -/
def SG (J : List Nat) (g : TG) (d : D) (ρ : Env) (Qn : Env → Prop) : Prop := ∀ B ad σ F H v, WA B ad ρ σ F H → (∀ j ∈ J, ad j = []) → Rp F v d → ∀ Z : St → Hp → Prop, (∀ ρ' σ', Qn ρ' → WA B ad ρ' σ' F H → wipe σ' J = wipe σ J → (∀ i, i ∉ J → ρ'[i]? = ρ[i]?) → Z σ' H) → g v σ H Z
def SGs (J : List Nat) (g : TGs) (ds : List D) (ρ : Env) (Qn : Env → Prop) : Prop := ∀ B ad σ F H vs, WA B ad ρ σ F H → (∀ j ∈ J, ad j = []) → RpA F vs ds → ∀ Z : St → Hp → Prop, (∀ ρ' σ', Qn ρ' → WA B ad ρ' σ' F H → wipe σ' J = wipe σ J → (∀ i, i ∉ J → ρ'[i]? = ρ[i]?) → Z σ' H) → g vs σ H Z
theorem wipe_get {σ : St} {i : Nat} : ∀ {vs : List Nat}, (wipe σ vs)[i]? = if i ∈ vs ∧ i < σ.length then some none else σ[i]?
  | [] => by simp [wipe]
  | v :: vs => by
    unfold wipe
    by_cases h : i = v
    · subst h
      by_cases hl : i < σ.length
      · rw [List.getElem?_set_self (by rw [wipe_length]; exact hl)]
        simp [hl]
      · rw [List.getElem?_eq_none (by rw [List.length_set, wipe_length]; omega)]
        simp [hl]
    · rw [List.getElem?_set_ne (Ne.symm h), wipe_get]
      simp [h]
theorem wipe_set {σ : St} {i : Nat} {x : Option V} {J : List Nat} (h : i ∈ J) : wipe (σ.set i x) J = wipe σ J := by
  apply List.ext_getElem?
  intro k
  rw [wipe_get, wipe_get, List.length_set]
  by_cases hk : k ∈ J ∧ k < σ.length
  · rw [if_pos hk, if_pos hk]
  · rw [if_neg hk, if_neg hk]
    by_cases e : k = i
    · subst e
      have : ¬ k < σ.length := fun z => hk ⟨h, z⟩
      rw [List.getElem?_eq_none (by rw [List.length_set]; omega), List.getElem?_eq_none (by omega)]
    · rw [List.getElem?_set_ne (Ne.symm e)]
theorem WA.setVal' {B : Base} {ad : Nat → List Addr} {σ : St} {F H : Hp} (w : WA B ad ρ σ F H) (i : Nat) (hi : ad i = []) {d : D} {v : V} (r : Rp F v d) : WA B ad (ρ.set i (.val d)) (σ.set i (some v)) F H := by
  refine ⟨w.gr, by rw [List.length_set, List.length_set]; exact w.len, fun j s e => ?_, w.fz, w.dj, fun j e => w.out j (get_set' e), w.pin.to fun S e => by
    rcases get_set e with ⟨_, q⟩ | ⟨hj, e⟩
    · cases q
    · exact ⟨⟨S, e⟩, List.getElem?_set_ne (Ne.symm hj), rfl⟩⟩
  rcases get_set e with ⟨rfl, rfl⟩ | ⟨hj, e'⟩
  · have hl : j < σ.length := by
      have := (List.getElem?_eq_some_iff.mp e).1
      rw [List.length_set] at this
      rw [w.len]; exact this
    exact ⟨hi, v, List.getElem?_set_self hl, r⟩
  · rw [List.getElem?_set_ne (Ne.symm hj)]
    exact w.sl j s e'
theorem sg_name {J : List Nat} {i : Nat} {d : D} {Qn : Env → Prop} (hj : i ∈ J) (q : Qn (ρ.set i (.val d))) : SG J (gName i) d ρ Qn := fun B ad σ F H v w hJ r Z z => z _ _ q (w.setVal' i (hJ i hj) r) (wipe_set hj) fun k hk => List.getElem?_set_ne fun e => hk (by rw [← e]; exact hj)
theorem sgs_nil {J : List Nat} {Qn : Env → Prop} (q : Qn ρ) : SGs J gNil [] ρ Qn := fun B ad σ F H vs w hJ r Z z => by
  cases r
  exact ⟨rfl, z ρ σ q w rfl fun _ _ => rfl⟩
theorem sgs_cons {J : List Nat} {g : TG} {gs : TGs} {d : D} {ds : List D} {Qn : Env → Prop} (h : SG J g d ρ fun ρ1 => SGs J gs ds ρ1 Qn) : SGs J (gCons g gs) (d :: ds) ρ Qn := fun B ad σ F H vs w hJ r Z z => by
  cases r with
  | cons r1 r2 =>
    exact ⟨_, _, rfl, h B ad σ F H _ w hJ r1 _ fun ρ1 σ1 q w1 e1 f1 => q B ad σ1 F H _ w1 hJ r2 Z fun ρ2 σ2 q w2 e2 f2 => z ρ2 σ2 q w2 (e2.trans e1) fun i hi => (f2 i hi).trans (f1 i hi)⟩
theorem sg_tup {K : PySem.W.Frag} {J : List Nat} {n : Nat} {gs : TGs} {ds : List D} {Qn : Env → Prop} (hn : ds.length = n) (h : SGs J gs ds ρ Qn) : SG J (gTup K n gs) (.tuple ds) ρ Qn := fun B ad σ F H v w hJ r Z z => by
  obtain ⟨a, xs, rfl, h1, h2⟩ := r.tup_inv
  exact ⟨a, xs, rfl, sqT_rd h1 w.gr.fh, h2.len.trans hn, h B ad σ F H xs w hJ h2 Z z⟩
/-- the slots at vs forgotten -/
def wipeE (ρ : Env) (vs : List Nat) : Env := vs.foldl (fun r v => r.set v .emp) ρ
theorem wipeE_len (ρ : Env) (vs : List Nat) : (wipeE ρ vs).length = ρ.length := by
  unfold wipeE
  induction vs generalizing ρ with
  | nil => rfl
  | cons v vs ih => rw [List.foldl_cons, ih, List.length_set]
theorem wipeE_get : ∀ {vs : List Nat} {ρ : Env} {i : Nat}, (wipeE ρ vs)[i]? = if i ∈ vs ∧ i < ρ.length then some .emp else ρ[i]?
  | [], ρ, i => by simp [wipeE]
  | v :: vs, ρ, i => by
    have e : wipeE ρ (v :: vs) = wipeE (ρ.set v .emp) vs := rfl
    rw [e, wipeE_get, List.length_set]
    by_cases h : i ∈ vs ∧ i < ρ.length
    · rw [if_pos h, if_pos ⟨List.mem_cons_of_mem _ h.1, h.2⟩]
    · rw [if_neg h]
      by_cases hv : i = v
      · subst hv
        by_cases hl : i < ρ.length
        · rw [List.getElem?_set_self hl, if_pos ⟨by simp, hl⟩]
        · rw [List.getElem?_eq_none (by rw [List.length_set]; omega), if_neg (fun z => hl z.2), List.getElem?_eq_none (by omega)]
      · rw [List.getElem?_set_ne (Ne.symm hv)]
        rw [if_neg (fun z => h ⟨(List.mem_cons.mp z.1).resolve_left hv, z.2⟩)]
theorem WA.weakJ {B : Base} {ad : Nat → List Addr} {σ : St} {F H : Hp} (w : WA B ad ρ σ F H) (J : List Nat) : WA B (fun k => if k ∈ J then [] else ad k) (wipeE ρ J) σ F H := by
  have g : ∀ i p, p ∈ (if i ∈ J then [] else ad i) → p ∈ ad i := fun i p m => by
    by_cases h : i ∈ J
    · rw [if_pos h] at m; cases m
    · rw [if_neg h] at m; exact m
  refine ⟨w.gr, by rw [wipeE_len]; exact w.len, fun i s e => ?_, fun i p m => w.fz i p (g i p m), fun i j p m1 m2 => w.dj i j p (g i p m1) (g j p m2), fun i e => ?_, w.pin.to fun S e => by
    rw [wipeE_get] at e
    by_cases h : 0 ∈ J ∧ 0 < ρ.length
    · rw [if_pos h] at e; cases e
    · rw [if_neg h] at e
      have hi : 0 < ρ.length := (List.getElem?_eq_some_iff.mp e).1
      exact ⟨⟨S, e⟩, rfl, if_neg fun z => h ⟨z, hi⟩⟩⟩
  · rw [wipeE_get] at e
    by_cases h : i ∈ J ∧ i < ρ.length
    · rw [if_pos h] at e
      cases e
      exact if_pos h.1
    · rw [if_neg h] at e
      have hi : i < ρ.length := (List.getElem?_eq_some_iff.mp e).1
      have hJ : i ∉ J := fun z => h ⟨z, hi⟩
      simp only [if_neg hJ]
      exact w.sl i s e
  · rw [wipeE_get] at e
    by_cases hJ : i ∈ J
    · exact if_pos hJ
    · show (if i ∈ J then [] else ad i) = []
      rw [if_neg hJ]
      rw [if_neg (fun z => hJ z.1)] at e
      exact w.out i e
theorem sg_go {B : Base} {ad : Nat → List Addr} {σ : St} {F H : Hp} {J : List Nat} {g : TG} {d : D} {v : V} {Qn : Env → Prop} (h : SG J g d (wipeE ρ J) Qn) (w : WA B ad ρ σ F H) (r : Rp F v d) (Z : St → Hp → Prop) (z : ∀ ρ' σ', Qn ρ' → W B ρ' σ' F H → Z σ' H) : g v σ H Z :=
  h B _ σ F H v (w.weakJ J) (fun j hj => if_pos hj) r Z fun ρ' σ' q w' _ _ => z ρ' σ' q ⟨_, w'⟩
/-- (a, b) = e by a target -/
theorem sx_asgT {J : List Nat} {g : TG} (h : EX te ρ fun d ρ1 => SG J g d (wipeE ρ1 J) fun ρ2 => NX P ρ2) : SX (tAsg te g) ρ P := fun B σ F H w Dn n r b c => by
  obtain ⟨ad, w⟩ := w
  exact h B ad σ F H w _ fun d ρ1 v F1 H1 q p rv => sg_go q p.wa rv _ fun ρ2 σ2 q w2 => let ⟨ρ', l, q⟩ := q; n ρ' σ2 F1 H1 q (w2.weak l)
/-! loops -/
structure ItD (J : It) (F : Hp) (ds : List D) : Prop where
  go : ∀ i H, Same F H → i < ds.length → J.go i H
  stop : ∀ i H, Same F H → ds.length ≤ i → J.stop i H
  yld : ∀ i H x H' F1, Same F F1 → Same F1 H → J.yld i H x H' → i < ds.length → ∃ d F2, ds[i]? = some d ∧ Gr Non F1 H F2 H' ∧ Rp F2 x d
/-- what is walked -/
def EI (wi : TI) (ρ : Env) (Q : List D → Env → Prop) : Prop := ∀ B ad σ F H, WA B ad ρ σ F H → ∀ R : It → Hp → Prop, (∀ ds ρ' J F' H', Q ds ρ' → Post B ad σ ρ F H ρ' F' H' → ItD J F' ds → R J H') → wi σ H R
theorem W.rebase {B : Base} {σ : St} {F H : Hp} (w : W B ρ σ F H) : W { F0 := F, H0 := B.H0, M := B.M, pin := B.pin } ρ σ F H := by
  obtain ⟨ad, w⟩ := w
  refine ⟨ad, ⟨Same.refl F, w.gr.fh, w.gr.kp, w.gr.al, fun _ _ z => z⟩, w.len, fun i s e => ?_, w.fz, w.dj, w.out, w.pin⟩
  have k := w.sl i s e
  cases s <;> exact k
theorem W.unbase {B : Base} {σ σ' : St} {F H F' H' : Hp} (w : W B ρ σ F H) (w' : W { F0 := F, H0 := B.H0, M := B.M, pin := B.pin } ρ' σ' F' H') : W B ρ' σ' F' H' ∧ Same F F' := by
  obtain ⟨ad, w⟩ := w
  obtain ⟨ad', w'⟩ := w'
  refine ⟨⟨ad', ⟨w.gr.ff.trans w'.gr.ff, w'.gr.fh, w'.gr.kp, w'.gr.al, fun a e z => w'.gr.fr a e (w.gr.fr a e z)⟩, w'.len, fun i s e => ?_, w'.fz, w'.dj, w'.out, w'.pin⟩, w'.gr.ff⟩
  have k := w'.sl i s e
  cases s <;> exact k
theorem sx_for {wi : TI} {J : List Nat} {g : TG} (h : EI wi ρ fun ds ρ1 => ∃ I : Nat → Env → Prop, I 0 ρ1 ∧ (∀ k d ρ', ds[k]? = some d → I k ρ' → SG J g d (wipeE ρ' J) fun ρ2 => SX t ρ2 { nx := I (k + 1), ct := I (k + 1), bk := NX P, rt := P.rt }) ∧ ∀ ρ', I ds.length ρ' → NX P ρ') :
    SX (tFor wi g t) ρ P := fun B σ F H w Dn n r b c => by
  obtain ⟨ad, w⟩ := w
  refine h B ad σ F H w _ fun ds ρ1 J F1 H1 q1 p1 it => ?_
  obtain ⟨I, i0, turn, done⟩ := q1
  refine ⟨fun i m σ' H' => m = ds.length - i ∧ i ≤ ds.length ∧ ∃ ρ' F', I i ρ' ∧ W B ρ' σ' F' H' ∧ Same F1 F', ⟨_, rfl, Nat.zero_le _, ρ1, F1, i0, ⟨ad, p1.wa⟩, Same.refl _⟩, ?_⟩
  rintro i m σ' H' ⟨rfl, hi, ρ', F', iv, ⟨ad', w'⟩, sf⟩
  by_cases hlt : i < ds.length
  · refine .inr ⟨it.go i H' (sf.trans w'.gr.fh) hlt, fun σ2 H2 => ∃ ρ2 F2, I (i + 1) ρ2 ∧ W B ρ2 σ2 F2 H2 ∧ Same F1 F2, fun σ2 H2 ⟨ρ2, F2, a, b, c⟩ => ⟨ds.length - (i + 1), by omega, rfl, hlt, ρ2, F2, a, b, c⟩, fun x H2 y => ?_⟩
    obtain ⟨d, F2, e, gr, rx⟩ := it.yld i H' x H2 F' sf w'.gr.fh y hlt
    refine sg_go (turn i d ρ' e iv) (w'.grow gr) rx _ fun ρ2 σ2 q w2 => ?_
    exact q _ σ2 F2 H2 w2.rebase _ (fun ρ3 σ3 F3 H3 q3 w3 => let k := w2.unbase w3; ⟨ρ3, F3, q3, k.1, (sf.trans gr.ff).trans k.2⟩) (fun d ρ3 σ3 v F3 H3 q3 w3 rv => r d ρ3 σ3 v F3 H3 q3 (w2.unbase w3).1 rv) (fun ρ3 σ3 F3 H3 q3 w3 => let ⟨ρ4, l, q4⟩ := q3; n ρ4 σ3 F3 H3 q4 ((w2.unbase w3).1.weak l)) (fun ρ3 σ3 F3 H3 q3 w3 => let k := w2.unbase w3; ⟨ρ3, F3, q3, k.1, (sf.trans gr.ff).trans k.2⟩)
  · have e : i = ds.length := by omega
    subst e
    obtain ⟨ρ2, l, q⟩ := done ρ' iv
    exact .inl ⟨it.stop _ H' (sf.trans w'.gr.fh) (Nat.le_refl _), n ρ2 σ' F' H' q (w'.weak l)⟩
theorem sx_while (I : Nat → Env → Prop) (m0 : Nat) (i0 : I m0 ρ) (h : ∀ m ρ', I m ρ' → ET tt ρ' fun b ρ1 => (b = true → SX t ρ1 { nx := fun ρ2 => ∃ m', m' < m ∧ I m' ρ2, ct := fun ρ2 => ∃ m', m' < m ∧ I m' ρ2, bk := NX P, rt := P.rt }) ∧ (b = false → NX P ρ1)) : SX (tWhile tt t) ρ P := fun B σ F H w Dn n r b c => by
  refine ⟨fun m σ' H' => ∃ ρ' F', I m ρ' ∧ W B ρ' σ' F' H', ⟨m0, ρ, F, i0, w⟩, ?_⟩
  rintro m σ' H' ⟨ρ', F', iv, ⟨ad, w'⟩⟩
  refine h m ρ' iv B ad σ' F' H' w' _ fun b1 ρ1 F1 H1 q p => ?_
  cases b1 with
  | true =>
    refine ⟨fun σ2 H2 => ∃ m' ρ2 F2, m' < m ∧ I m' ρ2 ∧ W B ρ2 σ2 F2 H2, fun σ2 H2 ⟨m', ρ2, F2, a, b, c⟩ => ⟨m', a, ρ2, F2, b, c⟩, ?_⟩
    exact q.1 rfl B σ' F1 H1 ⟨ad, p.wa⟩ _ (fun ρ3 σ3 F3 H3 q3 w3 => let ⟨m', a, b⟩ := q3; ⟨m', ρ3, F3, a, b, w3⟩) r (fun ρ3 σ3 F3 H3 q3 w3 => let ⟨ρ4, l, q4⟩ := q3; n ρ4 σ3 F3 H3 q4 (w3.weak l)) (fun ρ3 σ3 F3 H3 q3 w3 => let ⟨m', a, b⟩ := q3; ⟨m', ρ3, F3, a, b, w3⟩)
  | false =>
    show Dn.nx σ' H1
    obtain ⟨ρ2, l, q2⟩ := q.2 rfl
    exact n ρ2 σ' F1 H1 q2 (W.weak ⟨ad, p.wa⟩ l)
/-! what is walked -/
theorem ei_list {K : PySem.W.Frag} {Q : List D → Env → Prop} (h : EX te ρ fun d ρ1 => ∃ ds, d = .list ds ∧ Q ds ρ1) : EI (iList K te) ρ Q := fun B ad σ F H w R z =>
  h B ad σ F H w _ fun d ρ1 v F1 H1 q p r => by
    obtain ⟨ds, rfl, q⟩ := q
    obtain ⟨a, xs, rfl, h1, h2⟩ := r.lst_inv
    refine ⟨a, rfl, ⟨xs, sqL_rd h1 p.wa.gr.fh⟩, z ds ρ1 _ F1 H1 q p ⟨fun i H' e hi => ⟨xs, xs[i]'(by rw [h2.len]; exact hi), sqL_rd h1 e, by simp⟩, fun i H' e hi => ⟨xs, sqL_rd h1 e, by rw [h2.len]; exact hi⟩, fun i H' x H2 F2 e1 e2 y hi => ?_⟩⟩
    obtain ⟨rfl, y⟩ := y
    obtain ⟨d, hd, rd⟩ := h2.get' (y xs (sqL_rd h1 (e1.trans e2)))
    exact ⟨d, F2, hd, Gr.refl e2, rd.up e1⟩
theorem ei_tup {K : PySem.W.Frag} {Q : List D → Env → Prop} (h : EX te ρ fun d ρ1 => ∃ ds, d = .tuple ds ∧ Q ds ρ1) : EI (iTup K te) ρ Q := fun B ad σ F H w R z =>
  h B ad σ F H w _ fun d ρ1 v F1 H1 q p r => by
    obtain ⟨ds, rfl, q⟩ := q
    obtain ⟨a, xs, rfl, h1, h2⟩ := r.tup_inv
    refine ⟨a, rfl, ⟨xs, sqT_rd h1 p.wa.gr.fh⟩, z ds ρ1 _ F1 H1 q p ⟨fun i H' e hi => ⟨xs, xs[i]'(by rw [h2.len]; exact hi), sqT_rd h1 e, by simp⟩, fun i H' e hi => ⟨xs, sqT_rd h1 e, by rw [h2.len]; exact hi⟩, fun i H' x H2 F2 e1 e2 y hi => ?_⟩⟩
    obtain ⟨rfl, y⟩ := y
    obtain ⟨d, hd, rd⟩ := h2.get' (y xs (sqT_rd h1 (e1.trans e2)))
    exact ⟨d, F2, hd, Gr.refl e2, rd.up e1⟩
/-- lo, lo + 1, .., n of them -/
def rngI (lo : Int) (n : Nat) : List Int := (List.range n).map fun k : Nat => lo + (k : Int)
theorem rngI_len (lo : Int) (n : Nat) : (rngI lo n).length = n := by simp [rngI]
theorem rngI_get {lo : Int} {n k : Nat} (h : k < n) : (rngI lo n)[k]? = some (lo + (k : Int)) := by simp [rngI, h]
theorem rngI_mem {lo x : Int} {n : Nat} : x ∈ rngI lo n ↔ lo ≤ x ∧ x < lo + (n : Int) := by
  unfold rngI
  rw [List.mem_map]
  constructor
  · rintro ⟨k, hk, rfl⟩
    rw [List.mem_range] at hk
    omega
  · intro h
    exact ⟨(x - lo).toNat, by rw [List.mem_range]; omega, by omega⟩
theorem itd_rng {F : Hp} (lo : Int) (n : Nat) : ItD (Itr lo n) F ((rngI lo n).map .int) where
  go := fun i H _ h => by rw [List.length_map, rngI_len] at h; exact h
  stop := fun i H _ h => by rw [List.length_map, rngI_len] at h; exact h
  yld := fun i H x H' F1 _ e2 y h => by
    rw [List.length_map, rngI_len] at h
    obtain ⟨rfl, rfl⟩ := y
    exact ⟨.int (lo + (i : Int)), F1, by rw [List.getElem?_map, rngI_get h]; rfl, Gr.refl e2, .int _⟩
theorem ei_rng1 {t : TA} {Q : List D → Env → Prop} (h : EA t ρ fun ds ρ1 => ∃ n, ds = [.int n] ∧ (-1000000000000 ≤ n ∧ n ≤ 1000000000000) ∧ Q ((rngI 0 n.toNat).map .int) ρ1) : EI (iRng1 t) ρ Q := fun B ad σ F H w R z =>
  h B ad σ F H w _ fun ds ρ1 vs F1 H1 q p r => by
    obtain ⟨n, rfl, ⟨hn1, hn2⟩, q⟩ := q
    obtain ⟨v, rfl, rv⟩ := r.one
    exact ⟨n, by rw [rv.int_inv], by omega, by omega, z _ ρ1 _ F1 H1 q p (itd_rng 0 _)⟩
theorem ei_rng2 {t : TA} {Q : List D → Env → Prop} (h : EA t ρ fun ds ρ1 => ∃ l n, ds = [.int l, .int n] ∧ (-1000000000000 ≤ l ∧ l ≤ 1000000000000 ∧ -1000000000000 ≤ n ∧ n ≤ 1000000000000) ∧ Q ((rngI l (n - l).toNat).map .int) ρ1) : EI (iRng2 t) ρ Q := fun B ad σ F H w R z =>
  h B ad σ F H w _ fun ds ρ1 vs F1 H1 q p r => by
    obtain ⟨l, n, rfl, ⟨hl1, hl2, hn1, hn2⟩, q⟩ := q
    obtain ⟨v, u, rfl, rv, ru⟩ := r.two
    exact ⟨l, n, by rw [rv.int_inv, ru.int_inv], ⟨by omega, by omega, by omega, by omega⟩, z _ ρ1 _ F1 H1 q p (itd_rng l _)⟩
/-- enumerate: pairs (index, item) -/
def enumD (k : Nat) : List D → List D
  | [] => []
  | d :: ds => .tuple [.int (k : Int), d] :: enumD (k + 1) ds
theorem enumD_len : ∀ (ds : List D) (k : Nat), (enumD k ds).length = ds.length
  | [], _ => rfl
  | d :: ds, k => by simp [enumD, enumD_len ds]
theorem enumD_get : ∀ (ds : List D) (k i : Nat) {d : D}, ds[i]? = some d → (enumD k ds)[i]? = some (.tuple [.int ((k + i : Nat) : Int), d])
  | [], _, i, _, h => by simp at h
  | e :: ds, k, 0, d, h => by simp at h; subst h; rfl
  | e :: ds, k, i + 1, d, h => by
    have q := enumD_get ds (k + 1) i (by simpa using h)
    show (enumD (k + 1) ds)[i]? = _
    rw [q, show k + 1 + i = k + (i + 1) by omega]
theorem ei_enum {K : PySem.W.Frag} {t : TA} {Q : List D → Env → Prop} (h : EA t ρ fun es ρ1 => ∃ ds, es = [.list ds] ∧ Q (enumD 0 ds) ρ1) : EI (iEnum K t) ρ Q := fun B ad σ F H w R z =>
  h B ad σ F H w _ fun es ρ1 vs F1 H1 q p r => by
    obtain ⟨ds, rfl, q⟩ := q
    obtain ⟨v, rfl, rv⟩ := r.one
    obtain ⟨a, xs, rfl, h1, h2⟩ := rv.lst_inv
    refine ⟨a, xs, rfl, sqL_rd h1 p.wa.gr.fh, z _ ρ1 _ F1 H1 q p ⟨fun i H' e hi => ?_, fun i H' e hi => ?_, fun i H' x H2 F2 e1 e2 y hi => ?_⟩⟩
    · rw [enumD_len] at hi
      exact ⟨xs, xs[i]'(by rw [h2.len]; exact hi), sqL_rd h1 e, by simp⟩
    · rw [enumD_len] at hi
      exact ⟨xs, sqL_rd h1 e, by rw [h2.len]; exact hi⟩
    · obtain ⟨T, x, rfl, hT, rfl, y⟩ := y
      obtain ⟨d, hd, rd⟩ := h2.get' (y xs (sqL_rd h1 (e1.trans e2)))
      have g := Gr.new (o := .tup [.int (i : Nat), x]) e2 hT
      refine ⟨_, upd F2 T (.tup [.int (i : Nat), x]), enumD_get ds 0 i hd, g, .tup upd_same (.cons ?_ (.cons ((rd.up e1).up g.ff) .nil))⟩
      rw [Nat.zero_add]
      exact .int _
theorem ei_zip {K : PySem.W.Frag} {t : TA} {Q : List D → Env → Prop} (h : EA t ρ fun es ρ1 => ∃ ds fs, es = [.list ds, .list fs] ∧ Q (List.zipWith (fun d f => PyData.tuple [d, f]) ds fs) ρ1) : EI (iZip K t) ρ Q := fun B ad σ F H w R z =>
  h B ad σ F H w _ fun es ρ1 vs F1 H1 q p r => by
    obtain ⟨ds, fs, rfl, q⟩ := q
    obtain ⟨v, u, rfl, rv, ru⟩ := r.two
    obtain ⟨a, xs, rfl, h1, h2⟩ := rv.lst_inv
    obtain ⟨b, ys, rfl, g1, g2⟩ := ru.lst_inv
    refine ⟨a, b, xs, ys, rfl, sqL_rd h1 p.wa.gr.fh, sqL_rd g1 p.wa.gr.fh, z _ ρ1 _ F1 H1 q p ⟨fun i H' e hi => ?_, fun i H' e hi => ?_, fun i H' x H2 F2 e1 e2 y hi => ?_⟩⟩
    · rw [List.length_zipWith] at hi
      exact ⟨xs, ys, xs[i]'(by rw [h2.len]; omega), ys[i]'(by rw [g2.len]; omega), sqL_rd h1 e, sqL_rd g1 e, by simp, by simp⟩
    · rw [List.length_zipWith] at hi
      exact ⟨xs, ys, sqL_rd h1 e, sqL_rd g1 e, by rw [h2.len, g2.len]; omega⟩
    · obtain ⟨T, x, y', rfl, hT, rfl, y1, y2⟩ := y
      obtain ⟨d, hd, rd⟩ := h2.get' (y1 xs (sqL_rd h1 (e1.trans e2)))
      obtain ⟨f, hf, rf⟩ := g2.get' (y2 ys (sqL_rd g1 (e1.trans e2)))
      have g := Gr.new (o := .tup [x, y']) e2 hT
      exact ⟨_, upd F2 T (.tup [x, y']), by rw [List.getElem?_zipWith, hd, hf], g, .tup upd_same (.cons ((rd.up e1).up g.ff) (.cons ((rf.up e1).up g.ff) .nil))⟩
end

/-! ### comprehensions -/
section
variable {ρ ρ' : Env} {te : TE} {tt : TT} {wi : TI} {g : TG}
/-- vs's slots as in the first, the others as in the second -/
def unwA : Nat → List Nat → Env → Env → Env
  | k, vs, a :: ρ, b :: ρ' => (if vs.contains k = true then a else b) :: unwA (k + 1) vs ρ ρ'
  | _, _, _, _ => []
abbrev unw (vs : List Nat) (ρ ρ' : Env) : Env := unwA 0 vs ρ ρ'
theorem unwA_len : ∀ {k : Nat} {vs : List Nat} {ρ ρ' : Env}, ρ'.length = ρ.length → (unwA k vs ρ ρ').length = ρ.length
  | _, _, [], [], _ => rfl
  | _, _, [], _ :: _, h => by simp at h
  | _, _, _ :: _, [], h => by simp at h
  | k, vs, a :: ρ, b :: ρ', h => by
    show (unwA (k + 1) vs ρ ρ').length + 1 = ρ.length + 1
    rw [unwA_len (by simpa using h)]
theorem unwA_get : ∀ {k : Nat} {vs : List Nat} {ρ ρ' : Env} {i : Nat}, ρ'.length = ρ.length → (unwA k vs ρ ρ')[i]? = if k + i ∈ vs then ρ[i]? else ρ'[i]?
  | _, _, [], [], i, _ => by simp [unwA]
  | _, _, [], _ :: _, _, h => by simp at h
  | _, _, _ :: _, [], _, h => by simp at h
  | k, vs, a :: ρ, b :: ρ', 0, h => by
    show some (if vs.contains k = true then a else b) = if k + 0 ∈ vs then some a else some b
    by_cases hk : k ∈ vs
    · rw [if_pos (by simpa using hk), if_pos (by simpa using hk)]
    · rw [if_neg (by simpa using hk), if_neg (by simpa using hk)]
  | k, vs, a :: ρ, b :: ρ', i + 1, h => by
    show (unwA (k + 1) vs ρ ρ')[i]? = if k + (i + 1) ∈ vs then ρ[i]? else ρ'[i]?
    rw [unwA_get (by simpa using h), show k + 1 + i = k + (i + 1) by omega]
/-- the slots at vs hold nothing that is owned -/
def isPl : Option Slot → Bool
  | some (.own _) => false
  | some (.st _) => false
  | _ => true
def Plain (ρ : Env) (vs : List Nat) : Prop := ∀ i ∈ vs, isPl ρ[i]? = true
theorem Plain.ad {B : Base} {ad : Nat → List Addr} {σ : St} {F H : Hp} {vs : List Nat} (w : WA B ad ρ σ F H) (pl : Plain ρ vs) : ∀ j ∈ vs, ad j = [] := fun j hj => by
  have k := pl j hj
  cases e : ρ[j]? with
  | none => exact w.out j e
  | some s =>
    have q := w.sl j s e
    rw [e] at k
    cases s with
    | emp => exact q
    | val d => exact q.1
    | own _ => cases k
    | st _ => cases k
theorem WA.wiped {B : Base} {ad : Nat → List Addr} {σ : St} {F H : Hp} {vs : List Nat} (w : WA B ad ρ σ F H) (pl : Plain ρ vs) : WA B ad (wipeE ρ vs) (wipe σ vs) F H where
  gr := w.gr
  len := by rw [wipe_length, wipeE_len]; exact w.len
  sl := fun i s e => by
    rw [wipeE_get] at e
    rw [wipe_get]
    by_cases h : i ∈ vs ∧ i < ρ.length
    · rw [if_pos h] at e
      cases e
      exact pl.ad w i h.1
    · rw [if_neg h] at e
      rw [if_neg (by rw [w.len]; exact h)]
      exact w.sl i s e
  fz := w.fz
  dj := w.dj
  out := fun i e => by
    rw [wipeE_get] at e
    by_cases h : i ∈ vs ∧ i < ρ.length
    · rw [if_pos h] at e; cases e
    · rw [if_neg h] at e; exact w.out i e
  pin := w.pin.to fun S e => by
    rw [wipeE_get] at e
    by_cases h : 0 ∈ vs ∧ 0 < ρ.length
    · rw [if_pos h] at e; cases e
    · rw [if_neg h] at e
      exact ⟨⟨S, e⟩, by rw [wipe_get, if_neg (by rw [w.len]; exact h)], rfl⟩
theorem wipe_eq {σ σ' : St} {vs : List Nat} (h : wipe σ' vs = wipe σ vs) {i : Nat} (hi : i ∉ vs) : σ'[i]? = σ[i]? := by
  have e := congrArg (fun l => l[i]?) h
  simp only [wipe_get] at e
  rwa [if_neg (fun z => hi z.1), if_neg (fun z => hi z.1)] at e
/-- behind the block's turn: the outer slots again -/
theorem Post.unwiped {B : Base} {ad : Nat → List Addr} {σ σ2 : St} {F H F' H' : Hp} {vs : List Nat} {ρ1 ρ2 : Env} (w : WA B ad ρ1 σ F H) (pl : Plain ρ1 vs)
    (hσ : wipe σ2 vs = wipe σ vs) (fr : ∀ i, i ∉ vs → ρ2[i]? = (wipeE ρ1 vs)[i]?) (w2 : WA B ad ρ2 σ2 F H) (p : Post B ad σ2 ρ2 F H ρ' F' H') : Post B ad σ ρ1 F H (unw vs ρ1 ρ') F' H' := by
  have hl : ρ'.length = ρ1.length := by
    have l1 := p.wa.len
    have l2 := congrArg List.length hσ
    rw [wipe_length, wipe_length] at l2
    rw [← l1, l2, w.len]
  have pa := pl.ad w
  have ms : ∀ a, MS ad ρ2 a → MS ad ρ1 a := fun a ⟨i, S, e, m⟩ => by
    have hi : i ∉ vs := fun z => by rw [pa i z] at m; cases m
    rw [fr i hi, wipeE_get, if_neg (fun z => hi z.1)] at e
    exact ⟨i, S, e, m⟩
  refine ⟨⟨p.wa.gr, by rw [unwA_len hl]; exact w.len, fun i s e => ?_, p.wa.fz, p.wa.dj, fun i e => ?_, fun s as hp S e => ?_⟩, ⟨p.gr.ff, p.gr.fh, fun a o e m => p.gr.kp a o e fun z => m (ms a z), p.gr.al, p.gr.fr⟩, fun i S e => ?_⟩
  · rw [unwA_get hl, Nat.zero_add] at e
    by_cases hi : i ∈ vs
    · rw [if_pos hi] at e
      have k := w.sl i s e
      have q := pl i hi
      rw [e] at q
      cases s with
      | emp => exact k
      | val d =>
        obtain ⟨k, v, e, r⟩ := k
        exact ⟨k, v, e, r.up p.gr.ff⟩
      | own _ => cases q
      | st _ => cases q
    · rw [if_neg hi] at e
      rw [← wipe_eq hσ hi]
      exact p.wa.sl i s e
  · rw [List.getElem?_eq_none_iff, unwA_len hl, ← hl, ← List.getElem?_eq_none_iff] at e
    exact p.wa.out i e
  · rw [unwA_get hl, Nat.zero_add] at e
    by_cases hi : 0 ∈ vs
    · rw [if_pos hi] at e
      have q := pl 0 hi
      rw [e] at q
      cases q
    · rw [if_neg hi] at e
      rw [← wipe_eq hσ hi]
      exact p.wa.pin s as hp S e
  · rw [unwA_get hl, Nat.zero_add] at e
    by_cases hi : i ∈ vs
    · rw [if_pos hi] at e
      exact ⟨S, e⟩
    · rw [if_neg hi] at e
      obtain ⟨S', e'⟩ := p.sh i S e
      rw [fr i hi, wipeE_get, if_neg (fun z => hi z.1)] at e'
      exact ⟨S', e'⟩
/-- [e for target in ..], by an invariant over the turn, the items made, the slots -/
theorem eo_lc {vs : List Nat} {Q : List D → Env → Prop} (h : EI wi ρ fun ds ρ1 => ∃ I : Nat → List D → Env → Prop, I 0 [] ρ1 ∧
    (∀ k d acc ρ', ds[k]? = some d → I k acc ρ' → Plain ρ' vs ∧ acc.length < 1000000 ∧ SG vs g d (wipeE ρ' vs) fun ρ2 => ET tt ρ2 fun b ρ3 => (b = true → EX te ρ3 fun e ρ4 => I (k + 1) (acc ++ [e]) (unw vs ρ' ρ4)) ∧ (b = false → I (k + 1) acc (unw vs ρ' ρ3))) ∧
    ∀ acc ρ', I ds.length acc ρ' → Q acc ρ') : EO (tLc wi g tt te vs) ρ Q := fun B ad σ F H w Z z => by
  refine h B ad σ F H w _ fun ds ρ1 J F1 H1 q1 p1 it => ?_
  obtain ⟨I, i0, turn, done⟩ := q1
  intro Dl hD
  have hDH : H Dl = none := by
    cases q : H Dl with
    | none => rfl
    | some o => exact absurd hD (p1.gr.al Dl (by rw [q]; intro z; cases z))
  have nw := p1.wa.newp hD
  -- at each turn: the outer slots, over a heap in which Dl is not seen
  let Inv := fun (i : Nat) (H' : Hp) => ∃ acc ρ' F' vs', I i acc ρ' ∧ Post B ad σ ρ1 F1 H1 ρ' F' H' ∧ F' Dl = none ∧ H' Dl = some (.lst vs') ∧ RpA F' vs' acc
  refine ⟨fun i m H' => m = ds.length - i ∧ i ≤ ds.length ∧ Inv i H', ⟨_, rfl, Nat.zero_le _, [], ρ1, F1, [], i0, Post.of p1.wa (Gr.heap p1.wa.gr.fh (same_upd hD)), nw.1, upd_same, .nil⟩, ?_⟩
  rintro i m H' ⟨rfl, hi, acc, ρ', F', vs', iv, P, hF, hH, ra⟩
  by_cases hlt : i < ds.length
  · refine .inr ⟨it.go i H' (P.gr.ff.trans P.wa.gr.fh) hlt, fun H2 => Inv (i + 1) H2, fun H2 k => ⟨ds.length - (i + 1), by omega, rfl, hlt, k⟩, fun x H2 y => ?_⟩
    obtain ⟨d, F2, e, gr, rx⟩ := it.yld i H' x H2 F' P.gr.ff P.wa.gr.fh y hlt
    obtain ⟨pl, hz, k⟩ := turn i d acc ρ' e iv
    have P2 := P.trans (Post.of P.wa gr)
    have w2 := P.wa.grow gr
    have hF2 : F2 Dl = none := gr.fr Dl (by rw [hH]; intro z; cases z) hF
    have hH2 : H2 Dl = some (.lst vs') := gr.kp Dl _ hH id
    have nms : ∀ (ρ2 : Env), ¬ MS ad ρ2 Dl := fun ρ2 ⟨j, S, _, m⟩ => nw.2.2 j m
    refine k B ad (wipe σ vs) F2 H2 x (w2.wiped pl) (pl.ad w2) rx _ fun ρ2 σ2 q wb e2 fr => ?_
    have e2' : wipe σ2 vs = wipe σ vs := by
      rw [e2]
      apply List.ext_getElem?
      intro j
      rw [wipe_get, wipe_get, wipe_length]
      split
      · rfl
      · first | rfl | rw [wipe_get, if_neg (by assumption)]
    refine ⟨e2', q B ad σ2 F2 H2 wb _ fun b ρ3 F3 H3 q3 p3 => ?_⟩
    cases b with
    | true =>
      show te σ2 H3 _
      refine q3.1 rfl B ad σ2 F3 H3 p3.wa _ fun e ρ4 v F4 H4 q4 p4 rv => ?_
      have p34 := p3.trans p4
      have pu := Post.unwiped w2 pl e2' fr wb p34
      have hH4 : H4 Dl = some (.lst vs') := p34.gr.kp Dl _ hH2 (nms _)
      have hF4 : F4 Dl = none := p34.gr.fr Dl (by rw [hH2]; intro z; cases z) hF2
      have ra4 : RpA F4 (vs' ++ [v]) (acc ++ [e]) := (ra.up (gr.ff.trans p34.gr.ff)).app (.cons rv .nil)
      refine ⟨vs', hH4, Nat.lt_of_lt_of_le (by rw [ra.len]; exact hz) (by decide), acc ++ [e], _, F4, vs' ++ [v], q4, ?_, hF4, upd_same, ra4⟩
      -- Dl grows: nobody sees it
      have pt := P2.trans pu
      have ne1 : ∀ a o, H1 a = some o → a ≠ Dl := fun a o q z => by rw [z, hD] at q; cases q
      have neF : ∀ a o, F4 a = some o → a ≠ Dl := fun a o q z => by rw [z, hF4] at q; cases q
      refine ⟨⟨⟨pt.wa.gr.ff, fun a o q => by rw [upd_ne (neF a o q)]; exact pt.wa.gr.fh a o q, fun a o q m => ?_, fun a q => ?_, pt.wa.gr.fr⟩, pt.wa.len, fun j s q => ?_, pt.wa.fz, pt.wa.dj, pt.wa.out, pt.wa.pin⟩, ⟨pt.gr.ff, fun a o q => by rw [upd_ne (neF a o q)]; exact pt.gr.fh a o q, fun a o q m => by rw [upd_ne (ne1 a o q)]; exact pt.gr.kp a o q m, fun a q => ?_, pt.gr.fr⟩, pt.sh⟩
      · rw [upd_ne (fun z => by rw [z, nw.2.1] at q; cases q)]
        exact pt.wa.gr.kp a o q m
      · by_cases ha : a = Dl
        · rw [ha, upd_same]; intro z; cases z
        · rw [upd_ne ha]; exact pt.wa.gr.al a q
      · have k := pt.wa.sl j s q
        cases s with
        | emp => exact k
        | val d => exact k
        | own es =>
          obtain ⟨p, ws, a1, a2, a3, a4, a5⟩ := k
          refine ⟨p, ws, a1, a2, a3, ?_, a5⟩
          rw [upd_ne (fun z => nw.2.2 j (by rw [a1, z]; simp))]
          exact a4
        | st S =>
          obtain ⟨s, a1, a2⟩ := k
          refine ⟨s, a1, ?_⟩
          cases S with
          | two x y =>
            refine ⟨a2.1, ?_⟩
            rw [upd_ne (fun z => nw.2.2 j (by rw [a2.1, z]; simp))]
            exact a2.2
          | cel x cs =>
            obtain ⟨c, b1, b2, b3, b4⟩ := a2
            refine ⟨c, b1, b2, ?_, ?_⟩
            · rw [upd_ne (fun z => nw.2.2 j (by rw [b1, z]; simp))]
              exact b3
            · rw [upd_ne (fun z => nw.2.2 j (by rw [b1, z]; simp))]
              exact b4
      · by_cases ha : a = Dl
        · rw [ha, upd_same]; intro z; cases z
        · rw [upd_ne ha]; exact pt.gr.al a q
    | false =>
      show Inv (i + 1) H3
      have pu := Post.unwiped w2 pl e2' fr wb p3
      exact ⟨acc, _, F3, vs', q3.2 rfl, P2.trans pu, p3.gr.fr Dl (by rw [hH2]; intro z; cases z) hF2, p3.gr.kp Dl _ hH2 (nms _), ra.up (gr.ff.trans p3.gr.ff)⟩
  · have e : i = ds.length := by omega
    subst e
    exact .inl ⟨it.stop _ H' (P.gr.ff.trans P.wa.gr.fh) (Nat.le_refl _), z acc ρ' Dl vs' F' H' (done acc ρ' iv) (p1.trans P) hF hDH hH ra⟩
theorem et_yes {Q : Bool → Env → Prop} (q : Q true ρ) : ET tYes ρ Q := fun B ad σ F H w Z z => z true ρ F H q (Post.refl w)
/-- items that read off a list of one's own; nothing changes: the filter and the map -/
theorem eo_lcP {α : Type} {vs : List Nat} {Q : List D → Env → Prop} (f : α → Bool) (gg : α → D) (h : EI wi ρ fun ds ρ1 => ∃ (xs : List α) (enc : α → D), ds = xs.map enc ∧ xs.length < 1000000 ∧ Plain ρ1 vs ∧
    (∀ x ∈ xs, SG vs g (enc x) (wipeE ρ1 vs) fun ρ2 => unw vs ρ1 ρ2 = ρ1 ∧ ET tt ρ2 fun b ρ3 => b = f x ∧ ρ3 = ρ2 ∧ (f x = true → EX te ρ2 fun e ρ4 => e = gg x ∧ ρ4 = ρ2)) ∧ Q ((xs.filter f).map gg) ρ1) : EO (tLc wi g tt te vs) ρ Q := by
  refine eo_lc fun B ad σ F H w R z => h B ad σ F H w R fun ds ρ1 J F' H' q p it => z ds ρ1 J F' H' ?_ p it
  obtain ⟨xs, enc, rfl, hz, pl, turn, q⟩ := q
  refine ⟨fun k acc ρ' => ρ' = ρ1 ∧ acc = ((xs.take k).filter f).map gg, ⟨rfl, by simp⟩, ?_, ?_⟩
  · rintro k d acc ρ' e ⟨rfl, rfl⟩
    rw [List.getElem?_map] at e
    obtain ⟨x, ex, rfl⟩ : ∃ x, xs[k]? = some x ∧ enc x = d := by
      cases hx : xs[k]? with
      | none => rw [hx] at e; cases e
      | some x => rw [hx] at e; exact ⟨x, rfl, Option.some.inj e⟩
    have hm : x ∈ xs := List.mem_of_getElem? ex
    have hk : k < xs.length := (List.getElem?_eq_some_iff.mp ex).1
    have et : xs.take (k + 1) = xs.take k ++ [x] := by
      rw [List.take_succ, ex]; rfl
    refine ⟨pl, ?_, fun B ad σ F H v w hJ r Z z => turn x hm B ad σ F H v w hJ r Z fun ρ2 σ2 q w2 a b => z ρ2 σ2 (fun B ad σ F H w Z z => q.2 B ad σ F H w Z fun b ρ3 F' H' q2 p => z b ρ3 F' H' ⟨fun hb => ?_, fun hb => ?_⟩ p) w2 a b⟩
    · rw [List.length_map]
      exact Nat.lt_of_le_of_lt (Nat.le_trans (List.length_filter_le _ _) (by rw [List.length_take]; exact Nat.min_le_right _ _)) hz
    · obtain ⟨rfl, rfl, q2⟩ := q2
      refine (q2 hb).imp fun e ρ4 q => ?_
      obtain ⟨rfl, rfl⟩ := q
      exact ⟨‹_ ∧ _›.1, by rw [et, List.filter_append, List.map_append, List.filter_cons, if_pos hb]; rfl⟩
    · obtain ⟨rfl, rfl, q2⟩ := q2
      exact ⟨‹_ ∧ _›.1, by rw [et, List.filter_append, List.filter_cons, if_neg (by rw [hb]; exact Bool.false_ne_true), List.filter_nil, List.append_nil]⟩
  · rintro acc ρ' ⟨rfl, rfl⟩
    rw [List.length_map, List.take_length]
    exact q
end

/-! ### calls -/
/-- what a def of data promises: R tells of the arguments and of what is wanted of the answer -/
def spP (R : List D → (D → Prop) → Prop) : Sp := fun vs H Q _ => ∃ F ds Z, Same F H ∧ RpA F vs ds ∧ R ds Z ∧ ∀ d v F' H', Z d → Gr Non F H F' H' → Rp F' v d → Q v H'
/-- the same with a state ahead of the arguments -/
def spS (R : Stt → List D → (D → Stt → Prop) → Prop) : Sp := fun vs H Q _ => ∃ F s as S us ds Z, vs = .ref s :: us ∧ Same F H ∧ StAt H S s as ∧ (∀ a ∈ as, F a = none) ∧ RpA F us ds ∧ R S ds Z ∧
  ∀ d S' v F' H', Z d S' → Gr (· ∈ as) F H F' H' → StAt H' S' s as → (∀ a ∈ as, F' a = none) → Rp F' v d → Q v H'
/-- a new state is handed back -/
def spN (R : List D → (Stt → Prop) → Prop) : Sp := fun vs H Q _ => ∃ F ds Z, Same F H ∧ RpA F vs ds ∧ R ds Z ∧ ∀ S s as F' H', Z S → Gr Non F H F' H' → StAt H' S s as → (∀ a ∈ as, F' a = none ∧ H a = none) → Q (.ref s) H'
section
variable {ρ ρ' : Env} {te : TE} {tt : TT} {t : TA} {E : XK}
theorem ex_call {R : List D → (D → Prop) → Prop} {Q : D → Env → Prop} (h : EA t ρ fun ds ρ1 => R ds fun d => Q d ρ1) : EX (tCall (spP R) [] E t) ρ Q := fun B ad σ F H w Z z =>
  h B ad σ F H w _ fun ds ρ1 vs F1 H1 q p r => by
    rw [List.append_nil]
    exact ⟨F1, ds, _, p.wa.gr.fh, r, q, fun d v F' H' zd g rv => z d ρ1 v F' H' zd (p.trans (Post.of p.wa g)) rv⟩
theorem StAt.mem {H : Hp} {S : Stt} {s : Addr} {as : List Addr} (h : StAt H S s as) : s ∈ as ∧ ∀ a ∈ as, H a ≠ none := by
  cases S with
  | two a b =>
    obtain ⟨rfl, h⟩ := h
    exact ⟨by simp, fun x hx => by
      have e : x = s := by simpa using hx
      rw [e, h]; intro z; cases z⟩
  | cel a cs =>
    obtain ⟨c, rfl, _, h1, h2⟩ := h
    exact ⟨by simp, fun x hx => by
      have e : x = s ∨ x = c := by simpa using hx
      rcases e with e | e
      · rw [e, h1]; intro z; cases z
      · rw [e, h2]; intro z; cases z⟩
theorem StAt.keep {H H' : Hp} {S : Stt} {s : Addr} {as : List Addr} (h : StAt H S s as) (k : ∀ a ∈ as, ∀ o, H a = some o → H' a = some o) : StAt H' S s as := by
  cases S with
  | two a b =>
    obtain ⟨rfl, h⟩ := h
    exact ⟨rfl, k s (by simp) _ h⟩
  | cel a cs =>
    obtain ⟨c, rfl, ne, h1, h2⟩ := h
    exact ⟨c, rfl, ne, k s (by simp) _ h1, k c (by simp) _ h2⟩
/-- f(state, ..) -/
theorem ex_callS {R : Stt → List D → (D → Stt → Prop) → Prop} {i : Nat} {S0 : Stt} {Q : D → Env → Prop} (h0 : ρ[i]? = some (.st S0)) (h : EA t ρ fun ds ρ1 => ∃ S, ρ1[i]? = some (.st S) ∧ R S ds fun d S' => Q d (ρ1.set i (.st S'))) :
    EX (tCall (spS R) [] E (tCons (tVar i) t)) ρ Q := fun B ad σ F H w Z z => by
  obtain ⟨s0, k0, _⟩ := w.sl i _ h0
  refine ⟨_, k0, h B ad σ F H w _ fun ds ρ1 vs F1 H1 q p r => ?_⟩
  obtain ⟨S, h1, q⟩ := q
  obtain ⟨s, k1, k2⟩ := p.wa.sl i _ h1
  rw [k0] at k1
  cases k1
  have hi : i < ρ1.length := (List.getElem?_eq_some_iff.mp h1).1
  rw [List.append_nil]
  refine ⟨F1, s0, ad i, S, vs, ds, _, rfl, p.wa.gr.fh, k2, fun a m => (p.wa.fz i a m).1, r, q, fun d S' v F' H' zd g st fn rv => ?_⟩
  have nm : ∀ j a, j ≠ i → a ∈ ad j → a ∉ ad i := fun j a hj m m' => hj (p.wa.dj j i a m m')
  refine z d _ v F' H' zd (p.trans ⟨⟨?_, ?_, fun j sl e => ?_, fun j a m => ?_, p.wa.dj, fun j e => p.wa.out j (get_set' e), p.wa.pin.to fun S2 e => by
    rcases get_set e with ⟨e0, _⟩ | ⟨hj, e⟩
    · exact ⟨⟨S, by rw [e0]; exact h1⟩, rfl, rfl⟩
    · exact ⟨⟨S2, e⟩, rfl, rfl⟩⟩, ⟨g.ff, g.fh, fun a o e m => g.kp a o e fun z => m ⟨i, S, h1, z⟩, g.al, g.fr⟩, fun j S'' e => ?_⟩) rv
  · refine ⟨p.wa.gr.ff.trans g.ff, g.fh, fun a o e m => g.kp a o (p.wa.gr.kp a o e m) fun z => ?_, fun a e => g.al a (p.wa.gr.al a e), fun a e z => g.fr a (p.wa.gr.al a e) (p.wa.gr.fr a e z)⟩
    rcases (p.wa.fz i a z).2 with q | q
    · rw [q] at e; cases e
    · exact m q
  · rw [List.length_set]; exact p.wa.len
  · rcases get_set e with ⟨rfl, rfl⟩ | ⟨hj, e⟩
    · exact ⟨s0, k0, st⟩
    · have k := p.wa.sl j sl e
      cases sl with
      | emp => exact k
      | val d =>
        obtain ⟨k, v, e, r⟩ := k
        exact ⟨k, v, e, r.up g.ff⟩
      | own es =>
        obtain ⟨q, ws, a1, a2, a3, a4, a5⟩ := k
        exact ⟨q, ws, a1, a2, a3, g.kp q _ a4 (nm j q hj (by rw [a1]; simp)), a5.up g.ff⟩
      | st S2 =>
        obtain ⟨s2, a1, a2⟩ := k
        exact ⟨s2, a1, a2.keep fun a m o e => g.kp a o e (nm j a hj m)⟩
  · refine ⟨?_, (p.wa.fz j a m).2⟩
    by_cases hj : j = i
    · subst hj; exact fn a m
    · exact g.fr a (p.wa.lv m) (p.wa.fz j a m).1
  · rcases get_set e with ⟨rfl, _⟩ | ⟨_, e⟩
    · exact ⟨S, h1⟩
    · exact ⟨S'', e⟩
/-- state = f(..) -/
theorem sx_asgN {R : List D → (Stt → Prop) → Prop} {i : Nat} {P : Po} (h00 : i ≠ 0) (h : EA t ρ fun ds ρ1 => R ds fun S => NX P (ρ1.set i (.st S))) : SX (tAsg (tCall (spN R) [] E t) (gName i)) ρ P := fun B σ F H w Dn n r b c => by
  obtain ⟨ad, w⟩ := w
  refine h B ad σ F H w _ fun ds ρ1 vs F1 H1 q p rv => ?_
  rw [List.append_nil]
  refine ⟨F1, ds, _, p.wa.gr.fh, rv, q, fun S s as F' H' zd g st fn => ?_⟩
  obtain ⟨ρ2, l, q⟩ := zd
  have w2 := p.wa.grow g
  have nw : ∀ a ∈ as, B.H0 a = none ∧ ∀ j, a ∉ ad j := fun a m => (p.wa.newp (fn a m).2).2
  refine n ρ2 _ F' H' q (W.weak ⟨fun k => if k = i then (if i < ρ1.length then as else []) else ad k, w2.gr, by rw [List.length_set, List.length_set]; exact w2.len, fun j sl e => ?_, fun j q m => ?_, fun j1 j2 q m1 m2 => ?_, fun j e => ?_, w2.pin.to fun S2 e => by
    rcases get_set e with ⟨e0, _⟩ | ⟨hj, e⟩
    · exact absurd e0.symm h00
    · exact ⟨⟨S2, e⟩, List.getElem?_set_ne (Ne.symm hj), if_neg hj⟩⟩ l)
  · rcases get_set e with ⟨rfl, rfl⟩ | ⟨hj, e'⟩
    · have hi : j < ρ1.length := by
        have := (List.getElem?_eq_some_iff.mp e).1
        rwa [List.length_set] at this
      exact ⟨s, List.getElem?_set_self (by rw [w2.len]; exact hi), by rw [if_pos rfl, if_pos hi]; exact st⟩
    · rw [if_neg hj, List.getElem?_set_ne (Ne.symm hj)]
      exact w2.sl j sl e'
  · by_cases hj : j = i
    · simp only [if_pos hj] at m
      by_cases hi : i < ρ1.length
      · simp only [if_pos hi] at m
        exact ⟨(fn q m).1, .inl (nw q m).1⟩
      · simp [if_neg hi] at m
    · simp only [if_neg hj] at m
      exact w2.fz j q m
  · have g : ∀ j, q ∈ (if j = i then (if i < ρ1.length then as else []) else ad j) → (j = i ∧ q ∈ as) ∨ (j ≠ i ∧ q ∈ ad j) := fun j m => by
      by_cases hj : j = i
      · simp only [if_pos hj] at m
        by_cases hi : i < ρ1.length
        · simp only [if_pos hi] at m
          exact .inl ⟨hj, m⟩
        · simp [if_neg hi] at m
      · simp only [if_neg hj] at m
        exact .inr ⟨hj, m⟩
    rcases g j1 m1 with ⟨a1, b1⟩ | ⟨a1, b1⟩ <;> rcases g j2 m2 with ⟨a2, b2⟩ | ⟨a2, b2⟩
    · rw [a1, a2]
    · exact absurd b2 ((nw q b1).2 j2)
    · exact absurd b1 ((nw q b2).2 j1)
    · exact w2.dj j1 j2 q b1 b2
  · show (if j = i then (if i < ρ1.length then as else []) else ad j) = []
    have e' := get_set' e
    by_cases hj : j = i
    · subst hj
      rw [if_pos rfl, if_neg (by rw [List.getElem?_eq_none_iff] at e'; omega)]
    · rw [if_neg hj]
      exact w2.out j e'
end

/-! ### defs -/
def startE (N : List Str) (ds : List D) : Env := ds.map .val ++ List.replicate (N.length - ds.length) .emp
section
variable {P : Program} {w : World} {K : PySem.W.Frag} {mg : Str → Option Value} {base : Heap} {x qual : Str} {st : Stmt} {f : Addr} {fd : FuncData} {N ps : List Str} {k : Nat}
theorem start_get {N : List Str} {us : List V} {i : Nat} {v : V} (h : us[i]? = some v) : (L2.start N us)[i]? = some (some v) := by
  unfold L2.start
  have hi := (List.getElem?_eq_some_iff.mp h).1
  rw [List.getElem?_append_left (by rw [List.length_map]; exact hi), List.getElem?_map, h]
  rfl
theorem startE_get {N : List Str} {ds : List D} {i : Nat} {s : Slot} (h : (startE N ds)[i]? = some s) : (∃ d, ds[i]? = some d ∧ s = .val d) ∨ s = .emp := by
  unfold startE at h
  by_cases hi : i < ds.length
  · rw [List.getElem?_append_left (by rw [List.length_map]; exact hi), List.getElem?_map] at h
    cases e : ds[i]? with
    | none => rw [e] at h; cases h
    | some d => rw [e] at h; exact .inl ⟨d, rfl, (Option.some.inj h).symm⟩
  · rw [List.getElem?_append_right (by rw [List.length_map]; omega)] at h
    exact .inr (List.eq_of_mem_replicate (List.mem_of_getElem? h))
theorem fn_pure {R : List D → (D → Prop) → Prop} (F : Fun K x qual st f fd) (S : FnScope N ps (defScope st)) (len : ∀ ds Z, R ds Z → ds.length = ps.length)
    (body : ∀ (cdv : Value) (A : Around) (outer : List PySem.Env) (s : Shared) (H : Hp) (E : XK), Room k (A.deeper (PyProof.Rows.envOfC qual (defScope st) s.heap.objs.size f cdv)) →
      ∃ t, PSs (cxOf CX0 P w K mg base N qual (defScope st) f cdv A outer s H E).nox (defBody st) t ∧ ∀ ds Z, R ds Z → SX t (startE N ds) { nx := fun _ => Z .none, rt := fun d _ => Z d }) :
    FnOk P w K mg base CX0 (k + 1) f fd ps (spP R) := by
  refine F.ok S (fun vs H Q E h => ?_) (fun cdv A outer s H vs Q E hr h => ?_)
  · obtain ⟨F, ds, Z, _, r, q, _⟩ := h
    rw [r.len]
    exact len ds Z q
  · obtain ⟨F0, ds, Z, fh, r, q, z⟩ := h
    obtain ⟨t, ht, hs⟩ := body cdv A outer s H E hr
    refine ⟨t, ht, hs ds Z q { F0 := F0, H0 := H, M := Non } (L2.start N vs) F0 H ⟨fun _ => [], Gr.refl fh, ?_, fun i s e => ?_, (fun i p m => by cases m), (fun i j p m => by cases m), fun _ _ => rfl, (fun s as e => by cases e)⟩ _ (fun ρ' σ' F' H' q w' => ?_) (fun d ρ' σ' v F' H' q w' rv => ?_) (fun _ _ _ _ q _ => q.elim) (fun _ _ _ _ q _ => q.elim)⟩
    · unfold L2.start startE
      rw [List.length_append, List.length_append, List.length_map, List.length_map, List.length_replicate, List.length_replicate, r.len]
    · rcases startE_get e with ⟨d, e2, rfl⟩ | rfl
      · obtain ⟨v, e1, rv⟩ := r.get e2
        exact ⟨rfl, v, start_get e1, rv⟩
      · rfl
    · obtain ⟨ad, w'⟩ := w'
      exact z .none .non F' H' q w'.gr .non
    · obtain ⟨ad, w'⟩ := w'
      exact z d v F' H' q w'.gr rv
/-- a def whose first parameter is a state -/
theorem fn_state {R : Stt → List D → (D → Stt → Prop) → Prop} (F : Fun K x qual st f fd) (S : FnScope N ps (defScope st)) (len : ∀ S ds Z, R S ds Z → ds.length + 1 = ps.length)
    (body : ∀ (cdv : Value) (A : Around) (outer : List PySem.Env) (s : Shared) (H : Hp) (E : XK), Room k (A.deeper (PyProof.Rows.envOfC qual (defScope st) s.heap.objs.size f cdv)) →
      ∃ t, PSs (cxOf CX0 P w K mg base N qual (defScope st) f cdv A outer s H E).nox (defBody st) t ∧ ∀ S ds Z, R S ds Z → SX t (.st S :: (ds.map .val ++ List.replicate (N.length - (ds.length + 1)) .emp)) { nx := fun ρ' => ∃ S', ρ'[0]? = some (.st S') ∧ Z .none S', rt := fun d ρ' => ∃ S', ρ'[0]? = some (.st S') ∧ Z d S' }) :
    FnOk P w K mg base CX0 (k + 1) f fd ps (spS R) := by
  refine F.ok S (fun vs H Q E h => ?_) (fun cdv A outer s H vs Q E hr h => ?_)
  · obtain ⟨F, s, as, S, us, ds, Z, rfl, _, _, _, r, q, _⟩ := h
    rw [List.length_cons, r.len]
    exact len S ds Z q
  · obtain ⟨F0, s0, as, S0, us, ds, Z, rfl, fh, sa, fn, r, q, z⟩ := h
    obtain ⟨t, ht, hs⟩ := body cdv A outer s H E hr
    have hm := sa.mem
    have hl : (L2.start N (.ref s0 :: us)).length = (Slot.st S0 :: (ds.map Slot.val ++ List.replicate (N.length - (ds.length + 1)) Slot.emp)).length := by
      unfold L2.start
      simp [r.len]
    have fin : ∀ (d : D) (ρ' : Env) (σ' : St) (v : V) (F' H' : Hp), (∃ S', ρ'[0]? = some (Slot.st S') ∧ Z d S') → W { F0 := F0, H0 := H, M := (· ∈ as), pin := some (s0, as) } ρ' σ' F' H' → Rp F' v d → Q v H' := fun d ρ' σ' v F' H' ⟨S', e, zd⟩ ⟨ad, w'⟩ rv => by
      obtain ⟨e1, e2⟩ := w'.pin s0 as rfl S' e
      obtain ⟨s1, k1, k2⟩ := w'.sl 0 _ e
      rw [e1] at k1
      cases k1
      rw [e2] at k2
      exact z d S' v F' H' zd w'.gr k2 (fun a m => (w'.fz 0 a (by rw [e2]; exact m)).1) rv
    refine ⟨t, ht, hs S0 ds Z q { F0 := F0, H0 := H, M := (· ∈ as), pin := some (s0, as) } (L2.start N (.ref s0 :: us)) F0 H ⟨fun i => if i = 0 then as else [], Gr.refl fh, hl, fun i sl e => ?_, fun i p m => ?_, fun i j p m1 m2 => ?_, fun i e => ?_, fun s as' e S _ => ?_⟩ _ (fun ρ' σ' F' H' q w' => fin .none ρ' σ' .non F' H' q w' .non) (fun d ρ' σ' v F' H' q w' rv => fin d ρ' σ' v F' H' q w' rv) (fun _ _ _ _ q _ => q.elim) (fun _ _ _ _ q _ => q.elim)⟩
    · cases i with
      | zero =>
        cases e
        exact ⟨s0, start_get (us := .ref s0 :: us) rfl, by rw [if_pos rfl]; exact sa⟩
      | succ i =>
        have e' : (startE (List.replicate (N.length - 1) "") ds)[i]? = some sl := by
          unfold startE
          rw [List.length_replicate, show N.length - 1 - ds.length = N.length - (ds.length + 1) by omega]
          exact e
        rw [if_neg (Nat.succ_ne_zero i)]
        rcases startE_get e' with ⟨d, e2, rfl⟩ | rfl
        · obtain ⟨v, e1, rv⟩ := r.get e2
          exact ⟨rfl, v, start_get (us := .ref s0 :: us) (by simpa using e1), rv⟩
        · rfl
    · by_cases hi : i = 0
      · rw [if_pos hi] at m
        exact ⟨fn p m, .inr m⟩
      · rw [if_neg hi] at m; cases m
    · by_cases hi : i = 0
      · by_cases hj : j = 0
        · rw [hi, hj]
        · rw [if_neg hj] at m2; cases m2
      · rw [if_neg hi] at m1; cases m1
    · by_cases hi : i = 0
      · subst hi; cases e
      · exact if_neg hi
    · cases e
      exact ⟨start_get (us := .ref s0 :: us) rfl, if_pos rfl⟩
end
end Pu
namespace Pu
open PySem L2

/-! ### what the defs call: built-ins, one another -/
/-- no name of a built-in is bound by the module -/
structure Bn (mg : Str → Option Value) : Prop where
  len_ : mg "len" = none
  range_ : mg "range" = none
  min_ : mg "min" = none
  max_ : mg "max" = none
  abs_ : mg "abs" = none
  sum_ : mg "sum" = none
  int_ : mg "int" = none
  list_ : mg "list" = none
  tuple_ : mg "tuple" = none
  sorted_ : mg "sorted" = none
  isinstance_ : mg "isinstance" = none
  enumerate_ : mg "enumerate" = none
  zip_ : mg "zip" = none
  set_ : mg "set" = none
  repr_ : mg "repr" = none
  all_ : mg "all" = none
  any_ : mg "any" = none
  dict_ : mg "dict" = none
  reversed_ : mg "reversed" = none
  str_ : mg "str" = none
/-- a def of the module that keeps a promise -/
inductive Cal (P : Program) (w : World) (K : PySem.W.Frag) (mg : Str → Option Value) (base : Heap) (x : Str) (ps : List Str) (sp : Sp) (k : Nat) : Prop
  | mk (f : Addr) (fd : FuncData) (ok : FnOk P w K mg base CX0 k f fd ps sp) (hm : mg x = some (.ref f)) (kp : PySem.W.keepIn K (.ref f) = true) (bd : Binds K fd ps []) : Cal P w K mg base x ps sp k
theorem pe_cal {X : Cx} {k : Nat} {ps : List Str} {sp : Sp} {x : Str} {p pos : Pos} {e : Expr} {es : List Expr} {t : TA} (C : Cal X.prog X.w X.K X.mg X.base x ps sp k) (hr : Room k X.A) (hg : Gl X x) (ha : PA X (e :: es) t)
    (hdb : (x == ("__debug__" : Str)) = false := by decide) (he : starEach (e :: es) X.env = (false, eval e X.env) :: starEach es X.env := by rfl) (hpl : (backTo pos (starEach es X.env)).any (·.1) = false := by rfl) :
    PE X (.Call (.Name x p) (e :: es) [] pos) (tCall sp [] E0 t) := by
  obtain ⟨f, fd, ok, hm, kp, bd⟩ := C
  exact pe_call ok hr hg hm kp bd .nil pass0 ha hdb he hpl
theorem Cal.imp {P : Program} {w : World} {K : PySem.W.Frag} {mg : Str → Option Value} {base : Heap} {x : Str} {ps : List Str} {sp sp' : Sp} {k : Nat} (C : Cal P w K mg base x ps sp k) (h : ∀ vs H Q E, sp' vs H Q E → sp vs H Q E) : Cal P w K mg base x ps sp' k := by
  obtain ⟨f, fd, ok, hm, kp, bd⟩ := C
  exact ⟨f, fd, ok.imp h, hm, kp, bd⟩
theorem Cal.mono {P : Program} {w : World} {K : PySem.W.Frag} {mg : Str → Option Value} {base : Heap} {x : Str} {ps : List Str} {sp : Sp} {j k : Nat} (C : Cal P w K mg base x ps sp j) (h : j ≤ k) : Cal P w K mg base x ps sp k := by
  obtain ⟨f, fd, ok, hm, kp, bd⟩ := C
  exact ⟨f, fd, ok.mono h, hm, kp, bd⟩

/-! ### reading data off the heap -/
section
variable {X : Cx} {pins : List (Addr × Obj)} {σ : St} {F H : Hp} {s : Shared} {d : D} {ds : List D} {v : V} {u : Value} {vs : List V} {us : List Value}
theorem rp_reads (I : Inv X pins σ H s) (e : Same F H) (r : Rp F v d) (ru : RelV v u) : ∃ as, Reads s.heap u d as := Dp.reads I d v u (r.dp e) ru
theorem rpa_reads (I : Inv X pins σ H s) (e : Same F H) (r : RpA F vs ds) (ru : Vals vs us) : ∃ as, ReadsAll s.heap us ds as := Dp.readsAll I ds vs us (r.dp e) ru
mutual
theorem Rp.plain : ∀ (d : D) {v : V}, Rp F v d → d.plain = true
  | .none, _, _ => by simp only [PyData.plain]
  | .bool _, _, _ => by simp only [PyData.plain]
  | .int _, _, _ => by simp only [PyData.plain]
  | .str _, _, _ => by simp only [PyData.plain]
  | .list ds, _, h => by
    cases h with
    | lst _ h => simp only [PyData.plain]; exact RpA.plain ds h
  | .tuple ds, _, h => by
    cases h with
    | tup _ h => simp only [PyData.plain]; exact RpA.plain ds h
  | .dict _, _, h => by cases h
theorem RpA.plain : ∀ (ds : List D) {vs : List V}, RpA F vs ds → PyData.plainAll ds = true
  | [], _, _ => by simp only [PyData.plainAll]
  | d :: ds, _, h => by
    cases h with
    | cons h1 h2 => simp only [PyData.plainAll, Bool.and_eq_true]; exact ⟨Rp.plain d h1, RpA.plain ds h2⟩
end
/-- at most so deep -/
def DpN (n : Nat) (d : D) : Prop := d.depth ≤ n
theorem dpn_int {n : Nat} {i : Int} : DpN n (.int i) := by simp [DpN, PyData.depth]
theorem dpn_bl {n : Nat} {b : Bool} : DpN n (.bool b) := by simp [DpN, PyData.depth]
theorem dpn_str {n : Nat} {x : Str} : DpN n (.str x) := by simp [DpN, PyData.depth]
theorem dpn_non {n : Nat} : DpN n .none := by simp [DpN, PyData.depth]
theorem depthAll_le {n : Nat} : ∀ {ds : List D}, (∀ d ∈ ds, DpN n d) → PyData.depthAll ds ≤ n
  | [], _ => by simp [PyData.depthAll]
  | d :: ds, h => by
    simp only [PyData.depthAll]
    exact Nat.max_le.mpr ⟨h d (by simp), depthAll_le fun e he => h e (by simp [he])⟩
theorem dpn_list {n : Nat} {ds : List D} (h : ∀ d ∈ ds, DpN n d) : DpN (n + 1) (.list ds) := by
  simp only [DpN, PyData.depth]
  exact Nat.succ_le_succ (depthAll_le h)
theorem dpn_tup {n : Nat} {ds : List D} (h : ∀ d ∈ ds, DpN n d) : DpN (n + 1) (.tuple ds) := by
  simp only [DpN, PyData.depth]
  exact Nat.succ_le_succ (depthAll_le h)
theorem dpn_map {α : Type} {n : Nat} {xs : List α} {f : α → D} (h : ∀ x ∈ xs, DpN n (f x)) : ∀ d ∈ xs.map f, DpN n d := fun d hd => by
  obtain ⟨x, hx, rfl⟩ := List.mem_map.mp hd
  exact h x hx
theorem dpn_nil {n : Nat} : ∀ d ∈ ([] : List D), DpN n d := fun d h => by cases h
theorem dpn_cons {n : Nat} {d : D} {ds : List D} (h : DpN n d) (hs : ∀ e ∈ ds, DpN n e) : ∀ e ∈ d :: ds, DpN n e := fun e he => by
  rcases List.mem_cons.mp he with rfl | he
  · exact h
  · exact hs e he
theorem DpN.up {n m : Nat} {d : D} (h : DpN n d) (k : n ≤ m) : DpN m d := Nat.le_trans h k
end

/-! ### ==, != of data at depth 64 -/
section
variable {X : Cx} {K : PySem.W.Frag} {d d1 d2 : D} {ds es : List D} {Q : D → Prop}
def rEqP (K : PySem.W.Frag) : R2 := fun x y H Q => ∃ d e, Dp K H x d ∧ Dp K H y e ∧ d.plain = true ∧ e.plain = true ∧ min d.depth e.depth ≤ 60 ∧ Q (.bl (PyData.eqv d e)) H
def rNeP (K : PySem.W.Frag) : R2 := fun x y H Q => ∃ d e, Dp K H x d ∧ Dp K H y e ∧ d.plain = true ∧ e.plain = true ∧ min d.depth e.depth ≤ 60 ∧ Q (.bl (!PyData.eqv d e)) H
theorem op_eqP (hu : X.A.units + 64 < cLine) : OpR X (compareOp .Eq) (rEqP X.K) := by
  rintro pins s σ H x y v u Q I rx ry ⟨d, e, hd, he, pd, pe, hz, q⟩
  obtain ⟨as, r1⟩ := Dp.reads I d x v hd rx
  obtain ⟨bs, r2⟩ := Dp.reads I e y u he ry
  exact PySem.SeqAt.eq_plain r1 r2 pd pe (by omega) ⟨.bl _, H, I, rfl, q⟩
theorem op_neP (hu : X.A.units + 64 < cLine) : OpR X (compareOp .NotEq) (rNeP X.K) := by
  rintro pins s σ H x y v u Q I rx ry ⟨d, e, hd, he, pd, pe, hz, q⟩
  obtain ⟨as, r1⟩ := Dp.reads I d x v hd rx
  obtain ⟨bs, r2⟩ := Dp.reads I e y u he ry
  exact PySem.SeqAt.ne_plain r1 r2 pd pe (by omega) ⟨.bl _, H, I, rfl, q⟩
theorem opd_eqP (h : min d1.depth d2.depth ≤ 60) (k : Q (.bool (PyData.eqv d1 d2))) : OpD (rEqP K) d1 d2 Q := fun F H x y e rx ry Z z => ⟨d1, d2, rx.dp e, ry.dp e, Rp.plain _ rx, Rp.plain _ ry, h, z _ _ F H k (Gr.refl e) (.bl _)⟩
theorem opd_neP (h : min d1.depth d2.depth ≤ 60) (k : Q (.bool (!PyData.eqv d1 d2))) : OpD (rNeP K) d1 d2 Q := fun F H x y e rx ry Z z => ⟨d1, d2, rx.dp e, ry.dp e, Rp.plain _ rx, Rp.plain _ ry, h, z _ _ F H k (Gr.refl e) (.bl _)⟩
theorem min_l {n m k : Nat} (h : n ≤ k) : min n m ≤ k := Nat.le_trans (Nat.min_le_left _ _) h
theorem min_r {n m k : Nat} (h : m ≤ k) : min n m ≤ k := Nat.le_trans (Nat.min_le_right _ _) h
/-! in, not in -/
def rInP (K : PySem.W.Frag) : R2 := fun x y H Q => ∃ d es, Dp K H x d ∧ (Dp K H y (.list es) ∨ Dp K H y (.tuple es)) ∧ d.plain = true ∧ PyData.plainAll es = true ∧ min (PyData.depthAll es) d.depth ≤ 60 ∧ Q (.bl (es.any fun y => PyData.eqv y d)) H
def rNinP (K : PySem.W.Frag) : R2 := fun x y H Q => ∃ d es, Dp K H x d ∧ (Dp K H y (.list es) ∨ Dp K H y (.tuple es)) ∧ d.plain = true ∧ PyData.plainAll es = true ∧ min (PyData.depthAll es) d.depth ≤ 60 ∧ Q (.bl (!es.any fun y => PyData.eqv y d)) H
theorem op_inP (hu : X.A.units + 64 < cLine) : OpR X (compareOp .In) (rInP X.K) := by
  rintro pins s σ H x y v u Q I rx ry ⟨d, es, hd, he, pd, pe, hz, q⟩
  obtain ⟨as, r1⟩ := Dp.reads I d x v hd rx
  rcases he with he | he
  · obtain ⟨bs, r2⟩ := Dp.reads I _ y u he ry
    exact PySem.SeqAt.in_list_data r2 r1 pe pd (by omega) ⟨.bl _, H, I, rfl, q⟩
  · obtain ⟨bs, r2⟩ := Dp.reads I _ y u he ry
    exact PySem.SeqAt.in_tuple_data r2 r1 pe pd (by omega) ⟨.bl _, H, I, rfl, q⟩
theorem op_ninP (hu : X.A.units + 64 < cLine) : OpR X (compareOp .NotIn) (rNinP X.K) := by
  rintro pins s σ H x y v u Q I rx ry ⟨d, es, hd, he, pd, pe, hz, q⟩
  obtain ⟨as, r1⟩ := Dp.reads I d x v hd rx
  rcases he with he | he
  · obtain ⟨bs, r2⟩ := Dp.reads I _ y u he ry
    exact PySem.SeqAt.notIn_list_data r2 r1 pe pd (by omega) ⟨.bl _, H, I, rfl, q⟩
  · obtain ⟨bs, r2⟩ := Dp.reads I _ y u he ry
    exact PySem.SeqAt.notIn_tuple_data r2 r1 pe pd (by omega) ⟨.bl _, H, I, rfl, q⟩
theorem opd_inL (h : min (PyData.depthAll es) d.depth ≤ 60) (k : Q (.bool (es.any fun y => PyData.eqv y d))) : OpD (rInP K) d (.list es) Q := fun F H x y e rx ry Z z =>
  ⟨d, es, rx.dp e, .inl (ry.dp e), Rp.plain _ rx, by have := Rp.plain _ ry; simpa only [PyData.plain] using this, h, z _ _ F H k (Gr.refl e) (.bl _)⟩
theorem opd_inT (h : min (PyData.depthAll es) d.depth ≤ 60) (k : Q (.bool (es.any fun y => PyData.eqv y d))) : OpD (rInP K) d (.tuple es) Q := fun F H x y e rx ry Z z =>
  ⟨d, es, rx.dp e, .inr (ry.dp e), Rp.plain _ rx, by have := Rp.plain _ ry; simpa only [PyData.plain] using this, h, z _ _ F H k (Gr.refl e) (.bl _)⟩
theorem opd_ninL (h : min (PyData.depthAll es) d.depth ≤ 60) (k : Q (.bool (!es.any fun y => PyData.eqv y d))) : OpD (rNinP K) d (.list es) Q := fun F H x y e rx ry Z z =>
  ⟨d, es, rx.dp e, .inl (ry.dp e), Rp.plain _ rx, by have := Rp.plain _ ry; simpa only [PyData.plain] using this, h, z _ _ F H k (Gr.refl e) (.bl _)⟩
theorem opd_ninT (h : min (PyData.depthAll es) d.depth ≤ 60) (k : Q (.bool (!es.any fun y => PyData.eqv y d))) : OpD (rNinP K) d (.tuple es) Q := fun F H x y e rx ry Z z =>
  ⟨d, es, rx.dp e, .inr (ry.dp e), Rp.plain _ rx, by have := Rp.plain _ ry; simpa only [PyData.plain] using this, h, z _ _ F H k (Gr.refl e) (.bl _)⟩
/-! min, max of a list of alike data -/
def rMnD (K : PySem.W.Frag) : List V → Hp → VK → Prop := fun vs H Q => ∃ (F : Hp) (a : Addr) (xs : List V) (d : D) (ds : List D), vs = [.ref a] ∧ Same F H ∧ Rd F a (.lst xs) ∧ RpA F xs (d :: ds) ∧ PySem.W.AlikeAll (d :: ds) ∧ PyData.depthAll (d :: ds) ≤ 60 ∧ ∀ v, Rp F v (PySem.W.minD d ds) → Q v H
def rMxD (K : PySem.W.Frag) : List V → Hp → VK → Prop := fun vs H Q => ∃ (F : Hp) (a : Addr) (xs : List V) (d : D) (ds : List D), vs = [.ref a] ∧ Same F H ∧ Rd F a (.lst xs) ∧ RpA F xs (d :: ds) ∧ PySem.W.AlikeAll (d :: ds) ∧ PyData.depthAll (d :: ds) ≤ 60 ∧ ∀ v, Rp F v (PySem.W.maxD d ds) → Q v H
theorem minD_mem (d : D) (ds : List D) : PySem.W.minD d ds ∈ d :: ds := by
  have : ∀ (es : List D) (a : D), es.foldl (fun a y => if PySem.W.dataLt y a then y else a) a ∈ a :: es := by
    intro es
    induction es with
    | nil => intro a; simp
    | cons e es ih =>
      intro a
      rw [List.foldl_cons]
      have q := ih (if PySem.W.dataLt e a then e else a)
      by_cases c : PySem.W.dataLt e a = true
      · rw [if_pos c] at q ⊢
        exact List.mem_cons_of_mem _ q
      · rw [if_neg c] at q ⊢
        rcases List.mem_cons.mp q with q | q
        · rw [q]; exact List.mem_cons_self
        · exact List.mem_cons_of_mem _ (List.mem_cons_of_mem _ q)
  exact this ds d
theorem maxD_mem (d : D) (ds : List D) : PySem.W.maxD d ds ∈ d :: ds := by
  have : ∀ (es : List D) (a : D), es.foldl (fun a y => if PySem.W.dataLt a y then y else a) a ∈ a :: es := by
    intro es
    induction es with
    | nil => intro a; simp
    | cons e es ih =>
      intro a
      rw [List.foldl_cons]
      have q := ih (if PySem.W.dataLt a e then e else a)
      by_cases c : PySem.W.dataLt a e = true
      · rw [if_pos c] at q ⊢
        exact List.mem_cons_of_mem _ q
      · rw [if_neg c] at q ⊢
        rcases List.mem_cons.mp q with q | q
        · rw [q]; exact List.mem_cons_self
        · exact List.mem_cons_of_mem _ (List.mem_cons_of_mem _ q)
  exact this ds d
theorem pick_rp {pins : List (Addr × Obj)} {σ : St} {F H : Hp} {s : Shared} {xs : List V} {its : List Value} {es : List D} {m : D} (I : Inv X pins σ H s) (e : Same F H) (ra : RpA F xs es) (rv : Vals xs its) (al : PySem.W.AlikeAll es) (hm : m ∈ es)
    {i : Nat} {v : Value} {h' : Heap} {bs : List Addr} (hi : its.toArray[i]? = some v) (rd : Reads h' v m bs) (hk : ∀ b o, s.heap.get? b = some o → h'.get? b = some o) : ∃ y, RelV y v ∧ Rp F y m := by
  have hi' : its[i]? = some v := by simpa using hi
  have hl : i < xs.length := by rw [rv.length]; exact (List.getElem?_eq_some_iff.mp hi').1
  obtain ⟨u, hu, ru⟩ := rv.get (List.getElem?_eq_getElem hl)
  rw [hi'] at hu
  cases hu
  obtain ⟨d, hd, rp⟩ := ra.get' (List.getElem?_eq_getElem hl)
  obtain ⟨as, r1⟩ := rp_reads I e rp ru
  have q : d = m := PySem.W.alike_unique d m v as bs (al.1 d (List.mem_of_getElem? hd) m hm) (PyProof.Rows.Reads.keeps hk r1) rd
  rw [q] at rp
  exact ⟨_, ru, rp⟩
theorem cb_minD (hc : X.calm = true) (hu : X.A.units + 64 < cLine) : CallR X (.builtin "min") (rMnD X.K) := by
  rintro pins s σ H vs us Q I r ⟨F, a, xs, d, ds, rfl, e, ha, ra, al, hz, q⟩
  obtain ⟨its, rv, hl, _⟩ := I.list (sqL_rd (K := X.K) ha e)
  obtain ⟨as, rr⟩ := rpa_reads I e ra rv
  rw [Vals.ref1 r]
  refine PySem.W.min_list_data (I.ok.hd hc) hl.isList (by simpa using rr) al (by omega) fun i v h' tk bs hi rd hk => ?_
  obtain ⟨y, ry, rp⟩ := pick_rp I e ra rv al (minD_mem d ds) hi rd hk
  exact ⟨y, H, I.kept hk, ry, q y rp⟩
theorem cb_maxD (hc : X.calm = true) (hu : X.A.units + 64 < cLine) : CallR X (.builtin "max") (rMxD X.K) := by
  rintro pins s σ H vs us Q I r ⟨F, a, xs, d, ds, rfl, e, ha, ra, al, hz, q⟩
  obtain ⟨its, rv, hl, _⟩ := I.list (sqL_rd (K := X.K) ha e)
  obtain ⟨as, rr⟩ := rpa_reads I e ra rv
  rw [Vals.ref1 r]
  refine PySem.W.max_list_data (I.ok.hd hc) hl.isList (by simpa using rr) al (by omega) fun i v h' tk bs hi rd hk => ?_
  obtain ⟨y, ry, rp⟩ := pick_rp I e ra rv al (maxD_mem d ds) hi rd hk
  exact ⟨y, H, I.kept hk, ry, q y rp⟩
theorem cbd_minD (al : PySem.W.AlikeAll (d :: ds)) (hz : PyData.depthAll (d :: ds) ≤ 60) (k : Q (PySem.W.minD d ds)) : CbD (rMnD K) [.list (d :: ds)] Q := fun F H vs e r Z z => by
  obtain ⟨v, rfl, rv⟩ := r.one
  obtain ⟨a, xs, rfl, h1, h2⟩ := rv.lst_inv
  exact ⟨F, a, xs, d, ds, rfl, e, h1, h2, al, hz, fun v rv => z _ _ F H k (Gr.refl e) rv⟩
theorem cbd_maxD (al : PySem.W.AlikeAll (d :: ds)) (hz : PyData.depthAll (d :: ds) ≤ 60) (k : Q (PySem.W.maxD d ds)) : CbD (rMxD K) [.list (d :: ds)] Q := fun F H vs e r Z z => by
  obtain ⟨v, rfl, rv⟩ := r.one
  obtain ⟨a, xs, rfl, h1, h2⟩ := rv.lst_inv
  exact ⟨F, a, xs, d, ds, rfl, e, h1, h2, al, hz, fun v rv => z _ _ F H k (Gr.refl e) rv⟩
theorem alike_ints (ns : List Int) : PySem.W.AlikeAll (ns.map PyData.int) := ⟨fun x hx y hy => by
  obtain ⟨a, _, rfl⟩ := List.mem_map.mp hx
  obtain ⟨b, _, rfl⟩ := List.mem_map.mp hy
  rfl, fun x hx => by
  obtain ⟨a, _, rfl⟩ := List.mem_map.mp hx
  intro z; cases z⟩
def foldMin : List Int → Int
  | [] => 0
  | n :: ns => ns.foldl min n
def foldMax : List Int → Int
  | [] => 0
  | n :: ns => ns.foldl max n
theorem cbd_minI {ns : List Int} (h : 0 < ns.length) (k : Q (.int (foldMin ns))) : CbD (rMnD K) [.list (ns.map .int)] Q := by
  cases ns with
  | nil => cases h
  | cons n ns =>
    refine cbd_minD (alike_ints (n :: ns)) ?_ ?_
    · exact depthAll_le (dpn_map (xs := n :: ns) fun x _ => dpn_int)
    · have e := PySem.W.minD_ints n ns
      show Q (PySem.W.minD (.int n) (ns.map .int))
      rw [e]
      exact k
theorem cbd_maxI {ns : List Int} (h : 0 < ns.length) (k : Q (.int (foldMax ns))) : CbD (rMxD K) [.list (ns.map .int)] Q := by
  cases ns with
  | nil => cases h
  | cons n ns =>
    refine cbd_maxD (alike_ints (n :: ns)) ?_ ?_
    · exact depthAll_le (dpn_map (xs := n :: ns) fun x _ => dpn_int)
    · have e := PySem.W.maxD_ints n ns
      show Q (PySem.W.maxD (.int n) (ns.map .int))
      rw [e]
      exact k
/-! sorted -/
abbrev sortD (ds : List D) : List D := ds.mergeSort (PySem.W.dataLe false id)
def rSrD (K : PySem.W.Frag) : List V → Hp → VK → Prop := fun vs H Q => ∃ (F : Hp) (a : Addr) (xs : List V) (ds : List D), vs = [.ref a] ∧ Same F H ∧ Rd F a (.lst xs) ∧ RpA F xs ds ∧ PySem.W.AllAlike ds ∧ PySem.W.Sortable ds ∧ PyData.depthAll ds ≤ 60 ∧
  ∀ p ys, H p = none → RpA F ys (sortD ds) → Q (.ref p) (upd H p (.lst ys))
theorem rpa_zip {F : Hp} : ∀ {xs : List V} {ds : List D}, RpA F xs ds → ∀ p ∈ xs.zip ds, Rp F p.1 p.2
  | _, [], h, p, hp => by cases h; cases hp
  | _, d :: ds, h, p, hp => by
    cases h with
    | cons h1 h2 =>
      rcases List.mem_cons.mp hp with rfl | hp
      · exact h1
      · exact rpa_zip h2 p hp
theorem rpa_of {F : Hp} : ∀ {zs : List (V × D)}, (∀ p ∈ zs, Rp F p.1 p.2) → RpA F (zs.map Prod.fst) (zs.map Prod.snd)
  | [], _ => .nil
  | z :: zs, h => .cons (h z (by simp)) (rpa_of fun p hp => h p (by simp [hp]))
theorem each_zip {F : Hp} : ∀ {xs : List V} {ds : List D} {its : List Value}, RpA F xs ds → Vals xs its → PySem.W.EachIs (fun v (b : V × D) => RelV b.1 v) its (xs.zip ds)
  | _, [], _, h, r => by cases h; cases r; exact .nil
  | _, d :: ds, _, h, r => by
    cases h with
    | cons h1 h2 =>
      cases r with
      | cons r1 r2 => exact .cons r1 (each_zip h2 r2)
theorem vals_each : ∀ {zs : List (V × D)} {out : List Value}, PySem.W.EachIs (fun v (b : V × D) => RelV b.1 v) out zs → Vals (zs.map Prod.fst) out
  | _, _, .nil => .nil
  | _, _, .cons h t => .cons h (vals_each t)
theorem each_reads {h : Heap} : ∀ {xs : List V} {ds : List D} {its : List Value} {as : List Addr}, xs.length = ds.length → ReadsAll h its ds as → PySem.W.EachIs (fun v (b : V × D) => ∃ as, Reads h v b.2 as) its (xs.zip ds)
  | [], [], _, _, _, r => by cases r; exact .nil
  | x :: xs, d :: ds, _, _, l, r => by
    cases r with
    | cons r1 r2 => exact .cons ⟨_, r1⟩ (each_reads (by simpa using l) r2)
  | [], _ :: _, _, _, l, _ => by simp at l
  | _ :: _, [], _, _, l, _ => by simp at l
theorem depth_mem : ∀ {ds : List D} {d : D}, d ∈ ds → d.depth ≤ PyData.depthAll ds
  | [], _, h => by cases h
  | e :: ds, d, h => by
    simp only [PyData.depthAll]
    rcases List.mem_cons.mp h with rfl | h
    · exact Nat.le_max_left _ _
    · exact Nat.le_trans (depth_mem h) (Nat.le_max_right _ _)
theorem cb_sortD (hu : X.A.units + 64 < cLine) : CallR X (.builtin "sorted") (rSrD X.K) := by
  rintro pins s σ H vs us Q I r ⟨F, a, xs, ds, rfl, e, ha, ra, al, so, hz, q⟩
  obtain ⟨its, rv, hl, hzl⟩ := I.list (sqL_rd (K := X.K) ha e)
  obtain ⟨as, rr⟩ := rpa_reads I e ra rv
  rw [Vals.ref1 r]
  have hmap : (xs.zip ds).map Prod.snd = ds := List.map_snd_zip (by rw [ra.len]; exact Nat.le_refl _)
  have hlen : (xs.zip ds).length = xs.length := by rw [List.length_zip, ra.len, Nat.min_self]
  refine PySem.W.sorted_data (bs := xs.zip ds) (enc := Prod.snd) hl.isList (each_zip ra rv) (each_reads ra.len rr) (by rw [hmap]; exact al) (by rw [hmap]; exact so) (by rw [hlen]; exact hzl)
    (fun b hb => ?_) fun out ho he => ?_
  · have hd : b.2 ∈ ds := by rw [← hmap]; exact List.mem_map_of_mem hb
    have := depth_mem hd
    omega
  · obtain ⟨ep, he'⟩ := PyProof.Rows.sortedAll_at s.heap its out.toArray
    have hv := vals_each he
    have hd : (List.mergeSort (xs.zip ds) (PySem.W.dataLe false Prod.snd)).map Prod.snd = sortD ds := by
      have q := PySem.W.sort_maps (r := PySem.W.dataLe false Prod.snd) (s := PySem.W.dataLe false id) (Prod.snd : V × D → D) (l := xs.zip ds) (fun a _ b _ => rfl)
      rw [q, hmap]
    have hr := rpa_of (F := F) (zs := List.mergeSort (xs.zip ds) (PySem.W.dataLe false Prod.snd)) fun p hp => rpa_zip ra p (List.mem_mergeSort.mp hp)
    rw [hd] at hr
    refine ⟨.ref _, upd H (s.heap.objs.size + 1) (.lst ((List.mergeSort (xs.zip ds) (PySem.W.dataLe false Prod.snd)).map Prod.fst)), I.laid (t' := s.toks) (fun _ _ => PyProof.Rows.sortedAll_old) (Nat.le_succ _) ⟨?_, out, ep, hv, he'⟩, rfl, q _ _ (I.hok.fresh (Nat.le_succ _)) hr⟩
    rw [List.length_map, List.length_mergeSort, hlen]
    exact hzl
theorem cbo_sortD {Q : List D → Prop} (al : PySem.W.AllAlike ds) (so : PySem.W.Sortable ds) (hz : PyData.depthAll ds ≤ 60) (k : Q (sortD ds)) : CbO (rSrD K) [.list ds] Q := fun F H vs e r Z z => by
  obtain ⟨v, rfl, rv⟩ := r.one
  obtain ⟨a, xs, rfl, h1, h2⟩ := rv.lst_inv
  exact ⟨F, a, xs, ds, rfl, e, h1, h2, al, so, hz, fun p ys hp rp => z _ p _ _ k (same_upd hp) hp upd_same rp⟩
/-! x.extend(ys) -/
def rExtR : V → List V → Hp → VK → Prop := fun x vs H Q => ∃ l b xs zs, x = .ref l ∧ vs = [.ref b] ∧ H l = some (.lst xs) ∧ Rd H b (.lst zs) ∧ xs.length + zs.length ≤ sizeLine ∧ Q .non (upd H l (.lst (xs ++ zs)))
theorem mt_extR : MtM X "list.extend" rExtR := by
  intro pins s σ H x vs v us Q I rx rv h
  obtain ⟨l, b, xs, zs, rfl, rfl, hH, hB, hz, q⟩ := h
  cases rx
  obtain ⟨u, rfl, ru⟩ := rv.one
  cases ru
  obtain ⟨z, its, n, r, hl, e⟩ := I.lstM hH
  obtain ⟨z2, its2, n2, r2, e2⟩ := hB.ok I.hok
  have hl2 := r2.length
  have k1 : its.toArray.size + its2.toArray.size ≤ sizeLine := by rw [List.size_toArray, List.size_toArray]; omega
  have k2 : ¬ (!its.toArray.isEmpty && Builtin.List.listTooLong (its.toArray.size + its2.toArray.size)) = true := by rw [notLongL k1, Bool.and_false]; exact Bool.false_ne_true
  refine call_meets F.slot_list_extend ⟨_, e, rfl⟩ F.entry_list_extend (F.args_list_extend_2 _ _) (AutoSeq1.list_extend_list_list_0 l its.toArray n b its2.toArray n2 k2 (by rw [List.size_toArray]; omega) (by omega)) ⟨e, e2, ?_⟩
  refine ⟨.non, _, I.lset (its' := its ++ its2) hH e (by simp) (r.append r2) ?_, rfl, q⟩
  rw [List.length_append]; omega
theorem sx_ext {ρ : Env} {P : Po} {te : TE} {i : Nat} {fs : List D} (h : ρ[i]? = some (.own fs)) (k : EX te ρ fun d ρ1 => ∃ ds es, d = .list es ∧ ρ1[i]? = some (.own ds) ∧ ds.length + es.length ≤ 1000000 ∧ NX P (ρ1.set i (.own (ds ++ es)))) : SX (tDrop (tBM K "list" rExtR (tVar i) (tCons te tNil))) ρ P := fun B σ F H w Dn n r b c => by
  obtain ⟨ad, w⟩ := w
  obtain ⟨p0, vs0, _, _, k1, k0, _⟩ := w.sl i _ h
  refine ⟨_, k1, .inl ⟨rfl, _, .inl (.inl k0)⟩, k B ad σ F H w _ fun d ρ1 v F1 H1 q1 p1 r1 => ?_⟩
  obtain ⟨ds, es, rfl, h1, hz, ρ', l, q⟩ := q1
  obtain ⟨p, vs, _, _, k2, k3, rr⟩ := p1.wa.sl i _ h1
  have e := k1.symm.trans k2
  cases e
  obtain ⟨a, ws, rfl, g1, g2⟩ := r1.lst_inv
  exact ⟨_, a, vs, ws, rfl, rfl, k3, rd_mono p1.wa.gr.fh g1, Nat.le_trans (by rw [rr.len, g2.len]; exact hz) (by decide), n ρ' σ F1 _ q ((p1.wa.mut h1 k2 (rr.app g2)).weak l)⟩
end

/-! ### short forms for a run -/
section
variable {K : PySem.W.Frag} {Q : D → Prop} {i j : Int} {d d1 d2 : D} {ds es : List D}
theorem Gr.frz {F H H' : Hp} {p : Addr} {vs : List V} (e : Same F H) (g : Same H H') (hn : H p = none) (hp : H' p = some (.lst vs)) : Gr Non F H (upd F p (.lst vs)) H' where
  ff := same_upd (e.free hn)
  fh := fun a u q => by
    by_cases ha : a = p
    · subst ha; rw [upd_same] at q; rw [hp]; exact q
    · rw [upd_ne ha] at q; exact g a u (e a u q)
  kp := fun a u q _ => g a u q
  al := fun a q => by
    cases z : H a with
    | none => exact absurd z q
    | some o => rw [g a o z]; intro z; cases z
  fr := fun a q z => by
    have ha : a ≠ p := fun z => q (z ▸ hn)
    rw [upd_ne ha]; exact z
theorem opd_ofO {r : R2} (h : OpO r d1 d2 fun ds => Q (.list ds)) : OpD r d1 d2 Q := fun F H x y e rx ry Z z => h F H x y e rx ry Z fun ds p vs H' q g hn hp rv =>
  z _ _ (upd F p (.lst vs)) H' q (Gr.frz e g hn hp) (.lst (.inl upd_same) (rv.up (Gr.frz e g hn hp).ff))
theorem cbd_ofO {r : List V → Hp → VK → Prop} (h : CbO r ds fun ds => Q (.list ds)) : CbD r ds Q := fun F H vs e rv Z z => h F H vs e rv Z fun ds p vs H' q g hn hp rv =>
  z _ _ (upd F p (.lst vs)) H' q (Gr.frz e g hn hp) (.lst (.inl upd_same) (rv.up (Gr.frz e g hn hp).ff))
theorem sld_ofO {r : V → Option Int → Option Int → Hp → VK → Prop} {lo hi : Option Int} (h : SlO r d lo hi fun ds => Q (.list ds)) : SlD r d lo hi Q := fun F H x e rx Z z => h F H x e rx Z fun ds p vs H' q g hn hp rv =>
  z _ _ (upd F p (.lst vs)) H' q (Gr.frz e g hn hp) (.lst (.inl upd_same) (rv.up (Gr.frz e g hn hp).ff))
theorem opd_plusL (hz : ds.length + es.length ≤ 1000000) (k : Q (.list (ds ++ es))) : OpD (rPlus K) (.list ds) (.list es) Q := opd_ofO (opo_plusL hz k)
theorem sld_L {lo hi : Option Int} (k : Q (.list (cutD ds lo hi))) : SlD (rSl K) (.list ds) lo hi Q := sld_ofO (slo_L k)
theorem cbd_listL (k : Q (.list ds)) : CbD (rList K) [.list ds] Q := cbd_ofO (cbo_listL k)
theorem cbd_listT (k : Q (.list ds)) : CbD (rList K) [.tuple ds] Q := cbd_ofO (cbo_listT k)
theorem cbd_sortD (al : PySem.W.AllAlike ds) (so : PySem.W.Sortable ds) (hz : PyData.depthAll ds ≤ 60) (k : Q (.list (sortD ds))) : CbD (rSrD K) [.list ds] Q := cbd_ofO (cbo_sortD al so hz k)
theorem opd_eqI (k : Q (.bool (decide (i = j)))) : OpD (rEqP K) (.int i) (.int j) Q := opd_eqP (min_l (by simp [PyData.depth])) (by
  have e : PyData.eqv (.int i) (.int j) = decide (i = j) := by simp only [PyData.eqv]; exact Bool.beq_eq_decide_eq i j
  rw [e]; exact k)
theorem opd_neI (k : Q (.bool (!decide (i = j)))) : OpD (rNeP K) (.int i) (.int j) Q := opd_neP (min_l (by simp [PyData.depth])) (by
  have e : PyData.eqv (.int i) (.int j) = decide (i = j) := by simp only [PyData.eqv]; exact Bool.beq_eq_decide_eq i j
  rw [e]; exact k)
theorem opd_eqS {x y : Str} (k : Q (.bool (decide (x = y)))) : OpD (rEqP K) (.str x) (.str y) Q := opd_eqP (min_l (by simp [PyData.depth])) (by
  have e : PyData.eqv (.str x) (.str y) = decide (x = y) := by simp only [PyData.eqv]; by_cases h : x = y <;> simp [h]
  rw [e]; exact k)
theorem opd_neS {x y : Str} (k : Q (.bool (!decide (x = y)))) : OpD (rNeP K) (.str x) (.str y) Q := opd_neP (min_l (by simp [PyData.depth])) (by
  have e : PyData.eqv (.str x) (.str y) = decide (x = y) := by simp only [PyData.eqv]; by_cases h : x = y <;> simp [h]
  rw [e]; exact k)
theorem atI_in {α : Type} {xs : List α} {k : Int} (h0 : 0 ≤ k) (h1 : k < xs.length) : atI xs k = some (xs[k.toNat]'(by omega)) := by
  obtain ⟨n, rfl⟩ : ∃ n : Nat, k = (n : Int) := ⟨k.toNat, by omega⟩
  exact atI_nat (by simp)
/-- an item of a mapped list, told by a default -/
theorem atI_map {α : Type} {xs : List α} {f : α → D} {k : Int} (a : α) (h0 : 0 ≤ k) (h1 : k < xs.length) : atI (xs.map f) k = some (f (xs.getD k.toNat a)) := by
  have hk : k.toNat < xs.length := by omega
  have e := atI_in (xs := xs.map f) h0 (by rw [List.length_map]; exact h1)
  rw [e, List.getElem_map, List.getD_eq_getElem?_getD, List.getElem?_eq_getElem hk]
  rfl
theorem opd_ixM {α : Type} {xs : List α} {f : α → D} {k : Int} (a : α) (h0 : 0 ≤ k) (h1 : k < xs.length) (q : Q (f (xs.getD k.toNat a))) : OpD (rIxA K) (.list (xs.map f)) (.int k) Q := opd_ixL (atI_map a h0 h1) q
end

theorem rng_at {lo : Int} {n k : Nat} {d : D} (h : ((rngI lo n).map PyData.int)[k]? = some d) : k < n ∧ d = .int (lo + (k : Int)) := by
  have hk : k < n := by
    have := (List.getElem?_eq_some_iff.mp h).1
    rw [List.length_map, rngI_len] at this
    exact this
  rw [List.getElem?_map, rngI_get hk] at h
  exact ⟨hk, (Option.some.inj h).symm⟩
theorem rng_size (lo : Int) (n : Nat) : ((rngI lo n).map PyData.int).length = n := by rw [List.length_map, rngI_len]
theorem map_at {α : Type} {xs : List α} {f : α → D} {k : Nat} {d : D} (h : (xs.map f)[k]? = some d) : ∃ x, xs[k]? = some x ∧ d = f x := by
  rw [List.getElem?_map] at h
  cases e : xs[k]? with
  | none => rw [e] at h; cases h
  | some x => rw [e] at h; exact ⟨x, rfl, (Option.some.inj h).symm⟩

/-- what a slot that holds data gives on -/
def VQ (s : Option Slot) (Q : D → Env → Prop) (ρ : Env) : Prop := match s with
  | some (.val d) => Q d ρ
  | _ => False
theorem ex_vr {ρ : Env} {i : Nat} {Q : D → Env → Prop} (h : VQ ρ[i]? Q ρ) : EX (tVar i) ρ Q := by
  unfold VQ at h
  split at h
  · rename_i d e
    exact ex_var e h
  · exact h.elim

section
variable {K : PySem.W.Frag} {Q : D → Prop} {d : D}
/-- two times the same datum -/
theorem opd_eqSelf (h : d.depth ≤ 60) (k : Q (.bool true)) : OpD (rEqP K) d d Q := fun F H x y e rx ry Z z => opd_eqP (Q := Q) (min_l h) (by rw [PySem.SeqAt.eqv_refl_plain d (Rp.plain d rx)]; exact k) F H x y e rx ry Z z
theorem opd_neSelf (h : d.depth ≤ 60) (k : Q (.bool false)) : OpD (rNeP K) d d Q := fun F H x y e rx ry Z z => opd_neP (Q := Q) (min_l h) (by rw [PySem.SeqAt.eqv_refl_plain d (Rp.plain d rx)]; exact k) F H x y e rx ry Z z
/-! pairs of ints -/
def ltP (a b : Int × Int) : Bool := decide (a.1 < b.1 ∨ a.1 = b.1 ∧ a.2 < b.2)
def encP (p : Int × Int) : D := .tuple [.int p.1, .int p.2]
theorem dataLt_P (a b : Int × Int) : PySem.W.dataLt (encP a) (encP b) = ltP a b := by
  unfold encP ltP
  rw [PySem.W.dataLt_pair rfl rfl]
  simp only [PyData.eqv, PySem.W.dataLt_int]
  by_cases h : a.1 = b.1
  · by_cases h2 : a.2 = b.2
    · simp [h, h2]
    · simp [h, h2]
  · simp [h]
def minPs : List (Int × Int) → Int × Int
  | [] => (0, 0)
  | p :: ps => ps.foldl (fun a y => if ltP y a = true then y else a) p
theorem minD_P (p : Int × Int) (ps : List (Int × Int)) : PySem.W.minD (encP p) (ps.map encP) = encP (minPs (p :: ps)) := by
  have h : ∀ (qs : List (Int × Int)) (a : Int × Int), (qs.map encP).foldl (fun a y => if PySem.W.dataLt y a then y else a) (encP a) = encP (qs.foldl (fun a y => if ltP y a = true then y else a) a) := by
    intro qs
    induction qs with
    | nil => intro a; rfl
    | cons q qs ih =>
      intro a
      simp only [List.map_cons, List.foldl_cons, dataLt_P]
      by_cases h : ltP q a = true
      · rw [if_pos h, if_pos h]; exact ih q
      · rw [if_neg h, if_neg h]; exact ih a
  exact h ps p
theorem alike_P (ps : List (Int × Int)) : PySem.W.AlikeAll (ps.map encP) := ⟨fun x hx y hy => by
  obtain ⟨a, _, rfl⟩ := List.mem_map.mp hx
  obtain ⟨b, _, rfl⟩ := List.mem_map.mp hy
  rfl, fun x hx => by
  obtain ⟨a, _, rfl⟩ := List.mem_map.mp hx
  intro z; cases z⟩
theorem cbd_minP {ps : List (Int × Int)} (h : 0 < ps.length) (k : Q (encP (minPs ps))) : CbD (rMnD K) [.list (ps.map encP)] Q := by
  cases ps with
  | nil => cases h
  | cons p ps =>
    refine cbd_minD (alike_P (p :: ps)) (depthAll_le (dpn_map (xs := p :: ps) fun x _ => dpn_tup (dpn_cons dpn_int (dpn_cons dpn_int dpn_nil)))) ?_
    have e := minD_P p ps
    show Q (PySem.W.minD (encP p) (ps.map encP))
    rw [e]
    exact k
theorem minPs_mem : ∀ {ps : List (Int × Int)}, 0 < ps.length → minPs ps ∈ ps
  | p :: ps, _ => by
    have : ∀ (qs : List (Int × Int)) (a : Int × Int), qs.foldl (fun a y => if ltP y a = true then y else a) a ∈ a :: qs := by
      intro qs
      induction qs with
      | nil => intro a; simp
      | cons e es ih =>
        intro a
        rw [List.foldl_cons]
        have q := ih (if ltP e a = true then e else a)
        by_cases c : ltP e a = true
        · rw [if_pos c] at q ⊢; exact List.mem_cons_of_mem _ q
        · rw [if_neg c] at q ⊢
          rcases List.mem_cons.mp q with q | q
          · rw [q]; exact List.mem_cons_self
          · exact List.mem_cons_of_mem _ (List.mem_cons_of_mem _ q)
    exact this ps p
end

/-! ### the ends: nothing asked, the law's own argument -/
section
variable {P : Program} {w : World} {K : PySem.W.Frag} {mg : Str → Option Value} {base : Heap} {f : Addr} {fd : FuncData} {k : Nat} {ps : List Str}
theorem fn_no {sp : Sp} (no : ∀ vs H Q E, ¬ sp vs H Q E) : FnOk P w K mg base CX0 k f fd ps sp := ⟨fun vs H Q E h => absurd h (no vs H Q E), fun A outer s H args us vs Q E _ _ _ _ h => absurd h (no vs H Q E)⟩
theorem fn_noP {R : List D → (D → Prop) → Prop} (no : ∀ ds Z, ¬ R ds Z) : FnOk P w K mg base CX0 k f fd ps (spP R) := fn_no fun vs H Q E h => by
  obtain ⟨F, ds, Z, _, _, q, _⟩ := h
  exact no ds Z q
theorem fn_noS {R : Stt → List D → (D → Stt → Prop) → Prop} (no : ∀ S ds Z, ¬ R S ds Z) : FnOk P w K mg base CX0 k f fd ps (spS R) := fn_no fun vs H Q E h => by
  obtain ⟨F, s, as, S, us, ds, Z, _, _, _, _, _, q, _⟩ := h
  exact no S ds Z q
/-- the written part holds no list -/
def noLs (K : PySem.W.Frag) : Bool := K.all fun p => match p.2.cls with
  | .type s => !(s == "list")
  | _ => true
theorem noLs_at {K : PySem.W.Frag} (h : noLs K = true) : ∀ {a : Addr} {o : Obj}, K.lookup a = some o → o.cls ≠ .type "list" := by
  intro a o e q
  unfold noLs at h
  induction K with
  | nil => cases e
  | cons p r ih =>
    obtain ⟨b, x⟩ := p
    simp only [List.all_cons, Bool.and_eq_true] at h
    simp only [List.lookup] at e
    split at e
    · cases e
      have h1 := h.1
      rw [q] at h1
      revert h1
      decide
    · exact ih h.2 e
theorem sqL_noK {H : Hp} {a : Addr} {xs : List V} (h : noLs K = true) (s : SqL K H a xs) : Rd H a (.lst xs) := by
  rcases s with s | ⟨o, its, n, e, c, _⟩
  · exact s
  · exact absurd c (noLs_at h e)
theorem rpa_ints {F : Hp} : ∀ ns : List Int, RpA F (ns.map V.int) (ns.map PyData.int)
  | [] => .nil
  | n :: ns => .cons (.int n) (rpa_ints ns)
theorem sp_law {R : List D → (D → Prop) → Prop} {H : Hp} {a : Addr} {ns : List Int} {E : XK} (nl : noLs K = true) (s : SqL K H a (ns.map V.int)) (hR : R [.list (ns.map .int)] fun d => d = .bool true) : spP R [.ref a] H (fun v _ => v = .bl true) E :=
  ⟨H, _, _, fun _ _ h => h, .cons (.lst (sqL_noK nl s) (rpa_ints ns)) .nil, hR, fun d v F' H' e _ rv => by
    subst e
    cases rv
    rfl⟩
end
end Pu
/-! the laws' drawing state: its making and its draws, once for all laws -/
namespace Pu
open PySem L2
/-- a state of the laws: a counter, cells from 0 on -/
def Ok : Stt → Prop
  | .cel a cs => 0 < cs.length ∧ cs.length ≤ 100000 ∧ 0 ≤ a ∧ ∀ c ∈ cs, 0 ≤ c
  | _ => False
def R_state : List D → (Stt → Prop) → Prop := fun ds Z => ∃ ns : List Int, ds = [.list (ns.map .int)] ∧ ∀ S, Ok S → Z S
/-- what is drawn: any number below the bound -/
def R_take : Stt → List D → (D → Stt → Prop) → Prop := fun S ds Z => ∃ m : Int, ds = [.int m] ∧ 1 ≤ m ∧ m < 1073741824 ∧ Ok S ∧ ∀ r S', 0 ≤ r → r < m → Ok S' → Z (.int r) S'
def T_state (K : PySem.W.Frag) : TS :=
    (tSeq (tAsg (tLc (iList K (tSl (rSl K) (tVar 0) tNoPart (tPart (tC (.int 63))))) (gName 2) tYes (tCB (rAbs) (tCons (tVar 2) tNil)) [2]) (gName 1))
    (tSeq (tIfS (tTest (tOp (rEqP K) (tCB (rLen K) (tCons (tVar 1) tNil)) (tC (.int 0))))
      (tAsg (tLst (tCons (tC (.int 0)) tNil)) (gName 1))
      tNext)
    (tRet (tLst (tCons (tC (.int 0)) (tCons (tVar 1) tNil))))))
def T_take (K : PySem.W.Frag) : TS :=
    (tSeq (tAsg (tOp (rIxA K) (tVar 0) (tC (.int 1))) (gName 2))
    (tSeq (tAsg (tOp (rI (fun _ j => 0 < j) fun i j => .int (i % j)) (tOp (rIxA K) (tVar 0) (tC (.int 0))) (tCB (rLen K) (tCons (tVar 2) tNil))) (gName 3))
    (tSeq (tAsg (tOp (rIxA K) (tVar 2) (tVar 3)) (gName 4))
    (tSeq (tIfS (tTest (tOp (rI0 fun i j => .bl (decide (j ≤ i))) (tVar 4) (tC (.int 1000000000000000000))))
      (tSeq (tAsg (tOp (rI CDiv fun i j => .int (i / j)) (tVar 4) (tVar 1)) (gSub (tVar 2) (tVar 3) rSetL))
    (tRet (tOp (rI (fun _ j => 0 < j) fun i j => .int (i % j)) (tVar 4) (tVar 1))))
      tNext)
    (tSeq (tAsg (tOp (rPlus K) (tOp (rIxA K) (tVar 0) (tC (.int 0))) (tC (.int 1))) (gSub (tVar 0) (tC (.int 0)) rSetL))
    (tSeq (tAsg (tOp (rI (fun _ j => 0 < j) fun i j => .int (i % j)) (tCB (rInt) (tCons (tOp (rPlus K) (tOp (rI CMul fun i j => .int (i * j)) (tVar 4) (tC (.int 48271))) (tOp (rI CMul fun i j => .int (i * j)) (tOp (rIxA K) (tVar 0) (tC (.int 0))) (tC (.int 69621)))) tNil)) (tC (.int 2147483647))) (gName 5))
    (tSeq (tAsg (tOp (rI (fun _ j => 0 < j) fun i j => .int (i % j)) (tCB (rInt) (tCons (tOp (rPlus K) (tOp (rI CMul fun i j => .int (i * j)) (tVar 5) (tC (.int 16807))) (tOp (rI CMul fun i j => .int (i * j)) (tOp (rIxA K) (tVar 0) (tC (.int 0))) (tC (.int 7919)))) tNil)) (tC (.int 1000000007))) (gName 5))
    (tRet (tOp (rI (fun _ j => 0 < j) fun i j => .int (i % j)) (tOp (rI CDiv fun i j => .int (i / j)) (tVar 5) (tC (.int 7))) (tVar 1))))))))))
theorem W.first {F H : Hp} {N : List Str} {vs : List V} {ds : List D} (fh : Same F H) (r : RpA F vs ds) : W { F0 := F, H0 := H, M := Non } (startE N ds) (L2.start N vs) F H := by
  refine ⟨fun _ => [], Gr.refl fh, ?_, fun i s e => ?_, (fun i p m => by cases m), (fun i j p m => by cases m), fun _ _ => rfl, (fun s as e => by cases e)⟩
  · unfold L2.start startE
    rw [List.length_append, List.length_append, List.length_map, List.length_map, List.length_replicate, List.length_replicate, r.len]
  · rcases startE_get e with ⟨d, e2, rfl⟩ | rfl
    · obtain ⟨v, e1, rv⟩ := r.get e2
      exact ⟨rfl, v, start_get e1, rv⟩
    · rfl
theorem mem_cut {xs : List D} {lo hi : Option Int} {x : D} (h : x ∈ cutD xs lo hi) : x ∈ xs := List.mem_of_mem_drop (List.mem_of_mem_take h)
theorem cut_map {α : Type} {f : α → D} (xs : List α) (lo hi : Option Int) : ∃ ys : List α, cutD (xs.map f) lo hi = ys.map f ∧ ys.length ≤ xs.length := by
  refine ⟨(xs.drop (HT.sIx (xs.map f).length 0 lo)).take (HT.sIx (xs.map f).length (xs.map f).length hi - HT.sIx (xs.map f).length 0 lo), ?_, ?_⟩
  · unfold cutD
    rw [← List.map_drop, ← List.map_take]
  · rw [List.length_take, List.length_drop]
    omega
theorem run_state {K : PySem.W.Frag} {vs : List V} {H : Hp} {Q : VK} {E : XK} (h : spN R_state vs H Q E) : T_state K { nx := fun _ H' => Q .non H', rt := Q } (L2.start ["script", "cells", "cell"] vs) H := by
  obtain ⟨F, ds, Z, fh, r, ⟨ns, rfl, hz⟩, z⟩ := h
  -- the cells, then the state
  have s1 : SX (tAsg (tLc (iList K (tSl (rSl K) (tVar 0) tNoPart (tPart (tC (.int 63))))) (gName 2) tYes (tCB (rAbs) (tCons (tVar 2) tNil)) [2]) (gName 1)) [.val (.list (ns.map .int)), .emp, .emp]
      { nx := fun ρ' => ∃ cs : List Int, (cs.length ≤ 63 ∧ ∀ c ∈ cs, 0 ≤ c) ∧ ρ' = [.val (.list (ns.map .int)), .own (cs.map .int), .emp], rt := fun _ _ => False } := by
    refine sx_asgO (eo_lcP (α := Int) (fun _ => true) (fun c => .int (c.natAbs : Int)) (ei_list (ex_of (eo_sl (ex_var rfl (ep_no (ep_some (ex_int ⟨63, rfl, slo_L ?_⟩))))))))
    obtain ⟨ys, ey, ly⟩ : ∃ ys : List Int, cutD (ns.map PyData.int) none (some 63) = ys.map PyData.int ∧ ys.length ≤ 63 := by
      refine ⟨(ns.drop (HT.sIx (ns.map PyData.int).length 0 none)).take (HT.sIx (ns.map PyData.int).length (ns.map PyData.int).length (some 63) - HT.sIx (ns.map PyData.int).length 0 none), ?_, ?_⟩
      · unfold cutD
        rw [← List.map_drop, ← List.map_take]
      · rw [List.length_take]
        refine Nat.le_trans (Nat.min_le_left _ _) ?_
        unfold HT.sIx
        simp
        omega
    refine ⟨_, rfl, ys, .int, ey, by omega, fun i hi => by simp at hi; subst hi; rfl, fun x _ => sg_name (by simp) ⟨rfl, et_yes ⟨rfl, rfl, fun _ => ex_cb (ea_cons (ex_var rfl (ea_nil (cbd_abs ⟨rfl, rfl⟩))))⟩⟩, ?_⟩
    refine nx_same ⟨ys.map fun c => (c.natAbs : Int), ⟨by rw [List.length_map]; exact ly, fun c hc => ?_⟩, ?_⟩
    · obtain ⟨x, _, rfl⟩ := List.mem_map.mp hc
      omega
    · rw [List.filter_eq_self.mpr (fun _ _ => rfl), List.map_map]
      rfl
  have s2 : ∀ cs : List Int, (cs.length ≤ 63 ∧ ∀ c ∈ cs, 0 ≤ c) → SX (tIfS (tTest (tOp (rEqP K) (tCB (rLen K) (tCons (tVar 1) tNil)) (tC (.int 0)))) (tAsg (tLst (tCons (tC (.int 0)) tNil)) (gName 1)) tNext) [.val (.list (ns.map .int)), .own (cs.map .int), .emp]
      { nx := fun ρ' => ∃ cs : List Int, (0 < cs.length ∧ cs.length ≤ 63 ∧ ∀ c ∈ cs, 0 ≤ c) ∧ ρ' = [.val (.list (ns.map .int)), .own (cs.map .int), .emp], rt := fun _ _ => False } := fun cs hcs => by
    refine sx_if (et_test (ex_op (ex_lenO rfl (ex_int (opd_eqP (min_l (by simp [PyData.depth])) ⟨_, rfl, fun hb => ?_, fun hb => ?_⟩)))))
    · exact sx_asgO (eo_lst (ea_cons (ex_int (ea_nil ⟨by simp, nx_same ⟨[0], by simp, rfl⟩⟩))))
    · refine sx_next (nx_same ⟨cs, ⟨?_, hcs⟩, rfl⟩)
      simp only [PyData.eqv, List.length_map, beq_eq_false_iff_ne, ne_eq] at hb
      omega
  have w0 := W.first (N := ["script", "cells", "cell"]) fh r
  refine s1 _ _ F H w0 _ (fun ρ1 σ1 F1 H1 q1 w1 => ?_) (fun _ _ _ _ _ _ q => q.elim) (fun _ _ _ _ q => q.elim) (fun _ _ _ _ q => q.elim)
  obtain ⟨cs, hcs, rfl⟩ := q1
  refine s2 cs hcs _ _ F1 H1 w1 _ (fun ρ2 σ2 F2 H2 q2 w2 => ?_) (fun _ _ _ _ _ _ q => q.elim) (fun _ _ _ _ q => q.elim) (fun _ _ _ _ q => q.elim)
  obtain ⟨cs, hcs, rfl⟩ := q2
  obtain ⟨ad, w2⟩ := w2
  obtain ⟨p, us, ka, k0, k1, k2, kr⟩ := w2.sl 1 _ rfl
  refine ⟨_, k1, by show 2 ≤ sizeLine; decide, fun q hq => ?_⟩
  have nq := w2.newp hq
  have npq : p ≠ q := ne_of_none k2 hq
  have g := w2.gr
  refine z (.cel 0 cs) q [q, p] F2 _ (hz _ ⟨hcs.1, by omega, Int.le_refl 0, hcs.2.2⟩) ⟨g.ff, g.fh.trans (same_upd hq), fun a o e m => same_upd hq _ _ (g.kp a o e m), fun a e => ?_, g.fr⟩ ⟨p, rfl, npq.symm, upd_same, ?_⟩ fun a ha => ?_
  · by_cases ha : a = q
    · rw [ha, upd_same]; intro z; cases z
    · rw [upd_ne ha]; exact g.al a e
  · rw [upd_ne npq, k2, kr.ints_inv]
  · have e : a = q ∨ a = p := by simpa using ha
    rcases e with e | e
    · rw [e]; exact ⟨nq.1, nq.2.1⟩
    · rw [e]; exact ⟨(w2.fz 1 p (by rw [ka]; simp)).1, k0⟩
theorem run_take {K : PySem.W.Frag} {vs : List V} {H : Hp} {Q : VK} {E : XK} (h : spS R_take vs H Q E) : T_take K { nx := fun _ H' => Q .non H', rt := Q } (L2.start ["state", "most", "cells", "at", "cell", "mixed"] vs) H := by
  obtain ⟨F, s, as, S, us, ds, Z, rfl, fh, sa, fn, r, ⟨m, rfl, hm1, hm2, ok, hz⟩, z⟩ := h
  obtain ⟨v, rfl, rv⟩ := r.one
  have ev := rv.int_inv
  subst ev
  cases S with
  | two a b => exact ok.elim
  | cel a cs =>
    obtain ⟨c, rfl, ne, hs, hc⟩ := sa
    obtain ⟨hl, hl2, ha, hcs⟩ := ok
    have hlen : (cs.map V.int).length = cs.length := List.length_map _
    have hi0 : 0 ≤ a % (cs.length : Int) := Int.emod_nonneg _ (by omega)
    have hi1 : a % (cs.length : Int) < (cs.length : Int) := Int.emod_lt_of_pos _ (by omega)
    obtain ⟨i, ei⟩ : ∃ i : Nat, a % (cs.length : Int) = (i : Int) := ⟨(a % (cs.length : Int)).toNat, by omega⟩
    have hi : i < cs.length := by omega
    -- cells = state[1]; at = state[0] % len(cells); cell = cells[at]
    refine ⟨_, rfl, .inl ⟨s, _, 1, .ref c, rfl, rfl, .inl (.inl hs), rfl, ?_⟩⟩
    refine ⟨_, rfl, .inl ⟨s, _, 0, .int a, rfl, rfl, .inl (.inl hs), rfl, ?_⟩⟩
    refine ⟨_, rfl, _, cs.length, rfl, .inl ⟨_, .inl (.inl hc), hlen.symm⟩, a, (cs.length : Int), rfl, rfl, by omega, ?_⟩
    refine ⟨_, rfl, _, rfl, .inl ⟨c, _, (i : Int), .int cs[i], rfl, congrArg V.int ei, .inl (.inl hc), atI_nat (by rw [List.getElem?_map, List.getElem?_eq_getElem hi]; rfl), ?_⟩⟩
    refine ⟨_, rfl, _, _, rfl, rfl, _, rfl, ?_⟩
    have gr : ∀ H', (∀ b o, H b = some o → b ≠ s → b ≠ c → H' b = some o) → (∃ o, H' s = some o) → (∃ o, H' c = some o) → Gr (· ∈ [s, c]) F H F H' := fun H' k1 k2 k3 => by
      have fs := fn s (by simp)
      have fc := fn c (by simp)
      refine ⟨Same.refl F, fun b o e => k1 b o (fh b o e) (fun q => by rw [q, fs] at e; cases e) (fun q => by rw [q, fc] at e; cases e), fun b o e m => k1 b o e (fun q => m (by simp [q])) (fun q => m (by simp [q])), fun b e => ?_, fun _ _ z => z⟩
      by_cases h1 : b = s
      · obtain ⟨o, k⟩ := k2
        rw [h1, k]; intro z; cases z
      · by_cases h2 : b = c
        · obtain ⟨o, k⟩ := k3
          rw [h2, k]; intro z; cases z
        · cases q : H b with
          | none => exact absurd q e
          | some o => rw [k1 b o q h1 h2]; intro z; cases z
    refine ite2 (fun hbig => ?_) (fun hsmall => ?_)
    · -- cells[at] = cell // most; return cell % most
      refine ⟨_, rfl, _, rfl, cs[i], m, rfl, rfl, ⟨by omega, by omega⟩, ?_⟩
      refine ⟨_, rfl, _, rfl, c, _, (i : Int), i, rfl, congrArg V.int ei, hc, ?_, ?_⟩
      · unfold ixN
        rw [hlen, if_pos (by omega), if_pos (by omega)]
        simp
      refine ⟨_, rfl, _, rfl, cs[i], m, rfl, rfl, by omega, ?_⟩
      have hd : 0 ≤ cs[i] := hcs _ (List.getElem_mem hi)
      refine z (.int (cs[i] % m)) (.cel a (cs.set i (cs[i] / m))) _ F _ (hz _ _ (Int.emod_nonneg _ (by omega)) (Int.emod_lt_of_pos _ (by omega)) ⟨by rw [List.length_set]; exact hl, by rw [List.length_set]; exact hl2, ha, fun x hx => ?_⟩) (gr _ (fun b o e h1 h2 => by rw [upd_ne h2]; exact e) ⟨_, by rw [upd_ne ne]; exact hs⟩ ⟨_, upd_same⟩) ⟨c, rfl, ne, by rw [upd_ne ne]; exact hs, by rw [upd_same, List.map_set]⟩ fn (.int _)
      rcases List.mem_or_eq_of_mem_set hx with h | h
      · exact hcs x h
      · rw [h]; exact Int.ediv_nonneg hd (by omega)
    · -- state[0] = state[0] + 1
      refine ⟨_, rfl, .inl ⟨s, _, 0, .int a, rfl, rfl, .inl (.inl hs), rfl, ?_⟩⟩
      refine .inl (.inl ⟨a, 1, rfl, rfl, ?_⟩)
      refine ⟨_, rfl, s, _, 0, 0, rfl, rfl, hs, rfl, ?_⟩
      have hs' : upd H s (.lst ([.int a, .ref c].set 0 (.int (a + 1)))) s = some (.lst [.int (a + 1), .ref c]) := upd_same
      -- mixed
      refine ⟨_, rfl, _, _, rfl, rfl, .inr ⟨by decide, by decide⟩, ?_⟩
      refine ⟨_, rfl, .inl ⟨s, _, 0, .int (a + 1), rfl, rfl, .inl (.inl hs'), rfl, ?_⟩⟩
      refine ⟨_, _, rfl, rfl, .inr ⟨by decide, by decide⟩, ?_⟩
      refine .inl (.inl ⟨_, _, rfl, rfl, ?_⟩)
      refine .inl ⟨_, rfl, ?_⟩
      refine ⟨_, _, rfl, rfl, (by decide : (0 : Int) < 2147483647), ?_⟩
      refine ⟨_, rfl, _, _, rfl, rfl, .inr ⟨by decide, by decide⟩, ?_⟩
      refine ⟨_, rfl, .inl ⟨s, _, 0, .int (a + 1), rfl, rfl, .inl (.inl hs'), rfl, ?_⟩⟩
      refine ⟨_, _, rfl, rfl, .inr ⟨by decide, by decide⟩, ?_⟩
      refine .inl (.inl ⟨_, _, rfl, rfl, ?_⟩)
      refine .inl ⟨_, rfl, ?_⟩
      refine ⟨_, _, rfl, rfl, (by decide : (0 : Int) < 1000000007), ?_⟩
      refine ⟨_, rfl, _, _, rfl, rfl, ⟨by decide, by decide⟩, ?_⟩
      refine ⟨_, rfl, _, _, rfl, rfl, by omega, ?_⟩
      exact z _ (.cel (a + 1) cs) _ F _ (hz _ _ (Int.emod_nonneg _ (by omega)) (Int.emod_lt_of_pos _ (by omega)) ⟨hl, hl2, by omega, hcs⟩) (gr _ (fun b o e h1 h2 => by rw [upd_ne h1]; exact e) ⟨_, upd_same⟩ ⟨_, by rw [upd_ne ne.symm]; exact hc⟩) ⟨c, rfl, ne, hs', by rw [upd_ne ne.symm]; exact hc⟩ fn (.int _)

section
variable {P : Program} {w : World} {K : PySem.W.Frag} {mg : Str → Option Value} {base : Heap} {f : Addr} {fd : FuncData} {k : Nat} {x qual : Str} {st : Stmt}
theorem fn_newstate (F : Fun K x qual st f fd) (S : FnScope ["script", "cells", "cell"] ["script"] (defScope st))
    (body : ∀ (cdv : Value) (A : Around) (outer : List PySem.Env) (s : Shared) (H : Hp) (E : XK), Room k (A.deeper (PyProof.Rows.envOfC qual (defScope st) s.heap.objs.size f cdv)) →
      PSs (cxOf CX0 P w K mg base ["script", "cells", "cell"] qual (defScope st) f cdv A outer s H E).nox (defBody st) (T_state K)) : FnOk P w K mg base CX0 (k + 1) f fd ["script"] (spN R_state) :=
  F.ok S (fun vs H Q E h => by
    obtain ⟨F, ds, Z, _, r, ⟨ns, rfl, _⟩, _⟩ := h
    rw [r.len]; rfl) fun cdv A outer s H vs Q E hr h => ⟨_, body cdv A outer s H E hr, run_state h⟩
theorem fn_take (F : Fun K x qual st f fd) (S : FnScope ["state", "most", "cells", "at", "cell", "mixed"] ["state", "most"] (defScope st))
    (body : ∀ (cdv : Value) (A : Around) (outer : List PySem.Env) (s : Shared) (H : Hp) (E : XK), Room k (A.deeper (PyProof.Rows.envOfC qual (defScope st) s.heap.objs.size f cdv)) →
      PSs (cxOf CX0 P w K mg base ["state", "most", "cells", "at", "cell", "mixed"] qual (defScope st) f cdv A outer s H E).nox (defBody st) (T_take K)) : FnOk P w K mg base CX0 (k + 1) f fd ["state", "most"] (spS R_take) :=
  F.ok S (fun vs H Q E h => by
    obtain ⟨F, s, as, S, us, ds, Z, rfl, _, _, _, r, ⟨m, rfl, _⟩, _⟩ := h
    rw [List.length_cons, r.len]; rfl) fun cdv A outer s H vs Q E hr h => ⟨_, body cdv A outer s H E hr, run_take h⟩
end
end Pu
/-! PuC: xs[::-1], xs.index(n), sorted rows -/
namespace Pu
open PySem L2
section
variable {ρ : Pu.Env} {te to : TE} {t : TA} {K : PySem.W.Frag} {Q : D → Pu.Env → Prop}
theorem ex_revL (h : EX te ρ fun d ρ1 => ∃ ds, d = .list ds ∧ Q (.list ds.reverse) ρ1) : EX (tRevL K te) ρ Q := fun B ad σ F H w Z z =>
  h B ad σ F H w _ fun d1 ρ1 x F1 H1 q1 p1 r1 => by
    obtain ⟨ds, rfl, q⟩ := q1
    obtain ⟨a, xs, rfl, h1, h2⟩ := r1.lst_inv
    refine ⟨a, xs, rfl, sqL_rd h1 p1.wa.gr.fh, fun p hp => ?_⟩
    have g := Gr.frz (F := F1) (H := H1) (H' := upd H1 p (.lst xs.reverse)) (p := p) (vs := xs.reverse) p1.wa.gr.fh (same_upd hp) hp upd_same
    exact z _ ρ1 _ _ _ q (p1.trans (Post.of p1.wa g)) (.lst (.inl upd_same) (h2.rev.up g.ff))
/-- a method that changes nothing -/
def MtD (r : V → List V → Hp → VK → Prop) (d : D) (es : List D) (Q : D → Prop) : Prop := ∀ (F H : Hp) (x : V) (vs : List V), Same F H → Rp F x d → RpA F vs es → ∀ Z : VK, (∀ e v F' H', Q e → Gr Non F H F' H' → Rp F' v e → Z v H') → r x vs H Z
theorem ex_bmL {r : V → List V → Hp → VK → Prop} (h : EX to ρ fun d ρ1 => ∃ ds, d = .list ds ∧ EA t ρ1 fun es ρ2 => MtD r (.list ds) es fun e => Q e ρ2) : EX (tBM K "list" r to t) ρ Q := fun B ad σ F H w Z z =>
  h B ad σ F H w _ fun d1 ρ1 x F1 H1 q1 p1 r1 => by
    obtain ⟨ds, rfl, q⟩ := q1
    obtain ⟨a, xs, rfl, h1, h2⟩ := r1.lst_inv
    refine ⟨?_, q B ad σ F1 H1 p1.wa _ fun es ρ2 vs F2 H2 q2 p2 r2 => ?_⟩
    · exact .inl ⟨rfl, xs, sqL_rd h1 p1.wa.gr.fh⟩
    · exact q2 F2 H2 (.ref a) vs p2.wa.gr.fh (r1.up p2.gr.ff) r2 Z fun e v F' H' k g rv => z e ρ2 v F' H' k ((p1.trans p2).trans (Post.of p2.wa g)) rv
theorem rpa_intsI {F : Hp} : ∀ {ns : List Int} {vs : List V}, RpA F vs (ns.map .int) → vs = ns.map V.int
  | [], _, h => by cases h; rfl
  | n :: ns, _, h => by
    cases h with
    | cons h1 h2 => rw [h1.int_inv, rpa_intsI h2]; rfl
theorem mtd_indexI {ns : List Int} {n : Int} {Q : D → Prop} (hn : n ∈ ns) (k : Q (.int (ns.idxOf n : Nat))) : MtD (rIndex K) (.list (ns.map .int)) [.int n] Q := fun F H x vs e r rv Z z => by
  obtain ⟨a, xs, rfl, h1, h2⟩ := r.lst_inv
  obtain ⟨v, rfl, rv1⟩ := rv.one
  have e1 := rv1.int_inv
  have e2 := rpa_intsI h2
  subst e1 e2
  have hl : ns.idxOf n < ns.length := List.idxOf_lt_length_iff.mpr hn
  refine ⟨a, ns.map V.int, .int n, ns.idxOf n, .int n, rfl, rfl, sqL_rd h1 e, rfl, ?_, ?_, ?_, fun m z' hm hz => ?_, z _ _ F H k (Gr.refl e) (.int _)⟩
  · rw [List.all_eq_true]
    intro x hx
    obtain ⟨i, _, rfl⟩ := List.mem_map.mp hx
    rfl
  · rw [List.getElem?_map, List.getElem?_eq_getElem hl, List.getElem_idxOf hl]; rfl
  · show (n == n) = true
    simp
  · rw [List.getElem?_map] at hz
    have hml : m < ns.length := by omega
    rw [List.getElem?_eq_getElem hml] at hz
    cases hz
    show (ns[m] == n) = false
    exact List.not_of_lt_findIdx (p := fun x => x == n) hm
end
/-! sorted -/
theorem uniq_of {α : Type} {le : α → α → Bool} (anti : ∀ a b, le a b = true → le b a = true → a = b) : ∀ {xs ys : List α}, xs.Perm ys → xs.Pairwise (fun a b => le a b = true) → ys.Pairwise (fun a b => le a b = true) → xs = ys
  | [], ys, p, _, _ => (List.nil_perm.mp p).symm
  | a :: xs, [], p, _, _ => absurd p.length_eq (by simp)
  | a :: xs, b :: ys, p, h1, h2 => by
    have e : a = b := by
      by_cases e : a = b
      · exact e
      · have ha : a ∈ ys := (List.mem_cons.mp (p.mem_iff.mp (by simp : a ∈ a :: xs))).resolve_left e
        have hb : b ∈ xs := (List.mem_cons.mp (p.mem_iff.mpr (by simp : b ∈ b :: ys))).resolve_left (fun q => e q.symm)
        exact anti a b ((List.pairwise_cons.mp h1).1 b hb) ((List.pairwise_cons.mp h2).1 a ha)
    subst e
    rw [uniq_of anti (p.cons_inv) (List.pairwise_cons.mp h1).2 (List.pairwise_cons.mp h2).2]
theorem sortD_of {α : Type} {enc : α → D} {xs ys : List α} {lt : α → α → Bool} (hlt : ∀ a b, PySem.W.dataLt (enc a) (enc b) = lt a b) (ntr : ∀ a b c, lt b a = false → lt c b = false → lt c a = false) (as : ∀ a b, lt a b = true → lt b a = false) (tot : ∀ a b, lt a b = false → lt b a = false → a = b)
    (hp : xs.Perm ys) (hs : ys.Pairwise fun a b => lt a b = true) : sortD (xs.map enc) = ys.map enc := by
  have e := PySem.W.sort_maps (r := fun a b => !lt b a) (s := PySem.W.dataLe false id) enc (l := xs) (fun a _ b _ => by
    show (!lt b a) = (!PySem.W.dataLt (enc b) (enc a))
    rw [hlt])
  show (xs.map enc).mergeSort (PySem.W.dataLe false id) = ys.map enc
  rw [← e]
  have u : xs.mergeSort (fun a b => !lt b a) = ys := uniq_of (le := fun a b => !lt b a) (fun a b h1 h2 => by
      simp only [Bool.not_eq_true'] at h1 h2
      exact tot a b h2 h1) ((List.mergeSort_perm _ _).trans hp) (List.pairwise_mergeSort (fun a b c h1 h2 => by
        simp only [Bool.not_eq_true'] at h1 h2 ⊢
        exact ntr a b c h1 h2) (fun a b => by
        cases h : lt b a with
        | false => rfl
        | true => simp [as _ _ h]) xs) (hs.imp fun {a b} h => by simp [as _ _ h])
  rw [u]
end Pu
/-! readings of the defs of law_k73_whole_smoke: printed by gen.py -/
namespace Law_k73
open PySem L2 Pu

/-- cells_between: slots one 0, other 1, x 2, y 3, step_x 4, step_y 5, wide 6, high 7, found 8, across 9, along 10, left 11, right 12; own: found -/
abbrev N_cells_between : List Str := ["one", "other", "x", "y", "step_x", "step_y", "wide", "high", "found", "across", "along", "left", "right"]
def T_cells_between (K : PySem.W.Frag) : TS :=
    (tSeq (tAsg (tVar 0) (gTup K 2 (gCons (gName 2) (gCons (gName 3) gNil))))
    (tSeq (tPar 4 5 (tCons (tIf (tTest (tOp (rI0 fun i j => .bl (decide (j < i))) (tOp (rIxA K) (tVar 1) (tC (.int 0))) (tVar 2))) (tC (.int 1)) (tUn (rU fun i => .int (-i)) (tC (.int 1)))) (tCons (tIf (tTest (tOp (rI0 fun i j => .bl (decide (j < i))) (tOp (rIxA K) (tVar 1) (tC (.int 1))) (tVar 3))) (tC (.int 1)) (tUn (rU fun i => .int (-i)) (tC (.int 1)))) tNil)))
    (tSeq (tPar 6 7 (tCons (tCB (rAbs) (tCons (tOp (rI0 fun i j => .int (i - j)) (tOp (rIxA K) (tVar 1) (tC (.int 0))) (tVar 2)) tNil)) (tCons (tCB (rAbs) (tCons (tOp (rI0 fun i j => .int (i - j)) (tOp (rIxA K) (tVar 1) (tC (.int 1))) (tVar 3)) tNil)) tNil)))
    (tSeq (tAsg (tLst (tCons (tVar 0) tNil)) (gName 8))
    (tSeq (tAsg (tTup (tCons (tC (.int 0)) (tCons (tC (.int 0)) tNil))) (gTup K 2 (gCons (gName 9) (gCons (gName 10) gNil))))
    (tSeq (tWhile (tOr (tTest (tOp (rI0 fun i j => .bl (decide (i < j))) (tVar 9) (tVar 6))) (tTest (tOp (rI0 fun i j => .bl (decide (i < j))) (tVar 10) (tVar 7))))
      (tSeq (tPar 11 12 (tCons (tOp (rI CMul fun i j => .int (i * j)) (tOp (rPlus K) (tOp (rI CMul fun i j => .int (i * j)) (tC (.int 2)) (tVar 9)) (tC (.int 1))) (tVar 7)) (tCons (tOp (rI CMul fun i j => .int (i * j)) (tOp (rPlus K) (tOp (rI CMul fun i j => .int (i * j)) (tC (.int 2)) (tVar 10)) (tC (.int 1))) (tVar 6)) tNil)))
    (tSeq (tIfS (tTest (tOp (rI0 fun i j => .bl (decide (i < j))) (tVar 11) (tVar 12)))
      (tPar 9 2 (tCons (tOp (rPlus K) (tVar 9) (tC (.int 1))) (tCons (tOp (rPlus K) (tVar 2) (tVar 4)) tNil)))
      (tIfS (tTest (tOp (rI0 fun i j => .bl (decide (i < j))) (tVar 12) (tVar 11)))
      (tPar 10 3 (tCons (tOp (rPlus K) (tVar 10) (tC (.int 1))) (tCons (tOp (rPlus K) (tVar 3) (tVar 5)) tNil)))
      (tAsg (tTup (tCons (tOp (rPlus K) (tVar 9) (tC (.int 1))) (tCons (tOp (rPlus K) (tVar 10) (tC (.int 1))) (tCons (tOp (rPlus K) (tVar 2) (tVar 4)) (tCons (tOp (rPlus K) (tVar 3) (tVar 5)) tNil))))) (gTup K 4 (gCons (gName 9) (gCons (gName 10) (gCons (gName 2) (gCons (gName 3) gNil))))))))
    (tDrop (tBM K "list" rAppend (tVar 8) (tCons (tTup (tCons (tVar 2) (tCons (tVar 3) tNil))) tNil))))))
    (tRet (tVar 8))))))))
/-- thickness: slots clouds 0, wind 1, tick 2, cell 3, total 4, x 5, y 6, born 7, reach 8, strength 9, thinning 10, age 11, here 12 -/
abbrev N_thickness : List Str := ["clouds", "wind", "tick", "cell", "total", "x", "y", "born", "reach", "strength", "thinning", "age", "here"]
def T_thickness (K : PySem.W.Frag) : TS :=
    (tSeq (tAsg (tC (.int 0)) (gName 4))
    (tSeq (tFor (iList K (tVar 0)) (gTup K 6 (gCons (gName 5) (gCons (gName 6) (gCons (gName 7) (gCons (gName 8) (gCons (gName 9) (gCons (gName 10) gNil)))))))
      (tSeq (tAsg (tOp (rI0 fun i j => .int (i - j)) (tVar 2) (tVar 7)) (gName 11))
    (tIfS (tTest (tOp (rI0 fun i j => .bl (decide (j ≤ i))) (tVar 11) (tC (.int 0))))
      (tSeq (tAsg (tTup (tCons (tOp (rPlus K) (tVar 5) (tOp (rI CMul fun i j => .int (i * j)) (tOp (rIxA K) (tVar 1) (tC (.int 0))) (tVar 11))) (tCons (tOp (rPlus K) (tVar 6) (tOp (rI CMul fun i j => .int (i * j)) (tOp (rIxA K) (tVar 1) (tC (.int 1))) (tVar 11))) tNil))) (gName 12))
    (tIfS (tTest (tOp (rI0 fun i j => .bl (decide (i ≤ j))) (tCB (rMx2) (tCons (tCB (rAbs) (tCons (tOp (rI0 fun i j => .int (i - j)) (tOp (rIxA K) (tVar 3) (tC (.int 0))) (tOp (rIxA K) (tVar 12) (tC (.int 0)))) tNil)) (tCons (tCB (rAbs) (tCons (tOp (rI0 fun i j => .int (i - j)) (tOp (rIxA K) (tVar 3) (tC (.int 1))) (tOp (rIxA K) (tVar 12) (tC (.int 1)))) tNil)) tNil))) (tVar 8)))
      (tAsg (tOp (rPlus K) (tVar 4) (tCB (rMx2) (tCons (tC (.int 0)) (tCons (tOp (rI0 fun i j => .int (i - j)) (tVar 9) (tOp (rI CMul fun i j => .int (i * j)) (tVar 10) (tVar 11))) tNil)))) (gName 4))
      tNext))
      tNext)))
    (tRet (tVar 4))))
/-- dimmed: slots clouds 0, wind 1, tick 2, one 3, other 4, cell 5 -/
abbrev N_dimmed : List Str := ["clouds", "wind", "tick", "one", "other", "cell"]
def T_dimmed (K : PySem.W.Frag) (R_thickness : List D → (D → Prop) → Prop) (R_cells_between : List D → (D → Prop) → Prop) : TS :=
    (tRet (tCB (rSum K) (tCons (tLc (iList K (tCall (spP R_cells_between) [] E0 (tCons (tVar 3) (tCons (tVar 4) tNil)))) (gName 5) tYes (tCall (spP R_thickness) [] E0 (tCons (tVar 0) (tCons (tVar 1) (tCons (tVar 2) (tCons (tVar 5) tNil))))) [5]) tNil)))
/-- sees: slots clouds 0, wind 1, tick 2, one 3, other 4, most 5 -/
abbrev N_sees : List Str := ["clouds", "wind", "tick", "one", "other", "most"]
def T_sees (K : PySem.W.Frag) (R_dimmed : List D → (D → Prop) → Prop) : TS :=
    (tRet (tOp (rI0 fun i j => .bl (decide (i ≤ j))) (tCall (spP R_dimmed) [] E0 (tCons (tVar 0) (tCons (tVar 1) (tCons (tVar 2) (tCons (tVar 3) (tCons (tVar 4) tNil)))))) (tVar 5)))
/-- first_sight: slots clouds 0, wind 1, ticks 2, one 3, other 4, most 5, tick 6 -/
abbrev N_first_sight : List Str := ["clouds", "wind", "ticks", "one", "other", "most", "tick"]
def T_first_sight (K : PySem.W.Frag) (R_sees : List D → (D → Prop) → Prop) : TS :=
    (tSeq (tFor (iRng2 (tCons (tOp (rIxA K) (tVar 2) (tC (.int 0))) (tCons (tOp (rPlus K) (tOp (rIxA K) (tVar 2) (tC (.int 1))) (tC (.int 1))) tNil))) (gName 6)
      (tIfS (tB (tCall (spP R_sees) [] E0 (tCons (tVar 0) (tCons (tVar 1) (tCons (tVar 6) (tCons (tVar 3) (tCons (tVar 4) (tCons (tVar 5) tNil))))))))
      (tRet (tVar 6))
      tNext))
    (tRet (tC .non)))
/-- latest_smoke: slots clouds 0, last 1, x 2, y 3, born 4, reach 5, strength 6, thinning 7 -/
abbrev N_latest_smoke : List Str := ["clouds", "last", "x", "y", "born", "reach", "strength", "thinning"]
def T_latest_smoke (K : PySem.W.Frag) : TS :=
    (tSeq (tAsg (tUn (rU fun i => .int (-i)) (tC (.int 1))) (gName 1))
    (tSeq (tFor (iList K (tVar 0)) (gTup K 6 (gCons (gName 2) (gCons (gName 3) (gCons (gName 4) (gCons (gName 5) (gCons (gName 6) (gCons (gName 7) gNil)))))))
      (tIfS (tTest (tOp (rI0 fun i j => .bl (decide (j < i))) (tVar 6) (tC (.int 0))))
      (tSeq (tIfS (tTest (tOp (rEqP K) (tVar 7) (tC (.int 0))))
      (tRet (tC .non))
      tNext)
    (tAsg (tCB (rMx2) (tCons (tVar 1) (tCons (tOp (rPlus K) (tVar 4) (tOp (rI CDiv fun i j => .int (i / j)) (tOp (rI0 fun i j => .int (i - j)) (tVar 6) (tC (.int 1))) (tVar 7))) tNil))) (gName 1)))
      tNext))
    (tRet (tVar 1))))
/-- worst_look: slots clouds 0, wind 1, looks 2, best 3, at 4, tick 5, one 6, other 7, smoke 8 -/
abbrev N_worst_look : List Str := ["clouds", "wind", "looks", "best", "at", "tick", "one", "other", "smoke"]
def T_worst_look (K : PySem.W.Frag) (R_dimmed : List D → (D → Prop) → Prop) : TS :=
    (tSeq (tAsg (tTup (tCons (tUn (rU fun i => .int (-i)) (tC (.int 1))) (tCons (tC .non) tNil))) (gName 3))
    (tSeq (tFor (iEnum K (tCons (tVar 2) tNil)) (gTup K 2 (gCons (gName 4) (gCons (gTup K 3 (gCons (gName 5) (gCons (gName 6) (gCons (gName 7) gNil)))) gNil)))
      (tSeq (tAsg (tCall (spP R_dimmed) [] E0 (tCons (tVar 0) (tCons (tVar 1) (tCons (tVar 5) (tCons (tVar 6) (tCons (tVar 7) tNil)))))) (gName 8))
    (tIfS (tTest (tOp (rI0 fun i j => .bl (decide (j < i))) (tVar 8) (tOp (rIxA K) (tVar 3) (tC (.int 0)))))
      (tAsg (tTup (tCons (tVar 8) (tCons (tVar 4) tNil))) (gName 3))
      tNext)))
    (tRet (tIf (tTest (tOp (rIsnt) (tOp (rIxA K) (tVar 3) (tC (.int 1))) (tC .non))) (tVar 3) (tTup (tCons (tC (.int 0)) (tCons (tC .non) tNil)))))))
/-- _law_state: slots script 0, cells 1, cell 2 -/
abbrev N_l_state : List Str := ["script", "cells", "cell"]
def T_l_state (K : PySem.W.Frag) : TS :=
    (tSeq (tAsg (tLc (iList K (tSl (rSl K) (tVar 0) tNoPart (tPart (tC (.int 63))))) (gName 2) tYes (tCB (rAbs) (tCons (tVar 2) tNil)) [2]) (gName 1))
    (tSeq (tIfS (tTest (tOp (rEqP K) (tCB (rLen K) (tCons (tVar 1) tNil)) (tC (.int 0))))
      (tAsg (tLst (tCons (tC (.int 0)) tNil)) (gName 1))
      tNext)
    (tRet (tLst (tCons (tC (.int 0)) (tCons (tVar 1) tNil))))))
/-- _law_take: slots state 0, most 1, cells 2, at 3, cell 4, mixed 5; own: cells, state -/
abbrev N_l_take : List Str := ["state", "most", "cells", "at", "cell", "mixed"]
def T_l_take (K : PySem.W.Frag) : TS :=
    (tSeq (tAsg (tOp (rIxA K) (tVar 0) (tC (.int 1))) (gName 2))
    (tSeq (tAsg (tOp (rI (fun _ j => 0 < j) fun i j => .int (i % j)) (tOp (rIxA K) (tVar 0) (tC (.int 0))) (tCB (rLen K) (tCons (tVar 2) tNil))) (gName 3))
    (tSeq (tAsg (tOp (rIxA K) (tVar 2) (tVar 3)) (gName 4))
    (tSeq (tIfS (tTest (tOp (rI0 fun i j => .bl (decide (j ≤ i))) (tVar 4) (tC (.int 1000000000000000000))))
      (tSeq (tAsg (tOp (rI CDiv fun i j => .int (i / j)) (tVar 4) (tVar 1)) (gSub (tVar 2) (tVar 3) rSetL))
    (tRet (tOp (rI (fun _ j => 0 < j) fun i j => .int (i % j)) (tVar 4) (tVar 1))))
      tNext)
    (tSeq (tAsg (tOp (rPlus K) (tOp (rIxA K) (tVar 0) (tC (.int 0))) (tC (.int 1))) (gSub (tVar 0) (tC (.int 0)) rSetL))
    (tSeq (tAsg (tOp (rI (fun _ j => 0 < j) fun i j => .int (i % j)) (tCB (rInt) (tCons (tOp (rPlus K) (tOp (rI CMul fun i j => .int (i * j)) (tVar 4) (tC (.int 48271))) (tOp (rI CMul fun i j => .int (i * j)) (tOp (rIxA K) (tVar 0) (tC (.int 0))) (tC (.int 69621)))) tNil)) (tC (.int 2147483647))) (gName 5))
    (tSeq (tAsg (tOp (rI (fun _ j => 0 < j) fun i j => .int (i % j)) (tCB (rInt) (tCons (tOp (rPlus K) (tOp (rI CMul fun i j => .int (i * j)) (tVar 5) (tC (.int 16807))) (tOp (rI CMul fun i j => .int (i * j)) (tOp (rIxA K) (tVar 0) (tC (.int 0))) (tC (.int 7919)))) tNil)) (tC (.int 1000000007))) (gName 5))
    (tRet (tOp (rI (fun _ j => 0 < j) fun i j => .int (i % j)) (tOp (rI CDiv fun i j => .int (i / j)) (tVar 5) (tC (.int 7))) (tVar 1))))))))))
/-- _law_clouds: slots state 0, most 1, found 2, k 3; own: found -/
abbrev N_l_clouds : List Str := ["state", "most", "found", "k"]
def T_l_clouds (K : PySem.W.Frag) (R_l_take : Stt → List D → (D → Stt → Prop) → Prop) : TS :=
    (tSeq (tAsg (tLst tNil) (gName 2))
    (tSeq (tFor (iRng1 (tCons (tCall (spS R_l_take) [] E0 (tCons (tVar 0) (tCons (tOp (rPlus K) (tVar 1) (tC (.int 1))) tNil))) tNil)) (gName 3)
      (tDrop (tBM K "list" rAppend (tVar 2) (tCons (tTup (tCons (tCall (spS R_l_take) [] E0 (tCons (tVar 0) (tCons (tC (.int 8)) tNil))) (tCons (tCall (spS R_l_take) [] E0 (tCons (tVar 0) (tCons (tC (.int 8)) tNil))) (tCons (tCall (spS R_l_take) [] E0 (tCons (tVar 0) (tCons (tC (.int 5)) tNil))) (tCons (tCall (spS R_l_take) [] E0 (tCons (tVar 0) (tCons (tC (.int 3)) tNil))) (tCons (tCall (spS R_l_take) [] E0 (tCons (tVar 0) (tCons (tC (.int 9)) tNil))) (tCons (tCall (spS R_l_take) [] E0 (tCons (tVar 0) (tCons (tC (.int 4)) tNil))) tNil))))))) tNil))))
    (tRet (tVar 2))))
/-- _law_thick: slots clouds 0, wind 1, tick 2, cell 3, total 4, x 5, y 6, born 7, reach 8, strength 9, thinning 10, age 11 -/
abbrev N_l_thick : List Str := ["clouds", "wind", "tick", "cell", "total", "x", "y", "born", "reach", "strength", "thinning", "age"]
def T_l_thick (K : PySem.W.Frag) : TS :=
    (tSeq (tAsg (tC (.int 0)) (gName 4))
    (tSeq (tFor (iList K (tVar 0)) (gTup K 6 (gCons (gName 5) (gCons (gName 6) (gCons (gName 7) (gCons (gName 8) (gCons (gName 9) (gCons (gName 10) gNil)))))))
      (tSeq (tAsg (tOp (rI0 fun i j => .int (i - j)) (tVar 2) (tVar 7)) (gName 11))
    (tIfS (tAnd (tTest (tOp (rI0 fun i j => .bl (decide (j ≤ i))) (tVar 11) (tC (.int 0)))) (tAnd (tTest (tOp (rI0 fun i j => .bl (decide (i ≤ j))) (tCB (rAbs) (tCons (tOp (rI0 fun i j => .int (i - j)) (tOp (rI0 fun i j => .int (i - j)) (tOp (rIxA K) (tVar 3) (tC (.int 0))) (tVar 5)) (tOp (rI CMul fun i j => .int (i * j)) (tOp (rIxA K) (tVar 1) (tC (.int 0))) (tVar 11))) tNil)) (tVar 8))) (tTest (tOp (rI0 fun i j => .bl (decide (i ≤ j))) (tCB (rAbs) (tCons (tOp (rI0 fun i j => .int (i - j)) (tOp (rI0 fun i j => .int (i - j)) (tOp (rIxA K) (tVar 3) (tC (.int 1))) (tVar 6)) (tOp (rI CMul fun i j => .int (i * j)) (tOp (rIxA K) (tVar 1) (tC (.int 1))) (tVar 11))) tNil)) (tVar 8)))))
      (tAsg (tOp (rPlus K) (tVar 4) (tCB (rMx2) (tCons (tC (.int 0)) (tCons (tOp (rI0 fun i j => .int (i - j)) (tVar 9) (tOp (rI CMul fun i j => .int (i * j)) (tVar 10) (tVar 11))) tNil)))) (gName 4))
      tNext)))
    (tRet (tVar 4))))
/-- _law_between: slots one 0, other 1, left 2, right 3, low 4, high 5, found 6, dx 7, dy 8, x 9, y 10, sides 11, a 12, b 13, cell 14, far 15; own: found, sides -/
abbrev N_l_between : List Str := ["one", "other", "left", "right", "low", "high", "found", "dx", "dy", "x", "y", "sides", "a", "b", "cell", "far"]
def T_l_between (K : PySem.W.Frag) : TS :=
    (tSeq (tPar 2 3 (tCons (tCB (rMn2) (tCons (tOp (rIxA K) (tVar 0) (tC (.int 0))) (tCons (tOp (rIxA K) (tVar 1) (tC (.int 0))) tNil))) (tCons (tCB (rMx2) (tCons (tOp (rIxA K) (tVar 0) (tC (.int 0))) (tCons (tOp (rIxA K) (tVar 1) (tC (.int 0))) tNil))) tNil)))
    (tSeq (tPar 4 5 (tCons (tCB (rMn2) (tCons (tOp (rIxA K) (tVar 0) (tC (.int 1))) (tCons (tOp (rIxA K) (tVar 1) (tC (.int 1))) tNil))) (tCons (tCB (rMx2) (tCons (tOp (rIxA K) (tVar 0) (tC (.int 1))) (tCons (tOp (rIxA K) (tVar 1) (tC (.int 1))) tNil))) tNil)))
    (tSeq (tAsg (tLst tNil) (gName 6))
    (tSeq (tAsg (tTup (tCons (tOp (rI0 fun i j => .int (i - j)) (tOp (rIxA K) (tVar 1) (tC (.int 0))) (tOp (rIxA K) (tVar 0) (tC (.int 0)))) (tCons (tOp (rI0 fun i j => .int (i - j)) (tOp (rIxA K) (tVar 1) (tC (.int 1))) (tOp (rIxA K) (tVar 0) (tC (.int 1)))) tNil))) (gTup K 2 (gCons (gName 7) (gCons (gName 8) gNil))))
    (tSeq (tFor (iRng2 (tCons (tVar 2) (tCons (tOp (rPlus K) (tVar 3) (tC (.int 1))) tNil))) (gName 9)
      (tFor (iRng2 (tCons (tVar 4) (tCons (tOp (rPlus K) (tVar 5) (tC (.int 1))) tNil))) (gName 10)
      (tSeq (tAsg (tLst tNil) (gName 11))
    (tSeq (tFor (iList K (tLst (tCons (tOp (rI0 fun i j => .int (i - j)) (tOp (rI CMul fun i j => .int (i * j)) (tC (.int 2)) (tVar 9)) (tC (.int 1))) (tCons (tOp (rPlus K) (tOp (rI CMul fun i j => .int (i * j)) (tC (.int 2)) (tVar 9)) (tC (.int 1))) tNil)))) (gName 12)
      (tDrop (tBM K "list" rExtR (tVar 11) (tCons (tLc (iList K (tLst (tCons (tOp (rI0 fun i j => .int (i - j)) (tOp (rI CMul fun i j => .int (i * j)) (tC (.int 2)) (tVar 10)) (tC (.int 1))) (tCons (tOp (rPlus K) (tOp (rI CMul fun i j => .int (i * j)) (tC (.int 2)) (tVar 10)) (tC (.int 1))) tNil)))) (gName 13) tYes (tOp (rI0 fun i j => .int (i - j)) (tOp (rI CMul fun i j => .int (i * j)) (tOp (rI0 fun i j => .int (i - j)) (tVar 12) (tOp (rI CMul fun i j => .int (i * j)) (tC (.int 2)) (tOp (rIxA K) (tVar 0) (tC (.int 0))))) (tVar 8)) (tOp (rI CMul fun i j => .int (i * j)) (tOp (rI0 fun i j => .int (i - j)) (tVar 13) (tOp (rI CMul fun i j => .int (i * j)) (tC (.int 2)) (tOp (rIxA K) (tVar 0) (tC (.int 1))))) (tVar 7))) [13]) tNil))))
    (tIfS (tTest (tChain (rI0 fun i j => .bl (decide (i < j))) (rI0 fun i j => .bl (decide (i < j))) (tCB (rMnD K) (tCons (tVar 11) tNil)) (tC (.int 0)) (tCB (rMxD K) (tCons (tVar 11) tNil))))
      (tDrop (tBM K "list" rAppend (tVar 6) (tCons (tTup (tCons (tOp (rPlus K) (tCB (rAbs) (tCons (tOp (rI0 fun i j => .int (i - j)) (tVar 9) (tOp (rIxA K) (tVar 0) (tC (.int 0)))) tNil)) (tCB (rAbs) (tCons (tOp (rI0 fun i j => .int (i - j)) (tVar 10) (tOp (rIxA K) (tVar 0) (tC (.int 1)))) tNil))) (tCons (tTup (tCons (tVar 9) (tCons (tVar 10) tNil))) tNil))) tNil)))
      tNext)))))
    (tRet (tIf (tTest (tOp (rNeP K) (tVar 0) (tVar 1))) (tLc (iList K (tCB (rSrD K) (tCons (tVar 6) tNil))) (gTup K 2 (gCons (gName 15) (gCons (gName 14) gNil))) tYes (tVar 14) [15, 14]) (tLst (tCons (tVar 0) tNil)))))))))
/-- _law_dim: slots clouds 0, wind 1, tick 2, one 3, other 4, cell 5 -/
abbrev N_l_dim : List Str := ["clouds", "wind", "tick", "one", "other", "cell"]
def T_l_dim (K : PySem.W.Frag) (R_l_thick : List D → (D → Prop) → Prop) (R_l_between : List D → (D → Prop) → Prop) : TS :=
    (tRet (tCB (rSum K) (tCons (tLc (iList K (tCall (spP R_l_between) [] E0 (tCons (tVar 3) (tCons (tVar 4) tNil)))) (gName 5) tYes (tCall (spP R_l_thick) [] E0 (tCons (tVar 0) (tCons (tVar 1) (tCons (tVar 2) (tCons (tVar 5) tNil))))) [5]) tNil)))
/-- law: slots script 0, state 1, clouds 2, kept 3, wind 4, tick 5, turn 6, one 7, other 8, smoke 9, most 10, good 11, t 12, lasting 13, cloud 14, ends 15, x 16, y 17, born 18, reach 19, strength 20, thinning 21, looks 22, k 23, smokes 24; own: ends -/
abbrev N_law : List Str := ["script", "state", "clouds", "kept", "wind", "tick", "turn", "one", "other", "smoke", "most", "good", "t", "lasting", "cloud", "ends", "x", "y", "born", "reach", "strength", "thinning", "looks", "k", "smokes"]
def T_law (K : PySem.W.Frag) (R_l_state : List D → (Stt → Prop) → Prop) (R_l_clouds : Stt → List D → (D → Stt → Prop) → Prop) (R_l_take : Stt → List D → (D → Stt → Prop) → Prop) (R_l_dim : List D → (D → Prop) → Prop) (R_latest_smoke : List D → (D → Prop) → Prop) (R_thickness : List D → (D → Prop) → Prop) (R_l_thick : List D → (D → Prop) → Prop) (R_first_sight : List D → (D → Prop) → Prop) (R_worst_look : List D → (D → Prop) → Prop) (R_cells_between : List D → (D → Prop) → Prop) (R_l_between : List D → (D → Prop) → Prop) (R_dimmed : List D → (D → Prop) → Prop) (R_sees : List D → (D → Prop) → Prop) : TS :=
    (tSeq (tAsg (tCall (spN R_l_state) [] E0 (tCons (tVar 0) tNil)) (gName 1))
    (tSeq (tAsg (tCall (spS R_l_clouds) [] E0 (tCons (tVar 1) (tCons (tC (.int 4)) tNil))) (gName 2))
    (tSeq (tAsg (tCB (rList K) (tCons (tVar 2) tNil)) (gName 3))
    (tSeq (tAsg (tTup (tCons (tOp (rI0 fun i j => .int (i - j)) (tCall (spS R_l_take) [] E0 (tCons (tVar 1) (tCons (tC (.int 5)) tNil))) (tC (.int 2))) (tCons (tOp (rI0 fun i j => .int (i - j)) (tCall (spS R_l_take) [] E0 (tCons (tVar 1) (tCons (tC (.int 5)) tNil))) (tC (.int 2))) tNil))) (gName 4))
    (tSeq (tAsg (tCall (spS R_l_take) [] E0 (tCons (tVar 1) (tCons (tC (.int 9)) tNil))) (gName 5))
    (tSeq (tFor (iRng1 (tCons (tC (.int 4)) tNil)) (gName 6)
      (tSeq (tAsg (tTup (tCons (tTup (tCons (tCall (spS R_l_take) [] E0 (tCons (tVar 1) (tCons (tC (.int 9)) tNil))) (tCons (tCall (spS R_l_take) [] E0 (tCons (tVar 1) (tCons (tC (.int 9)) tNil))) tNil))) (tCons (tTup (tCons (tCall (spS R_l_take) [] E0 (tCons (tVar 1) (tCons (tC (.int 9)) tNil))) (tCons (tCall (spS R_l_take) [] E0 (tCons (tVar 1) (tCons (tC (.int 9)) tNil))) tNil))) tNil))) (gTup K 2 (gCons (gName 7) (gCons (gName 8) gNil))))
    (tSeq (tIfS (tOr (tTest (tOp (rNeP K) (tCall (spP R_cells_between) [] E0 (tCons (tVar 7) (tCons (tVar 8) tNil))) (tCall (spP R_l_between) [] E0 (tCons (tVar 7) (tCons (tVar 8) tNil))))) (tTest (tOp (rNeP K) (tRevL K (tCall (spP R_cells_between) [] E0 (tCons (tVar 8) (tCons (tVar 7) tNil)))) (tCall (spP R_l_between) [] E0 (tCons (tVar 7) (tCons (tVar 8) tNil))))))
      (tRet (tC (.bl false)))
      tNext)
    (tSeq (tIfS (tTest (tOp (rNeP K) (tCall (spP R_thickness) [] E0 (tCons (tVar 2) (tCons (tVar 4) (tCons (tVar 5) (tCons (tVar 7) tNil))))) (tCall (spP R_l_thick) [] E0 (tCons (tVar 2) (tCons (tVar 4) (tCons (tVar 5) (tCons (tVar 7) tNil)))))))
      (tRet (tC (.bl false)))
      tNext)
    (tSeq (tAsg (tCall (spP R_l_dim) [] E0 (tCons (tVar 2) (tCons (tVar 4) (tCons (tVar 5) (tCons (tVar 7) (tCons (tVar 8) tNil)))))) (gName 9))
    (tSeq (tAsg (tCall (spS R_l_take) [] E0 (tCons (tVar 1) (tCons (tC (.int 20)) tNil))) (gName 10))
    (tSeq (tIfS (tOr (tTest (tOp (rNeP K) (tCall (spP R_dimmed) [] E0 (tCons (tVar 2) (tCons (tVar 4) (tCons (tVar 5) (tCons (tVar 7) (tCons (tVar 8) tNil)))))) (tVar 9))) (tTest (tOp (rNeP K) (tCall (spP R_sees) [] E0 (tCons (tVar 2) (tCons (tVar 4) (tCons (tVar 5) (tCons (tVar 7) (tCons (tVar 8) (tCons (tVar 10) tNil))))))) (tOp (rI0 fun i j => .bl (decide (i ≤ j))) (tVar 9) (tVar 10)))))
      (tRet (tC (.bl false)))
      tNext)
    (tSeq (tAsg (tLc (iRng2 (tCons (tC (.int 2)) (tCons (tC (.int 13)) tNil))) (gName 12) (tTest (tOp (rI0 fun i j => .bl (decide (i ≤ j))) (tCall (spP R_l_dim) [] E0 (tCons (tVar 2) (tCons (tVar 4) (tCons (tVar 12) (tCons (tVar 7) (tCons (tVar 8) tNil)))))) (tVar 10))) (tVar 12) [12]) (gName 11))
    (tIfS (tTest (tOp (rNeP K) (tCall (spP R_first_sight) [] E0 (tCons (tVar 2) (tCons (tVar 4) (tCons (tTup (tCons (tC (.int 2)) (tCons (tC (.int 12)) tNil))) (tCons (tVar 7) (tCons (tVar 8) (tCons (tVar 10) tNil))))))) (tIf (tTest (tOp (rI0 fun i j => .bl (decide (j < i))) (tCB (rLen K) (tCons (tVar 11) tNil)) (tC (.int 0)))) (tOp (rIxA K) (tVar 11) (tC (.int 0))) (tC .non))))
      (tRet (tC (.bl false)))
      tNext)))))))))
    (tSeq (tAsg (tLc (iList K (tVar 2)) (gName 14) (tAnd (tTest (tOp (rI0 fun i j => .bl (decide (j < i))) (tOp (rIxA K) (tVar 14) (tC (.int 4))) (tC (.int 0)))) (tTest (tOp (rEqP K) (tOp (rIxA K) (tVar 14) (tC (.int 5))) (tC (.int 0))))) (tVar 14) [14]) (gName 13))
    (tSeq (tAsg (tLst (tCons (tOp (rI0 fun i j => .int (i - j)) (tC (.int 0)) (tC (.int 1))) tNil)) (gName 15))
    (tSeq (tFor (iList K (tVar 2)) (gTup K 6 (gCons (gName 16) (gCons (gName 17) (gCons (gName 18) (gCons (gName 19) (gCons (gName 20) (gCons (gName 21) gNil)))))))
      (tIfS (tAnd (tTest (tOp (rI0 fun i j => .bl (decide (j < i))) (tVar 20) (tC (.int 0)))) (tTest (tOp (rI0 fun i j => .bl (decide (j < i))) (tVar 21) (tC (.int 0)))))
      (tDrop (tBM K "list" rAppend (tVar 15) (tCons (tCB (rMxD K) (tCons (tLc (iRng2 (tCons (tVar 18) (tCons (tOp (rPlus K) (tVar 18) (tC (.int 12))) tNil))) (gName 12) (tTest (tOp (rI0 fun i j => .bl (decide (j < i))) (tOp (rI0 fun i j => .int (i - j)) (tVar 20) (tOp (rI CMul fun i j => .int (i * j)) (tVar 21) (tOp (rI0 fun i j => .int (i - j)) (tVar 12) (tVar 18)))) (tC (.int 0)))) (tVar 12) [12]) tNil)) tNil)))
      tNext))
    (tSeq (tIfS (tTest (tOp (rNeP K) (tCall (spP R_latest_smoke) [] E0 (tCons (tVar 2) tNil)) (tIf (tTest (tOp (rI0 fun i j => .bl (decide (j < i))) (tCB (rLen K) (tCons (tVar 13) tNil)) (tC (.int 0)))) (tC .non) (tCB (rMxD K) (tCons (tVar 15) tNil)))))
      (tRet (tC (.bl false)))
      tNext)
    (tSeq (tAsg (tLc (iRng1 (tCons (tCall (spS R_l_take) [] E0 (tCons (tVar 1) (tCons (tC (.int 4)) tNil))) tNil)) (gName 23) tYes (tTup (tCons (tCall (spS R_l_take) [] E0 (tCons (tVar 1) (tCons (tC (.int 9)) tNil))) (tCons (tTup (tCons (tCall (spS R_l_take) [] E0 (tCons (tVar 1) (tCons (tC (.int 9)) tNil))) (tCons (tCall (spS R_l_take) [] E0 (tCons (tVar 1) (tCons (tC (.int 9)) tNil))) tNil))) (tCons (tTup (tCons (tCall (spS R_l_take) [] E0 (tCons (tVar 1) (tCons (tC (.int 9)) tNil))) (tCons (tCall (spS R_l_take) [] E0 (tCons (tVar 1) (tCons (tC (.int 9)) tNil))) tNil))) tNil)))) [23]) (gName 22))
    (tSeq (tAsg (tLc (iList K (tVar 22)) (gTup K 3 (gCons (gName 12) (gCons (gName 7) (gCons (gName 8) gNil)))) tYes (tCall (spP R_l_dim) [] E0 (tCons (tVar 2) (tCons (tVar 4) (tCons (tVar 12) (tCons (tVar 7) (tCons (tVar 8) tNil)))))) [12, 7, 8]) (gName 24))
    (tRet (tAndV (tOp (rEqP K) (tCall (spP R_worst_look) [] E0 (tCons (tVar 2) (tCons (tVar 4) (tCons (tVar 22) tNil)))) (tIf (tTest (tOp (rI0 fun i j => .bl (decide (j < i))) (tCB (rLen K) (tCons (tVar 22) tNil)) (tC (.int 0)))) (tTup (tCons (tCB (rMxD K) (tCons (tVar 24) tNil)) (tCons (tBM K "list" (rIndex K) (tVar 24) (tCons (tCB (rMxD K) (tCons (tVar 24) tNil)) tNil)) tNil))) (tTup (tCons (tC (.int 0)) (tCons (tC .non) tNil))))) (tOp (rEqP K) (tVar 2) (tVar 3))))))))))))))))
end Law_k73
/-! k73: the plain functions -/
namespace Law_k73
open Pu
/-- a walker between two middles: cells across, cells along, where -/
structure Wk where
  ac : Int
  al : Int
  x : Int
  y : Int
def sgn (d : Int) : Int := if 0 < d then 1 else -1
def nAbs (d : Int) : Int := (d.natAbs : Int)
def goesW (dx dy : Int) (s : Wk) : Bool := decide (s.ac < nAbs dx) || decide (s.al < nAbs dy)
def stepW (dx dy : Int) (s : Wk) : Wk :=
  let l := (2 * s.ac + 1) * nAbs dy
  let r := (2 * s.al + 1) * nAbs dx
  if l < r then ⟨s.ac + 1, s.al, s.x + sgn dx, s.y⟩
  else if r < l then ⟨s.ac, s.al + 1, s.x, s.y + sgn dy⟩
  else ⟨s.ac + 1, s.al + 1, s.x + sgn dx, s.y + sgn dy⟩
def stW (dx dy : Int) : Nat → Wk
  | 0 => ⟨0, 0, 0, 0⟩
  | k + 1 => stepW dx dy (stW dx dy k)
def lenW (dx dy : Int) : Nat := ((List.range 40).find? fun k => !goesW dx dy (stW dx dy k)).getD 0
def cellW (dx dy : Int) (k : Nat) : Int × Int := ((stW dx dy k).x, (stW dx dy k).y)
def relF (dx dy : Int) : List (Int × Int) := (List.range (lenW dx dy + 1)).map (cellW dx dy)
def sidesF (dx dy x y : Int) : List Int := [(2 * x - 1) * dy - (2 * y - 1) * dx, (2 * x - 1) * dy - (2 * y + 1) * dx, (2 * x + 1) * dy - (2 * y - 1) * dx, (2 * x + 1) * dy - (2 * y + 1) * dx]
def hitF (dx dy x y : Int) : Bool := decide (foldMin (sidesF dx dy x y) < 0) && decide (0 < foldMax (sidesF dx dy x y))
def farF (p : Int × Int) : Int × Int × Int := (nAbs p.1 + nAbs p.2, p)
def rowS (dx dy x : Int) (n : Nat) : List (Int × Int × Int) := ((rngI (min 0 dy) n).filter (hitF dx dy x)).map fun y => farF (x, y)
def scanF (dx dy : Int) (n : Nat) : List (Int × Int × Int) := (rngI (min 0 dx) n).flatMap fun x => rowS dx dy x (dy.natAbs + 1)
def lt3 (a b : Int × Int × Int) : Bool := decide (a.1 < b.1) || (decide (a.1 = b.1) && (decide (a.2.1 < b.2.1) || (decide (a.2.1 = b.2.1) && decide (a.2.2 < b.2.2))))
def smallW (s : Wk) : Bool := decide (-40 ≤ s.ac ∧ s.ac ≤ 40 ∧ -40 ≤ s.al ∧ s.al ≤ 40 ∧ -40 ≤ s.x ∧ s.x ≤ 40 ∧ -40 ≤ s.y ∧ s.y ≤ 40)
def apartB : List (Int × Int × Int) → Bool
  | [] => true
  | a :: r => r.all (lt3 a) && apartB r
def okW (dx dy : Int) : Bool :=
  let n := lenW dx dy
  !goesW dx dy (stW dx dy n) && (List.range n).all (fun k => goesW dx dy (stW dx dy k)) && decide (n ≤ 20) && (List.range (n + 1)).all (fun k => smallW (stW dx dy k))
    && (if dx = 0 ∧ dy = 0 then relF dx dy == [(0, 0)] else apartB ((relF dx dy).map farF) && (scanF dx dy (dx.natAbs + 1)).isPerm ((relF dx dy).map farF))
    && ((relF (-dx) (-dy)).map fun p => (dx + p.1, dy + p.2)).reverse == relF dx dy
theorem ok_all : ∀ i : Fin 17, ∀ j : Fin 17, okW ((i.val : Int) - 8) ((j.val : Int) - 8) = true := by decide +kernel
/-! clouds -/
structure Cl where
  x : Int
  y : Int
  b : Int
  r : Int
  s : Int
  t : Int
def Cl.good (c : Cl) : Prop := (0 ≤ c.x ∧ c.x < 8) ∧ (0 ≤ c.y ∧ c.y < 8) ∧ (0 ≤ c.b ∧ c.b < 5) ∧ (0 ≤ c.r ∧ c.r < 3) ∧ (0 ≤ c.s ∧ c.s < 9) ∧ (0 ≤ c.t ∧ c.t < 4)
def oneT (wx wy tick cx cy : Int) (c : Cl) : Int :=
  if 0 ≤ tick - c.b ∧ nAbs (cx - c.x - wx * (tick - c.b)) ≤ c.r ∧ nAbs (cy - c.y - wy * (tick - c.b)) ≤ c.r then max 0 (c.s - c.t * (tick - c.b)) else 0
def thickF (cl : List Cl) (wx wy tick cx cy : Int) : Int := (cl.map (oneT wx wy tick cx cy)).sum
theorem oneT_nonneg (wx wy tick cx cy : Int) (c : Cl) : 0 ≤ oneT wx wy tick cx cy c := by
  unfold oneT
  split
  · exact Int.le_max_left _ _
  · exact Int.le_refl _
theorem sum_nonneg : ∀ {l : List Int}, (∀ x ∈ l, 0 ≤ x) → 0 ≤ l.sum
  | [], _ => by simp
  | a :: l, h => by
    rw [List.sum_cons]
    have h1 := h a (by simp)
    have h2 := sum_nonneg (l := l) fun x hx => h x (by simp [hx])
    omega
def dimF (cl : List Cl) (wx wy tick a b c d : Int) : Int := ((relF (c - a) (d - b)).map fun p => thickF cl wx wy tick (a + p.1) (b + p.2)).sum
theorem dim_nonneg (cl : List Cl) (wx wy tick a b c d : Int) : 0 ≤ dimF cl wx wy tick a b c d := sum_nonneg fun x hx => by
  obtain ⟨p, _, rfl⟩ := List.mem_map.mp hx
  exact sum_nonneg fun y hy => by
    obtain ⟨q, _, rfl⟩ := List.mem_map.mp hy
    exact oneT_nonneg _ _ _ _ _ _
theorem sum_snoc (l : List Int) (x : Int) : (l ++ [x]).sum = l.sum + x := by simp
/-- when a cloud is gone -/
theorem last_ok : ∀ b : Fin 5, ∀ s : Fin 9, ∀ t : Fin 4, s.val = 0 ∨ t.val = 0 ∨ ((rngI b.val 12).filter (fun k : Int => decide (0 < (s.val : Int) - (t.val : Int) * (k - (b.val : Int)))) ≠ [] ∧ foldMax ((rngI b.val 12).filter (fun k : Int => decide (0 < (s.val : Int) - (t.val : Int) * (k - (b.val : Int))))) = (b.val : Int) + ((s.val : Int) - 1) / (t.val : Int)) := by decide +kernel
/-! the greatest, its first place -/
theorem foldMax_snoc (a : Int) (l : List Int) (x : Int) : foldMax ((a :: l) ++ [x]) = max (foldMax (a :: l)) x := by
  simp [foldMax, List.foldl_append]
theorem foldMax_ge : ∀ (l : List Int) (a : Int), a ≤ l.foldl max a ∧ ∀ x ∈ l, x ≤ l.foldl max a
  | [], a => ⟨Int.le_refl _, fun x hx => by cases hx⟩
  | b :: l, a => by
    have h := foldMax_ge l (max a b)
    refine ⟨?_, fun x hx => ?_⟩
    · have := h.1
      simp only [List.foldl_cons]
      omega
    · simp only [List.foldl_cons]
      rcases List.mem_cons.mp hx with rfl | hx
      · have := h.1
        omega
      · exact h.2 x hx
theorem foldMax_in : ∀ (l : List Int) (a : Int), l.foldl max a ∈ a :: l
  | [], a => by simp
  | b :: l, a => by
    have h := foldMax_in l (max a b)
    simp only [List.foldl_cons]
    rcases List.mem_cons.mp h with h | h
    · rw [h]
      by_cases q : a ≤ b
      · rw [Int.max_eq_right q]; simp
      · rw [Int.max_eq_left (by omega)]; simp
    · simp [h]
def bestP (l : List Int) : Int × Option Int := match l with
  | [] => (-1, none)
  | a :: r => (foldMax (a :: r), some (((a :: r).idxOf (foldMax (a :: r)) : Nat) : Int))
theorem best_snoc (l : List Int) (h : ∀ x ∈ l, 0 ≤ x) (x : Int) (hx : 0 ≤ x) : bestP (l ++ [x]) = if (bestP l).1 < x then (x, some (l.length : Int)) else bestP l := by
  cases l with
  | nil =>
    show bestP [x] = if (-1 : Int) < x then _ else _
    rw [if_pos (by omega)]
    simp [bestP, foldMax]
  | cons a r =>
    show (foldMax ((a :: r) ++ [x]), some ((((a :: r) ++ [x]).idxOf (foldMax ((a :: r) ++ [x])) : Nat) : Int)) = if foldMax (a :: r) < x then _ else _
    rw [foldMax_snoc]
    by_cases c : foldMax (a :: r) < x
    · rw [if_pos c, Int.max_eq_right (by omega)]
      have hn : x ∉ a :: r := fun hm => by
        have g := foldMax_ge r a
        have e : foldMax (a :: r) = r.foldl max a := rfl
        rcases List.mem_cons.mp hm with rfl | hm
        · have := g.1; omega
        · have := g.2 x hm; omega
      rw [List.idxOf_append, if_neg hn]
      simp
    · rw [if_neg c, Int.max_eq_left (by omega)]
      have hi : foldMax (a :: r) ∈ a :: r := foldMax_in r a
      rw [List.idxOf_append, if_pos hi]
      rfl
end Law_k73
namespace Law_k73
open PySem L2 Pu
local macro_rules | `(tactic| walk_at "e") => `(tactic| first
  | ((with_reducible refine nx_seq ?_); (try dsimp only [List.set_cons_succ, List.set_cons_zero]))
  | ((with_reducible refine ex_vr ?_); dsimp only [VQ, List.set_cons_succ, List.set_cons_zero, List.getElem?_cons_zero, List.getElem?_cons_succ]; (fail_if_success (with_reducible show False)))
  | (with_reducible refine sx_seq ?_)
  | (with_reducible refine sx_if ?_)
  | (with_reducible refine sx_next ?_)
  | (with_reducible refine sx_ret ?_)
  | ((fail_if_success (with_reducible refine sx_asgO (eo_lst ?_))); (with_reducible refine sx_asg ?_))
  | (with_reducible refine ex_int ?_)
  | (with_reducible refine ex_str ?_)
  | (with_reducible refine ex_bl ?_)
  | (with_reducible refine ex_non ?_)
  | (with_reducible refine ex_op ?_)
  | (with_reducible refine ex_un ?_)
  | (with_reducible refine ex_chain ?_)
  | (with_reducible refine ex_call ?_)
  | (with_reducible refine ex_isT ?_)
  | (with_reducible refine ex_cb ?_)
  | (with_reducible refine ex_sl ?_)
  | (with_reducible refine ex_tup ?_)
  | (with_reducible refine ex_if ?_)
  | (with_reducible refine ex_of (eo_lst ?_))
  | (with_reducible refine ex_notV ?_)
  | (with_reducible refine ea_nil ?_)
  | (with_reducible refine ea_cons ?_)
  | (with_reducible refine ep_no ?_)
  | (with_reducible refine ep_some ?_)
  | (with_reducible refine et_test ?_)
  | (with_reducible refine et_B ?_)
  | (with_reducible refine et_and ?_)
  | (with_reducible refine et_or ?_)
  | (with_reducible refine et_not ?_)
  | (with_reducible refine et_yes ?_)
  | (with_reducible refine opd_plusI ?_)
  | (with_reducible refine opd_I0 ?_)
  | (with_reducible refine opd_B0 ?_)
  | (with_reducible refine opd_eqI ?_)
  | (with_reducible refine opd_neI ?_)
  | (with_reducible refine opd_eqS ?_)
  | (with_reducible refine opd_neS ?_)
  | (with_reducible refine opd_is ?_)
  | (with_reducible refine opd_isnt ?_)
  | (with_reducible refine opd_ixT rfl ?_)
  | (with_reducible refine opd_ixL rfl ?_)
  | (with_reducible refine und_neg ?_)
  | (with_reducible refine cbd_lenL ?_)
  | (with_reducible refine cbd_lenT ?_)
  | (with_reducible refine cbd_min2 ?_)
  | (with_reducible refine cbd_max2 ?_)
  | (with_reducible refine cbd_abs ?_)
  | (with_reducible refine cbd_int ?_)
  | (with_reducible refine cbd_tupL ?_)
  | (with_reducible refine cbd_listL ?_)
  | (with_reducible refine cbd_listT ?_)
  | (with_reducible refine cbd_sum ?_)
  | (with_reducible refine sld_T ?_)
  | (with_reducible refine sld_L ?_)
  | (with_reducible refine ex_revL ?_)
  | (with_reducible refine ex_bmL ?_)
  | (with_reducible refine ex_andV ?_)
  | (with_reducible refine ei_list ?_)
  | (with_reducible refine ei_rng1 ?_)
  | (with_reducible refine ei_rng2 ?_)
  | (with_reducible refine sx_par ?_)
  | (with_reducible refine Exists.intro _ (And.intro rfl ?_))
  | (with_reducible refine Exists.intro _ (Exists.intro _ (And.intro rfl ?_)))
  | ((with_reducible show EX (tCall (spS _) [] _ (tCons (tVar _) _)) _ _); refine ex_callS rfl ?_)
  | ((with_reducible refine And.intro (show (_ : Nat) ≤ 100000 from ?_) ?_); (focus (simp; done)))
  | ((with_reducible refine opd_I ?_ ?_); focus (first | omega | (show CDiv _ _; exact ⟨by omega, by omega⟩) | (show CMul _ _; first | exact Or.inl ⟨by omega, by omega⟩ | exact Or.inr ⟨by omega, by omega⟩))))
local macro_rules | `(tactic| walk_at "es") => `(tactic| repeat walk_at "e")
local macro_rules | `(tactic| walk_at "w") => `(tactic| try dsimp only [wipeE, List.foldl_cons, List.foldl_nil, List.set_cons_succ, List.set_cons_zero])
local macro_rules | `(tactic| walk_at "le") => `(tactic| repeat' first | exact LeE.nil | (refine LeE.eq rfl ?_) | (refine LeE.emp ?_) | (refine LeE.eq ?_ ?_))
local macro_rules | `(tactic| walk_at "no") => `(tactic| ((refine And.intro (fun hb => absurd hb ?_) (fun _ => ?_)); (focus (first | (exact Bool.false_ne_true) | (simp; done) | (simp; omega) | (simp only [decide_eq_true_eq]; omega)))))
local macro_rules | `(tactic| walk_at "yes") => `(tactic| ((refine And.intro (fun _ => ?_) (fun hb => absurd hb ?_)); (rotate_left); (focus (first | (exact Bool.noConfusion) | (simp; done) | (simp; omega) | (simp only [decide_eq_false_iff_not]; omega)))))
def encC (c : Cl) : D := .tuple [.int c.x, .int c.y, .int c.b, .int c.r, .int c.s, .int c.t]
def Good (cl : List Cl) : Prop := cl.length ≤ 4 ∧ ∀ c ∈ cl, c.good
theorem take_snoc {α : Type} {l : List α} {k : Nat} {x : α} (h : l[k]? = some x) : l.take (k + 1) = l.take k ++ [x] := by rw [List.take_add_one, h]; rfl
def R_thick : List D → (D → Prop) → Prop := fun ds Z => ∃ (cl : List Cl) (wx wy tick cx cy : Int), ds = [.list (cl.map encC), .tuple [.int wx, .int wy], .int tick, .tuple [.int cx, .int cy]] ∧ Good cl ∧ (-2 ≤ wx ∧ wx ≤ 2) ∧ (-2 ≤ wy ∧ wy ≤ 2) ∧ (0 ≤ tick ∧ tick ≤ 20) ∧ Z (.int (thickF cl wx wy tick cx cy))
theorem max_abs {i j r : Int} : max (i.natAbs : Int) (j.natAbs : Int) ≤ r ↔ nAbs i ≤ r ∧ nAbs j ≤ r := by unfold nAbs; omega
theorem sx_thickness (K : PySem.W.Frag) (ds : List D) (Z : D → Prop) (h : R_thick ds Z) : SX (T_thickness K) (startE N_thickness ds) { nx := fun _ => Z .none, rt := fun d _ => Z d } := by
  obtain ⟨cl, wx, wy, tick, cx, cy, rfl, ⟨hl, hg⟩, ⟨hx1, hx2⟩, ⟨hy1, hy2⟩, ⟨ht1, ht2⟩, z⟩ := h
  show SX (T_thickness K) [.val (.list (cl.map encC)), .val (.tuple [.int wx, .int wy]), .val (.int tick), .val (.tuple [.int cx, .int cy]), .emp, .emp, .emp, .emp, .emp, .emp, .emp, .emp, .emp] _
  unfold T_thickness
  walk_at "es"
  refine sx_for (J := [5, 6, 7, 8, 9, 10]) (ei_list ?_)
  walk_at "es"
  refine ⟨fun k ρ' => ρ' = [.val (.list (cl.map encC)), .val (.tuple [.int wx, .int wy]), .val (.int tick), .val (.tuple [.int cx, .int cy]), .val (.int ((cl.take k).map (oneT wx wy tick cx cy)).sum), .emp, .emp, .emp, .emp, .emp, .emp, .emp, .emp], rfl, ?_, ?_⟩
  · rintro k d ρ' hd0 rfl
    obtain ⟨c, hc, rfl⟩ := map_at hd0
    obtain ⟨⟨_, _⟩, ⟨_, _⟩, ⟨_, _⟩, ⟨_, _⟩, ⟨_, _⟩, _, _⟩ := hg c (List.mem_of_getElem? hc)
    have hs : ((cl.take (k + 1)).map (oneT wx wy tick cx cy)).sum = ((cl.take k).map (oneT wx wy tick cx cy)).sum + oneT wx wy tick cx cy c := by rw [take_snoc hc, List.map_append, List.map_cons, List.map_nil, sum_snoc]
    refine sg_tup rfl (sgs_cons (sg_name (by simp) (sgs_cons (sg_name (by simp) (sgs_cons (sg_name (by simp) (sgs_cons (sg_name (by simp) (sgs_cons (sg_name (by simp) (sgs_cons (sg_name (by simp) (sgs_nil ?_)))))))))))))
    walk_at "w"
    walk_at "es"
    refine ⟨fun hb => ?_, fun hb => ?_⟩
    · simp only [decide_eq_true_eq] at hb
      walk_at "es"
      have e1 : cx - (c.x + wx * (tick - c.b)) = cx - c.x - wx * (tick - c.b) := by omega
      have e2 : cy - (c.y + wy * (tick - c.b)) = cy - c.y - wy * (tick - c.b) := by omega
      rw [e1, e2]
      refine ⟨fun hc => ?_, fun hc => ?_⟩
      · simp only [decide_eq_true_eq, max_abs] at hc
        walk_at "es"
        refine ⟨_, ?_, rfl⟩
        walk_at "le"
        all_goals (rw [hs]; unfold oneT; rw [if_pos ⟨hb, hc.1, hc.2⟩])
      · simp only [decide_eq_false_iff_not, max_abs] at hc
        walk_at "es"
        refine ⟨_, ?_, rfl⟩
        walk_at "le"
        all_goals (rw [hs]; unfold oneT; rw [if_neg (fun q => hc q.2), Int.add_zero])
    · simp only [decide_eq_false_iff_not] at hb
      walk_at "es"
      refine ⟨_, ?_, rfl⟩
      walk_at "le"
      all_goals (rw [hs]; unfold oneT; rw [if_neg (fun q => hb q.1), Int.add_zero])
  · rintro ρ' rfl
    rw [List.length_map, List.take_length]
    walk_at "es"
    exact z
theorem sx_l_thick (K : PySem.W.Frag) (ds : List D) (Z : D → Prop) (h : R_thick ds Z) : SX (T_l_thick K) (startE N_l_thick ds) { nx := fun _ => Z .none, rt := fun d _ => Z d } := by
  obtain ⟨cl, wx, wy, tick, cx, cy, rfl, ⟨hl, hg⟩, ⟨hx1, hx2⟩, ⟨hy1, hy2⟩, ⟨ht1, ht2⟩, z⟩ := h
  show SX (T_l_thick K) [.val (.list (cl.map encC)), .val (.tuple [.int wx, .int wy]), .val (.int tick), .val (.tuple [.int cx, .int cy]), .emp, .emp, .emp, .emp, .emp, .emp, .emp, .emp] _
  unfold T_l_thick
  walk_at "es"
  refine sx_for (J := [5, 6, 7, 8, 9, 10]) (ei_list ?_)
  walk_at "es"
  refine ⟨fun k ρ' => ρ' = [.val (.list (cl.map encC)), .val (.tuple [.int wx, .int wy]), .val (.int tick), .val (.tuple [.int cx, .int cy]), .val (.int ((cl.take k).map (oneT wx wy tick cx cy)).sum), .emp, .emp, .emp, .emp, .emp, .emp, .emp], rfl, ?_, ?_⟩
  · rintro k d ρ' hd0 rfl
    obtain ⟨c, hc, rfl⟩ := map_at hd0
    obtain ⟨⟨_, _⟩, ⟨_, _⟩, ⟨_, _⟩, ⟨_, _⟩, ⟨_, _⟩, _, _⟩ := hg c (List.mem_of_getElem? hc)
    have hs : ((cl.take (k + 1)).map (oneT wx wy tick cx cy)).sum = ((cl.take k).map (oneT wx wy tick cx cy)).sum + oneT wx wy tick cx cy c := by rw [take_snoc hc, List.map_append, List.map_cons, List.map_nil, sum_snoc]
    refine sg_tup rfl (sgs_cons (sg_name (by simp) (sgs_cons (sg_name (by simp) (sgs_cons (sg_name (by simp) (sgs_cons (sg_name (by simp) (sgs_cons (sg_name (by simp) (sgs_cons (sg_name (by simp) (sgs_nil ?_)))))))))))))
    walk_at "w"
    walk_at "es"
    refine ⟨fun hb => ?_, fun hb => ?_⟩
    · simp only [decide_eq_true_eq] at hb
      walk_at "es"
      refine ⟨fun hc => ?_, fun hc => ?_⟩
      · simp only [decide_eq_true_eq] at hc
        walk_at "es"
        refine ⟨fun hd => ?_, fun hd => ?_⟩
        · simp only [decide_eq_true_eq] at hd
          walk_at "es"
          refine ⟨_, ?_, rfl⟩
          walk_at "le"
          all_goals (rw [hs]; unfold oneT nAbs; rw [if_pos ⟨hb, hc, hd⟩])
        · simp only [decide_eq_false_iff_not] at hd
          try walk_at "no"
          walk_at "es"
          refine ⟨_, ?_, rfl⟩
          walk_at "le"
          all_goals (rw [hs]; unfold oneT nAbs; rw [if_neg (fun q => hd q.2.2), Int.add_zero])
      · simp only [decide_eq_false_iff_not] at hc
        try walk_at "no"
        walk_at "es"
        refine ⟨_, ?_, rfl⟩
        walk_at "le"
        all_goals (rw [hs]; unfold oneT nAbs; rw [if_neg (fun q => hc q.2.1), Int.add_zero])
    · simp only [decide_eq_false_iff_not] at hb
      try walk_at "no"
      walk_at "es"
      refine ⟨_, ?_, rfl⟩
      walk_at "le"
      all_goals (rw [hs]; unfold oneT; rw [if_neg (fun q => hb q.1), Int.add_zero])
  · rintro ρ' rfl
    rw [List.length_map, List.take_length]
    walk_at "es"
    exact z
def shD (a b : Int) (p : Int × Int) : D := .tuple [.int (a + p.1), .int (b + p.2)]
def cellsD (a b c d : Int) : D := .list ((relF (c - a) (d - b)).map (shD a b))
def In8 (a b c d : Int) : Prop := (0 ≤ a ∧ a ≤ 8) ∧ (0 ≤ b ∧ b ≤ 8) ∧ (0 ≤ c ∧ c ≤ 8) ∧ (0 ≤ d ∧ d ≤ 8)
def R_cells : List D → (D → Prop) → Prop := fun ds Z => ∃ a b c d : Int, ds = [.tuple [.int a, .int b], .tuple [.int c, .int d]] ∧ In8 a b c d ∧ Z (cellsD a b c d)
theorem ok_of {dx dy : Int} (h1 : -8 ≤ dx ∧ dx ≤ 8) (h2 : -8 ≤ dy ∧ dy ≤ 8) : okW dx dy = true := by
  have h := ok_all ⟨(dx + 8).toNat, by omega⟩ ⟨(dy + 8).toNat, by omega⟩
  have e1 : (((dx + 8).toNat : Nat) : Int) - 8 = dx := by omega
  have e2 : (((dy + 8).toNat : Nat) : Int) - 8 = dy := by omega
  simp only [e1, e2] at h
  exact h
theorem ok_parts {dx dy : Int} (h : okW dx dy = true) : goesW dx dy (stW dx dy (lenW dx dy)) = false ∧ (∀ k, k < lenW dx dy → goesW dx dy (stW dx dy k) = true) ∧ lenW dx dy ≤ 20 ∧ (∀ k, k ≤ lenW dx dy → smallW (stW dx dy k) = true) ∧
    (if dx = 0 ∧ dy = 0 then relF dx dy = [(0, 0)] else apartB ((relF dx dy).map farF) = true ∧ (scanF dx dy (dx.natAbs + 1)).isPerm ((relF dx dy).map farF) = true) ∧ ((relF (-dx) (-dy)).map fun p => (dx + p.1, dy + p.2)).reverse = relF dx dy := by
  simp only [okW, Bool.and_eq_true, List.all_eq_true, List.mem_range, decide_eq_true_eq, beq_iff_eq, Bool.not_eq_true'] at h
  obtain ⟨⟨⟨⟨⟨h1, h2⟩, h3⟩, h4⟩, h5⟩, h6⟩ := h
  refine ⟨h1, h2, h3, fun k hk => h4 k (by omega), ?_, h6⟩
  by_cases c : dx = 0 ∧ dy = 0
  · rw [if_pos c] at h5 ⊢; exact beq_iff_eq.mp h5
  · rw [if_neg c] at h5 ⊢; exact Bool.and_eq_true_iff.mp h5
theorem rel_snoc (dx dy : Int) (k : Nat) (a b : Int) : ((List.range (k + 1 + 1)).map (cellW dx dy)).map (shD a b) = ((List.range (k + 1)).map (cellW dx dy)).map (shD a b) ++ [shD a b (cellW dx dy (k + 1))] := by
  rw [List.range_succ, List.map_append, List.map_append]; rfl
theorem ex_sg {ρ : Pu.Env} {te1 te2 : TE} {Q : D → Pu.Env → Prop} (h : EX te1 ρ fun d1 ρ1 => EX te2 ρ1 fun d2 ρ2 => ∃ i j, d1 = .int i ∧ d2 = .int j ∧ Q (.int (sgn (i - j))) ρ2) :
    EX (tIf (tTest (tOp (rI0 fun i j => .bl (decide (j < i))) te1 te2)) (tC (.int 1)) (tUn (rU fun i => .int (-i)) (tC (.int 1)))) ρ Q := by
  refine ex_if (et_test (ex_op (h.imp fun d1 ρ1 h => h.imp fun d2 ρ2 h => ?_)))
  obtain ⟨i, j, rfl, rfl, q⟩ := h
  refine opd_B0 ⟨_, rfl, fun hb => ex_int ?_, fun hb => ex_un (ex_int (und_neg ?_))⟩
  · have hb := of_decide_eq_true hb
    unfold sgn at q
    rw [if_pos (by omega)] at q
    exact q
  · have hb := of_decide_eq_false hb
    unfold sgn at q
    rw [if_neg (by omega)] at q
    exact q
local macro_rules | `(tactic| walk_at "e") => `(tactic| (with_reducible refine ex_sg ?_))
def T_turn (K : PySem.W.Frag) : TS :=
    (tSeq (tPar 11 12 (tCons (tOp (rI CMul fun i j => .int (i * j)) (tOp (rPlus K) (tOp (rI CMul fun i j => .int (i * j)) (tC (.int 2)) (tVar 9)) (tC (.int 1))) (tVar 7)) (tCons (tOp (rI CMul fun i j => .int (i * j)) (tOp (rPlus K) (tOp (rI CMul fun i j => .int (i * j)) (tC (.int 2)) (tVar 10)) (tC (.int 1))) (tVar 6)) tNil)))
    (tSeq (tIfS (tTest (tOp (rI0 fun i j => .bl (decide (i < j))) (tVar 11) (tVar 12)))
      (tPar 9 2 (tCons (tOp (rPlus K) (tVar 9) (tC (.int 1))) (tCons (tOp (rPlus K) (tVar 2) (tVar 4)) tNil)))
      (tIfS (tTest (tOp (rI0 fun i j => .bl (decide (i < j))) (tVar 12) (tVar 11)))
      (tPar 10 3 (tCons (tOp (rPlus K) (tVar 10) (tC (.int 1))) (tCons (tOp (rPlus K) (tVar 3) (tVar 5)) tNil)))
      (tAsg (tTup (tCons (tOp (rPlus K) (tVar 9) (tC (.int 1))) (tCons (tOp (rPlus K) (tVar 10) (tC (.int 1))) (tCons (tOp (rPlus K) (tVar 2) (tVar 4)) (tCons (tOp (rPlus K) (tVar 3) (tVar 5)) tNil))))) (gTup K 4 (gCons (gName 9) (gCons (gName 10) (gCons (gName 2) (gCons (gName 3) gNil))))))))
    (tDrop (tBM K "list" rAppend (tVar 8) (tCons (tTup (tCons (tVar 2) (tCons (tVar 3) tNil))) tNil)))))
theorem sx_turn {K : PySem.W.Frag} {P : Po} {s0 s1 : Slot} {a b dx dy : Int} {k : Nat} (hk : k ≤ 20) (sm : smallW (stW dx dy k) = true) (hdx : 0 ≤ nAbs dx ∧ nAbs dx ≤ 8) (hdy : 0 ≤ nAbs dy ∧ nAbs dy ≤ 8)
    (q : ∀ s11 s12, NX P [s0, s1, .val (.int (a + (stW dx dy (k + 1)).x)), .val (.int (b + (stW dx dy (k + 1)).y)), .val (.int (sgn dx)), .val (.int (sgn dy)), .val (.int (nAbs dx)), .val (.int (nAbs dy)), .own (((List.range (k + 1 + 1)).map (cellW dx dy)).map (shD a b)), .val (.int (stW dx dy (k + 1)).ac), .val (.int (stW dx dy (k + 1)).al), s11, s12]) :
    SX (T_turn K) [s0, s1, .val (.int (a + (stW dx dy k).x)), .val (.int (b + (stW dx dy k).y)), .val (.int (sgn dx)), .val (.int (sgn dy)), .val (.int (nAbs dx)), .val (.int (nAbs dy)), .own (((List.range (k + 1)).map (cellW dx dy)).map (shD a b)), .val (.int (stW dx dy k).ac), .val (.int (stW dx dy k).al), .emp, .emp] P := by
  simp only [smallW, decide_eq_true_eq] at sm
  obtain ⟨sm1, sm2, sm3, sm4, _⟩ := sm
  obtain ⟨hdx1, hdx2⟩ := hdx
  obtain ⟨hdy1, hdy2⟩ := hdy
  rw [rel_snoc] at q
  unfold cellW at q
  have e : stW dx dy (k + 1) = stepW dx dy (stW dx dy k) := rfl
  rw [e] at q
  have hlen : (((List.range (k + 1)).map (cellW dx dy)).map (shD a b)).length < 1000000 := by simp; omega
  unfold cellW at hlen
  unfold cellW
  generalize stW dx dy k = s at *
  generalize ((List.range (k + 1)).map fun k => ((stW dx dy k).x, (stW dx dy k).y)).map (shD a b) = rows at *
  unfold stepW at q
  simp only at q
  unfold T_turn
  walk_at "es"
  refine ⟨fun hb => ?_, fun hb => ?_⟩
  · have hb := of_decide_eq_true hb
    rw [if_pos hb] at q
    walk_at "es"
    refine sx_app rfl ?_
    walk_at "es"
    refine ⟨hlen, ?_⟩
    have q := q (.val (.int ((2 * s.ac + 1) * nAbs dy))) (.val (.int ((2 * s.al + 1) * nAbs dx)))
    simp only [shD, ← Int.add_assoc] at q
    exact q
  · have hb := of_decide_eq_false hb
    rw [if_neg hb] at q
    walk_at "es"
    refine ⟨fun hb => ?_, fun hb => ?_⟩
    · have hb := of_decide_eq_true hb
      rw [if_pos hb] at q
      walk_at "es"
      refine sx_app rfl ?_
      walk_at "es"
      refine ⟨hlen, ?_⟩
      have q := q (.val (.int ((2 * s.ac + 1) * nAbs dy))) (.val (.int ((2 * s.al + 1) * nAbs dx)))
      simp only [shD, ← Int.add_assoc] at q
      exact q
    · have hb := of_decide_eq_false hb
      rw [if_neg hb] at q
      refine sx_asgT (J := [9, 10, 2, 3]) ?_
      walk_at "es"
      refine sg_tup rfl (sgs_cons (sg_name (by simp) (sgs_cons (sg_name (by simp) (sgs_cons (sg_name (by simp) (sgs_cons (sg_name (by simp) (sgs_nil ?_)))))))))
      walk_at "w"
      walk_at "es"
      refine sx_app rfl ?_
      walk_at "es"
      refine ⟨hlen, ?_⟩
      have q := q (.val (.int ((2 * s.ac + 1) * nAbs dy))) (.val (.int ((2 * s.al + 1) * nAbs dx)))
      simp only [shD, ← Int.add_assoc] at q
      exact q
theorem sx_cells_between (K : PySem.W.Frag) (ds : List D) (Z : D → Prop) (h : R_cells ds Z) : SX (T_cells_between K) (startE N_cells_between ds) { nx := fun _ => Z .none, rt := fun d _ => Z d } := by
  obtain ⟨a, b, c, d, rfl, ⟨⟨ha1, ha2⟩, ⟨hb1, hb2⟩, ⟨hc1, hc2⟩, hd1, hd2⟩, z⟩ := h
  unfold cellsD relF at z
  generalize hx : c - a = dx at z
  generalize hy : d - b = dy at z
  obtain ⟨q1, q2, q3, q4, -, -⟩ := ok_parts (ok_of (dx := dx) (dy := dy) (by omega) (by omega))
  generalize hN : lenW dx dy = N at z q1 q2 q3 q4
  show SX (T_cells_between K) [.val (.tuple [.int a, .int b]), .val (.tuple [.int c, .int d]), .emp, .emp, .emp, .emp, .emp, .emp, .emp, .emp, .emp, .emp, .emp] _
  unfold T_cells_between
  refine sx_seq (sx_asgT (J := [2, 3]) ?_)
  walk_at "es"
  refine sg_tup rfl (sgs_cons (sg_name (by simp) (sgs_cons (sg_name (by simp) (sgs_nil ?_)))))
  walk_at "w"
  walk_at "es"
  refine ⟨c, a, rfl, rfl, ?_⟩
  walk_at "es"
  refine ⟨d, b, rfl, rfl, ?_⟩
  rw [hx, hy]
  walk_at "es"
  rw [hx, hy]
  refine sx_asgO (eo_lst ?_)
  walk_at "es"
  refine sx_asgT (J := [9, 10]) ?_
  walk_at "es"
  refine sg_tup rfl (sgs_cons (sg_name (by simp) (sgs_cons (sg_name (by simp) (sgs_nil ?_)))))
  walk_at "w"
  walk_at "es"
  refine sx_while (fun m ρ' => ∃ k, k ≤ N ∧ m = N - k ∧ ρ' = [.val (.tuple [.int a, .int b]), .val (.tuple [.int c, .int d]), .val (.int (a + (stW dx dy k).x)), .val (.int (b + (stW dx dy k).y)), .val (.int (sgn dx)), .val (.int (sgn dy)), .val (.int (nAbs dx)), .val (.int (nAbs dy)), .own (((List.range (k + 1)).map (cellW dx dy)).map (shD a b)), .val (.int (stW dx dy k).ac), .val (.int (stW dx dy k).al), .emp, .emp]) N ⟨0, by omega, rfl, ?_⟩ ?_
  · simp [cellW, stW, shD, nAbs]
  rintro m ρ' ⟨k, hk, rfl, rfl⟩
  have sm := q4 k hk
  simp only [smallW, decide_eq_true_eq] at sm
  have hdx : 0 ≤ nAbs dx ∧ nAbs dx ≤ 8 := by unfold nAbs; omega
  have hdy : 0 ≤ nAbs dy ∧ nAbs dy ≤ 8 := by unfold nAbs; omega
  have fin : goesW dx dy (stW dx dy k) = false → k = N := fun hf => by
    by_cases e : k = N
    · exact e
    · have := q2 k (by omega); rw [hf] at this; cases this
  have go : goesW dx dy (stW dx dy k) = true → k < N := fun hf => by
    by_cases e : k = N
    · rw [e, q1] at hf; cases hf
    · omega
  have done : goesW dx dy (stW dx dy k) = true → ∀ s11 s12, NX (Po.mk (fun ρ2 => ∃ m', m' < N - k ∧ ∃ k, k ≤ N ∧ m' = N - k ∧ ρ2 = [.val (.tuple [.int a, .int b]), .val (.tuple [.int c, .int d]), .val (.int (a + (stW dx dy k).x)), .val (.int (b + (stW dx dy k).y)), .val (.int (sgn dx)), .val (.int (sgn dy)), .val (.int (nAbs dx)), .val (.int (nAbs dy)), .own (((List.range (k + 1)).map (cellW dx dy)).map (shD a b)), .val (.int (stW dx dy k).ac), .val (.int (stW dx dy k).al), .emp, .emp]) (fun _ _ => True) (fun _ => True) (fun _ => True)) [.val (.tuple [.int a, .int b]), .val (.tuple [.int c, .int d]), .val (.int (a + (stW dx dy (k + 1)).x)), .val (.int (b + (stW dx dy (k + 1)).y)), .val (.int (sgn dx)), .val (.int (sgn dy)), .val (.int (nAbs dx)), .val (.int (nAbs dy)), .own (((List.range (k + 1 + 1)).map (cellW dx dy)).map (shD a b)), .val (.int (stW dx dy (k + 1)).ac), .val (.int (stW dx dy (k + 1)).al), s11, s12] := fun hg s11 s12 => by
    have := go hg
    refine ⟨_, ?_, N - (k + 1), by omega, k + 1, by omega, rfl, rfl⟩
    walk_at "le"
  walk_at "es"
  refine ⟨fun hb => ⟨fun _ => ?_, fun q => by cases q⟩, fun hb => ?_⟩
  · have hg : goesW dx dy (stW dx dy k) = true := by unfold goesW; rw [hb]; rfl
    refine sx_turn (by omega) (q4 k hk) hdx hdy fun s11 s12 => ?_
    obtain ⟨ρ3, l, q⟩ := done hg s11 s12
    exact ⟨ρ3, l, q⟩
  walk_at "es"
  refine ⟨fun hb2 => ?_, fun hb2 => ?_⟩
  · have hg : goesW dx dy (stW dx dy k) = true := by unfold goesW; rw [hb2, Bool.or_true]
    refine sx_turn (by omega) (q4 k hk) hdx hdy fun s11 s12 => ?_
    obtain ⟨ρ3, l, q⟩ := done hg s11 s12
    exact ⟨ρ3, l, q⟩
  · have e := fin (by unfold goesW; rw [hb, hb2]; rfl)
    subst e
    refine nx_seq (sx_freeze 8 rfl ?_)
    walk_at "w"
    walk_at "es"
    exact z
end Law_k73
namespace Law_k73
open PySem L2 Pu
local macro_rules | `(tactic| walk_at "e") => `(tactic| first
  | ((with_reducible refine nx_seq ?_); (try dsimp only [List.set_cons_succ, List.set_cons_zero]))
  | ((with_reducible refine ex_vr ?_); dsimp only [VQ, List.set_cons_succ, List.set_cons_zero, List.getElem?_cons_zero, List.getElem?_cons_succ]; (fail_if_success (with_reducible show False)))
  | (with_reducible refine sx_seq ?_)
  | (with_reducible refine sx_if ?_)
  | (with_reducible refine sx_next ?_)
  | (with_reducible refine sx_ret ?_)
  | ((fail_if_success (with_reducible refine sx_asgO (eo_lst ?_))); (with_reducible refine sx_asg ?_))
  | (with_reducible refine ex_int ?_)
  | (with_reducible refine ex_str ?_)
  | (with_reducible refine ex_bl ?_)
  | (with_reducible refine ex_non ?_)
  | (with_reducible refine ex_op ?_)
  | (with_reducible refine ex_un ?_)
  | (with_reducible refine ex_chain ?_)
  | (with_reducible refine ex_call ?_)
  | (with_reducible refine ex_isT ?_)
  | (with_reducible refine ex_cb ?_)
  | (with_reducible refine ex_sl ?_)
  | (with_reducible refine ex_tup ?_)
  | (with_reducible refine ex_if ?_)
  | (with_reducible refine ex_of (eo_lst ?_))
  | (with_reducible refine ex_notV ?_)
  | (with_reducible refine ea_nil ?_)
  | (with_reducible refine ea_cons ?_)
  | (with_reducible refine ep_no ?_)
  | (with_reducible refine ep_some ?_)
  | (with_reducible refine et_test ?_)
  | (with_reducible refine et_B ?_)
  | (with_reducible refine et_and ?_)
  | (with_reducible refine et_or ?_)
  | (with_reducible refine et_not ?_)
  | (with_reducible refine et_yes ?_)
  | (with_reducible refine opd_plusI ?_)
  | (with_reducible refine opd_I0 ?_)
  | (with_reducible refine opd_B0 ?_)
  | (with_reducible refine opd_eqI ?_)
  | (with_reducible refine opd_neI ?_)
  | (with_reducible refine opd_eqS ?_)
  | (with_reducible refine opd_neS ?_)
  | (with_reducible refine opd_is ?_)
  | (with_reducible refine opd_isnt ?_)
  | (with_reducible refine opd_ixT rfl ?_)
  | (with_reducible refine opd_ixL rfl ?_)
  | (with_reducible refine und_neg ?_)
  | (with_reducible refine cbd_lenL ?_)
  | (with_reducible refine cbd_lenT ?_)
  | (with_reducible refine cbd_min2 ?_)
  | (with_reducible refine cbd_max2 ?_)
  | (with_reducible refine cbd_abs ?_)
  | (with_reducible refine cbd_int ?_)
  | (with_reducible refine cbd_tupL ?_)
  | (with_reducible refine cbd_listL ?_)
  | (with_reducible refine cbd_listT ?_)
  | (with_reducible refine cbd_sum ?_)
  | (with_reducible refine sld_T ?_)
  | (with_reducible refine sld_L ?_)
  | (with_reducible refine ex_revL ?_)
  | (with_reducible refine ex_bmL ?_)
  | (with_reducible refine ex_andV ?_)
  | (with_reducible refine ei_list ?_)
  | (with_reducible refine ei_rng1 ?_)
  | (with_reducible refine ei_rng2 ?_)
  | (with_reducible refine sx_par ?_)
  | (with_reducible refine Exists.intro _ (And.intro rfl ?_))
  | (with_reducible refine Exists.intro _ (Exists.intro _ (And.intro rfl ?_)))
  | ((with_reducible show EX (tCall (spS _) [] _ (tCons (tVar _) _)) _ _); refine ex_callS rfl ?_)
  | ((with_reducible refine And.intro (show (_ : Nat) ≤ 100000 from ?_) ?_); (focus (simp; done)))
  | ((with_reducible refine opd_I ?_ ?_); focus (first | omega | (show CDiv _ _; exact ⟨by omega, by omega⟩) | (show CMul _ _; first | exact Or.inl ⟨by omega, by omega⟩ | exact Or.inr ⟨by omega, by omega⟩))))
local macro_rules | `(tactic| walk_at "es") => `(tactic| repeat walk_at "e")
local macro_rules | `(tactic| walk_at "w") => `(tactic| try dsimp only [wipeE, List.foldl_cons, List.foldl_nil, List.set_cons_succ, List.set_cons_zero])
local macro_rules | `(tactic| walk_at "le") => `(tactic| repeat' first | exact LeE.nil | (refine LeE.eq rfl ?_) | (refine LeE.emp ?_) | (refine LeE.eq ?_ ?_))
local macro_rules | `(tactic| walk_at "no") => `(tactic| ((refine And.intro (fun hb => absurd hb ?_) (fun _ => ?_)); (focus (first | (exact Bool.false_ne_true) | (simp; done) | (simp; omega) | (simp only [decide_eq_true_eq]; omega)))))
local macro_rules | `(tactic| walk_at "yes") => `(tactic| ((refine And.intro (fun _ => ?_) (fun hb => absurd hb ?_)); (rotate_left); (focus (first | (exact Bool.noConfusion) | (simp; done) | (simp; omega) | (simp only [decide_eq_false_iff_not]; omega)))))
/-! between, by corners -/
theorem rng_map (lo : Int) (n : Nat) (a : Int) : rngI (a + lo) n = (rngI lo n).map (a + ·) := by
  unfold rngI
  rw [List.map_map]
  refine List.map_congr_left fun k _ => ?_
  simp only [Function.comp]
  omega
def rowD (a b : Int) (p : Int × Int × Int) : D := .tuple [.int p.1, .tuple [.int (a + p.2.1), .int (b + p.2.2)]]
def T_side (K : PySem.W.Frag) : TS :=
    (tDrop (tBM K "list" rExtR (tVar 11) (tCons (tLc (iList K (tLst (tCons (tOp (rI0 fun i j => .int (i - j)) (tOp (rI CMul fun i j => .int (i * j)) (tC (.int 2)) (tVar 10)) (tC (.int 1))) (tCons (tOp (rPlus K) (tOp (rI CMul fun i j => .int (i * j)) (tC (.int 2)) (tVar 10)) (tC (.int 1))) tNil)))) (gName 13) tYes (tOp (rI0 fun i j => .int (i - j)) (tOp (rI CMul fun i j => .int (i * j)) (tOp (rI0 fun i j => .int (i - j)) (tVar 12) (tOp (rI CMul fun i j => .int (i * j)) (tC (.int 2)) (tOp (rIxA K) (tVar 0) (tC (.int 0))))) (tVar 8)) (tOp (rI CMul fun i j => .int (i * j)) (tOp (rI0 fun i j => .int (i - j)) (tVar 13) (tOp (rI CMul fun i j => .int (i * j)) (tC (.int 2)) (tOp (rIxA K) (tVar 0) (tC (.int 1))))) (tVar 7))) [13]) tNil)))
theorem sx_side {K : PySem.W.Frag} {P : Po} {a b c d dx dy α x y : Int} {L : List D} {s2 s3 s4 s5 s6 : Slot} (hb : 0 ≤ b ∧ b ≤ 8) (ha : 0 ≤ a ∧ a ≤ 8) (hα : -100 ≤ α ∧ α ≤ 100) (hy : -100 ≤ y ∧ y ≤ 100) (hdx : -8 ≤ dx ∧ dx ≤ 8) (hdy : -8 ≤ dy ∧ dy ≤ 8) (hL : L.length ≤ 100)
    (q : NX P [.val (.tuple [.int a, .int b]), .val (.tuple [.int c, .int d]), s2, s3, s4, s5, s6, .val (.int dx), .val (.int dy), .val (.int x), .val (.int y), .own (L ++ [.int ((α - 2 * a) * dy - (2 * y - 1 - 2 * b) * dx), .int ((α - 2 * a) * dy - (2 * y + 1 - 2 * b) * dx)]), .val (.int α), .emp, .emp, .emp]) :
    SX (T_side K) [.val (.tuple [.int a, .int b]), .val (.tuple [.int c, .int d]), s2, s3, s4, s5, s6, .val (.int dx), .val (.int dy), .val (.int x), .val (.int y), .own L, .val (.int α), .emp, .emp, .emp] P := by
  unfold T_side
  refine sx_ext rfl ?_
  refine ex_of (eo_lcP (α := Int) (fun _ => true) (fun β => .int ((α - 2 * a) * dy - (β - 2 * b) * dx)) (ei_list ?_))
  walk_at "es"
  refine ⟨[2 * y - 1, 2 * y + 1], PyData.int, rfl, by simp, fun i hi => by simp at hi; subst hi; rfl, fun β hβ => sg_name (by simp) ⟨rfl, ?_⟩, ?_⟩
  · have hβ2 : -300 ≤ β ∧ β ≤ 300 := by
      simp only [List.mem_cons, List.not_mem_nil, or_false] at hβ
      omega
    walk_at "w"
    walk_at "es"
    refine ⟨rfl, rfl, fun _ => ?_⟩
    walk_at "es"
    exact ⟨rfl, rfl⟩
  · exact ⟨L, _, rfl, rfl, by simp; omega, q⟩
theorem rngI_succ (lo : Int) (n : Nat) : rngI lo (n + 1) = rngI lo n ++ [lo + (n : Int)] := by unfold rngI; rw [List.range_succ, List.map_append]; rfl
theorem rowS_succ (dx dy x : Int) (n : Nat) : rowS dx dy x (n + 1) = rowS dx dy x n ++ if hitF dx dy x (min 0 dy + (n : Int)) = true then [farF (x, min 0 dy + (n : Int))] else [] := by
  unfold rowS
  rw [rngI_succ, List.filter_append, List.map_append]
  by_cases h : hitF dx dy x (min 0 dy + (n : Int)) = true
  · rw [if_pos h, List.filter_cons_of_pos h]; rfl
  · rw [if_neg h, List.filter_cons_of_neg h]; rfl
theorem scanF_succ (dx dy : Int) (n : Nat) : scanF dx dy (n + 1) = scanF dx dy n ++ rowS dx dy (min 0 dx + (n : Int)) (dy.natAbs + 1) := by
  unfold scanF
  rw [rngI_succ, List.flatMap_append]
  simp
theorem rowS_len (dx dy x : Int) (n : Nat) : (rowS dx dy x n).length ≤ n := by
  unfold rowS
  rw [List.length_map]
  exact Nat.le_trans (List.length_filter_le _ _) (by rw [rngI_len]; exact Nat.le_refl _)
theorem scanF_len (dx dy : Int) (hdy : dy.natAbs ≤ 8) : ∀ n, (scanF dx dy n).length ≤ 9 * n
  | 0 => by simp [scanF, rngI]
  | n + 1 => by
    rw [scanF_succ, List.length_append]
    have h1 := scanF_len dx dy hdy n
    have h2 := rowS_len dx dy (min 0 dx + (n : Int)) (dy.natAbs + 1)
    omega
theorem rowD_lt (a b : Int) (u v : Int × Int × Int) : PySem.W.dataLt (rowD a b u) (rowD a b v) = lt3 u v := by
  unfold rowD
  rw [PySem.W.dataLt_pair rfl rfl, PySem.W.dataLt_pair rfl rfl]
  unfold lt3
  have e1 : ∀ x y z : Int, PyData.eqv (.int (x + y)) (.int (x + z)) = decide (y = z) := fun x y z => by
    simp only [PyData.eqv]
    by_cases h : y = z
    · simp [h]
    · have : ¬ x + y = x + z := by omega
      simp [h, this]
  have e2 : ∀ x y z : Int, PySem.W.dataLt (.int (x + y)) (.int (x + z)) = decide (y < z) := fun x y z => by
    rw [PySem.W.dataLt_int]
    by_cases h : y < z
    · rw [decide_eq_true h, decide_eq_true (by omega)]
    · rw [decide_eq_false h, decide_eq_false (by omega)]
  have e3 : ∀ x y : Int, PyData.eqv (.int x) (.int y) = decide (x = y) := fun x y => by
    simp only [PyData.eqv]
    by_cases h : x = y <;> simp [h]
  have e4 : PyData.eqv (.tuple [.int (a + u.2.1), .int (b + u.2.2)]) (.tuple [.int (a + v.2.1), .int (b + v.2.2)]) = (decide (u.2.1 = v.2.1) && decide (u.2.2 = v.2.2)) := by
    show PyData.eqvAll _ _ = _
    simp only [PyData.eqvAll, e1, Bool.and_true]
  rw [e4, e3, e1, e1, e2, e2, PySem.W.dataLt_int]
  by_cases h1 : u.1 = v.1 <;> by_cases h2 : u.2.1 = v.2.1 <;> by_cases h3 : u.2.2 = v.2.2 <;> simp [h1, h2, h3]
theorem lt3_ntr (u v w : Int × Int × Int) (h1 : lt3 v u = false) (h2 : lt3 w v = false) : lt3 w u = false := by
  simp only [lt3, Bool.or_eq_false_iff, Bool.and_eq_false_iff, decide_eq_false_iff_not] at *
  omega
theorem lt3_as (u v : Int × Int × Int) (h1 : lt3 u v = true) : lt3 v u = false := by
  simp only [lt3, Bool.or_eq_true, Bool.and_eq_true, decide_eq_true_eq, Bool.or_eq_false_iff, Bool.and_eq_false_iff, decide_eq_false_iff_not] at *
  omega
theorem lt3_tot (u v : Int × Int × Int) (h1 : lt3 u v = false) (h2 : lt3 v u = false) : u = v := by
  obtain ⟨u1, u2, u3⟩ := u
  obtain ⟨v1, v2, v3⟩ := v
  simp only [lt3, Bool.or_eq_false_iff, Bool.and_eq_false_iff, decide_eq_false_iff_not, Prod.mk.injEq] at *
  omega
theorem apart_pw : ∀ {l : List (Int × Int × Int)}, apartB l = true → l.Pairwise fun a b => lt3 a b = true
  | [], _ => .nil
  | a :: l, h => by
    simp only [apartB, Bool.and_eq_true, List.all_eq_true] at h
    exact .cons h.1 (apart_pw h.2)
theorem sx_l_between (K : PySem.W.Frag) (ds : List D) (Z : D → Prop) (h : R_cells ds Z) : SX (T_l_between K) (startE N_l_between ds) { nx := fun _ => Z .none, rt := fun d _ => Z d } := by
  obtain ⟨a, b, c, d, rfl, ⟨⟨ha1, ha2⟩, ⟨hb1, hb2⟩, ⟨hc1, hc2⟩, hd1, hd2⟩, z⟩ := h
  unfold cellsD at z
  generalize hx : c - a = dx at z
  generalize hy : d - b = dy at z
  obtain ⟨-, -, q3, -, q5, -⟩ := ok_parts (ok_of (dx := dx) (dy := dy) (by omega) (by omega))
  show SX (T_l_between K) [.val (.tuple [.int a, .int b]), .val (.tuple [.int c, .int d]), .emp, .emp, .emp, .emp, .emp, .emp, .emp, .emp, .emp, .emp, .emp, .emp, .emp, .emp] _
  unfold T_l_between
  walk_at "es"
  refine sx_asgO (eo_lst ?_)
  walk_at "es"
  refine sx_asgT (J := [7, 8]) ?_
  walk_at "es"
  rw [hx, hy]
  refine sg_tup rfl (sgs_cons (sg_name (by simp) (sgs_cons (sg_name (by simp) (sgs_nil ?_)))))
  walk_at "w"
  walk_at "es"
  have e1 : min a c = a + min 0 dx := by omega
  have e2 : (max a c + 1 - (a + min 0 dx)).toNat = dx.natAbs + 1 := by omega
  have e3 : min b d = b + min 0 dy := by omega
  have e4 : (max b d + 1 - (b + min 0 dy)).toNat = dy.natAbs + 1 := by omega
  refine sx_for (J := [9]) (ei_rng2 ?_)
  walk_at "es"
  refine ⟨by omega, ?_⟩
  rw [e1, e2]
  refine ⟨fun k ρ' => ρ' = [.val (.tuple [.int a, .int b]), .val (.tuple [.int c, .int d]), .val (.int (a + min 0 dx)), .val (.int (max a c)), .val (.int (b + min 0 dy)), .val (.int (max b d)), .own ((scanF dx dy k).map (rowD a b)), .val (.int dx), .val (.int dy), .emp, .emp, .emp, .emp, .emp, .emp, .emp], ?_, ?_, ?_⟩
  · rw [e3]; rfl
  · rintro k dd ρ' hd0 rfl
    obtain ⟨hk, rfl⟩ := rng_at hd0
    refine sg_name (by simp) ?_
    walk_at "w"
    generalize hX : min 0 dx + (k : Int) = X
    have e5 : a + min 0 dx + (k : Int) = a + X := by omega
    rw [e5]
    refine sx_for (J := [10]) (ei_rng2 ?_)
    walk_at "es"
    refine ⟨by omega, ?_⟩
    rw [e4]
    refine ⟨fun j ρ' => ρ' = [.val (.tuple [.int a, .int b]), .val (.tuple [.int c, .int d]), .val (.int (a + min 0 dx)), .val (.int (max a c)), .val (.int (b + min 0 dy)), .val (.int (max b d)), .own ((scanF dx dy k ++ rowS dx dy X j).map (rowD a b)), .val (.int dx), .val (.int dy), .val (.int (a + X)), .emp, .emp, .emp, .emp, .emp, .emp], ?_, ?_, ?_⟩
    · simp [rowS, rngI]
    · rintro j dd ρ' hd1 rfl
      obtain ⟨hj, rfl⟩ := rng_at hd1
      refine sg_name (by simp) ?_
      walk_at "w"
      rw [rowS_succ, ← List.append_assoc]
      generalize hY : min 0 dy + (j : Int) = Y
      have e6 : b + min 0 dy + (j : Int) = b + Y := by omega
      rw [e6]
      have hlen : (scanF dx dy k ++ rowS dx dy X j).length ≤ 10000 := by
        rw [List.length_append]
        have h1 := scanF_len dx dy (by omega) k
        have h2 := rowS_len dx dy X j
        omega
      generalize scanF dx dy k ++ rowS dx dy X j = F at hlen ⊢
      walk_at "es"
      refine sx_asgO (eo_lst ?_)
      walk_at "es"
      refine sx_for (J := [12]) (ei_list ?_)
      walk_at "es"
      have hS : [(2 * (a + X) - 1 - 2 * a) * dy - (2 * (b + Y) - 1 - 2 * b) * dx, (2 * (a + X) - 1 - 2 * a) * dy - (2 * (b + Y) + 1 - 2 * b) * dx, (2 * (a + X) + 1 - 2 * a) * dy - (2 * (b + Y) - 1 - 2 * b) * dx, (2 * (a + X) + 1 - 2 * a) * dy - (2 * (b + Y) + 1 - 2 * b) * dx] = sidesF dx dy X Y := by
        have g1 : 2 * (a + X) - 1 - 2 * a = 2 * X - 1 := by omega
        have g2 : 2 * (a + X) + 1 - 2 * a = 2 * X + 1 := by omega
        have g3 : 2 * (b + Y) - 1 - 2 * b = 2 * Y - 1 := by omega
        have g4 : 2 * (b + Y) + 1 - 2 * b = 2 * Y + 1 := by omega
        rw [g1, g2, g3, g4]
        rfl
      refine ⟨fun i ρ' => ρ' = [.val (.tuple [.int a, .int b]), .val (.tuple [.int c, .int d]), .val (.int (a + min 0 dx)), .val (.int (max a c)), .val (.int (b + min 0 dy)), .val (.int (max b d)), .own (F.map (rowD a b)), .val (.int dx), .val (.int dy), .val (.int (a + X)), .val (.int (b + Y)), .own (((sidesF dx dy X Y).map .int).take (2 * i)), .emp, .emp, .emp, .emp], rfl, ?_, ?_⟩
      · rw [← hS]
        rintro i dd ρ' hi rfl
        rcases i with _ | _ | i
        · cases hi
          refine sg_name (by simp) ?_
          walk_at "w"
          refine sx_side ⟨hb1, hb2⟩ ⟨ha1, ha2⟩ (by omega) (by omega) (by omega) (by omega) (by simp) ?_
          refine ⟨_, ?_, rfl⟩
          walk_at "le"
        · cases hi
          refine sg_name (by simp) ?_
          walk_at "w"
          refine sx_side ⟨hb1, hb2⟩ ⟨ha1, ha2⟩ (by omega) (by omega) (by omega) (by omega) (by simp) ?_
          refine ⟨_, ?_, rfl⟩
          walk_at "le"
        · cases hi
      · rintro ρ' rfl
        have e7 : (((sidesF dx dy X Y).map PyData.int).take (2 * [PyData.int (2 * (a + X) - 1), PyData.int (2 * (a + X) + 1)].length)) = (sidesF dx dy X Y).map .int := rfl
        rw [e7]
        have hpos : 0 < (sidesF dx dy X Y).length := by simp [sidesF]
        have e8 : (a + X - a).natAbs = X.natAbs := by omega
        have e9 : (b + Y - b).natAbs = Y.natAbs := by omega
        unfold hitF
        generalize sidesF dx dy X Y = S at hpos ⊢
        refine nx_seq (sx_freeze 11 rfl ?_)
        walk_at "w"
        walk_at "es"
        refine cbd_minI hpos ?_
        walk_at "es"
        refine ⟨fun hb => ?_, fun hb => ?_⟩
        · walk_at "es"
          refine cbd_maxI hpos ?_
          walk_at "es"
          refine ⟨fun hc => ?_, fun hc => ?_⟩
          · rw [hb, hc]
            refine sx_app rfl ?_
            walk_at "es"
            rw [e8, e9]
            refine ⟨by rw [List.length_map]; omega, ?_⟩
            refine ⟨_, ?_, rfl⟩
            walk_at "le"
            rw [if_pos (show (true && true) = true from rfl), List.map_append]
            rfl
          · rw [hb, hc]
            walk_at "es"
            refine ⟨_, ?_, rfl⟩
            walk_at "le"
            rw [if_neg (by decide), List.append_nil]
        · rw [hb]
          walk_at "es"
          try walk_at "no"
          walk_at "es"
          refine ⟨_, ?_, rfl⟩
          walk_at "le"
          rw [Bool.false_and, if_neg (by decide), List.append_nil]
    · rintro ρ' rfl
      rw [rng_size]
      refine ⟨_, ?_, rfl⟩
      rw [scanF_succ, hX]
      walk_at "le"
  · rintro ρ' rfl
    rw [rng_size]
    have hfin : (scanF dx dy (dx.natAbs + 1)).length ≤ 100 := Nat.le_trans (scanF_len dx dy (by omega) _) (by omega)
    have alike : PySem.W.AllAlike ((scanF dx dy (dx.natAbs + 1)).map (rowD a b)) := fun x hx y hy => by
      obtain ⟨u, _, rfl⟩ := List.mem_map.mp hx
      obtain ⟨v, _, rfl⟩ := List.mem_map.mp hy
      rfl
    have sortable : PySem.W.Sortable ((scanF dx dy (dx.natAbs + 1)).map (rowD a b)) := .inl fun x hx => by
      obtain ⟨u, _, rfl⟩ := List.mem_map.mp hx
      exact ⟨_, _, rfl⟩
    have deep : PyData.depthAll ((scanF dx dy (dx.natAbs + 1)).map (rowD a b)) ≤ 60 := depthAll_le (dpn_map fun x _ => dpn_tup (dpn_cons dpn_int (dpn_cons (dpn_tup (dpn_cons dpn_int (dpn_cons dpn_int dpn_nil))) dpn_nil)))
    have eqv : PyData.eqv (.tuple [.int a, .int b]) (.tuple [.int c, .int d]) = decide (dx = 0 ∧ dy = 0) := by
      show PyData.eqvAll _ _ = _
      simp only [PyData.eqvAll, PyData.eqv, Bool.and_true]
      have g1 : (a == c) = decide (dx = 0) := by
        by_cases h : a = c
        · rw [beq_iff_eq.mpr h, decide_eq_true (by omega)]
        · rw [beq_eq_false_iff_ne.mpr h, decide_eq_false (by omega)]
      have g2 : (b == d) = decide (dy = 0) := by
        by_cases h : b = d
        · rw [beq_iff_eq.mpr h, decide_eq_true (by omega)]
        · rw [beq_eq_false_iff_ne.mpr h, decide_eq_false (by omega)]
      rw [g1, g2, Bool.decide_and]
    generalize scanF dx dy (dx.natAbs + 1) = S at *
    refine nx_seq (sx_freeze 6 rfl ?_)
    walk_at "w"
    walk_at "es"
    refine opd_neP (min_l (by simp [PyData.depth, PyData.depthAll])) ?_
    rw [eqv]
    walk_at "es"
    refine ⟨fun hb => ?_, fun hb => ?_⟩
    · have hb : ¬ (dx = 0 ∧ dy = 0) := by simp at hb; omega
      rw [if_neg hb] at q5
      have srt := sortD_of (rowD_lt a b) lt3_ntr lt3_as lt3_tot (List.isPerm_iff.mp q5.2) (apart_pw q5.1)
      refine ex_of (eo_lcP (α := Int × Int × Int) (fun _ => true) (fun p => .tuple [.int (a + p.2.1), .int (b + p.2.2)]) (ei_list ?_))
      walk_at "es"
      refine cbd_sortD alike sortable deep ?_
      rw [srt]
      walk_at "es"
      refine ⟨by rw [List.length_map]; simp [relF]; omega, fun i hi => by simp at hi; rcases hi with rfl | rfl <;> rfl, fun p hp => ?_, ?_⟩
      · refine sg_tup rfl (sgs_cons (sg_name (by simp) (sgs_cons (sg_name (by simp) (sgs_nil ⟨rfl, ?_⟩)))))
        walk_at "w"
        walk_at "es"
        refine ⟨rfl, rfl, fun _ => ?_⟩
        walk_at "es"
        exact ⟨rfl, rfl⟩
      · rw [List.filter_eq_self.mpr (fun _ _ => rfl), List.map_map]
        exact z
    · have hb : dx = 0 ∧ dy = 0 := by simpa using hb
      rw [if_pos hb] at q5
      rw [q5] at z
      walk_at "es"
      simp only [shD, List.map_cons, List.map_nil, Int.add_zero] at z
      exact z
end Law_k73
namespace Law_k73
open PySem L2 Pu
local macro_rules | `(tactic| walk_at "e") => `(tactic| first
  | ((with_reducible refine nx_seq ?_); (try dsimp only [List.set_cons_succ, List.set_cons_zero]))
  | ((with_reducible refine ex_vr ?_); dsimp only [VQ, List.set_cons_succ, List.set_cons_zero, List.getElem?_cons_zero, List.getElem?_cons_succ]; (fail_if_success (with_reducible show False)))
  | (with_reducible refine sx_seq ?_)
  | (with_reducible refine sx_if ?_)
  | (with_reducible refine sx_next ?_)
  | (with_reducible refine sx_ret ?_)
  | ((fail_if_success (with_reducible refine sx_asgO (eo_lst ?_))); (with_reducible refine sx_asg ?_))
  | (with_reducible refine ex_int ?_)
  | (with_reducible refine ex_str ?_)
  | (with_reducible refine ex_bl ?_)
  | (with_reducible refine ex_non ?_)
  | (with_reducible refine ex_op ?_)
  | (with_reducible refine ex_un ?_)
  | (with_reducible refine ex_chain ?_)
  | (with_reducible refine ex_call ?_)
  | (with_reducible refine ex_isT ?_)
  | (with_reducible refine ex_cb ?_)
  | (with_reducible refine ex_sl ?_)
  | (with_reducible refine ex_tup ?_)
  | (with_reducible refine ex_if ?_)
  | (with_reducible refine ex_of (eo_lst ?_))
  | (with_reducible refine ex_notV ?_)
  | (with_reducible refine ea_nil ?_)
  | (with_reducible refine ea_cons ?_)
  | (with_reducible refine ep_no ?_)
  | (with_reducible refine ep_some ?_)
  | (with_reducible refine et_test ?_)
  | (with_reducible refine et_B ?_)
  | (with_reducible refine et_and ?_)
  | (with_reducible refine et_or ?_)
  | (with_reducible refine et_not ?_)
  | (with_reducible refine et_yes ?_)
  | (with_reducible refine opd_plusI ?_)
  | (with_reducible refine opd_I0 ?_)
  | (with_reducible refine opd_B0 ?_)
  | (with_reducible refine opd_eqI ?_)
  | (with_reducible refine opd_neI ?_)
  | (with_reducible refine opd_eqS ?_)
  | (with_reducible refine opd_neS ?_)
  | (with_reducible refine opd_is ?_)
  | (with_reducible refine opd_isnt ?_)
  | (with_reducible refine opd_ixT rfl ?_)
  | (with_reducible refine opd_ixL rfl ?_)
  | (with_reducible refine und_neg ?_)
  | (with_reducible refine cbd_lenL ?_)
  | (with_reducible refine cbd_lenT ?_)
  | (with_reducible refine cbd_min2 ?_)
  | (with_reducible refine cbd_max2 ?_)
  | (with_reducible refine cbd_abs ?_)
  | (with_reducible refine cbd_int ?_)
  | (with_reducible refine cbd_tupL ?_)
  | (with_reducible refine cbd_listL ?_)
  | (with_reducible refine cbd_listT ?_)
  | (with_reducible refine cbd_sum ?_)
  | (with_reducible refine sld_T ?_)
  | (with_reducible refine sld_L ?_)
  | (with_reducible refine ex_revL ?_)
  | (with_reducible refine ex_bmL ?_)
  | (with_reducible refine ex_andV ?_)
  | (with_reducible refine ei_list ?_)
  | (with_reducible refine ei_rng1 ?_)
  | (with_reducible refine ei_rng2 ?_)
  | (with_reducible refine sx_par ?_)
  | (with_reducible refine Exists.intro _ (And.intro rfl ?_))
  | (with_reducible refine Exists.intro _ (Exists.intro _ (And.intro rfl ?_)))
  | ((with_reducible show EX (tCall (spS _) [] _ (tCons (tVar _) _)) _ _); refine ex_callS rfl ?_)
  | ((with_reducible refine And.intro (show (_ : Nat) ≤ 100000 from ?_) ?_); (focus (simp; done)))
  | ((with_reducible refine opd_I ?_ ?_); focus (first | omega | (show CDiv _ _; exact ⟨by omega, by omega⟩) | (show CMul _ _; first | exact Or.inl ⟨by omega, by omega⟩ | exact Or.inr ⟨by omega, by omega⟩))))
local macro_rules | `(tactic| walk_at "es") => `(tactic| repeat walk_at "e")
local macro_rules | `(tactic| walk_at "w") => `(tactic| try dsimp only [wipeE, List.foldl_cons, List.foldl_nil, List.set_cons_succ, List.set_cons_zero])
local macro_rules | `(tactic| walk_at "le") => `(tactic| repeat' first | exact LeE.nil | (refine LeE.eq rfl ?_) | (refine LeE.emp ?_) | (refine LeE.eq ?_ ?_))
local macro_rules | `(tactic| walk_at "no") => `(tactic| ((refine And.intro (fun hb => absurd hb ?_) (fun _ => ?_)); (focus (first | (exact Bool.false_ne_true) | (simp; done) | (simp; omega) | (simp only [decide_eq_true_eq]; omega)))))
local macro_rules | `(tactic| walk_at "yes") => `(tactic| ((refine And.intro (fun _ => ?_) (fun hb => absurd hb ?_)); (rotate_left); (focus (first | (exact Bool.noConfusion) | (simp; done) | (simp; omega) | (simp only [decide_eq_false_iff_not]; omega)))))
theorem fsum (l : List Int) : l.map PyData.int = (l.map fun x => x).map PyData.int := by rw [List.map_id']
def R_dim : List D → (D → Prop) → Prop := fun ds Z => ∃ (cl : List Cl) (wx wy tick a b c d : Int), ds = [.list (cl.map encC), .tuple [.int wx, .int wy], .int tick, .tuple [.int a, .int b], .tuple [.int c, .int d]] ∧ Good cl ∧ (-2 ≤ wx ∧ wx ≤ 2) ∧ (-2 ≤ wy ∧ wy ≤ 2) ∧ (0 ≤ tick ∧ tick ≤ 20) ∧ In8 a b c d ∧ Z (.int (dimF cl wx wy tick a b c d))
theorem rel_len {a b c d : Int} (h : In8 a b c d) : (relF (c - a) (d - b)).length < 1000000 := by
  obtain ⟨⟨ha1, ha2⟩, ⟨hb1, hb2⟩, ⟨hc1, hc2⟩, hd1, hd2⟩ := h
  obtain ⟨-, -, q3, -⟩ := ok_parts (ok_of (dx := c - a) (dy := d - b) (by omega) (by omega))
  unfold relF
  rw [List.length_map, List.length_range]
  omega
theorem sx_dimmed (K : PySem.W.Frag) (ds : List D) (Z : D → Prop) (h : R_dim ds Z) : SX (T_dimmed K R_thick R_cells) (startE N_dimmed ds) { nx := fun _ => Z .none, rt := fun d _ => Z d } := by
  obtain ⟨cl, wx, wy, tick, a, b, c, d, rfl, good, hwx, hwy, ht, hin, z⟩ := h
  show SX (T_dimmed K R_thick R_cells) [.val (.list (cl.map encC)), .val (.tuple [.int wx, .int wy]), .val (.int tick), .val (.tuple [.int a, .int b]), .val (.tuple [.int c, .int d]), .emp] _
  unfold T_dimmed
  walk_at "es"
  refine ex_of (eo_lcP (α := Int × Int) (fun _ => true) (fun p => .int (thickF cl wx wy tick (a + p.1) (b + p.2))) (ei_list ?_))
  walk_at "es"
  refine ⟨a, b, c, d, rfl, hin, ?_⟩
  unfold cellsD
  walk_at "es"
  refine ⟨rel_len hin, fun i hi => by simp at hi; subst hi; rfl, fun p hp => sg_name (by simp) ⟨rfl, ?_⟩, ?_⟩
  · walk_at "w"
    walk_at "es"
    refine ⟨rfl, rfl, fun _ => ?_⟩
    walk_at "es"
    exact ⟨cl, wx, wy, tick, a + p.1, b + p.2, rfl, good, hwx, hwy, ht, rfl, rfl⟩
  · rw [List.filter_eq_self.mpr (fun _ _ => rfl)]
    have e : (relF (c - a) (d - b)).map (fun p => PyData.int (thickF cl wx wy tick (a + p.1) (b + p.2))) = ((relF (c - a) (d - b)).map fun p => thickF cl wx wy tick (a + p.1) (b + p.2)).map .int := by rw [List.map_map]; rfl
    rw [e]
    walk_at "es"
    exact z
theorem sx_l_dim (K : PySem.W.Frag) (ds : List D) (Z : D → Prop) (h : R_dim ds Z) : SX (T_l_dim K R_thick R_cells) (startE N_l_dim ds) { nx := fun _ => Z .none, rt := fun d _ => Z d } := by
  obtain ⟨cl, wx, wy, tick, a, b, c, d, rfl, good, hwx, hwy, ht, hin, z⟩ := h
  show SX (T_l_dim K R_thick R_cells) [.val (.list (cl.map encC)), .val (.tuple [.int wx, .int wy]), .val (.int tick), .val (.tuple [.int a, .int b]), .val (.tuple [.int c, .int d]), .emp] _
  unfold T_l_dim
  walk_at "es"
  refine ex_of (eo_lcP (α := Int × Int) (fun _ => true) (fun p => .int (thickF cl wx wy tick (a + p.1) (b + p.2))) (ei_list ?_))
  walk_at "es"
  refine ⟨a, b, c, d, rfl, hin, ?_⟩
  unfold cellsD
  walk_at "es"
  refine ⟨rel_len hin, fun i hi => by simp at hi; subst hi; rfl, fun p hp => sg_name (by simp) ⟨rfl, ?_⟩, ?_⟩
  · walk_at "w"
    walk_at "es"
    refine ⟨rfl, rfl, fun _ => ?_⟩
    walk_at "es"
    exact ⟨cl, wx, wy, tick, a + p.1, b + p.2, rfl, good, hwx, hwy, ht, rfl, rfl⟩
  · rw [List.filter_eq_self.mpr (fun _ _ => rfl)]
    have e : (relF (c - a) (d - b)).map (fun p => PyData.int (thickF cl wx wy tick (a + p.1) (b + p.2))) = ((relF (c - a) (d - b)).map fun p => thickF cl wx wy tick (a + p.1) (b + p.2)).map .int := by rw [List.map_map]; rfl
    rw [e]
    walk_at "es"
    exact z
def R_sees : List D → (D → Prop) → Prop := fun ds Z => ∃ (cl : List Cl) (wx wy tick a b c d most : Int), ds = [.list (cl.map encC), .tuple [.int wx, .int wy], .int tick, .tuple [.int a, .int b], .tuple [.int c, .int d], .int most] ∧ Good cl ∧ (-2 ≤ wx ∧ wx ≤ 2) ∧ (-2 ≤ wy ∧ wy ≤ 2) ∧ (0 ≤ tick ∧ tick ≤ 20) ∧ In8 a b c d ∧ Z (.bool (decide (dimF cl wx wy tick a b c d ≤ most)))
theorem sx_sees (K : PySem.W.Frag) (ds : List D) (Z : D → Prop) (h : R_sees ds Z) : SX (T_sees K R_dim) (startE N_sees ds) { nx := fun _ => Z .none, rt := fun d _ => Z d } := by
  obtain ⟨cl, wx, wy, tick, a, b, c, d, most, rfl, good, hwx, hwy, ht, hin, z⟩ := h
  show SX (T_sees K R_dim) [.val (.list (cl.map encC)), .val (.tuple [.int wx, .int wy]), .val (.int tick), .val (.tuple [.int a, .int b]), .val (.tuple [.int c, .int d]), .val (.int most)] _
  unfold T_sees
  walk_at "es"
  refine ⟨cl, wx, wy, tick, a, b, c, d, rfl, good, hwx, hwy, ht, hin, ?_⟩
  walk_at "es"
  exact z
def firstF (f : Int → Bool) : Option Int := (rngI 2 11).find? f
def optI : Option Int → D
  | none => .none
  | some i => .int i
def R_first : List D → (D → Prop) → Prop := fun ds Z => ∃ (cl : List Cl) (wx wy a b c d most : Int), ds = [.list (cl.map encC), .tuple [.int wx, .int wy], .tuple [.int 2, .int 12], .tuple [.int a, .int b], .tuple [.int c, .int d], .int most] ∧ Good cl ∧ (-2 ≤ wx ∧ wx ≤ 2) ∧ (-2 ≤ wy ∧ wy ≤ 2) ∧ In8 a b c d ∧ Z (optI (firstF fun t => decide (dimF cl wx wy t a b c d ≤ most)))
theorem find_snoc {α : Type} (f : α → Bool) : ∀ (l : List α) (x : α), (∀ y ∈ l, f y = false) → (l ++ [x]).find? f = if f x = true then some x else none
  | [], x, _ => by cases h : f x <;> simp [h]
  | y :: l, x, h => by
    rw [List.cons_append, List.find?_cons_of_neg (by rw [h y (by simp)]; decide)]
    exact find_snoc f l x fun z hz => h z (by simp [hz])
theorem find_first {α : Type} {f : α → Bool} {l : List α} {k : Nat} {x : α} (hx : l[k]? = some x) (fx : f x = true) (h : ∀ y ∈ l.take k, f y = false) : l.find? f = some x := by
  have e : l = l.take k ++ x :: l.drop (k + 1) := by
    obtain ⟨hk, rfl⟩ := List.getElem?_eq_some_iff.mp hx
    rw [← List.drop_eq_getElem_cons hk, List.take_append_drop]
  rw [e, List.find?_append]
  have : (l.take k).find? f = none := List.find?_eq_none.mpr fun y hy => by rw [h y hy]; decide
  rw [this, Option.none_or, List.find?_cons_of_pos fx]
theorem sx_first_sight (K : PySem.W.Frag) (ds : List D) (Z : D → Prop) (h : R_first ds Z) : SX (T_first_sight K R_sees) (startE N_first_sight ds) { nx := fun _ => Z .none, rt := fun d _ => Z d } := by
  obtain ⟨cl, wx, wy, a, b, c, d, most, rfl, good, hwx, hwy, hin, z⟩ := h
  show SX (T_first_sight K R_sees) [.val (.list (cl.map encC)), .val (.tuple [.int wx, .int wy]), .val (.tuple [.int 2, .int 12]), .val (.tuple [.int a, .int b]), .val (.tuple [.int c, .int d]), .val (.int most), .emp] _
  unfold T_first_sight
  walk_at "es"
  refine sx_for (J := [6]) (ei_rng2 ?_)
  walk_at "es"
  refine ⟨by omega, fun k ρ' => (∀ t ∈ (rngI 2 11).take k, decide (dimF cl wx wy t a b c d ≤ most) = false) ∧ ρ' = [.val (.list (cl.map encC)), .val (.tuple [.int wx, .int wy]), .val (.tuple [.int 2, .int 12]), .val (.tuple [.int a, .int b]), .val (.tuple [.int c, .int d]), .val (.int most), .emp], ⟨(fun t ht => by cases ht), rfl⟩, ?_, ?_⟩
  · rintro k dd ρ' hd0 ⟨hno, rfl⟩
    obtain ⟨hk, rfl⟩ := rng_at hd0
    refine sg_name (by simp) ?_
    walk_at "w"
    walk_at "es"
    have hk11 : k < 11 := hk
    have hat : (rngI 2 11)[k]? = some (2 + (k : Int)) := rngI_get hk11
    refine ⟨cl, wx, wy, 2 + (k : Int), a, b, c, d, most, rfl, good, hwx, hwy, by omega, hin, ?_⟩
    walk_at "es"
    refine ⟨fun hb => ?_, fun hb => ?_⟩
    · walk_at "es"
      unfold firstF at z
      rw [find_first (f := fun t => decide (dimF cl wx wy t a b c d ≤ most)) hat hb hno] at z
      exact z
    · walk_at "es"
      refine ⟨_, ?_, ?_, rfl⟩
      · walk_at "le"
      · intro t ht
        rw [take_snoc hat] at ht
        rcases List.mem_append.mp ht with ht | ht
        · exact hno t ht
        · rw [List.mem_singleton.mp ht]; exact hb
  · rintro ρ' ⟨hno, rfl⟩
    rw [rng_size] at hno
    walk_at "es"
    have e : firstF (fun t => decide (dimF cl wx wy t a b c d ≤ most)) = none := List.find?_eq_none.mpr fun t ht => by
      rw [hno t (by rw [List.take_of_length_le (by decide)]; exact ht)]; decide
    rw [e] at z
    exact z
end Law_k73
namespace Law_k73
open PySem L2 Pu
local macro_rules | `(tactic| walk_at "e") => `(tactic| first
  | ((with_reducible refine nx_seq ?_); (try dsimp only [List.set_cons_succ, List.set_cons_zero]))
  | ((with_reducible refine ex_vr ?_); dsimp only [VQ, List.set_cons_succ, List.set_cons_zero, List.getElem?_cons_zero, List.getElem?_cons_succ]; (fail_if_success (with_reducible show False)))
  | (with_reducible refine sx_seq ?_)
  | (with_reducible refine sx_if ?_)
  | (with_reducible refine sx_next ?_)
  | (with_reducible refine sx_ret ?_)
  | ((fail_if_success (with_reducible refine sx_asgO (eo_lst ?_))); (with_reducible refine sx_asg ?_))
  | (with_reducible refine ex_int ?_)
  | (with_reducible refine ex_str ?_)
  | (with_reducible refine ex_bl ?_)
  | (with_reducible refine ex_non ?_)
  | (with_reducible refine ex_op ?_)
  | (with_reducible refine ex_un ?_)
  | (with_reducible refine ex_chain ?_)
  | (with_reducible refine ex_call ?_)
  | (with_reducible refine ex_isT ?_)
  | (with_reducible refine ex_cb ?_)
  | (with_reducible refine ex_sl ?_)
  | (with_reducible refine ex_tup ?_)
  | (with_reducible refine ex_if ?_)
  | (with_reducible refine ex_of (eo_lst ?_))
  | (with_reducible refine ex_notV ?_)
  | (with_reducible refine ea_nil ?_)
  | (with_reducible refine ea_cons ?_)
  | (with_reducible refine ep_no ?_)
  | (with_reducible refine ep_some ?_)
  | (with_reducible refine et_test ?_)
  | (with_reducible refine et_B ?_)
  | (with_reducible refine et_and ?_)
  | (with_reducible refine et_or ?_)
  | (with_reducible refine et_not ?_)
  | (with_reducible refine et_yes ?_)
  | (with_reducible refine opd_plusI ?_)
  | (with_reducible refine opd_I0 ?_)
  | (with_reducible refine opd_B0 ?_)
  | (with_reducible refine opd_eqI ?_)
  | (with_reducible refine opd_neI ?_)
  | (with_reducible refine opd_eqS ?_)
  | (with_reducible refine opd_neS ?_)
  | (with_reducible refine opd_is ?_)
  | (with_reducible refine opd_isnt ?_)
  | (with_reducible refine opd_ixT rfl ?_)
  | (with_reducible refine opd_ixL rfl ?_)
  | (with_reducible refine und_neg ?_)
  | (with_reducible refine cbd_lenL ?_)
  | (with_reducible refine cbd_lenT ?_)
  | (with_reducible refine cbd_min2 ?_)
  | (with_reducible refine cbd_max2 ?_)
  | (with_reducible refine cbd_abs ?_)
  | (with_reducible refine cbd_int ?_)
  | (with_reducible refine cbd_tupL ?_)
  | (with_reducible refine cbd_listL ?_)
  | (with_reducible refine cbd_listT ?_)
  | (with_reducible refine cbd_sum ?_)
  | (with_reducible refine sld_T ?_)
  | (with_reducible refine sld_L ?_)
  | (with_reducible refine ex_revL ?_)
  | (with_reducible refine ex_bmL ?_)
  | (with_reducible refine ex_andV ?_)
  | (with_reducible refine ei_list ?_)
  | (with_reducible refine ei_rng1 ?_)
  | (with_reducible refine ei_rng2 ?_)
  | (with_reducible refine sx_par ?_)
  | (with_reducible refine Exists.intro _ (And.intro rfl ?_))
  | (with_reducible refine Exists.intro _ (Exists.intro _ (And.intro rfl ?_)))
  | ((with_reducible show EX (tCall (spS _) [] _ (tCons (tVar _) _)) _ _); refine ex_callS rfl ?_)
  | ((with_reducible refine And.intro (show (_ : Nat) ≤ 100000 from ?_) ?_); (focus (simp; done)))
  | ((with_reducible refine opd_I ?_ ?_); focus (first | omega | (show CDiv _ _; exact ⟨by omega, by omega⟩) | (show CMul _ _; first | exact Or.inl ⟨by omega, by omega⟩ | exact Or.inr ⟨by omega, by omega⟩))))
local macro_rules | `(tactic| walk_at "es") => `(tactic| repeat walk_at "e")
local macro_rules | `(tactic| walk_at "w") => `(tactic| try dsimp only [wipeE, List.foldl_cons, List.foldl_nil, List.set_cons_succ, List.set_cons_zero])
local macro_rules | `(tactic| walk_at "le") => `(tactic| repeat' first | exact LeE.nil | (refine LeE.eq rfl ?_) | (refine LeE.emp ?_) | (refine LeE.eq ?_ ?_))
local macro_rules | `(tactic| walk_at "no") => `(tactic| ((refine And.intro (fun hb => absurd hb ?_) (fun _ => ?_)); (focus (first | (exact Bool.false_ne_true) | (simp; done) | (simp; omega) | (simp only [decide_eq_true_eq]; omega)))))
local macro_rules | `(tactic| walk_at "yes") => `(tactic| ((refine And.intro (fun _ => ?_) (fun hb => absurd hb ?_)); (rotate_left); (focus (first | (exact Bool.noConfusion) | (simp; done) | (simp; omega) | (simp only [decide_eq_false_iff_not]; omega)))))
def gone (c : Cl) : Int := c.b + (c.s - 1) / c.t
def lasts (c : Cl) : Bool := decide (0 < c.s) && decide (c.t = 0)
def fades (c : Cl) : Bool := decide (0 < c.s) && decide (0 < c.t)
def vsF (cl : List Cl) : List Int := (cl.filter fades).map gone
def lastF (cl : List Cl) : Option Int := if cl.any lasts = true then none else some (foldMax (-1 :: vsF cl))
def R_latest : List D → (D → Prop) → Prop := fun ds Z => ∃ cl : List Cl, ds = [.list (cl.map encC)] ∧ Good cl ∧ Z (optI (lastF cl))
theorem vs_snoc (cl : List Cl) (c : Cl) : vsF (cl ++ [c]) = vsF cl ++ if fades c = true then [gone c] else [] := by
  unfold vsF
  rw [List.filter_append, List.map_append]
  by_cases h : fades c = true
  · rw [if_pos h, List.filter_cons_of_pos h]; rfl
  · rw [if_neg h, List.filter_cons_of_neg h]; rfl
theorem sx_latest_smoke (K : PySem.W.Frag) (ds : List D) (Z : D → Prop) (h : R_latest ds Z) : SX (T_latest_smoke K) (startE N_latest_smoke ds) { nx := fun _ => Z .none, rt := fun d _ => Z d } := by
  obtain ⟨cl, rfl, ⟨hl, hg⟩, z⟩ := h
  show SX (T_latest_smoke K) [.val (.list (cl.map encC)), .emp, .emp, .emp, .emp, .emp, .emp, .emp] _
  unfold T_latest_smoke
  walk_at "es"
  refine sx_for (J := [2, 3, 4, 5, 6, 7]) (ei_list ?_)
  walk_at "es"
  refine ⟨fun k ρ' => (∀ c ∈ cl.take k, lasts c = false) ∧ ρ' = [.val (.list (cl.map encC)), .val (.int (foldMax (-1 :: vsF (cl.take k)))), .emp, .emp, .emp, .emp, .emp, .emp], ⟨(fun c hc => by cases hc), rfl⟩, ?_, ?_⟩
  · rintro k dd ρ' hd0 ⟨hno, rfl⟩
    obtain ⟨c, hc, rfl⟩ := map_at hd0
    obtain ⟨⟨_, _⟩, ⟨_, _⟩, ⟨_, _⟩, ⟨_, _⟩, ⟨_, _⟩, _, _⟩ := hg c (List.mem_of_getElem? hc)
    have hs := vs_snoc (cl.take k) c
    rw [← take_snoc hc] at hs
    have hnext : lasts c = false → ∀ x ∈ cl.take (k + 1), lasts x = false := fun h x hx => by
      rw [take_snoc hc] at hx
      rcases List.mem_append.mp hx with hx | hx
      · exact hno x hx
      · rw [List.mem_singleton.mp hx]; exact h
    refine sg_tup rfl (sgs_cons (sg_name (by simp) (sgs_cons (sg_name (by simp) (sgs_cons (sg_name (by simp) (sgs_cons (sg_name (by simp) (sgs_cons (sg_name (by simp) (sgs_cons (sg_name (by simp) (sgs_nil ?_)))))))))))))
    walk_at "w"
    walk_at "es"
    refine ⟨fun hb => ?_, fun hb => ?_⟩
    · have hb := of_decide_eq_true hb
      walk_at "es"
      refine ⟨fun hb2 => ?_, fun hb2 => ?_⟩
      · have hb2 := of_decide_eq_true hb2
        walk_at "es"
        have e : lastF cl = none := by
          unfold lastF
          rw [if_pos (List.any_eq_true.mpr ⟨c, List.mem_of_getElem? hc, by simp [lasts, hb, hb2]⟩)]
        rw [e] at z
        exact z
      · have hb2 := of_decide_eq_false hb2
        walk_at "es"
        have hf : fades c = true := by simp only [fades, Bool.and_eq_true, decide_eq_true_eq]; omega
        rw [if_pos hf] at hs
        refine ⟨_, ?_, hnext (by simp [lasts, hb2]), rfl⟩
        rw [hs, ← List.cons_append, foldMax_snoc]
        walk_at "le"
    · have hb := of_decide_eq_false hb
      walk_at "es"
      have hf : ¬ fades c = true := by simp only [fades, Bool.and_eq_true, decide_eq_true_eq]; omega
      rw [if_neg hf, List.append_nil] at hs
      refine ⟨_, ?_, hnext (by simp [lasts, hb]), rfl⟩
      rw [hs]
      walk_at "le"
  · rintro ρ' ⟨hno, rfl⟩
    rw [List.length_map, List.take_length] at hno
    rw [List.length_map, List.take_length]
    walk_at "es"
    have e : lastF cl = some (foldMax (-1 :: vsF cl)) := by
      unfold lastF
      rw [if_neg]
      intro h
      obtain ⟨c, hc, h⟩ := List.any_eq_true.mp h
      rw [hno c hc] at h
      cases h
    rw [e] at z
    exact z
structure Lk where
  t : Int
  a : Int
  b : Int
  c : Int
  d : Int
def encL (l : Lk) : D := .tuple [.int l.t, .tuple [.int l.a, .int l.b], .tuple [.int l.c, .int l.d]]
def Lk.good (l : Lk) : Prop := (0 ≤ l.t ∧ l.t ≤ 20) ∧ In8 l.a l.b l.c l.d
def dimL (cl : List Cl) (wx wy : Int) (l : Lk) : Int := dimF cl wx wy l.t l.a l.b l.c l.d
def bestD (p : Int × Option Int) : D := .tuple [.int p.1, optI p.2]
def R_worst : List D → (D → Prop) → Prop := fun ds Z => ∃ (cl : List Cl) (wx wy : Int) (ls : List Lk), ds = [.list (cl.map encC), .tuple [.int wx, .int wy], .list (ls.map encL)] ∧ Good cl ∧ (-2 ≤ wx ∧ wx ≤ 2) ∧ (-2 ≤ wy ∧ wy ≤ 2) ∧ (ls.length ≤ 4 ∧ ∀ l ∈ ls, l.good) ∧ Z (if ls = [] then .tuple [.int 0, .none] else bestD (bestP (ls.map (dimL cl wx wy))))
theorem enum_at {ds : List D} {k : Nat} {d : D} (h : (enumD 0 ds)[k]? = some d) : ∃ x, ds[k]? = some x ∧ d = .tuple [.int (k : Int), x] := by
  have hk : k < ds.length := by
    have := (List.getElem?_eq_some_iff.mp h).1
    rw [enumD_len] at this
    exact this
  have e := enumD_get ds 0 k (List.getElem?_eq_getElem hk)
  rw [e] at h
  refine ⟨_, List.getElem?_eq_getElem hk, ?_⟩
  rw [Nat.zero_add] at h
  exact (Option.some.inj h).symm
theorem sx_worst_look (K : PySem.W.Frag) (ds : List D) (Z : D → Prop) (h : R_worst ds Z) : SX (T_worst_look K R_dim) (startE N_worst_look ds) { nx := fun _ => Z .none, rt := fun d _ => Z d } := by
  obtain ⟨cl, wx, wy, ls, rfl, good, hwx, hwy, ⟨hl, hg⟩, z⟩ := h
  show SX (T_worst_look K R_dim) [.val (.list (cl.map encC)), .val (.tuple [.int wx, .int wy]), .val (.list (ls.map encL)), .emp, .emp, .emp, .emp, .emp, .emp] _
  unfold T_worst_look
  walk_at "es"
  refine sx_for (J := [4, 5, 6, 7]) (ei_enum ?_)
  walk_at "es"
  refine ⟨fun k ρ' => ρ' = [.val (.list (cl.map encC)), .val (.tuple [.int wx, .int wy]), .val (.list (ls.map encL)), .val (.tuple [.int (bestP ((ls.take k).map (dimL cl wx wy))).1, optI (bestP ((ls.take k).map (dimL cl wx wy))).2]), .emp, .emp, .emp, .emp, .emp], rfl, ?_, ?_⟩
  · rintro k dd ρ' hd0 rfl
    obtain ⟨x, hx, rfl⟩ := enum_at hd0
    obtain ⟨l, hlk, rfl⟩ := map_at hx
    obtain ⟨hlt, hin⟩ := hg l (List.mem_of_getElem? hlk)
    have hs := best_snoc ((ls.take k).map (dimL cl wx wy)) (fun x hx => by
      obtain ⟨q, _, rfl⟩ := List.mem_map.mp hx
      exact dim_nonneg _ _ _ _ _ _ _ _) (dimL cl wx wy l) (dim_nonneg _ _ _ _ _ _ _ _)
    have e : (ls.take (k + 1)).map (dimL cl wx wy) = (ls.take k).map (dimL cl wx wy) ++ [dimL cl wx wy l] := by rw [take_snoc hlk, List.map_append]; rfl
    have hkl : ((ls.take k).map (dimL cl wx wy)).length = k := by
      rw [List.length_map, List.length_take]
      have := (List.getElem?_eq_some_iff.mp hlk).1
      omega
    rw [← e, hkl] at hs
    generalize bestP ((ls.take k).map (dimL cl wx wy)) = p at hs ⊢
    refine sg_tup rfl (sgs_cons (sg_name (by simp) (sgs_cons (sg_tup rfl (sgs_cons (sg_name (by simp) (sgs_cons (sg_name (by simp) (sgs_cons (sg_name (by simp) (sgs_nil (sgs_nil ?_))))))))))))
    walk_at "w"
    walk_at "es"
    refine ⟨cl, wx, wy, l.t, l.a, l.b, l.c, l.d, rfl, good, hwx, hwy, hlt, hin, ?_⟩
    walk_at "es"
    refine ⟨fun hb => ?_, fun hb => ?_⟩
    · have hb := of_decide_eq_true hb
      walk_at "es"
      rw [if_pos (show p.1 < dimL cl wx wy l from hb)] at hs
      refine ⟨_, ?_, rfl⟩
      rw [hs]
      walk_at "le"
    · have hb := of_decide_eq_false hb
      walk_at "es"
      rw [if_neg (show ¬ p.1 < dimL cl wx wy l from hb)] at hs
      refine ⟨_, ?_, rfl⟩
      rw [hs]
      walk_at "le"
  · rintro ρ' rfl
    rw [enumD_len, List.length_map, List.take_length]
    walk_at "es"
    cases ls with
    | nil =>
      refine ⟨(fun q => by cases q), fun _ => ?_⟩
      walk_at "es"
      exact z
    | cons l ls =>
      refine ⟨fun _ => ?_, (fun q => by cases q)⟩
      walk_at "es"
      exact z
def R_clouds : Stt → List D → (D → Stt → Prop) → Prop := fun S ds Z => ds = [.int 4] ∧ Ok S ∧ ∀ (cl : List Cl) (S' : Stt), Good cl → Ok S' → Z (.list (cl.map encC)) S'
theorem sx_l_clouds (K : PySem.W.Frag) (S : Stt) (ds : List D) (Z : D → Stt → Prop) (h : R_clouds S ds Z) :
    SX (T_l_clouds K R_take) (.st S :: (ds.map .val ++ List.replicate (N_l_clouds.length - (ds.length + 1)) .emp)) { nx := fun ρ' => ∃ S', ρ'[0]? = some (.st S') ∧ Z .none S', rt := fun d ρ' => ∃ S', ρ'[0]? = some (.st S') ∧ Z d S' } := by
  obtain ⟨rfl, ok, z⟩ := h
  show SX (T_l_clouds K R_take) [.st S, .val (.int 4), .emp, .emp] _
  unfold T_l_clouds
  walk_at "es"
  refine sx_asgO (eo_lst ?_)
  walk_at "es"
  refine sx_for (J := [3]) (ei_rng1 ?_)
  walk_at "es"
  refine ⟨5, rfl, by omega, by omega, ok, fun m S0 hm0 hm1 ok0 => ?_⟩
  walk_at "es"
  refine ⟨by omega, fun k ρ' => ∃ (cl : List Cl) (S : Stt), cl.length = k ∧ (∀ c ∈ cl, c.good) ∧ Ok S ∧ ρ' = [.st S, .val (.int 4), .own (cl.map encC), .emp], ⟨[], S0, rfl, (fun c hc => by cases hc), ok0, rfl⟩, ?_, ?_⟩
  · rintro k dd ρ' hd0 ⟨cl, S1, hl, hg, ok1, rfl⟩
    obtain ⟨hk, rfl⟩ := rng_at hd0
    refine sg_name (by simp) ?_
    walk_at "w"
    refine sx_app rfl ?_
    walk_at "es"
    refine ⟨8, rfl, by omega, by omega, ok1, fun x S2 hx0 hx1 ok2 => ?_⟩
    walk_at "es"
    refine ⟨8, rfl, by omega, by omega, ok2, fun y S3 hy0 hy1 ok3 => ?_⟩
    walk_at "es"
    refine ⟨5, rfl, by omega, by omega, ok3, fun b S4 hb0 hb1 ok4 => ?_⟩
    walk_at "es"
    refine ⟨3, rfl, by omega, by omega, ok4, fun r S5 hr0 hr1 ok5 => ?_⟩
    walk_at "es"
    refine ⟨9, rfl, by omega, by omega, ok5, fun s S6 hs0 hs1 ok6 => ?_⟩
    walk_at "es"
    refine ⟨4, rfl, by omega, by omega, ok6, fun t S7 ht0 ht1 ok7 => ?_⟩
    walk_at "es"
    refine ⟨by rw [List.length_map]; omega, ?_⟩
    refine ⟨_, ?_, cl ++ [⟨x, y, b, r, s, t⟩], S7, by simp [hl], ?_, ok7, rfl⟩
    · rw [List.map_append]
      walk_at "le"
    · intro c hc
      rcases List.mem_append.mp hc with hc | hc
      · exact hg c hc
      · rw [List.mem_singleton.mp hc]
        exact ⟨⟨hx0, hx1⟩, ⟨hy0, hy1⟩, ⟨hb0, hb1⟩, ⟨hr0, hr1⟩, ⟨hs0, hs1⟩, ht0, ht1⟩
  · rintro ρ' ⟨cl, S1, hl, hg, ok1, rfl⟩
    rw [rng_size] at hl
    refine nx_seq (sx_freeze 2 rfl ?_)
    walk_at "w"
    walk_at "es"
    exact z cl S1 ⟨by omega, hg⟩ ok1
end Law_k73
namespace Law_k73
open PySem L2 Pu
local macro_rules | `(tactic| walk_at "e") => `(tactic| first
  | ((with_reducible refine nx_seq ?_); (try dsimp only [List.set_cons_succ, List.set_cons_zero]))
  | ((with_reducible refine ex_vr ?_); dsimp only [VQ, List.set_cons_succ, List.set_cons_zero, List.getElem?_cons_zero, List.getElem?_cons_succ]; (fail_if_success (with_reducible show False)))
  | (with_reducible refine sx_seq ?_)
  | (with_reducible refine sx_if ?_)
  | (with_reducible refine sx_next ?_)
  | (with_reducible refine sx_ret ?_)
  | ((fail_if_success (with_reducible refine sx_asgO (eo_lst ?_))); (with_reducible refine sx_asg ?_))
  | (with_reducible refine ex_int ?_)
  | (with_reducible refine ex_str ?_)
  | (with_reducible refine ex_bl ?_)
  | (with_reducible refine ex_non ?_)
  | (with_reducible refine ex_op ?_)
  | (with_reducible refine ex_un ?_)
  | (with_reducible refine ex_chain ?_)
  | (with_reducible refine ex_call ?_)
  | (with_reducible refine ex_isT ?_)
  | (with_reducible refine ex_cb ?_)
  | (with_reducible refine ex_sl ?_)
  | (with_reducible refine ex_tup ?_)
  | (with_reducible refine ex_if ?_)
  | (with_reducible refine ex_of (eo_lst ?_))
  | (with_reducible refine ex_notV ?_)
  | (with_reducible refine ea_nil ?_)
  | (with_reducible refine ea_cons ?_)
  | (with_reducible refine ep_no ?_)
  | (with_reducible refine ep_some ?_)
  | (with_reducible refine et_test ?_)
  | (with_reducible refine et_B ?_)
  | (with_reducible refine et_and ?_)
  | (with_reducible refine et_or ?_)
  | (with_reducible refine et_not ?_)
  | (with_reducible refine et_yes ?_)
  | (with_reducible refine opd_plusI ?_)
  | (with_reducible refine opd_I0 ?_)
  | (with_reducible refine opd_B0 ?_)
  | (with_reducible refine opd_eqI ?_)
  | (with_reducible refine opd_neI ?_)
  | (with_reducible refine opd_eqS ?_)
  | (with_reducible refine opd_neS ?_)
  | (with_reducible refine opd_is ?_)
  | (with_reducible refine opd_isnt ?_)
  | (with_reducible refine opd_ixT rfl ?_)
  | (with_reducible refine opd_ixL rfl ?_)
  | (with_reducible refine und_neg ?_)
  | (with_reducible refine cbd_lenL ?_)
  | (with_reducible refine cbd_lenT ?_)
  | (with_reducible refine cbd_min2 ?_)
  | (with_reducible refine cbd_max2 ?_)
  | (with_reducible refine cbd_abs ?_)
  | (with_reducible refine cbd_int ?_)
  | (with_reducible refine cbd_tupL ?_)
  | (with_reducible refine cbd_listL ?_)
  | (with_reducible refine cbd_listT ?_)
  | (with_reducible refine cbd_sum ?_)
  | (with_reducible refine sld_T ?_)
  | (with_reducible refine sld_L ?_)
  | (with_reducible refine ex_revL ?_)
  | (with_reducible refine ex_bmL ?_)
  | (with_reducible refine ex_andV ?_)
  | (with_reducible refine ei_list ?_)
  | (with_reducible refine ei_rng1 ?_)
  | (with_reducible refine ei_rng2 ?_)
  | (with_reducible refine sx_par ?_)
  | (with_reducible refine Exists.intro _ (And.intro rfl ?_))
  | (with_reducible refine Exists.intro _ (Exists.intro _ (And.intro rfl ?_)))
  | ((with_reducible show EX (tCall (spS _) [] _ (tCons (tVar _) _)) _ _); refine ex_callS rfl ?_)
  | ((with_reducible refine And.intro (show (_ : Nat) ≤ 100000 from ?_) ?_); (focus (simp; done)))
  | ((with_reducible refine opd_I ?_ ?_); focus (first | omega | (show CDiv _ _; exact ⟨by omega, by omega⟩) | (show CMul _ _; first | exact Or.inl ⟨by omega, by omega⟩ | exact Or.inr ⟨by omega, by omega⟩))))
local macro_rules | `(tactic| walk_at "es") => `(tactic| repeat walk_at "e")
local macro_rules | `(tactic| walk_at "w") => `(tactic| try dsimp only [wipeE, List.foldl_cons, List.foldl_nil, List.set_cons_succ, List.set_cons_zero])
local macro_rules | `(tactic| walk_at "le") => `(tactic| repeat' first | exact LeE.nil | (refine LeE.eq rfl ?_) | (refine LeE.emp ?_) | (refine LeE.eq ?_ ?_))
local macro_rules | `(tactic| walk_at "no") => `(tactic| ((refine And.intro (fun hb => absurd hb ?_) (fun _ => ?_)); (focus (first | (exact Bool.false_ne_true) | (simp; done) | (simp; omega) | (simp only [decide_eq_true_eq]; omega)))))
local macro_rules | `(tactic| walk_at "yes") => `(tactic| ((refine And.intro (fun _ => ?_) (fun hb => absurd hb ?_)); (rotate_left); (focus (first | (exact Bool.noConfusion) | (simp; done) | (simp; omega) | (simp only [decide_eq_false_iff_not]; omega)))))
theorem rev_cells {a b c d : Int} (h : In8 a b c d) : ((relF (a - c) (b - d)).map (shD c d)).reverse = (relF (c - a) (d - b)).map (shD a b) := by
  obtain ⟨⟨ha1, ha2⟩, ⟨hb1, hb2⟩, ⟨hc1, hc2⟩, hd1, hd2⟩ := h
  obtain ⟨-, -, -, -, -, q6⟩ := ok_parts (ok_of (dx := c - a) (dy := d - b) (by omega) (by omega))
  have e1 : a - c = -(c - a) := by omega
  have e2 : b - d = -(d - b) := by omega
  rw [e1, e2, ← q6, ← List.map_reverse, List.map_reverse, List.map_reverse, List.map_map]
  congr 1
  refine List.map_congr_left fun p _ => ?_
  simp only [shD, Function.comp]
  have e3 : a + (c - a + p.1) = c + p.1 := by omega
  have e4 : b + (d - b + p.2) = d + p.2 := by omega
  rw [e3, e4]
theorem cells_deep (a b : Int) (l : List (Int × Int)) : (PyData.list (l.map (shD a b))).depth ≤ 60 := by
  have h : DpN 3 (PyData.list (l.map (shD a b))) := dpn_list (dpn_map fun x _ => dpn_tup (dpn_cons dpn_int (dpn_cons dpn_int dpn_nil)))
  exact Nat.le_trans h (by decide)
theorem clouds_deep (cl : List Cl) : (PyData.list (cl.map encC)).depth ≤ 60 := by
  have h : DpN 3 (PyData.list (cl.map encC)) := dpn_list (dpn_map fun x _ => dpn_tup (dpn_cons dpn_int (dpn_cons dpn_int (dpn_cons dpn_int (dpn_cons dpn_int (dpn_cons dpn_int (dpn_cons dpn_int dpn_nil)))))))
  exact Nat.le_trans h (by decide)
theorem optI_deep (o : Option Int) : (optI o).depth ≤ 60 := by cases o <;> simp [optI, PyData.depth]
theorem bestD_deep (p : Int × Option Int) : (bestD p).depth ≤ 60 := by
  have h : DpN 3 (bestD p) := dpn_tup (dpn_cons dpn_int (dpn_cons (by cases p.2 <;> simp [optI, DpN, PyData.depth]) dpn_nil))
  exact Nat.le_trans h (by decide)
theorem fade_max {c : Cl} (g : c.good) (h : fades c = true) : 0 < ((rngI c.b 12).filter fun k : Int => decide (0 < c.s - c.t * (k - c.b))).length ∧ foldMax ((rngI c.b 12).filter fun k : Int => decide (0 < c.s - c.t * (k - c.b))) = gone c := by
  obtain ⟨-, -, ⟨hb0, hb1⟩, -, ⟨hs0, hs1⟩, ht0, ht1⟩ := g
  simp only [fades, Bool.and_eq_true, decide_eq_true_eq] at h
  have t := last_ok ⟨c.b.toNat, by omega⟩ ⟨c.s.toNat, by omega⟩ ⟨c.t.toNat, by omega⟩
  have e1 : ((c.b.toNat : Nat) : Int) = c.b := by omega
  have e2 : ((c.s.toNat : Nat) : Int) = c.s := by omega
  have e3 : ((c.t.toNat : Nat) : Int) = c.t := by omega
  simp only [e1, e2, e3] at t
  rcases t with t | t | t
  · omega
  · omega
  · exact ⟨List.length_pos_iff.mpr t.1, t.2⟩
theorem head_first (f : Int → Bool) (l : List Int) : (l.filter f).head? = l.find? f := List.head?_filter
def R_law : List D → (D → Prop) → Prop := fun ds Z => ∃ ns : List Int, ds = [.list (ns.map .int)] ∧ Z (.bool true)
def T_law_end (K : PySem.W.Frag) : TS :=
    (tSeq (tAsg (tLc (iRng1 (tCons (tCall (spS R_take) [] E0 (tCons (tVar 1) (tCons (tC (.int 4)) tNil))) tNil)) (gName 23) tYes (tTup (tCons (tCall (spS R_take) [] E0 (tCons (tVar 1) (tCons (tC (.int 9)) tNil))) (tCons (tTup (tCons (tCall (spS R_take) [] E0 (tCons (tVar 1) (tCons (tC (.int 9)) tNil))) (tCons (tCall (spS R_take) [] E0 (tCons (tVar 1) (tCons (tC (.int 9)) tNil))) tNil))) (tCons (tTup (tCons (tCall (spS R_take) [] E0 (tCons (tVar 1) (tCons (tC (.int 9)) tNil))) (tCons (tCall (spS R_take) [] E0 (tCons (tVar 1) (tCons (tC (.int 9)) tNil))) tNil))) tNil)))) [23]) (gName 22))
    (tSeq (tAsg (tLc (iList K (tVar 22)) (gTup K 3 (gCons (gName 12) (gCons (gName 7) (gCons (gName 8) gNil)))) tYes (tCall (spP R_dim) [] E0 (tCons (tVar 2) (tCons (tVar 4) (tCons (tVar 12) (tCons (tVar 7) (tCons (tVar 8) tNil)))))) [12, 7, 8]) (gName 24))
    (tRet (tAndV (tOp (rEqP K) (tCall (spP R_worst) [] E0 (tCons (tVar 2) (tCons (tVar 4) (tCons (tVar 22) tNil)))) (tIf (tTest (tOp (rI0 fun i j => .bl (decide (j < i))) (tCB (rLen K) (tCons (tVar 22) tNil)) (tC (.int 0)))) (tTup (tCons (tCB (rMxD K) (tCons (tVar 24) tNil)) (tCons (tBM K "list" (rIndex K) (tVar 24) (tCons (tCB (rMxD K) (tCons (tVar 24) tNil)) tNil)) tNil))) (tTup (tCons (tC (.int 0)) (tCons (tC .non) tNil))))) (tOp (rEqP K) (tVar 2) (tVar 3))))))
theorem sx_law (K : PySem.W.Frag) (ds : List D) (Z : D → Prop) (h : R_law ds Z) : SX (T_law K R_state R_clouds R_take R_dim R_latest R_thick R_thick R_first R_worst R_cells R_cells R_dim R_sees) (startE N_law ds) { nx := fun _ => Z .none, rt := fun d _ => Z d } := by
  obtain ⟨ns, rfl, z⟩ := h
  show SX (T_law K R_state R_clouds R_take R_dim R_latest R_thick R_thick R_first R_worst R_cells R_cells R_dim R_sees) [.val (.list (ns.map .int)), .emp, .emp, .emp, .emp, .emp, .emp, .emp, .emp, .emp, .emp, .emp, .emp, .emp, .emp, .emp, .emp, .emp, .emp, .emp, .emp, .emp, .emp, .emp, .emp] _
  unfold T_law
  refine sx_seq (sx_asgN (by decide) ?_)
  walk_at "es"
  refine ⟨ns, rfl, fun S0 ok0 => ?_⟩
  walk_at "es"
  refine ⟨rfl, ok0, fun cl S1 good ok1 => ?_⟩
  walk_at "es"
  refine ⟨5, rfl, by omega, by omega, ok1, fun wx' S2 hx0 hx1 ok2 => ?_⟩
  walk_at "es"
  refine ⟨5, rfl, by omega, by omega, ok2, fun wy' S3 hy0 hy1 ok3 => ?_⟩
  walk_at "es"
  refine ⟨9, rfl, by omega, by omega, ok3, fun tick S4 ht0 ht1 ok4 => ?_⟩
  walk_at "es"
  generalize hwx : wx' - 2 = wx
  generalize hwy : wy' - 2 = wy
  have bx : -2 ≤ wx ∧ wx ≤ 2 := by omega
  have bY : -2 ≤ wy ∧ wy ≤ 2 := by omega
  have bt : 0 ≤ tick ∧ tick ≤ 20 := by omega
  refine sx_for (J := [6]) (ei_rng1 ?_)
  walk_at "es"
  refine ⟨by omega, fun _ ρ' => ∃ S, Ok S ∧ ρ' = [.val (.list (ns.map .int)), .st S, .val (.list (cl.map encC)), .val (.list (cl.map encC)), .val (.tuple [.int wx, .int wy]), .val (.int tick), .emp, .emp, .emp, .emp, .emp, .emp, .emp, .emp, .emp, .emp, .emp, .emp, .emp, .emp, .emp, .emp, .emp, .emp, .emp], ⟨S4, ok4, rfl⟩, ?_, ?_⟩
  · rintro k dd ρ' hd0 ⟨S5, ok5, rfl⟩
    obtain ⟨hk, rfl⟩ := rng_at hd0
    refine sg_name (by simp) ?_
    walk_at "w"
    refine sx_seq (sx_asgT (J := [7, 8]) ?_)
    walk_at "es"
    refine ⟨9, rfl, by omega, by omega, ok5, fun a S6 ha0 ha1 ok6 => ?_⟩
    walk_at "es"
    refine ⟨9, rfl, by omega, by omega, ok6, fun b S7 hb0 hb1 ok7 => ?_⟩
    walk_at "es"
    refine ⟨9, rfl, by omega, by omega, ok7, fun c S8 hc0 hc1 ok8 => ?_⟩
    walk_at "es"
    refine ⟨9, rfl, by omega, by omega, ok8, fun d S9 hd0 hd1 ok9 => ?_⟩
    walk_at "es"
    have hin : In8 a b c d := ⟨⟨by omega, by omega⟩, ⟨by omega, by omega⟩, ⟨by omega, by omega⟩, by omega, by omega⟩
    have hin2 : In8 c d a b := ⟨⟨by omega, by omega⟩, ⟨by omega, by omega⟩, ⟨by omega, by omega⟩, by omega, by omega⟩
    refine sg_tup rfl (sgs_cons (sg_name (by simp) (sgs_cons (sg_name (by simp) (sgs_nil ?_)))))
    walk_at "w"
    walk_at "es"
    refine ⟨a, b, c, d, rfl, hin, ?_⟩
    walk_at "es"
    refine ⟨a, b, c, d, rfl, hin, ?_⟩
    refine opd_neSelf (cells_deep _ _ _) ?_
    walk_at "es"
    walk_at "no"
    walk_at "es"
    refine ⟨c, d, a, b, rfl, hin2, ?_⟩
    unfold cellsD
    walk_at "es"
    rw [rev_cells hin]
    refine ⟨a, b, c, d, rfl, hin, ?_⟩
    refine opd_neSelf (cells_deep _ _ _) ?_
    walk_at "es"
    walk_at "no"
    walk_at "es"
    refine ⟨cl, wx, wy, tick, a, b, rfl, good, bx, bY, bt, ?_⟩
    walk_at "es"
    refine ⟨cl, wx, wy, tick, a, b, rfl, good, bx, bY, bt, ?_⟩
    walk_at "es"
    walk_at "no"
    walk_at "es"
    refine ⟨cl, wx, wy, tick, a, b, c, d, rfl, good, bx, bY, bt, hin, ?_⟩
    walk_at "es"
    refine ⟨20, rfl, by omega, by omega, ok9, fun most S10 hm0 hm1 ok10 => ?_⟩
    walk_at "es"
    refine ⟨cl, wx, wy, tick, a, b, c, d, rfl, good, bx, bY, bt, hin, ?_⟩
    walk_at "es"
    walk_at "no"
    walk_at "es"
    refine ⟨cl, wx, wy, tick, a, b, c, d, most, rfl, good, bx, bY, bt, hin, ?_⟩
    walk_at "es"
    refine opd_neSelf (by simp [PyData.depth]) ?_
    walk_at "es"
    walk_at "no"
    walk_at "es"
    refine ex_of (eo_lcP (α := Int) (fun t => decide (dimF cl wx wy t a b c d ≤ most)) PyData.int (ei_rng2 ?_))
    walk_at "es"
    refine ⟨by omega, _, PyData.int, rfl, by rw [rngI_len]; decide, fun i hi => by simp at hi; subst hi; rfl, fun t ht => sg_name (by simp) ⟨rfl, ?_⟩, ?_⟩
    · have ht := rngI_mem.mp ht
      have h11 : (((13 - 2 : Int).toNat : Nat) : Int) = 11 := by decide
      rw [h11] at ht
      walk_at "w"
      walk_at "es"
      refine ⟨cl, wx, wy, t, a, b, c, d, rfl, good, bx, bY, by omega, hin, ?_⟩
      walk_at "es"
      refine ⟨rfl, rfl, fun _ => ?_⟩
      walk_at "es"
      exact ⟨rfl, rfl⟩
    have h11 : (13 - 2 : Int).toNat = 11 := by decide
    rw [h11]
    have hh : optI (firstF fun t => decide (dimF cl wx wy t a b c d ≤ most)) = optI ((rngI 2 11).filter fun t => decide (dimF cl wx wy t a b c d ≤ most)).head? := by
      rw [head_first]; rfl
    generalize (rngI 2 11).filter (fun t => decide (dimF cl wx wy t a b c d ≤ most)) = good12 at hh ⊢
    walk_at "es"
    refine ⟨cl, wx, wy, a, b, c, d, most, rfl, good, bx, bY, hin, ?_⟩
    rw [hh]
    walk_at "es"
    cases good12 with
    | nil =>
      refine ⟨(fun q => absurd q (by simp)), fun _ => ?_⟩
      walk_at "es"
      refine opd_neSelf (optI_deep none) ?_
      walk_at "es"
      walk_at "no"
      walk_at "es"
      refine ⟨_, ?_, S10, ok10, rfl⟩
      walk_at "le"
    | cons t ts =>
      refine ⟨fun _ => ?_, (fun q => absurd q (by simp))⟩
      walk_at "es"
      refine opd_ixL (d := .int t) (show atI _ ((0 : Nat) : Int) = _ from atI_nat rfl) ?_
      refine opd_neSelf (optI_deep (some t)) ?_
      walk_at "es"
      walk_at "no"
      walk_at "es"
      refine ⟨_, ?_, S10, ok10, rfl⟩
      walk_at "le"
  · rintro ρ' ⟨S5, ok5, rfl⟩
    walk_at "es"
    refine ex_of (eo_lcP (α := Cl) lasts encC (ei_list ?_))
    walk_at "es"
    refine ⟨by have := good.1; omega, fun i hi => by simp at hi; subst hi; rfl, fun c hc => sg_name (by simp) ⟨rfl, ?_⟩, ?_⟩
    · obtain ⟨-, -, -, -, ⟨hs0, hs1⟩, ht0, ht1⟩ := good.2 c hc
      walk_at "w"
      walk_at "es"
      refine opd_ixT (d := .int c.s) rfl ?_
      walk_at "es"
      refine ⟨fun hb => ?_, fun hb => ?_⟩
      · walk_at "es"
        refine opd_ixT (d := .int c.t) rfl ?_
        walk_at "es"
        refine ⟨by unfold lasts; rw [hb, Bool.true_and], rfl, fun _ => ?_⟩
        walk_at "es"
        exact ⟨rfl, rfl⟩
      · refine ⟨by unfold lasts; rw [hb, Bool.false_and], rfl, fun _ => ?_⟩
        walk_at "es"
        exact ⟨rfl, rfl⟩
    walk_at "es"
    refine sx_asgO (eo_lst ?_)
    walk_at "es"
    refine sx_for (J := [16, 17, 18, 19, 20, 21]) (ei_list ?_)
    walk_at "es"
    refine ⟨fun k ρ' => ρ' = [.val (.list (ns.map .int)), .st S5, .val (.list (cl.map encC)), .val (.list (cl.map encC)), .val (.tuple [.int wx, .int wy]), .val (.int tick), .emp, .emp, .emp, .emp, .emp, .emp, .emp, .val (.list ((cl.filter lasts).map encC)), .emp, .own ((-1 :: vsF (cl.take k)).map .int), .emp, .emp, .emp, .emp, .emp, .emp, .emp, .emp, .emp], rfl, ?_, ?_⟩
    · rintro k dd ρ' hd0 rfl
      obtain ⟨c, hc, rfl⟩ := map_at hd0
      have gc := good.2 c (List.mem_of_getElem? hc)
      obtain ⟨⟨_, _⟩, ⟨_, _⟩, ⟨_, _⟩, ⟨_, _⟩, ⟨_, _⟩, _, _⟩ := id gc
      have hs := vs_snoc (cl.take k) c
      rw [← take_snoc hc] at hs
      have hlen : ((-1 :: vsF (cl.take k)).map PyData.int).length < 1000000 := by
        have h1 : (vsF (cl.take k)).length ≤ (cl.take k).length := by unfold vsF; rw [List.length_map]; exact List.length_filter_le _ _
        have h2 := good.1
        rw [List.length_take] at h1
        rw [List.length_map, List.length_cons]
        omega
      refine sg_tup rfl (sgs_cons (sg_name (by simp) (sgs_cons (sg_name (by simp) (sgs_cons (sg_name (by simp) (sgs_cons (sg_name (by simp) (sgs_cons (sg_name (by simp) (sgs_cons (sg_name (by simp) (sgs_nil ?_)))))))))))))
      walk_at "w"
      walk_at "es"
      refine ⟨fun hb => ?_, fun hb => ?_⟩
      · walk_at "es"
        refine ⟨fun hb2 => ?_, fun hb2 => ?_⟩
        · have hf : fades c = true := by unfold fades; rw [hb, hb2]; rfl
          rw [if_pos hf] at hs
          have fm := fade_max gc hf
          refine sx_app rfl ?_
          walk_at "es"
          refine ex_of (eo_lcP (α := Int) (fun k : Int => decide (0 < c.s - c.t * (k - c.b))) PyData.int (ei_rng2 ?_))
          walk_at "es"
          have e12 : (c.b + 12 - c.b).toNat = 12 := by omega
          refine ⟨by omega, _, PyData.int, rfl, by rw [rngI_len]; omega, fun i hi => by simp at hi; subst hi; rfl, fun t ht => sg_name (by simp) ⟨rfl, ?_⟩, ?_⟩
          · walk_at "w"
            walk_at "es"
            refine ⟨rfl, rfl, fun _ => ?_⟩
            walk_at "es"
            exact ⟨rfl, rfl⟩
          rw [e12]
          walk_at "es"
          refine cbd_maxI fm.1 ?_
          rw [fm.2]
          refine ⟨_, rfl, hlen, ?_⟩
          refine ⟨_, ?_, rfl⟩
          rw [hs, ← List.cons_append, List.map_append]
          walk_at "le"
        · have hf : ¬ fades c = true := by unfold fades; rw [hb2, Bool.and_false]; decide
          rw [if_neg hf, List.append_nil] at hs
          walk_at "es"
          refine ⟨_, ?_, rfl⟩
          rw [hs]
          walk_at "le"
      · have hf : ¬ fades c = true := by unfold fades; rw [hb, Bool.false_and]; decide
        rw [if_neg hf, List.append_nil] at hs
        try walk_at "no"
        walk_at "es"
        refine ⟨_, ?_, rfl⟩
        rw [hs]
        walk_at "le"
    rintro ρ' rfl
    rw [List.length_map, List.take_length]
    refine nx_seq (sx_freeze 15 rfl ?_)
    walk_at "w"
    walk_at "es"
    refine ⟨cl, rfl, good, ?_⟩
    walk_at "es"
    rw [List.length_map]
    have rest : SX (T_law_end K) [.val (.list (ns.map .int)), .st S5, .val (.list (cl.map encC)), .val (.list (cl.map encC)), .val (.tuple [.int wx, .int wy]), .val (.int tick), .emp, .emp, .emp, .emp, .emp, .emp, .emp, .val (.list ((cl.filter lasts).map encC)), .emp, .val (.list ((-1 :: vsF cl).map .int)), .emp, .emp, .emp, .emp, .emp, .emp, .emp, .emp, .emp] { nx := fun _ => Z .none, rt := fun d _ => Z d } := by
      unfold T_law_end
      refine sx_seq (sx_asg (ex_of (eo_lc (ei_rng1 ?_))))
      walk_at "es"
      refine ⟨4, rfl, by omega, by omega, ok5, fun m S6 hm0 hm1 ok6 => ?_⟩
      walk_at "es"
      refine ⟨by omega, fun k acc ρ' => ∃ (ls : List Lk) (S : Stt), ls.length = k ∧ (∀ l ∈ ls, l.good) ∧ Ok S ∧ acc = ls.map encL ∧ ρ' = [.val (.list (ns.map .int)), .st S, .val (.list (cl.map encC)), .val (.list (cl.map encC)), .val (.tuple [.int wx, .int wy]), .val (.int tick), .emp, .emp, .emp, .emp, .emp, .emp, .emp, .val (.list ((cl.filter lasts).map encC)), .emp, .val (.list ((-1 :: vsF cl).map .int)), .emp, .emp, .emp, .emp, .emp, .emp, .emp, .emp, .emp], ⟨[], S6, rfl, (fun l hl => by cases hl), ok6, rfl, rfl⟩, ?_, ?_⟩
      · rintro k dd acc ρ' hd0 ⟨ls, S, hl, hg, ok, rfl, rfl⟩
        obtain ⟨hk, rfl⟩ := rng_at hd0
        refine ⟨(fun i hi => by simp at hi; subst hi; rfl), by rw [List.length_map]; omega, sg_name (by simp) ?_⟩
        walk_at "w"
        refine et_yes ⟨fun _ => ?_, (fun q => by cases q)⟩
        walk_at "es"
        refine ⟨9, rfl, by omega, by omega, ok, fun t S1 ht0 ht1 ok1 => ?_⟩
        walk_at "es"
        refine ⟨9, rfl, by omega, by omega, ok1, fun a S2 ha0 ha1 ok2 => ?_⟩
        walk_at "es"
        refine ⟨9, rfl, by omega, by omega, ok2, fun b S3 hb0 hb1 ok3 => ?_⟩
        walk_at "es"
        refine ⟨9, rfl, by omega, by omega, ok3, fun c S4 hc0 hc1 ok4 => ?_⟩
        walk_at "es"
        refine ⟨9, rfl, by omega, by omega, ok4, fun d S5 hd0 hd1 ok5 => ?_⟩
        walk_at "es"
        refine ⟨ls ++ [⟨t, a, b, c, d⟩], S5, by simp [hl], ?_, ok5, by rw [List.map_append]; rfl, rfl⟩
        intro l hl
        rcases List.mem_append.mp hl with hl | hl
        · exact hg l hl
        · rw [List.mem_singleton.mp hl]
          exact ⟨by constructor <;> simp only <;> omega, ⟨by simp only; omega, by simp only; omega⟩, ⟨by simp only; omega, by simp only; omega⟩, ⟨by simp only; omega, by simp only; omega⟩, by simp only; omega, by simp only; omega⟩
      rintro acc ρ' ⟨ls, S, hl, hg, ok, rfl, rfl⟩
      rw [rng_size] at hl
      walk_at "es"
      refine ex_of (eo_lcP (α := Lk) (fun _ => true) (fun l => .int (dimL cl wx wy l)) (ei_list ?_))
      walk_at "es"
      refine ⟨by omega, fun i hi => by simp at hi; rcases hi with rfl | rfl | rfl <;> rfl, fun l hl => ?_, ?_⟩
      · have gl := hg l hl
        refine sg_tup rfl (sgs_cons (sg_name (by simp) (sgs_cons (sg_name (by simp) (sgs_cons (sg_name (by simp) (sgs_nil ⟨rfl, ?_⟩)))))))
        walk_at "w"
        walk_at "es"
        refine ⟨rfl, rfl, fun _ => ?_⟩
        walk_at "es"
        exact ⟨cl, wx, wy, l.t, l.a, l.b, l.c, l.d, rfl, good, bx, bY, gl.1, gl.2, rfl, rfl⟩
      have em : ((ls.filter fun _ => true).map fun l => PyData.int (dimL cl wx wy l)) = (ls.map (dimL cl wx wy)).map .int := by rw [List.filter_eq_self.mpr (fun _ _ => rfl), List.map_map]; rfl
      rw [em]
      walk_at "es"
      refine ⟨cl, wx, wy, ls, rfl, good, bx, bY, ⟨by omega, hg⟩, ?_⟩
      walk_at "es"
      cases ls with
      | nil =>
        refine ⟨(fun q => absurd q (by simp)), fun _ => ?_⟩
        walk_at "es"
        rw [if_pos rfl]
        refine opd_eqSelf (by simp [PyData.depth, PyData.depthAll]) ?_
        walk_at "es"
        refine ⟨fun _ => ?_, (fun q => by cases q)⟩
        walk_at "es"
        refine opd_eqSelf (clouds_deep cl) ?_
        exact z
      | cons l ls =>
        refine ⟨fun _ => ?_, (fun q => absurd q (by simp))⟩
        walk_at "es"
        refine cbd_maxI (by simp) ?_
        walk_at "es"
        refine cbd_maxI (by simp) ?_
        walk_at "es"
        refine mtd_indexI (foldMax_in _ _) ?_
        walk_at "es"
        rw [if_neg (by simp)]
        refine opd_eqSelf (bestD_deep (bestP ((l :: ls).map (dimL cl wx wy)))) ?_
        walk_at "es"
        refine ⟨fun _ => ?_, (fun q => by cases q)⟩
        walk_at "es"
        refine opd_eqSelf (clouds_deep cl) ?_
        exact z
    refine ⟨fun hb => ?_, fun hb => ?_⟩
    · have hb := of_decide_eq_true hb
      walk_at "es"
      have e : lastF cl = none := by
        unfold lastF
        rw [if_pos]
        obtain ⟨c, hc⟩ := List.exists_mem_of_length_pos (l := cl.filter lasts) (by omega)
        exact List.any_eq_true.mpr ⟨c, List.mem_filter.mp hc⟩
      rw [e]
      refine opd_neSelf (optI_deep none) ?_
      walk_at "es"
      walk_at "no"
      exact sx_next (nx_seq rest)
    · have hb := of_decide_eq_false hb
      walk_at "es"
      refine cbd_maxI (by simp) ?_
      have e : lastF cl = some (foldMax (-1 :: vsF cl)) := by
        unfold lastF
        rw [if_neg]
        intro h
        obtain ⟨c, hc, h⟩ := List.any_eq_true.mp h
        have := List.length_pos_of_mem (List.mem_filter.mpr ⟨hc, h⟩)
        omega
      rw [e]
      refine opd_neSelf (optI_deep (some _)) ?_
      walk_at "es"
      walk_at "no"
      exact sx_next (nx_seq rest)
end Law_k73
namespace Law_k73
open PySem L2 Pu

def topS (i : Nat) : Stmt := PySem.Challenge.pw_firescore_k73_whole_smoke.main.body.getD i (.Pass ⟨0, 0, 0, 0⟩)
abbrev s_cells_between : Stmt := topS 1
abbrev s_thickness : Stmt := topS 2
abbrev s_dimmed : Stmt := topS 3
abbrev s_sees : Stmt := topS 4
abbrev s_first_sight : Stmt := topS 5
abbrev s_latest_smoke : Stmt := topS 6
abbrev s_worst_look : Stmt := topS 7
abbrev s_l_state : Stmt := topS 9
abbrev s_l_take : Stmt := topS 10
abbrev s_l_clouds : Stmt := topS 11
abbrev s_l_thick : Stmt := topS 12
abbrev s_l_between : Stmt := topS 13
abbrev s_l_dim : Stmt := topS 14
abbrev s_law : Stmt := topS 15
theorem sc_cells_between : FnScope N_cells_between ["one", "other"] (defScope s_cells_between) := ⟨rfl, rfl, rfl, by decide +kernel, rfl, by decide +kernel, by decide +kernel⟩
theorem sc_thickness : FnScope N_thickness ["clouds", "wind", "tick", "cell"] (defScope s_thickness) := ⟨rfl, rfl, rfl, by decide +kernel, rfl, by decide +kernel, by decide +kernel⟩
theorem sc_dimmed : FnScope N_dimmed ["clouds", "wind", "tick", "one", "other"] (defScope s_dimmed) := ⟨rfl, rfl, rfl, by decide +kernel, rfl, by decide +kernel, by decide +kernel⟩
theorem sc_sees : FnScope N_sees ["clouds", "wind", "tick", "one", "other", "most"] (defScope s_sees) := ⟨rfl, rfl, rfl, by decide +kernel, rfl, by decide +kernel, by decide +kernel⟩
theorem sc_first_sight : FnScope N_first_sight ["clouds", "wind", "ticks", "one", "other", "most"] (defScope s_first_sight) := ⟨rfl, rfl, rfl, by decide +kernel, rfl, by decide +kernel, by decide +kernel⟩
theorem sc_latest_smoke : FnScope N_latest_smoke ["clouds"] (defScope s_latest_smoke) := ⟨rfl, rfl, rfl, by decide +kernel, rfl, by decide +kernel, by decide +kernel⟩
theorem sc_worst_look : FnScope N_worst_look ["clouds", "wind", "looks"] (defScope s_worst_look) := ⟨rfl, rfl, rfl, by decide +kernel, rfl, by decide +kernel, by decide +kernel⟩
theorem sc_l_state : FnScope N_l_state ["script"] (defScope s_l_state) := ⟨rfl, rfl, rfl, by decide +kernel, rfl, by decide +kernel, by decide +kernel⟩
theorem sc_l_take : FnScope N_l_take ["state", "most"] (defScope s_l_take) := ⟨rfl, rfl, rfl, by decide +kernel, rfl, by decide +kernel, by decide +kernel⟩
theorem sc_l_clouds : FnScope N_l_clouds ["state", "most"] (defScope s_l_clouds) := ⟨rfl, rfl, rfl, by decide +kernel, rfl, by decide +kernel, by decide +kernel⟩
theorem sc_l_thick : FnScope N_l_thick ["clouds", "wind", "tick", "cell"] (defScope s_l_thick) := ⟨rfl, rfl, rfl, by decide +kernel, rfl, by decide +kernel, by decide +kernel⟩
theorem sc_l_between : FnScope N_l_between ["one", "other"] (defScope s_l_between) := ⟨rfl, rfl, rfl, by decide +kernel, rfl, by decide +kernel, by decide +kernel⟩
theorem sc_l_dim : FnScope N_l_dim ["clouds", "wind", "tick", "one", "other"] (defScope s_l_dim) := ⟨rfl, rfl, rfl, by decide +kernel, rfl, by decide +kernel, by decide +kernel⟩
theorem sc_law : FnScope N_law ["script"] (defScope s_law) := ⟨rfl, rfl, rfl, by decide +kernel, rfl, by decide +kernel, by decide +kernel⟩
section
variable {P : Program} {w : World} {K : PySem.W.Frag} {mg : Str → Option Value} {base : Heap} {f : Addr} {fd : FuncData} {k : Nat}
theorem ps_cells_between {cdv : Value} {A : Around} {outer : List PySem.Env} {s : Shared} {H : Hp} {E : XK} (bn : Bn mg) (hr : Room k (A.deeper (PyProof.Rows.envOfC "cells_between" (defScope s_cells_between) s.heap.objs.size f cdv))) :
    PSs (cxOf CX0 P w K mg base N_cells_between "cells_between" (defScope s_cells_between) f cdv A outer s H E).nox (defBody s_cells_between) (T_cells_between K) :=
  have nd := sc_cells_between.nd
  (pss_cons (ps_asg (pv 0) (pg_tup (n := 2) rfl (pgs_cons (pg_name (i := 2) nd rfl (by first | exact Or.inl rfl | exact Or.inr rfl)) (pgs_cons (pg_name (i := 3) nd rfl (by first | exact Or.inl rfl | exact Or.inr rfl)) pgs_nil))))
    (pss_cons (ps_par (i := 4) (j := 5) rfl nd rfl rfl (by decide) rfl rfl (pa_cons (pe_ifExp (pt_cmpR op_gt (pe_ix ix_any (pv 1) pe_int (fun _ _ => rfl)) (pv 2) (nomark _)) pe_int (pe_un un_neg pe_int)) (pa_cons (pe_ifExp (pt_cmpR op_gt (pe_ix ix_any (pv 1) pe_int (fun _ _ => rfl)) (pv 3) (nomark _)) pe_int (pe_un un_neg pe_int)) pa_nil)) (by rfl))
    (pss_cons (ps_par (i := 6) (j := 7) rfl nd rfl rfl (by decide) rfl rfl (pa_cons (pe_callB cb_abs (by rfl) bn.abs_ (by decide +kernel) (pa_cons (pe_op op_sub (pe_ix ix_any (pv 1) pe_int (fun _ _ => rfl)) (pv 2)) pa_nil)) (pa_cons (pe_callB cb_abs (by rfl) bn.abs_ (by decide +kernel) (pa_cons (pe_op op_sub (pe_ix ix_any (pv 1) pe_int (fun _ _ => rfl)) (pv 3)) pa_nil)) pa_nil)) (by rfl))
    (pss_cons (ps_set (i := 8) nd rfl (by first | exact Or.inl rfl | exact Or.inr rfl) (pe_lst (pa_cons (pv 0) pa_nil)))
    (pss_cons (ps_asg (pe_tup (pa_cons pe_int (pa_cons pe_int pa_nil))) (pg_tup (n := 2) rfl (pgs_cons (pg_name (i := 9) nd rfl (by first | exact Or.inl rfl | exact Or.inr rfl)) (pgs_cons (pg_name (i := 10) nd rfl (by first | exact Or.inl rfl | exact Or.inr rfl)) pgs_nil))))
    (pss_cons (ps_while PassesOwn.never (PW.pt (pw_or (pt_cmpR op_lt (pv 9) (pv 6) (nomark _)) (pw_or1 (pt_cmpR op_lt (pv 10) (pv 7) (nomark _)))))
      (pss_cons (ps_par (i := 11) (j := 12) rfl nd rfl rfl (by decide) rfl rfl (pa_cons (pe_op op_mul (pe_op op_plus (pe_op op_mul pe_int (pv 9)) pe_int) (pv 7)) (pa_cons (pe_op op_mul (pe_op op_plus (pe_op op_mul pe_int (pv 10)) pe_int) (pv 6)) pa_nil)) (by rfl))
    (pss_cons (ps_if (pt_cmpR op_lt (pv 11) (pv 12) (nomark _))
      (pss_one (ps_par (i := 9) (j := 2) rfl nd rfl rfl (by decide) rfl rfl (pa_cons (pe_op op_plus (pv 9) pe_int) (pa_cons (pe_op op_plus (pv 2) (pv 4)) pa_nil)) (by rfl)))
      (pss_one (ps_if (pt_cmpR op_lt (pv 12) (pv 11) (nomark _))
      (pss_one (ps_par (i := 10) (j := 3) rfl nd rfl rfl (by decide) rfl rfl (pa_cons (pe_op op_plus (pv 10) pe_int) (pa_cons (pe_op op_plus (pv 3) (pv 5)) pa_nil)) (by rfl)))
      (pss_one (ps_asg (pe_tup (pa_cons (pe_op op_plus (pv 9) pe_int) (pa_cons (pe_op op_plus (pv 10) pe_int) (pa_cons (pe_op op_plus (pv 2) (pv 4)) (pa_cons (pe_op op_plus (pv 3) (pv 5)) pa_nil))))) (pg_tup (n := 4) rfl (pgs_cons (pg_name (i := 9) nd rfl (by first | exact Or.inl rfl | exact Or.inr rfl)) (pgs_cons (pg_name (i := 10) nd rfl (by first | exact Or.inl rfl | exact Or.inr rfl)) (pgs_cons (pg_name (i := 2) nd rfl (by first | exact Or.inl rfl | exact Or.inr rfl)) (pgs_cons (pg_name (i := 3) nd rfl (by first | exact Or.inl rfl | exact Or.inr rfl)) pgs_nil))))))))))
    (pss_one (ps_expr (pe_bm PySem.F.plainAttrs_list PySem.F.slot_list_append PySem.F.type_list_append mt_append (pv 8) (pa_cons (pe_tup (pa_cons (pv 2) (pa_cons (pv 3) pa_nil))) pa_nil)))))))
    (pss_one (ps_ret (pv 8)))))))))
theorem ok_cells_between {R : List D → (D → Prop) → Prop} (F : Fun K "cells_between" "cells_between" s_cells_between f fd) (bn : Bn mg) (len : ∀ ds Z, R ds Z → ds.length = 2) (sx : ∀ ds Z, R ds Z → SX (T_cells_between K) (startE N_cells_between ds) { nx := fun _ => Z .none, rt := fun d _ => Z d }) :
    FnOk P w K mg base CX0 (k + 1) f fd ["one", "other"] (spP R) := fn_pure F sc_cells_between len fun cdv A outer s H E hr => ⟨_, ps_cells_between bn hr, sx⟩
theorem ps_thickness {cdv : Value} {A : Around} {outer : List PySem.Env} {s : Shared} {H : Hp} {E : XK} (bn : Bn mg) (hr : Room k (A.deeper (PyProof.Rows.envOfC "thickness" (defScope s_thickness) s.heap.objs.size f cdv))) :
    PSs (cxOf CX0 P w K mg base N_thickness "thickness" (defScope s_thickness) f cdv A outer s H E).nox (defBody s_thickness) (T_thickness K) :=
  have nd := sc_thickness.nd
  (pss_cons (ps_set (i := 4) nd rfl (by first | exact Or.inl rfl | exact Or.inr rfl) pe_int)
    (pss_cons (ps_for PassesOwn.never rfl (pi_list (pv 0)) (pg_tup (n := 6) rfl (pgs_cons (pg_name (i := 5) nd rfl (by first | exact Or.inl rfl | exact Or.inr rfl)) (pgs_cons (pg_name (i := 6) nd rfl (by first | exact Or.inl rfl | exact Or.inr rfl)) (pgs_cons (pg_name (i := 7) nd rfl (by first | exact Or.inl rfl | exact Or.inr rfl)) (pgs_cons (pg_name (i := 8) nd rfl (by first | exact Or.inl rfl | exact Or.inr rfl)) (pgs_cons (pg_name (i := 9) nd rfl (by first | exact Or.inl rfl | exact Or.inr rfl)) (pgs_cons (pg_name (i := 10) nd rfl (by first | exact Or.inl rfl | exact Or.inr rfl)) pgs_nil)))))))
      (pss_cons (ps_set (i := 11) nd rfl (by first | exact Or.inl rfl | exact Or.inr rfl) (pe_op op_sub (pv 2) (pv 7)))
    (pss_one (ps_if (pt_cmpR op_ge (pv 11) pe_int (nomark _))
      (pss_cons (ps_set (i := 12) nd rfl (by first | exact Or.inl rfl | exact Or.inr rfl) (pe_tup (pa_cons (pe_op op_plus (pv 5) (pe_op op_mul (pe_ix ix_any (pv 1) pe_int (fun _ _ => rfl)) (pv 11))) (pa_cons (pe_op op_plus (pv 6) (pe_op op_mul (pe_ix ix_any (pv 1) pe_int (fun _ _ => rfl)) (pv 11))) pa_nil))))
    (pss_one (ps_if (pt_cmpR op_le (pe_callB (cb_max2 rfl) (by rfl) bn.max_ (by decide +kernel) (pa_cons (pe_callB cb_abs (by rfl) bn.abs_ (by decide +kernel) (pa_cons (pe_op op_sub (pe_ix ix_any (pv 3) pe_int (fun _ _ => rfl)) (pe_ix ix_any (pv 12) pe_int (fun _ _ => rfl))) pa_nil)) (pa_cons (pe_callB cb_abs (by rfl) bn.abs_ (by decide +kernel) (pa_cons (pe_op op_sub (pe_ix ix_any (pv 3) pe_int (fun _ _ => rfl)) (pe_ix ix_any (pv 12) pe_int (fun _ _ => rfl))) pa_nil)) pa_nil))) (pv 8) (nomark _))
      (pss_one (ps_set (i := 4) nd rfl (by first | exact Or.inl rfl | exact Or.inr rfl) (pe_op op_plus (pv 4) (pe_callB (cb_max2 rfl) (by rfl) bn.max_ (by decide +kernel) (pa_cons pe_int (pa_cons (pe_op op_sub (pv 9) (pe_op op_mul (pv 10) (pv 11))) pa_nil))))))
      pss_nil)))
      pss_nil))))
    (pss_one (ps_ret (pv 4)))))
theorem ok_thickness {R : List D → (D → Prop) → Prop} (F : Fun K "thickness" "thickness" s_thickness f fd) (bn : Bn mg) (len : ∀ ds Z, R ds Z → ds.length = 4) (sx : ∀ ds Z, R ds Z → SX (T_thickness K) (startE N_thickness ds) { nx := fun _ => Z .none, rt := fun d _ => Z d }) :
    FnOk P w K mg base CX0 (k + 1) f fd ["clouds", "wind", "tick", "cell"] (spP R) := fn_pure F sc_thickness len fun cdv A outer s H E hr => ⟨_, ps_thickness bn hr, sx⟩
theorem ps_dimmed {cdv : Value} {A : Around} {outer : List PySem.Env} {s : Shared} {H : Hp} {E : XK} (bn : Bn mg) (hr : Room k (A.deeper (PyProof.Rows.envOfC "dimmed" (defScope s_dimmed) s.heap.objs.size f cdv))) {R_thickness : List D → (D → Prop) → Prop} {k_thickness : Nat} (C_thickness : Cal P w K mg base "thickness" ["clouds", "wind", "tick", "cell"] (spP R_thickness) k_thickness) (h_thickness : k_thickness ≤ k) {R_cells_between : List D → (D → Prop) → Prop} {k_cells_between : Nat} (C_cells_between : Cal P w K mg base "cells_between" ["one", "other"] (spP R_cells_between) k_cells_between) (h_cells_between : k_cells_between ≤ k) :
    PSs (cxOf CX0 P w K mg base N_dimmed "dimmed" (defScope s_dimmed) f cdv A outer s H E).nox (defBody s_dimmed) (T_dimmed K R_thickness R_cells_between) :=
  have nd := sc_dimmed.nd
  (pss_one (ps_ret (pe_callB (cr_sum rfl) (by rfl) bn.sum_ (by decide +kernel) (pa_cons (pe_lc (own := [("cell", 5)]) (g := (gName 5)) (tt := tYes) rfl nd (pi_list (pe_cal C_cells_between (hr.mono h_cells_between) (by rfl) (pa_cons (pv 3) (pa_cons (pv 4) pa_nil)))) (blkOk_by (N := N_dimmed) (sc := defScope s_dimmed) (by decide +kernel)) (fun _ _ _ _ _ => (pg_name (i := 5) nd rfl (by first | exact Or.inl rfl | exact Or.inr rfl))) (fun _ _ _ _ _ => pts_nil) (fun _ _ _ _ _ => (pe_cal C_thickness (hr.mono h_thickness) (by rfl) (pa_cons (pv 0) (pa_cons (pv 1) (pa_cons (pv 2) (pa_cons (pv 5) pa_nil))))))) pa_nil))))
theorem ok_dimmed {R : List D → (D → Prop) → Prop} (F : Fun K "dimmed" "dimmed" s_dimmed f fd) (bn : Bn mg) {R_thickness : List D → (D → Prop) → Prop} {k_thickness : Nat} (C_thickness : Cal P w K mg base "thickness" ["clouds", "wind", "tick", "cell"] (spP R_thickness) k_thickness) (h_thickness : k_thickness ≤ k) {R_cells_between : List D → (D → Prop) → Prop} {k_cells_between : Nat} (C_cells_between : Cal P w K mg base "cells_between" ["one", "other"] (spP R_cells_between) k_cells_between) (h_cells_between : k_cells_between ≤ k) (len : ∀ ds Z, R ds Z → ds.length = 5) (sx : ∀ ds Z, R ds Z → SX (T_dimmed K R_thickness R_cells_between) (startE N_dimmed ds) { nx := fun _ => Z .none, rt := fun d _ => Z d }) :
    FnOk P w K mg base CX0 (k + 1) f fd ["clouds", "wind", "tick", "one", "other"] (spP R) := fn_pure F sc_dimmed len fun cdv A outer s H E hr => ⟨_, ps_dimmed bn hr C_thickness h_thickness C_cells_between h_cells_between, sx⟩
theorem ps_sees {cdv : Value} {A : Around} {outer : List PySem.Env} {s : Shared} {H : Hp} {E : XK} (bn : Bn mg) (hr : Room k (A.deeper (PyProof.Rows.envOfC "sees" (defScope s_sees) s.heap.objs.size f cdv))) {R_dimmed : List D → (D → Prop) → Prop} {k_dimmed : Nat} (C_dimmed : Cal P w K mg base "dimmed" ["clouds", "wind", "tick", "one", "other"] (spP R_dimmed) k_dimmed) (h_dimmed : k_dimmed ≤ k) :
    PSs (cxOf CX0 P w K mg base N_sees "sees" (defScope s_sees) f cdv A outer s H E).nox (defBody s_sees) (T_sees K R_dimmed) :=
  have nd := sc_sees.nd
  (pss_one (ps_ret (pe_cmpR op_le (pe_cal C_dimmed (hr.mono h_dimmed) (by rfl) (pa_cons (pv 0) (pa_cons (pv 1) (pa_cons (pv 2) (pa_cons (pv 3) (pa_cons (pv 4) pa_nil)))))) (pv 5) (nomark _))))
theorem ok_sees {R : List D → (D → Prop) → Prop} (F : Fun K "sees" "sees" s_sees f fd) (bn : Bn mg) {R_dimmed : List D → (D → Prop) → Prop} {k_dimmed : Nat} (C_dimmed : Cal P w K mg base "dimmed" ["clouds", "wind", "tick", "one", "other"] (spP R_dimmed) k_dimmed) (h_dimmed : k_dimmed ≤ k) (len : ∀ ds Z, R ds Z → ds.length = 6) (sx : ∀ ds Z, R ds Z → SX (T_sees K R_dimmed) (startE N_sees ds) { nx := fun _ => Z .none, rt := fun d _ => Z d }) :
    FnOk P w K mg base CX0 (k + 1) f fd ["clouds", "wind", "tick", "one", "other", "most"] (spP R) := fn_pure F sc_sees len fun cdv A outer s H E hr => ⟨_, ps_sees bn hr C_dimmed h_dimmed, sx⟩
theorem ps_first_sight {cdv : Value} {A : Around} {outer : List PySem.Env} {s : Shared} {H : Hp} {E : XK} (bn : Bn mg) (hr : Room k (A.deeper (PyProof.Rows.envOfC "first_sight" (defScope s_first_sight) s.heap.objs.size f cdv))) {R_sees : List D → (D → Prop) → Prop} {k_sees : Nat} (C_sees : Cal P w K mg base "sees" ["clouds", "wind", "tick", "one", "other", "most"] (spP R_sees) k_sees) (h_sees : k_sees ≤ k) :
    PSs (cxOf CX0 P w K mg base N_first_sight "first_sight" (defScope s_first_sight) f cdv A outer s H E).nox (defBody s_first_sight) (T_first_sight K R_sees) :=
  have nd := sc_first_sight.nd
  (pss_cons (ps_for PassesOwn.never rfl (pi_range2 (by rfl) bn.range_ (pa_cons (pe_ix ix_any (pv 2) pe_int (fun _ _ => rfl)) (pa_cons (pe_op op_plus (pe_ix ix_any (pv 2) pe_int (fun _ _ => rfl)) pe_int) pa_nil))) (pg_name (i := 6) nd rfl (by first | exact Or.inl rfl | exact Or.inr rfl))
      (pss_one (ps_if (pt_val (pe_cal C_sees (hr.mono h_sees) (by rfl) (pa_cons (pv 0) (pa_cons (pv 1) (pa_cons (pv 6) (pa_cons (pv 3) (pa_cons (pv 4) (pa_cons (pv 5) pa_nil))))))))
      (pss_one (ps_ret (pv 6)))
      pss_nil)))
    (pss_one (ps_ret pe_non)))
theorem ok_first_sight {R : List D → (D → Prop) → Prop} (F : Fun K "first_sight" "first_sight" s_first_sight f fd) (bn : Bn mg) {R_sees : List D → (D → Prop) → Prop} {k_sees : Nat} (C_sees : Cal P w K mg base "sees" ["clouds", "wind", "tick", "one", "other", "most"] (spP R_sees) k_sees) (h_sees : k_sees ≤ k) (len : ∀ ds Z, R ds Z → ds.length = 6) (sx : ∀ ds Z, R ds Z → SX (T_first_sight K R_sees) (startE N_first_sight ds) { nx := fun _ => Z .none, rt := fun d _ => Z d }) :
    FnOk P w K mg base CX0 (k + 1) f fd ["clouds", "wind", "ticks", "one", "other", "most"] (spP R) := fn_pure F sc_first_sight len fun cdv A outer s H E hr => ⟨_, ps_first_sight bn hr C_sees h_sees, sx⟩
theorem ps_latest_smoke {cdv : Value} {A : Around} {outer : List PySem.Env} {s : Shared} {H : Hp} {E : XK} (bn : Bn mg) (hr : Room k (A.deeper (PyProof.Rows.envOfC "latest_smoke" (defScope s_latest_smoke) s.heap.objs.size f cdv))) :
    PSs (cxOf CX0 P w K mg base N_latest_smoke "latest_smoke" (defScope s_latest_smoke) f cdv A outer s H E).nox (defBody s_latest_smoke) (T_latest_smoke K) :=
  have nd := sc_latest_smoke.nd
  (pss_cons (ps_set (i := 1) nd rfl (by first | exact Or.inl rfl | exact Or.inr rfl) (pe_un un_neg pe_int))
    (pss_cons (ps_for PassesOwn.never rfl (pi_list (pv 0)) (pg_tup (n := 6) rfl (pgs_cons (pg_name (i := 2) nd rfl (by first | exact Or.inl rfl | exact Or.inr rfl)) (pgs_cons (pg_name (i := 3) nd rfl (by first | exact Or.inl rfl | exact Or.inr rfl)) (pgs_cons (pg_name (i := 4) nd rfl (by first | exact Or.inl rfl | exact Or.inr rfl)) (pgs_cons (pg_name (i := 5) nd rfl (by first | exact Or.inl rfl | exact Or.inr rfl)) (pgs_cons (pg_name (i := 6) nd rfl (by first | exact Or.inl rfl | exact Or.inr rfl)) (pgs_cons (pg_name (i := 7) nd rfl (by first | exact Or.inl rfl | exact Or.inr rfl)) pgs_nil)))))))
      (pss_one (ps_if (pt_cmpR op_gt (pv 6) pe_int (nomark _))
      (pss_cons (ps_if (pt_cmpR (op_eqP hr.units) (pv 7) pe_int (nomark _))
      (pss_one (ps_ret pe_non))
      pss_nil)
    (pss_one (ps_set (i := 1) nd rfl (by first | exact Or.inl rfl | exact Or.inr rfl) (pe_callB (cb_max2 rfl) (by rfl) bn.max_ (by decide +kernel) (pa_cons (pv 1) (pa_cons (pe_op op_plus (pv 4) (pe_op op_fdiv (pe_op op_sub (pv 6) pe_int) (pv 7))) pa_nil))))))
      pss_nil)))
    (pss_one (ps_ret (pv 1)))))
theorem ok_latest_smoke {R : List D → (D → Prop) → Prop} (F : Fun K "latest_smoke" "latest_smoke" s_latest_smoke f fd) (bn : Bn mg) (len : ∀ ds Z, R ds Z → ds.length = 1) (sx : ∀ ds Z, R ds Z → SX (T_latest_smoke K) (startE N_latest_smoke ds) { nx := fun _ => Z .none, rt := fun d _ => Z d }) :
    FnOk P w K mg base CX0 (k + 1) f fd ["clouds"] (spP R) := fn_pure F sc_latest_smoke len fun cdv A outer s H E hr => ⟨_, ps_latest_smoke bn hr, sx⟩
theorem ps_worst_look {cdv : Value} {A : Around} {outer : List PySem.Env} {s : Shared} {H : Hp} {E : XK} (bn : Bn mg) (hr : Room k (A.deeper (PyProof.Rows.envOfC "worst_look" (defScope s_worst_look) s.heap.objs.size f cdv))) {R_dimmed : List D → (D → Prop) → Prop} {k_dimmed : Nat} (C_dimmed : Cal P w K mg base "dimmed" ["clouds", "wind", "tick", "one", "other"] (spP R_dimmed) k_dimmed) (h_dimmed : k_dimmed ≤ k) :
    PSs (cxOf CX0 P w K mg base N_worst_look "worst_look" (defScope s_worst_look) f cdv A outer s H E).nox (defBody s_worst_look) (T_worst_look K R_dimmed) :=
  have nd := sc_worst_look.nd
  (pss_cons (ps_set (i := 3) nd rfl (by first | exact Or.inl rfl | exact Or.inr rfl) (pe_tup (pa_cons (pe_un un_neg pe_int) (pa_cons pe_non pa_nil))))
    (pss_cons (ps_for PassesOwn.never rfl (pi_enum (by rfl) bn.enumerate_ (pa_cons (pv 2) pa_nil)) (pg_tup (n := 2) rfl (pgs_cons (pg_name (i := 4) nd rfl (by first | exact Or.inl rfl | exact Or.inr rfl)) (pgs_cons (pg_tup (n := 3) rfl (pgs_cons (pg_name (i := 5) nd rfl (by first | exact Or.inl rfl | exact Or.inr rfl)) (pgs_cons (pg_name (i := 6) nd rfl (by first | exact Or.inl rfl | exact Or.inr rfl)) (pgs_cons (pg_name (i := 7) nd rfl (by first | exact Or.inl rfl | exact Or.inr rfl)) pgs_nil)))) pgs_nil)))
      (pss_cons (ps_set (i := 8) nd rfl (by first | exact Or.inl rfl | exact Or.inr rfl) (pe_cal C_dimmed (hr.mono h_dimmed) (by rfl) (pa_cons (pv 0) (pa_cons (pv 1) (pa_cons (pv 5) (pa_cons (pv 6) (pa_cons (pv 7) pa_nil)))))))
    (pss_one (ps_if (pt_cmpR op_gt (pv 8) (pe_ix ix_any (pv 3) pe_int (fun _ _ => rfl)) (nomark _))
      (pss_one (ps_set (i := 3) nd rfl (by first | exact Or.inl rfl | exact Or.inr rfl) (pe_tup (pa_cons (pv 8) (pa_cons (pv 4) pa_nil)))))
      pss_nil))))
    (pss_one (ps_ret (pe_ifExp (pt_cmpR op_isnt (pe_ix ix_any (pv 3) pe_int (fun _ _ => rfl)) pe_non (nomark _)) (pv 3) (pe_tup (pa_cons pe_int (pa_cons pe_non pa_nil))))))))
theorem ok_worst_look {R : List D → (D → Prop) → Prop} (F : Fun K "worst_look" "worst_look" s_worst_look f fd) (bn : Bn mg) {R_dimmed : List D → (D → Prop) → Prop} {k_dimmed : Nat} (C_dimmed : Cal P w K mg base "dimmed" ["clouds", "wind", "tick", "one", "other"] (spP R_dimmed) k_dimmed) (h_dimmed : k_dimmed ≤ k) (len : ∀ ds Z, R ds Z → ds.length = 3) (sx : ∀ ds Z, R ds Z → SX (T_worst_look K R_dimmed) (startE N_worst_look ds) { nx := fun _ => Z .none, rt := fun d _ => Z d }) :
    FnOk P w K mg base CX0 (k + 1) f fd ["clouds", "wind", "looks"] (spP R) := fn_pure F sc_worst_look len fun cdv A outer s H E hr => ⟨_, ps_worst_look bn hr C_dimmed h_dimmed, sx⟩
theorem ps_l_state {cdv : Value} {A : Around} {outer : List PySem.Env} {s : Shared} {H : Hp} {E : XK} (bn : Bn mg) (hr : Room k (A.deeper (PyProof.Rows.envOfC "_law_state" (defScope s_l_state) s.heap.objs.size f cdv))) :
    PSs (cxOf CX0 P w K mg base N_l_state "_law_state" (defScope s_l_state) f cdv A outer s H E).nox (defBody s_l_state) (T_l_state K) :=
  have nd := sc_l_state.nd
  (pss_cons (ps_setLc (i := 1) (own := [("cell", 2)]) (g := (gName 2)) (tt := tYes) rfl nd rfl rfl (sw_true rfl rfl rfl (by decide +kernel)) (pi_list (pe_slice sl_any (pv 0) po_none (po_some pe_int))) (blkOk_by (N := N_l_state) (sc := defScope s_l_state) (by decide +kernel)) (fun _ _ _ _ _ => (pg_name (i := 2) nd rfl (by first | exact Or.inl rfl | exact Or.inr rfl))) (fun _ _ _ _ _ => pts_nil) (fun _ _ _ _ _ => (pe_callB cb_abs (by rfl) bn.abs_ (by decide +kernel) (pa_cons (pv 2) pa_nil))))
    (pss_cons (ps_if (pt_cmpR (op_eqP hr.units) (pe_callB cb_len (by rfl) bn.len_ (by decide +kernel) (pa_cons (pv 1) pa_nil)) pe_int (nomark _))
      (pss_one (ps_set (i := 1) nd rfl (by first | exact Or.inl rfl | exact Or.inr rfl) (pe_lst (pa_cons pe_int pa_nil))))
      pss_nil)
    (pss_one (ps_ret (pe_lst (pa_cons pe_int (pa_cons (pv 1) pa_nil)))))))
theorem ps_l_take {cdv : Value} {A : Around} {outer : List PySem.Env} {s : Shared} {H : Hp} {E : XK} (bn : Bn mg) (hr : Room k (A.deeper (PyProof.Rows.envOfC "_law_take" (defScope s_l_take) s.heap.objs.size f cdv))) :
    PSs (cxOf CX0 P w K mg base N_l_take "_law_take" (defScope s_l_take) f cdv A outer s H E).nox (defBody s_l_take) (T_l_take K) :=
  have nd := sc_l_take.nd
  (pss_cons (ps_set (i := 2) nd rfl (by first | exact Or.inl rfl | exact Or.inr rfl) (pe_ix ix_any (pv 0) pe_int (fun _ _ => rfl)))
    (pss_cons (ps_set (i := 3) nd rfl (by first | exact Or.inl rfl | exact Or.inr rfl) (pe_op op_mod (pe_ix ix_any (pv 0) pe_int (fun _ _ => rfl)) (pe_callB cb_len (by rfl) bn.len_ (by decide +kernel) (pa_cons (pv 2) pa_nil))))
    (pss_cons (ps_set (i := 4) nd rfl (by first | exact Or.inl rfl | exact Or.inr rfl) (pe_ix ix_any (pv 2) (pv 3) (fun _ _ => rfl)))
    (pss_cons (ps_if (pt_cmpR op_ge (pv 4) pe_int (nomark _))
      (pss_cons (ps_asg (pe_op op_fdiv (pv 4) (pv 1)) (pg_sub (pv 2) (pv 3) set_list))
    (pss_one (ps_ret (pe_op op_mod (pv 4) (pv 1)))))
      pss_nil)
    (pss_cons (ps_asg (pe_op op_plus (pe_ix ix_any (pv 0) pe_int (fun _ _ => rfl)) pe_int) (pg_sub (pv 0) pe_int set_list))
    (pss_cons (ps_set (i := 5) nd rfl (by first | exact Or.inl rfl | exact Or.inr rfl) (pe_op op_mod (pe_callTy cb_int (by rfl) bn.int_ (by decide +kernel) (pa_cons (pe_op op_plus (pe_op op_mul (pv 4) pe_int) (pe_op op_mul (pe_ix ix_any (pv 0) pe_int (fun _ _ => rfl)) pe_int)) pa_nil)) pe_int))
    (pss_cons (ps_set (i := 5) nd rfl (by first | exact Or.inl rfl | exact Or.inr rfl) (pe_op op_mod (pe_callTy cb_int (by rfl) bn.int_ (by decide +kernel) (pa_cons (pe_op op_plus (pe_op op_mul (pv 5) pe_int) (pe_op op_mul (pe_ix ix_any (pv 0) pe_int (fun _ _ => rfl)) pe_int)) pa_nil)) pe_int))
    (pss_one (ps_ret (pe_op op_mod (pe_op op_fdiv (pv 5) pe_int) (pv 1)))))))))))
theorem ps_l_clouds {cdv : Value} {A : Around} {outer : List PySem.Env} {s : Shared} {H : Hp} {E : XK} (bn : Bn mg) (hr : Room k (A.deeper (PyProof.Rows.envOfC "_law_clouds" (defScope s_l_clouds) s.heap.objs.size f cdv))) {R_l_take : Stt → List D → (D → Stt → Prop) → Prop} {k_l_take : Nat} (C_l_take : Cal P w K mg base "_law_take" ["state", "most"] (spS R_l_take) k_l_take) (h_l_take : k_l_take ≤ k) :
    PSs (cxOf CX0 P w K mg base N_l_clouds "_law_clouds" (defScope s_l_clouds) f cdv A outer s H E).nox (defBody s_l_clouds) (T_l_clouds K R_l_take) :=
  have nd := sc_l_clouds.nd
  (pss_cons (ps_set (i := 2) nd rfl (by first | exact Or.inl rfl | exact Or.inr rfl) (pe_lst pa_nil))
    (pss_cons (ps_for PassesOwn.never rfl (pi_range1 (by rfl) bn.range_ (pa_cons (pe_cal C_l_take (hr.mono h_l_take) (by rfl) (pa_cons (pv 0) (pa_cons (pe_op op_plus (pv 1) pe_int) pa_nil))) pa_nil)) (pg_name (i := 3) nd rfl (by first | exact Or.inl rfl | exact Or.inr rfl))
      (pss_one (ps_expr (pe_bm PySem.F.plainAttrs_list PySem.F.slot_list_append PySem.F.type_list_append mt_append (pv 2) (pa_cons (pe_tup (pa_cons (pe_cal C_l_take (hr.mono h_l_take) (by rfl) (pa_cons (pv 0) (pa_cons pe_int pa_nil))) (pa_cons (pe_cal C_l_take (hr.mono h_l_take) (by rfl) (pa_cons (pv 0) (pa_cons pe_int pa_nil))) (pa_cons (pe_cal C_l_take (hr.mono h_l_take) (by rfl) (pa_cons (pv 0) (pa_cons pe_int pa_nil))) (pa_cons (pe_cal C_l_take (hr.mono h_l_take) (by rfl) (pa_cons (pv 0) (pa_cons pe_int pa_nil))) (pa_cons (pe_cal C_l_take (hr.mono h_l_take) (by rfl) (pa_cons (pv 0) (pa_cons pe_int pa_nil))) (pa_cons (pe_cal C_l_take (hr.mono h_l_take) (by rfl) (pa_cons (pv 0) (pa_cons pe_int pa_nil))) pa_nil))))))) pa_nil)))))
    (pss_one (ps_ret (pv 2)))))
theorem ok_l_clouds {R : Stt → List D → (D → Stt → Prop) → Prop} (F : Fun K "_law_clouds" "_law_clouds" s_l_clouds f fd) (bn : Bn mg) {R_l_take : Stt → List D → (D → Stt → Prop) → Prop} {k_l_take : Nat} (C_l_take : Cal P w K mg base "_law_take" ["state", "most"] (spS R_l_take) k_l_take) (h_l_take : k_l_take ≤ k) (len : ∀ S ds Z, R S ds Z → ds.length + 1 = 2) (sx : ∀ S ds Z, R S ds Z → SX (T_l_clouds K R_l_take) (.st S :: (ds.map .val ++ List.replicate (N_l_clouds.length - (ds.length + 1)) .emp)) { nx := fun ρ' => ∃ S', ρ'[0]? = some (.st S') ∧ Z .none S', rt := fun d ρ' => ∃ S', ρ'[0]? = some (.st S') ∧ Z d S' }) :
    FnOk P w K mg base CX0 (k + 1) f fd ["state", "most"] (spS R) := fn_state F sc_l_clouds len fun cdv A outer s H E hr => ⟨_, ps_l_clouds bn hr C_l_take h_l_take, sx⟩
theorem ps_l_thick {cdv : Value} {A : Around} {outer : List PySem.Env} {s : Shared} {H : Hp} {E : XK} (bn : Bn mg) (hr : Room k (A.deeper (PyProof.Rows.envOfC "_law_thick" (defScope s_l_thick) s.heap.objs.size f cdv))) :
    PSs (cxOf CX0 P w K mg base N_l_thick "_law_thick" (defScope s_l_thick) f cdv A outer s H E).nox (defBody s_l_thick) (T_l_thick K) :=
  have nd := sc_l_thick.nd
  (pss_cons (ps_set (i := 4) nd rfl (by first | exact Or.inl rfl | exact Or.inr rfl) pe_int)
    (pss_cons (ps_for PassesOwn.never rfl (pi_list (pv 0)) (pg_tup (n := 6) rfl (pgs_cons (pg_name (i := 5) nd rfl (by first | exact Or.inl rfl | exact Or.inr rfl)) (pgs_cons (pg_name (i := 6) nd rfl (by first | exact Or.inl rfl | exact Or.inr rfl)) (pgs_cons (pg_name (i := 7) nd rfl (by first | exact Or.inl rfl | exact Or.inr rfl)) (pgs_cons (pg_name (i := 8) nd rfl (by first | exact Or.inl rfl | exact Or.inr rfl)) (pgs_cons (pg_name (i := 9) nd rfl (by first | exact Or.inl rfl | exact Or.inr rfl)) (pgs_cons (pg_name (i := 10) nd rfl (by first | exact Or.inl rfl | exact Or.inr rfl)) pgs_nil)))))))
      (pss_cons (ps_set (i := 11) nd rfl (by first | exact Or.inl rfl | exact Or.inr rfl) (pe_op op_sub (pv 2) (pv 7)))
    (pss_one (ps_if (PW.pt (pw_and (pt_cmpR op_ge (pv 11) pe_int (nomark _)) (pw_and (pt_cmpR op_le (pe_callB cb_abs (by rfl) bn.abs_ (by decide +kernel) (pa_cons (pe_op op_sub (pe_op op_sub (pe_ix ix_any (pv 3) pe_int (fun _ _ => rfl)) (pv 5)) (pe_op op_mul (pe_ix ix_any (pv 1) pe_int (fun _ _ => rfl)) (pv 11))) pa_nil)) (pv 8) (nomark _)) (pw_and1 (pt_cmpR op_le (pe_callB cb_abs (by rfl) bn.abs_ (by decide +kernel) (pa_cons (pe_op op_sub (pe_op op_sub (pe_ix ix_any (pv 3) pe_int (fun _ _ => rfl)) (pv 6)) (pe_op op_mul (pe_ix ix_any (pv 1) pe_int (fun _ _ => rfl)) (pv 11))) pa_nil)) (pv 8) (nomark _))))))
      (pss_one (ps_set (i := 4) nd rfl (by first | exact Or.inl rfl | exact Or.inr rfl) (pe_op op_plus (pv 4) (pe_callB (cb_max2 rfl) (by rfl) bn.max_ (by decide +kernel) (pa_cons pe_int (pa_cons (pe_op op_sub (pv 9) (pe_op op_mul (pv 10) (pv 11))) pa_nil))))))
      pss_nil))))
    (pss_one (ps_ret (pv 4)))))
theorem ok_l_thick {R : List D → (D → Prop) → Prop} (F : Fun K "_law_thick" "_law_thick" s_l_thick f fd) (bn : Bn mg) (len : ∀ ds Z, R ds Z → ds.length = 4) (sx : ∀ ds Z, R ds Z → SX (T_l_thick K) (startE N_l_thick ds) { nx := fun _ => Z .none, rt := fun d _ => Z d }) :
    FnOk P w K mg base CX0 (k + 1) f fd ["clouds", "wind", "tick", "cell"] (spP R) := fn_pure F sc_l_thick len fun cdv A outer s H E hr => ⟨_, ps_l_thick bn hr, sx⟩
theorem ps_l_between {cdv : Value} {A : Around} {outer : List PySem.Env} {s : Shared} {H : Hp} {E : XK} (bn : Bn mg) (hr : Room k (A.deeper (PyProof.Rows.envOfC "_law_between" (defScope s_l_between) s.heap.objs.size f cdv))) :
    PSs (cxOf CX0 P w K mg base N_l_between "_law_between" (defScope s_l_between) f cdv A outer s H E).nox (defBody s_l_between) (T_l_between K) :=
  have nd := sc_l_between.nd
  (pss_cons (ps_par (i := 2) (j := 3) rfl nd rfl rfl (by decide) rfl rfl (pa_cons (pe_callB (cb_min2 rfl) (by rfl) bn.min_ (by decide +kernel) (pa_cons (pe_ix ix_any (pv 0) pe_int (fun _ _ => rfl)) (pa_cons (pe_ix ix_any (pv 1) pe_int (fun _ _ => rfl)) pa_nil))) (pa_cons (pe_callB (cb_max2 rfl) (by rfl) bn.max_ (by decide +kernel) (pa_cons (pe_ix ix_any (pv 0) pe_int (fun _ _ => rfl)) (pa_cons (pe_ix ix_any (pv 1) pe_int (fun _ _ => rfl)) pa_nil))) pa_nil)) (by rfl))
    (pss_cons (ps_par (i := 4) (j := 5) rfl nd rfl rfl (by decide) rfl rfl (pa_cons (pe_callB (cb_min2 rfl) (by rfl) bn.min_ (by decide +kernel) (pa_cons (pe_ix ix_any (pv 0) pe_int (fun _ _ => rfl)) (pa_cons (pe_ix ix_any (pv 1) pe_int (fun _ _ => rfl)) pa_nil))) (pa_cons (pe_callB (cb_max2 rfl) (by rfl) bn.max_ (by decide +kernel) (pa_cons (pe_ix ix_any (pv 0) pe_int (fun _ _ => rfl)) (pa_cons (pe_ix ix_any (pv 1) pe_int (fun _ _ => rfl)) pa_nil))) pa_nil)) (by rfl))
    (pss_cons (ps_set (i := 6) nd rfl (by first | exact Or.inl rfl | exact Or.inr rfl) (pe_lst pa_nil))
    (pss_cons (ps_asg (pe_tup (pa_cons (pe_op op_sub (pe_ix ix_any (pv 1) pe_int (fun _ _ => rfl)) (pe_ix ix_any (pv 0) pe_int (fun _ _ => rfl))) (pa_cons (pe_op op_sub (pe_ix ix_any (pv 1) pe_int (fun _ _ => rfl)) (pe_ix ix_any (pv 0) pe_int (fun _ _ => rfl))) pa_nil))) (pg_tup (n := 2) rfl (pgs_cons (pg_name (i := 7) nd rfl (by first | exact Or.inl rfl | exact Or.inr rfl)) (pgs_cons (pg_name (i := 8) nd rfl (by first | exact Or.inl rfl | exact Or.inr rfl)) pgs_nil))))
    (pss_cons (ps_for PassesOwn.never rfl (pi_range2 (by rfl) bn.range_ (pa_cons (pv 2) (pa_cons (pe_op op_plus (pv 3) pe_int) pa_nil))) (pg_name (i := 9) nd rfl (by first | exact Or.inl rfl | exact Or.inr rfl))
      (pss_one (ps_for PassesOwn.never rfl (pi_range2 (by rfl) bn.range_ (pa_cons (pv 4) (pa_cons (pe_op op_plus (pv 5) pe_int) pa_nil))) (pg_name (i := 10) nd rfl (by first | exact Or.inl rfl | exact Or.inr rfl))
      (pss_cons (ps_set (i := 11) nd rfl (by first | exact Or.inl rfl | exact Or.inr rfl) (pe_lst pa_nil))
    (pss_cons (ps_for PassesOwn.never rfl (pi_list (pe_lst (pa_cons (pe_op op_sub (pe_op op_mul pe_int (pv 9)) pe_int) (pa_cons (pe_op op_plus (pe_op op_mul pe_int (pv 9)) pe_int) pa_nil)))) (pg_name (i := 12) nd rfl (by first | exact Or.inl rfl | exact Or.inr rfl))
      (pss_one (ps_expr (pe_bm PySem.F.plainAttrs_list PySem.F.slot_list_extend PySem.F.type_list_extend mt_extR (pv 11) (pa_cons (pe_lc (own := [("b", 13)]) (g := (gName 13)) (tt := tYes) rfl nd (pi_list (pe_lst (pa_cons (pe_op op_sub (pe_op op_mul pe_int (pv 10)) pe_int) (pa_cons (pe_op op_plus (pe_op op_mul pe_int (pv 10)) pe_int) pa_nil)))) (blkOk_by (N := N_l_between) (sc := defScope s_l_between) (by decide +kernel)) (fun _ _ _ _ _ => (pg_name (i := 13) nd rfl (by first | exact Or.inl rfl | exact Or.inr rfl))) (fun _ _ _ _ _ => pts_nil) (fun _ _ _ _ _ => (pe_op op_sub (pe_op op_mul (pe_op op_sub (pv 12) (pe_op op_mul pe_int (pe_ix ix_any (pv 0) pe_int (fun _ _ => rfl)))) (pv 8)) (pe_op op_mul (pe_op op_sub (pv 13) (pe_op op_mul pe_int (pe_ix ix_any (pv 0) pe_int (fun _ _ => rfl)))) (pv 7))))) pa_nil)))))
    (pss_one (ps_if (pt_chain op_lt op_lt (pe_callB (cb_minD rfl hr.units) (by rfl) bn.min_ (by decide +kernel) (pa_cons (pv 11) pa_nil)) pe_int (pe_callB (cb_maxD rfl hr.units) (by rfl) bn.max_ (by decide +kernel) (pa_cons (pv 11) pa_nil)))
      (pss_one (ps_expr (pe_bm PySem.F.plainAttrs_list PySem.F.slot_list_append PySem.F.type_list_append mt_append (pv 6) (pa_cons (pe_tup (pa_cons (pe_op op_plus (pe_callB cb_abs (by rfl) bn.abs_ (by decide +kernel) (pa_cons (pe_op op_sub (pv 9) (pe_ix ix_any (pv 0) pe_int (fun _ _ => rfl))) pa_nil)) (pe_callB cb_abs (by rfl) bn.abs_ (by decide +kernel) (pa_cons (pe_op op_sub (pv 10) (pe_ix ix_any (pv 0) pe_int (fun _ _ => rfl))) pa_nil))) (pa_cons (pe_tup (pa_cons (pv 9) (pa_cons (pv 10) pa_nil))) pa_nil))) pa_nil))))
      pss_nil)))))))
    (pss_one (ps_ret (pe_ifExp (pt_cmpR (op_neP hr.units) (pv 0) (pv 1) (nomark _)) (pe_lc (own := [("far", 15), ("cell", 14)]) (g := (gTup K 2 (gCons (gName 15) (gCons (gName 14) gNil)))) (tt := tYes) rfl nd (pi_list (pe_callB (cb_sortD hr.units) (by rfl) bn.sorted_ (by decide +kernel) (pa_cons (pv 6) pa_nil))) (blkOk_by (N := N_l_between) (sc := defScope s_l_between) (by decide +kernel)) (fun _ _ _ _ _ => (pg_tup (n := 2) rfl (pgs_cons (pg_name (i := 15) nd rfl (by first | exact Or.inl rfl | exact Or.inr rfl)) (pgs_cons (pg_name (i := 14) nd rfl (by first | exact Or.inl rfl | exact Or.inr rfl)) pgs_nil)))) (fun _ _ _ _ _ => pts_nil) (fun _ _ _ _ _ => (pv 14))) (pe_lst (pa_cons (pv 0) pa_nil))))))))))
theorem ok_l_between {R : List D → (D → Prop) → Prop} (F : Fun K "_law_between" "_law_between" s_l_between f fd) (bn : Bn mg) (len : ∀ ds Z, R ds Z → ds.length = 2) (sx : ∀ ds Z, R ds Z → SX (T_l_between K) (startE N_l_between ds) { nx := fun _ => Z .none, rt := fun d _ => Z d }) :
    FnOk P w K mg base CX0 (k + 1) f fd ["one", "other"] (spP R) := fn_pure F sc_l_between len fun cdv A outer s H E hr => ⟨_, ps_l_between bn hr, sx⟩
theorem ps_l_dim {cdv : Value} {A : Around} {outer : List PySem.Env} {s : Shared} {H : Hp} {E : XK} (bn : Bn mg) (hr : Room k (A.deeper (PyProof.Rows.envOfC "_law_dim" (defScope s_l_dim) s.heap.objs.size f cdv))) {R_l_thick : List D → (D → Prop) → Prop} {k_l_thick : Nat} (C_l_thick : Cal P w K mg base "_law_thick" ["clouds", "wind", "tick", "cell"] (spP R_l_thick) k_l_thick) (h_l_thick : k_l_thick ≤ k) {R_l_between : List D → (D → Prop) → Prop} {k_l_between : Nat} (C_l_between : Cal P w K mg base "_law_between" ["one", "other"] (spP R_l_between) k_l_between) (h_l_between : k_l_between ≤ k) :
    PSs (cxOf CX0 P w K mg base N_l_dim "_law_dim" (defScope s_l_dim) f cdv A outer s H E).nox (defBody s_l_dim) (T_l_dim K R_l_thick R_l_between) :=
  have nd := sc_l_dim.nd
  (pss_one (ps_ret (pe_callB (cr_sum rfl) (by rfl) bn.sum_ (by decide +kernel) (pa_cons (pe_lc (own := [("cell", 5)]) (g := (gName 5)) (tt := tYes) rfl nd (pi_list (pe_cal C_l_between (hr.mono h_l_between) (by rfl) (pa_cons (pv 3) (pa_cons (pv 4) pa_nil)))) (blkOk_by (N := N_l_dim) (sc := defScope s_l_dim) (by decide +kernel)) (fun _ _ _ _ _ => (pg_name (i := 5) nd rfl (by first | exact Or.inl rfl | exact Or.inr rfl))) (fun _ _ _ _ _ => pts_nil) (fun _ _ _ _ _ => (pe_cal C_l_thick (hr.mono h_l_thick) (by rfl) (pa_cons (pv 0) (pa_cons (pv 1) (pa_cons (pv 2) (pa_cons (pv 5) pa_nil))))))) pa_nil))))
theorem ok_l_dim {R : List D → (D → Prop) → Prop} (F : Fun K "_law_dim" "_law_dim" s_l_dim f fd) (bn : Bn mg) {R_l_thick : List D → (D → Prop) → Prop} {k_l_thick : Nat} (C_l_thick : Cal P w K mg base "_law_thick" ["clouds", "wind", "tick", "cell"] (spP R_l_thick) k_l_thick) (h_l_thick : k_l_thick ≤ k) {R_l_between : List D → (D → Prop) → Prop} {k_l_between : Nat} (C_l_between : Cal P w K mg base "_law_between" ["one", "other"] (spP R_l_between) k_l_between) (h_l_between : k_l_between ≤ k) (len : ∀ ds Z, R ds Z → ds.length = 5) (sx : ∀ ds Z, R ds Z → SX (T_l_dim K R_l_thick R_l_between) (startE N_l_dim ds) { nx := fun _ => Z .none, rt := fun d _ => Z d }) :
    FnOk P w K mg base CX0 (k + 1) f fd ["clouds", "wind", "tick", "one", "other"] (spP R) := fn_pure F sc_l_dim len fun cdv A outer s H E hr => ⟨_, ps_l_dim bn hr C_l_thick h_l_thick C_l_between h_l_between, sx⟩
theorem ps_law {cdv : Value} {A : Around} {outer : List PySem.Env} {s : Shared} {H : Hp} {E : XK} (bn : Bn mg) (hr : Room k (A.deeper (PyProof.Rows.envOfC "law" (defScope s_law) s.heap.objs.size f cdv))) {R_l_state : List D → (Stt → Prop) → Prop} {k_l_state : Nat} (C_l_state : Cal P w K mg base "_law_state" ["script"] (spN R_l_state) k_l_state) (h_l_state : k_l_state ≤ k) {R_l_clouds : Stt → List D → (D → Stt → Prop) → Prop} {k_l_clouds : Nat} (C_l_clouds : Cal P w K mg base "_law_clouds" ["state", "most"] (spS R_l_clouds) k_l_clouds) (h_l_clouds : k_l_clouds ≤ k) {R_l_take : Stt → List D → (D → Stt → Prop) → Prop} {k_l_take : Nat} (C_l_take : Cal P w K mg base "_law_take" ["state", "most"] (spS R_l_take) k_l_take) (h_l_take : k_l_take ≤ k) {R_l_dim : List D → (D → Prop) → Prop} {k_l_dim : Nat} (C_l_dim : Cal P w K mg base "_law_dim" ["clouds", "wind", "tick", "one", "other"] (spP R_l_dim) k_l_dim) (h_l_dim : k_l_dim ≤ k) {R_latest_smoke : List D → (D → Prop) → Prop} {k_latest_smoke : Nat} (C_latest_smoke : Cal P w K mg base "latest_smoke" ["clouds"] (spP R_latest_smoke) k_latest_smoke) (h_latest_smoke : k_latest_smoke ≤ k) {R_thickness : List D → (D → Prop) → Prop} {k_thickness : Nat} (C_thickness : Cal P w K mg base "thickness" ["clouds", "wind", "tick", "cell"] (spP R_thickness) k_thickness) (h_thickness : k_thickness ≤ k) {R_l_thick : List D → (D → Prop) → Prop} {k_l_thick : Nat} (C_l_thick : Cal P w K mg base "_law_thick" ["clouds", "wind", "tick", "cell"] (spP R_l_thick) k_l_thick) (h_l_thick : k_l_thick ≤ k) {R_first_sight : List D → (D → Prop) → Prop} {k_first_sight : Nat} (C_first_sight : Cal P w K mg base "first_sight" ["clouds", "wind", "ticks", "one", "other", "most"] (spP R_first_sight) k_first_sight) (h_first_sight : k_first_sight ≤ k) {R_worst_look : List D → (D → Prop) → Prop} {k_worst_look : Nat} (C_worst_look : Cal P w K mg base "worst_look" ["clouds", "wind", "looks"] (spP R_worst_look) k_worst_look) (h_worst_look : k_worst_look ≤ k) {R_cells_between : List D → (D → Prop) → Prop} {k_cells_between : Nat} (C_cells_between : Cal P w K mg base "cells_between" ["one", "other"] (spP R_cells_between) k_cells_between) (h_cells_between : k_cells_between ≤ k) {R_l_between : List D → (D → Prop) → Prop} {k_l_between : Nat} (C_l_between : Cal P w K mg base "_law_between" ["one", "other"] (spP R_l_between) k_l_between) (h_l_between : k_l_between ≤ k) {R_dimmed : List D → (D → Prop) → Prop} {k_dimmed : Nat} (C_dimmed : Cal P w K mg base "dimmed" ["clouds", "wind", "tick", "one", "other"] (spP R_dimmed) k_dimmed) (h_dimmed : k_dimmed ≤ k) {R_sees : List D → (D → Prop) → Prop} {k_sees : Nat} (C_sees : Cal P w K mg base "sees" ["clouds", "wind", "tick", "one", "other", "most"] (spP R_sees) k_sees) (h_sees : k_sees ≤ k) :
    PSs (cxOf CX0 P w K mg base N_law "law" (defScope s_law) f cdv A outer s H E).nox (defBody s_law) (T_law K R_l_state R_l_clouds R_l_take R_l_dim R_latest_smoke R_thickness R_l_thick R_first_sight R_worst_look R_cells_between R_l_between R_dimmed R_sees) :=
  have nd := sc_law.nd
  (pss_cons (ps_set (i := 1) nd rfl (by first | exact Or.inl rfl | exact Or.inr rfl) (pe_cal C_l_state (hr.mono h_l_state) (by rfl) (pa_cons (pv 0) pa_nil)))
    (pss_cons (ps_set (i := 2) nd rfl (by first | exact Or.inl rfl | exact Or.inr rfl) (pe_cal C_l_clouds (hr.mono h_l_clouds) (by rfl) (pa_cons (pv 1) (pa_cons pe_int pa_nil))))
    (pss_cons (ps_set (i := 3) nd rfl (by first | exact Or.inl rfl | exact Or.inr rfl) (pe_callTy cb_list (by rfl) bn.list_ (by decide +kernel) (pa_cons (pv 2) pa_nil)))
    (pss_cons (ps_set (i := 4) nd rfl (by first | exact Or.inl rfl | exact Or.inr rfl) (pe_tup (pa_cons (pe_op op_sub (pe_cal C_l_take (hr.mono h_l_take) (by rfl) (pa_cons (pv 1) (pa_cons pe_int pa_nil))) pe_int) (pa_cons (pe_op op_sub (pe_cal C_l_take (hr.mono h_l_take) (by rfl) (pa_cons (pv 1) (pa_cons pe_int pa_nil))) pe_int) pa_nil))))
    (pss_cons (ps_set (i := 5) nd rfl (by first | exact Or.inl rfl | exact Or.inr rfl) (pe_cal C_l_take (hr.mono h_l_take) (by rfl) (pa_cons (pv 1) (pa_cons pe_int pa_nil))))
    (pss_cons (ps_for PassesOwn.never rfl (pi_range1 (by rfl) bn.range_ (pa_cons pe_int pa_nil)) (pg_name (i := 6) nd rfl (by first | exact Or.inl rfl | exact Or.inr rfl))
      (pss_cons (ps_asg (pe_tup (pa_cons (pe_tup (pa_cons (pe_cal C_l_take (hr.mono h_l_take) (by rfl) (pa_cons (pv 1) (pa_cons pe_int pa_nil))) (pa_cons (pe_cal C_l_take (hr.mono h_l_take) (by rfl) (pa_cons (pv 1) (pa_cons pe_int pa_nil))) pa_nil))) (pa_cons (pe_tup (pa_cons (pe_cal C_l_take (hr.mono h_l_take) (by rfl) (pa_cons (pv 1) (pa_cons pe_int pa_nil))) (pa_cons (pe_cal C_l_take (hr.mono h_l_take) (by rfl) (pa_cons (pv 1) (pa_cons pe_int pa_nil))) pa_nil))) pa_nil))) (pg_tup (n := 2) rfl (pgs_cons (pg_name (i := 7) nd rfl (by first | exact Or.inl rfl | exact Or.inr rfl)) (pgs_cons (pg_name (i := 8) nd rfl (by first | exact Or.inl rfl | exact Or.inr rfl)) pgs_nil))))
    (pss_cons (ps_if (PW.pt (pw_or (pt_cmpR (op_neP hr.units) (pe_cal C_cells_between (hr.mono h_cells_between) (by rfl) (pa_cons (pv 7) (pa_cons (pv 8) pa_nil))) (pe_cal C_l_between (hr.mono h_l_between) (by rfl) (pa_cons (pv 7) (pa_cons (pv 8) pa_nil))) (nomark _)) (pw_or1 (pt_cmpR (op_neP hr.units) (pe_revL (pe_cal C_cells_between (hr.mono h_cells_between) (by rfl) (pa_cons (pv 8) (pa_cons (pv 7) pa_nil)))) (pe_cal C_l_between (hr.mono h_l_between) (by rfl) (pa_cons (pv 7) (pa_cons (pv 8) pa_nil))) (nomark _)))))
      (pss_one (ps_ret pe_bl))
      pss_nil)
    (pss_cons (ps_if (pt_cmpR (op_neP hr.units) (pe_cal C_thickness (hr.mono h_thickness) (by rfl) (pa_cons (pv 2) (pa_cons (pv 4) (pa_cons (pv 5) (pa_cons (pv 7) pa_nil))))) (pe_cal C_l_thick (hr.mono h_l_thick) (by rfl) (pa_cons (pv 2) (pa_cons (pv 4) (pa_cons (pv 5) (pa_cons (pv 7) pa_nil))))) (nomark _))
      (pss_one (ps_ret pe_bl))
      pss_nil)
    (pss_cons (ps_set (i := 9) nd rfl (by first | exact Or.inl rfl | exact Or.inr rfl) (pe_cal C_l_dim (hr.mono h_l_dim) (by rfl) (pa_cons (pv 2) (pa_cons (pv 4) (pa_cons (pv 5) (pa_cons (pv 7) (pa_cons (pv 8) pa_nil)))))))
    (pss_cons (ps_set (i := 10) nd rfl (by first | exact Or.inl rfl | exact Or.inr rfl) (pe_cal C_l_take (hr.mono h_l_take) (by rfl) (pa_cons (pv 1) (pa_cons pe_int pa_nil))))
    (pss_cons (ps_if (PW.pt (pw_or (pt_cmpR (op_neP hr.units) (pe_cal C_dimmed (hr.mono h_dimmed) (by rfl) (pa_cons (pv 2) (pa_cons (pv 4) (pa_cons (pv 5) (pa_cons (pv 7) (pa_cons (pv 8) pa_nil)))))) (pv 9) (nomark _)) (pw_or1 (pt_cmpR (op_neP hr.units) (pe_cal C_sees (hr.mono h_sees) (by rfl) (pa_cons (pv 2) (pa_cons (pv 4) (pa_cons (pv 5) (pa_cons (pv 7) (pa_cons (pv 8) (pa_cons (pv 10) pa_nil))))))) (pe_cmpR op_le (pv 9) (pv 10) (nomark _)) (nomark _)))))
      (pss_one (ps_ret pe_bl))
      pss_nil)
    (pss_cons (ps_setLc (i := 11) (own := [("t", 12)]) (g := (gName 12)) (tt := (tTest (tOp (rI0 fun i j => .bl (decide (i ≤ j))) (tCall (spP R_l_dim) [] E0 (tCons (tVar 2) (tCons (tVar 4) (tCons (tVar 12) (tCons (tVar 7) (tCons (tVar 8) tNil)))))) (tVar 10)))) rfl nd rfl rfl (sw_true rfl rfl rfl (by decide +kernel)) (pi_range2 (by rfl) bn.range_ (pa_cons pe_int (pa_cons pe_int pa_nil))) (blkOk_by (N := N_law) (sc := defScope s_law) (by decide +kernel)) (fun _ _ _ _ _ => (pg_name (i := 12) nd rfl (by first | exact Or.inl rfl | exact Or.inr rfl))) (fun _ _ _ _ _ => (pts_one (pt_cmpR op_le (pe_cal C_l_dim (hr.mono h_l_dim) (by rfl) (pa_cons (pv 2) (pa_cons (pv 4) (pa_cons (pv 12) (pa_cons (pv 7) (pa_cons (pv 8) pa_nil)))))) (pv 10) (nomark _)))) (fun _ _ _ _ _ => (pv 12)))
    (pss_one (ps_if (pt_cmpR (op_neP hr.units) (pe_cal C_first_sight (hr.mono h_first_sight) (by rfl) (pa_cons (pv 2) (pa_cons (pv 4) (pa_cons (pe_tup (pa_cons pe_int (pa_cons pe_int pa_nil))) (pa_cons (pv 7) (pa_cons (pv 8) (pa_cons (pv 10) pa_nil))))))) (pe_ifExp (pt_cmpR op_gt (pe_callB cb_len (by rfl) bn.len_ (by decide +kernel) (pa_cons (pv 11) pa_nil)) pe_int (nomark _)) (pe_ix ix_any (pv 11) pe_int (fun _ _ => rfl)) pe_non) (nomark _))
      (pss_one (ps_ret pe_bl))
      pss_nil))))))))))
    (pss_cons (ps_setLc (i := 13) (own := [("cloud", 14)]) (g := (gName 14)) (tt := (tAnd (tTest (tOp (rI0 fun i j => .bl (decide (j < i))) (tOp (rIxA K) (tVar 14) (tC (.int 4))) (tC (.int 0)))) (tTest (tOp (rEqP K) (tOp (rIxA K) (tVar 14) (tC (.int 5))) (tC (.int 0)))))) rfl nd rfl rfl (sw_true rfl rfl rfl (by decide +kernel)) (pi_list (pv 2)) (blkOk_by (N := N_law) (sc := defScope s_law) (by decide +kernel)) (fun _ _ _ _ _ => (pg_name (i := 14) nd rfl (by first | exact Or.inl rfl | exact Or.inr rfl))) (fun _ _ _ _ _ => (pts_one (PW.pt (pw_and (pt_cmpR op_gt (pe_ix ix_any (pv 14) pe_int (fun _ _ => rfl)) pe_int (nomark _)) (pw_and1 (pt_cmpR (op_eqP hr.units) (pe_ix ix_any (pv 14) pe_int (fun _ _ => rfl)) pe_int (nomark _))))))) (fun _ _ _ _ _ => (pv 14)))
    (pss_cons (ps_set (i := 15) nd rfl (by first | exact Or.inl rfl | exact Or.inr rfl) (pe_lst (pa_cons (pe_op op_sub pe_int pe_int) pa_nil)))
    (pss_cons (ps_for PassesOwn.never rfl (pi_list (pv 2)) (pg_tup (n := 6) rfl (pgs_cons (pg_name (i := 16) nd rfl (by first | exact Or.inl rfl | exact Or.inr rfl)) (pgs_cons (pg_name (i := 17) nd rfl (by first | exact Or.inl rfl | exact Or.inr rfl)) (pgs_cons (pg_name (i := 18) nd rfl (by first | exact Or.inl rfl | exact Or.inr rfl)) (pgs_cons (pg_name (i := 19) nd rfl (by first | exact Or.inl rfl | exact Or.inr rfl)) (pgs_cons (pg_name (i := 20) nd rfl (by first | exact Or.inl rfl | exact Or.inr rfl)) (pgs_cons (pg_name (i := 21) nd rfl (by first | exact Or.inl rfl | exact Or.inr rfl)) pgs_nil)))))))
      (pss_one (ps_if (PW.pt (pw_and (pt_cmpR op_gt (pv 20) pe_int (nomark _)) (pw_and1 (pt_cmpR op_gt (pv 21) pe_int (nomark _)))))
      (pss_one (ps_expr (pe_bm PySem.F.plainAttrs_list PySem.F.slot_list_append PySem.F.type_list_append mt_append (pv 15) (pa_cons (pe_callB (cb_maxD rfl hr.units) (by rfl) bn.max_ (by decide +kernel) (pa_cons (pe_lc (own := [("t", 12)]) (g := (gName 12)) (tt := (tTest (tOp (rI0 fun i j => .bl (decide (j < i))) (tOp (rI0 fun i j => .int (i - j)) (tVar 20) (tOp (rI CMul fun i j => .int (i * j)) (tVar 21) (tOp (rI0 fun i j => .int (i - j)) (tVar 12) (tVar 18)))) (tC (.int 0))))) rfl nd (pi_range2 (by rfl) bn.range_ (pa_cons (pv 18) (pa_cons (pe_op op_plus (pv 18) pe_int) pa_nil))) (blkOk_by (N := N_law) (sc := defScope s_law) (by decide +kernel)) (fun _ _ _ _ _ => (pg_name (i := 12) nd rfl (by first | exact Or.inl rfl | exact Or.inr rfl))) (fun _ _ _ _ _ => (pts_one (pt_cmpR op_gt (pe_op op_sub (pv 20) (pe_op op_mul (pv 21) (pe_op op_sub (pv 12) (pv 18)))) pe_int (nomark _)))) (fun _ _ _ _ _ => (pv 12))) pa_nil)) pa_nil))))
      pss_nil)))
    (pss_cons (ps_if (pt_cmpR (op_neP hr.units) (pe_cal C_latest_smoke (hr.mono h_latest_smoke) (by rfl) (pa_cons (pv 2) pa_nil)) (pe_ifExp (pt_cmpR op_gt (pe_callB cb_len (by rfl) bn.len_ (by decide +kernel) (pa_cons (pv 13) pa_nil)) pe_int (nomark _)) pe_non (pe_callB (cb_maxD rfl hr.units) (by rfl) bn.max_ (by decide +kernel) (pa_cons (pv 15) pa_nil))) (nomark _))
      (pss_one (ps_ret pe_bl))
      pss_nil)
    (pss_cons (ps_setLc (i := 22) (own := [("k", 23)]) (g := (gName 23)) (tt := tYes) rfl nd rfl rfl (sw_true rfl rfl rfl (by decide +kernel)) (pi_range1 (by rfl) bn.range_ (pa_cons (pe_cal C_l_take (hr.mono h_l_take) (by rfl) (pa_cons (pv 1) (pa_cons pe_int pa_nil))) pa_nil)) (blkOk_by (N := N_law) (sc := defScope s_law) (by decide +kernel)) (fun _ _ _ _ _ => (pg_name (i := 23) nd rfl (by first | exact Or.inl rfl | exact Or.inr rfl))) (fun _ _ _ _ _ => pts_nil) (fun _ _ _ _ _ => (pe_tup (pa_cons (pe_cal C_l_take (hr.mono h_l_take) (by rfl) (pa_cons (pv 1) (pa_cons pe_int pa_nil))) (pa_cons (pe_tup (pa_cons (pe_cal C_l_take (hr.mono h_l_take) (by rfl) (pa_cons (pv 1) (pa_cons pe_int pa_nil))) (pa_cons (pe_cal C_l_take (hr.mono h_l_take) (by rfl) (pa_cons (pv 1) (pa_cons pe_int pa_nil))) pa_nil))) (pa_cons (pe_tup (pa_cons (pe_cal C_l_take (hr.mono h_l_take) (by rfl) (pa_cons (pv 1) (pa_cons pe_int pa_nil))) (pa_cons (pe_cal C_l_take (hr.mono h_l_take) (by rfl) (pa_cons (pv 1) (pa_cons pe_int pa_nil))) pa_nil))) pa_nil))))))
    (pss_cons (ps_setLc (i := 24) (own := [("t", 12), ("one", 7), ("other", 8)]) (g := (gTup K 3 (gCons (gName 12) (gCons (gName 7) (gCons (gName 8) gNil))))) (tt := tYes) rfl nd rfl rfl (sw_true rfl rfl rfl (by decide +kernel)) (pi_list (pv 22)) (blkOk_by (N := N_law) (sc := defScope s_law) (by decide +kernel)) (fun _ _ _ _ _ => (pg_tup (n := 3) rfl (pgs_cons (pg_name (i := 12) nd rfl (by first | exact Or.inl rfl | exact Or.inr rfl)) (pgs_cons (pg_name (i := 7) nd rfl (by first | exact Or.inl rfl | exact Or.inr rfl)) (pgs_cons (pg_name (i := 8) nd rfl (by first | exact Or.inl rfl | exact Or.inr rfl)) pgs_nil))))) (fun _ _ _ _ _ => pts_nil) (fun _ _ _ _ _ => (pe_cal C_l_dim (hr.mono h_l_dim) (by rfl) (pa_cons (pv 2) (pa_cons (pv 4) (pa_cons (pv 12) (pa_cons (pv 7) (pa_cons (pv 8) pa_nil))))))))
    (pss_one (ps_ret (pe_and (pe_cmpR (op_eqP hr.units) (pe_cal C_worst_look (hr.mono h_worst_look) (by rfl) (pa_cons (pv 2) (pa_cons (pv 4) (pa_cons (pv 22) pa_nil)))) (pe_ifExp (pt_cmpR op_gt (pe_callB cb_len (by rfl) bn.len_ (by decide +kernel) (pa_cons (pv 22) pa_nil)) pe_int (nomark _)) (pe_tup (pa_cons (pe_callB (cb_maxD rfl hr.units) (by rfl) bn.max_ (by decide +kernel) (pa_cons (pv 24) pa_nil)) (pa_cons (pe_bm PySem.F.plainAttrs_list PySem.F.slot_list_index PySem.F.type_list_index mt_index (pv 24) (pa_cons (pe_callB (cb_maxD rfl hr.units) (by rfl) bn.max_ (by decide +kernel) (pa_cons (pv 24) pa_nil)) pa_nil)) pa_nil))) (pe_tup (pa_cons pe_int (pa_cons pe_non pa_nil)))) (nomark _)) (pe_one (pe_cmpR (op_eqP hr.units) (pv 2) (pv 3) (nomark _))))))))))))))))))
theorem ok_law {R : List D → (D → Prop) → Prop} (F : Fun K "law" "law" s_law f fd) (bn : Bn mg) {R_l_state : List D → (Stt → Prop) → Prop} {k_l_state : Nat} (C_l_state : Cal P w K mg base "_law_state" ["script"] (spN R_l_state) k_l_state) (h_l_state : k_l_state ≤ k) {R_l_clouds : Stt → List D → (D → Stt → Prop) → Prop} {k_l_clouds : Nat} (C_l_clouds : Cal P w K mg base "_law_clouds" ["state", "most"] (spS R_l_clouds) k_l_clouds) (h_l_clouds : k_l_clouds ≤ k) {R_l_take : Stt → List D → (D → Stt → Prop) → Prop} {k_l_take : Nat} (C_l_take : Cal P w K mg base "_law_take" ["state", "most"] (spS R_l_take) k_l_take) (h_l_take : k_l_take ≤ k) {R_l_dim : List D → (D → Prop) → Prop} {k_l_dim : Nat} (C_l_dim : Cal P w K mg base "_law_dim" ["clouds", "wind", "tick", "one", "other"] (spP R_l_dim) k_l_dim) (h_l_dim : k_l_dim ≤ k) {R_latest_smoke : List D → (D → Prop) → Prop} {k_latest_smoke : Nat} (C_latest_smoke : Cal P w K mg base "latest_smoke" ["clouds"] (spP R_latest_smoke) k_latest_smoke) (h_latest_smoke : k_latest_smoke ≤ k) {R_thickness : List D → (D → Prop) → Prop} {k_thickness : Nat} (C_thickness : Cal P w K mg base "thickness" ["clouds", "wind", "tick", "cell"] (spP R_thickness) k_thickness) (h_thickness : k_thickness ≤ k) {R_l_thick : List D → (D → Prop) → Prop} {k_l_thick : Nat} (C_l_thick : Cal P w K mg base "_law_thick" ["clouds", "wind", "tick", "cell"] (spP R_l_thick) k_l_thick) (h_l_thick : k_l_thick ≤ k) {R_first_sight : List D → (D → Prop) → Prop} {k_first_sight : Nat} (C_first_sight : Cal P w K mg base "first_sight" ["clouds", "wind", "ticks", "one", "other", "most"] (spP R_first_sight) k_first_sight) (h_first_sight : k_first_sight ≤ k) {R_worst_look : List D → (D → Prop) → Prop} {k_worst_look : Nat} (C_worst_look : Cal P w K mg base "worst_look" ["clouds", "wind", "looks"] (spP R_worst_look) k_worst_look) (h_worst_look : k_worst_look ≤ k) {R_cells_between : List D → (D → Prop) → Prop} {k_cells_between : Nat} (C_cells_between : Cal P w K mg base "cells_between" ["one", "other"] (spP R_cells_between) k_cells_between) (h_cells_between : k_cells_between ≤ k) {R_l_between : List D → (D → Prop) → Prop} {k_l_between : Nat} (C_l_between : Cal P w K mg base "_law_between" ["one", "other"] (spP R_l_between) k_l_between) (h_l_between : k_l_between ≤ k) {R_dimmed : List D → (D → Prop) → Prop} {k_dimmed : Nat} (C_dimmed : Cal P w K mg base "dimmed" ["clouds", "wind", "tick", "one", "other"] (spP R_dimmed) k_dimmed) (h_dimmed : k_dimmed ≤ k) {R_sees : List D → (D → Prop) → Prop} {k_sees : Nat} (C_sees : Cal P w K mg base "sees" ["clouds", "wind", "tick", "one", "other", "most"] (spP R_sees) k_sees) (h_sees : k_sees ≤ k) (len : ∀ ds Z, R ds Z → ds.length = 1) (sx : ∀ ds Z, R ds Z → SX (T_law K R_l_state R_l_clouds R_l_take R_l_dim R_latest_smoke R_thickness R_l_thick R_first_sight R_worst_look R_cells_between R_l_between R_dimmed R_sees) (startE N_law ds) { nx := fun _ => Z .none, rt := fun d _ => Z d }) :
    FnOk P w K mg base CX0 (k + 1) f fd ["script"] (spP R) := fn_pure F sc_law len fun cdv A outer s H E hr => ⟨_, ps_law bn hr C_l_state h_l_state C_l_clouds h_l_clouds C_l_take h_l_take C_l_dim h_l_dim C_latest_smoke h_latest_smoke C_thickness h_thickness C_l_thick h_l_thick C_first_sight h_first_sight C_worst_look h_worst_look C_cells_between h_cells_between C_l_between h_l_between C_dimmed h_dimmed C_sees h_sees, sx⟩
end
end Law_k73
namespace Law_k73
open PySem L2 Pu
section
variable {P : Program} {w : World} {K : PySem.W.Frag} {mg : Str → Option Value} {base : Heap} {f : Addr} {fd : FuncData} {k : Nat}
theorem len_l_clouds : ∀ S ds Z, R_clouds S ds Z → ds.length + 1 = 2 := by
  intro S ds Z h
  unfold R_clouds at h
  repeat (obtain ⟨e, h⟩ := h; try subst e)
  all_goals rfl
theorem len_l_thick : ∀ ds Z, R_thick ds Z → ds.length = 4 := by
  intro ds Z h
  unfold R_thick at h
  repeat (obtain ⟨e, h⟩ := h; try subst e)
  all_goals rfl
theorem len_l_between : ∀ ds Z, R_cells ds Z → ds.length = 2 := by
  intro ds Z h
  unfold R_cells at h
  repeat (obtain ⟨e, h⟩ := h; try subst e)
  all_goals rfl
theorem len_l_dim : ∀ ds Z, R_dim ds Z → ds.length = 5 := by
  intro ds Z h
  unfold R_dim at h
  repeat (obtain ⟨e, h⟩ := h; try subst e)
  all_goals rfl
theorem len_latest_smoke : ∀ ds Z, R_latest ds Z → ds.length = 1 := by
  intro ds Z h
  unfold R_latest at h
  repeat (obtain ⟨e, h⟩ := h; try subst e)
  all_goals rfl
theorem len_thickness : ∀ ds Z, R_thick ds Z → ds.length = 4 := by
  intro ds Z h
  unfold R_thick at h
  repeat (obtain ⟨e, h⟩ := h; try subst e)
  all_goals rfl
theorem len_cells_between : ∀ ds Z, R_cells ds Z → ds.length = 2 := by
  intro ds Z h
  unfold R_cells at h
  repeat (obtain ⟨e, h⟩ := h; try subst e)
  all_goals rfl
theorem len_dimmed : ∀ ds Z, R_dim ds Z → ds.length = 5 := by
  intro ds Z h
  unfold R_dim at h
  repeat (obtain ⟨e, h⟩ := h; try subst e)
  all_goals rfl
theorem len_sees : ∀ ds Z, R_sees ds Z → ds.length = 6 := by
  intro ds Z h
  unfold R_sees at h
  repeat (obtain ⟨e, h⟩ := h; try subst e)
  all_goals rfl
theorem len_first_sight : ∀ ds Z, R_first ds Z → ds.length = 6 := by
  intro ds Z h
  unfold R_first at h
  repeat (obtain ⟨e, h⟩ := h; try subst e)
  all_goals rfl
theorem len_worst_look : ∀ ds Z, R_worst ds Z → ds.length = 3 := by
  intro ds Z h
  unfold R_worst at h
  repeat (obtain ⟨e, h⟩ := h; try subst e)
  all_goals rfl
theorem len_law : ∀ ds Z, R_law ds Z → ds.length = 1 := by
  intro ds Z h
  unfold R_law at h
  repeat (obtain ⟨e, h⟩ := h; try subst e)
  all_goals rfl
end
theorem all_mk {l : PySem.W.OpenLaw} {w : World} {K : PySem.W.Frag} {h : Heap} {mg : Str → Option Value} {fa f1 f2 f3 f4 f5 f6 f7 f8 f9 f10 f11 f12 f13 f14 : Addr} (X : K.In h) (G : h.Ns mainGlobals mg) (hfa : mg "law" = some (.ref fa))
    {od1 an1 od2 an2 od3 an3 od4 an4 od5 an5 od6 an6 od7 an7 od8 an8 od9 an9 od10 an10 od11 an11 od12 an12 od13 an13 od14 an14 : Option Addr} {sl1 sl2 sl3 sl4 sl5 sl6 sl7 sl8 sl9 sl10 sl11 sl12 sl13 sl14 : Array (Option Value)}
    {oc1 kV1 dc1 pm1 cd1 ct1 oc2 kV2 dc2 pm2 cd2 ct2 oc3 kV3 dc3 pm3 cd3 ct3 oc4 kV4 dc4 pm4 cd4 ct4 oc5 kV5 dc5 pm5 cd5 ct5 oc6 kV6 dc6 pm6 cd6 ct6 oc7 kV7 dc7 pm7 cd7 ct7 oc8 kV8 dc8 pm8 cd8 ct8 oc9 kV9 dc9 pm9 cd9 ct9 oc10 kV10 dc10 pm10 cd10 ct10 oc11 kV11 dc11 pm11 cd11 ct11 oc12 kV12 dc12 pm12 cd12 ct12 oc13 kV13 dc13 pm13 cd13 ct13 oc14 kV14 dc14 pm14 cd14 ct14 : Value}
    (a1 : PySem.W.nsIn K mainGlobals "cells_between" = some (some (.ref f1))) (l1 : K.lookup f1 = some ⟨oc1, od1, .func (PySem.W.fnOf "cells_between" "cells_between" (defArgs s_cells_between) (defBody s_cells_between) (defScope s_cells_between) .none kV1 dc1 pm1 an1 cd1 ct1), sl1⟩) (c1 : PySem.W.codeIn K cd1 "cells_between" = true) (k1 : PySem.W.keepIn K (.ref f1) = true)
    (a2 : PySem.W.nsIn K mainGlobals "thickness" = some (some (.ref f2))) (l2 : K.lookup f2 = some ⟨oc2, od2, .func (PySem.W.fnOf "thickness" "thickness" (defArgs s_thickness) (defBody s_thickness) (defScope s_thickness) .none kV2 dc2 pm2 an2 cd2 ct2), sl2⟩) (c2 : PySem.W.codeIn K cd2 "thickness" = true) (k2 : PySem.W.keepIn K (.ref f2) = true)
    (a3 : PySem.W.nsIn K mainGlobals "dimmed" = some (some (.ref f3))) (l3 : K.lookup f3 = some ⟨oc3, od3, .func (PySem.W.fnOf "dimmed" "dimmed" (defArgs s_dimmed) (defBody s_dimmed) (defScope s_dimmed) .none kV3 dc3 pm3 an3 cd3 ct3), sl3⟩) (c3 : PySem.W.codeIn K cd3 "dimmed" = true) (k3 : PySem.W.keepIn K (.ref f3) = true)
    (a4 : PySem.W.nsIn K mainGlobals "sees" = some (some (.ref f4))) (l4 : K.lookup f4 = some ⟨oc4, od4, .func (PySem.W.fnOf "sees" "sees" (defArgs s_sees) (defBody s_sees) (defScope s_sees) .none kV4 dc4 pm4 an4 cd4 ct4), sl4⟩) (c4 : PySem.W.codeIn K cd4 "sees" = true) (k4 : PySem.W.keepIn K (.ref f4) = true)
    (a5 : PySem.W.nsIn K mainGlobals "first_sight" = some (some (.ref f5))) (l5 : K.lookup f5 = some ⟨oc5, od5, .func (PySem.W.fnOf "first_sight" "first_sight" (defArgs s_first_sight) (defBody s_first_sight) (defScope s_first_sight) .none kV5 dc5 pm5 an5 cd5 ct5), sl5⟩) (c5 : PySem.W.codeIn K cd5 "first_sight" = true) (k5 : PySem.W.keepIn K (.ref f5) = true)
    (a6 : PySem.W.nsIn K mainGlobals "latest_smoke" = some (some (.ref f6))) (l6 : K.lookup f6 = some ⟨oc6, od6, .func (PySem.W.fnOf "latest_smoke" "latest_smoke" (defArgs s_latest_smoke) (defBody s_latest_smoke) (defScope s_latest_smoke) .none kV6 dc6 pm6 an6 cd6 ct6), sl6⟩) (c6 : PySem.W.codeIn K cd6 "latest_smoke" = true) (k6 : PySem.W.keepIn K (.ref f6) = true)
    (a7 : PySem.W.nsIn K mainGlobals "worst_look" = some (some (.ref f7))) (l7 : K.lookup f7 = some ⟨oc7, od7, .func (PySem.W.fnOf "worst_look" "worst_look" (defArgs s_worst_look) (defBody s_worst_look) (defScope s_worst_look) .none kV7 dc7 pm7 an7 cd7 ct7), sl7⟩) (c7 : PySem.W.codeIn K cd7 "worst_look" = true) (k7 : PySem.W.keepIn K (.ref f7) = true)
    (a8 : PySem.W.nsIn K mainGlobals "_law_state" = some (some (.ref f8))) (l8 : K.lookup f8 = some ⟨oc8, od8, .func (PySem.W.fnOf "_law_state" "_law_state" (defArgs s_l_state) (defBody s_l_state) (defScope s_l_state) .none kV8 dc8 pm8 an8 cd8 ct8), sl8⟩) (c8 : PySem.W.codeIn K cd8 "_law_state" = true) (k8 : PySem.W.keepIn K (.ref f8) = true)
    (a9 : PySem.W.nsIn K mainGlobals "_law_take" = some (some (.ref f9))) (l9 : K.lookup f9 = some ⟨oc9, od9, .func (PySem.W.fnOf "_law_take" "_law_take" (defArgs s_l_take) (defBody s_l_take) (defScope s_l_take) .none kV9 dc9 pm9 an9 cd9 ct9), sl9⟩) (c9 : PySem.W.codeIn K cd9 "_law_take" = true) (k9 : PySem.W.keepIn K (.ref f9) = true)
    (a10 : PySem.W.nsIn K mainGlobals "_law_clouds" = some (some (.ref f10))) (l10 : K.lookup f10 = some ⟨oc10, od10, .func (PySem.W.fnOf "_law_clouds" "_law_clouds" (defArgs s_l_clouds) (defBody s_l_clouds) (defScope s_l_clouds) .none kV10 dc10 pm10 an10 cd10 ct10), sl10⟩) (c10 : PySem.W.codeIn K cd10 "_law_clouds" = true) (k10 : PySem.W.keepIn K (.ref f10) = true)
    (a11 : PySem.W.nsIn K mainGlobals "_law_thick" = some (some (.ref f11))) (l11 : K.lookup f11 = some ⟨oc11, od11, .func (PySem.W.fnOf "_law_thick" "_law_thick" (defArgs s_l_thick) (defBody s_l_thick) (defScope s_l_thick) .none kV11 dc11 pm11 an11 cd11 ct11), sl11⟩) (c11 : PySem.W.codeIn K cd11 "_law_thick" = true) (k11 : PySem.W.keepIn K (.ref f11) = true)
    (a12 : PySem.W.nsIn K mainGlobals "_law_between" = some (some (.ref f12))) (l12 : K.lookup f12 = some ⟨oc12, od12, .func (PySem.W.fnOf "_law_between" "_law_between" (defArgs s_l_between) (defBody s_l_between) (defScope s_l_between) .none kV12 dc12 pm12 an12 cd12 ct12), sl12⟩) (c12 : PySem.W.codeIn K cd12 "_law_between" = true) (k12 : PySem.W.keepIn K (.ref f12) = true)
    (a13 : PySem.W.nsIn K mainGlobals "_law_dim" = some (some (.ref f13))) (l13 : K.lookup f13 = some ⟨oc13, od13, .func (PySem.W.fnOf "_law_dim" "_law_dim" (defArgs s_l_dim) (defBody s_l_dim) (defScope s_l_dim) .none kV13 dc13 pm13 an13 cd13 ct13), sl13⟩) (c13 : PySem.W.codeIn K cd13 "_law_dim" = true) (k13 : PySem.W.keepIn K (.ref f13) = true)
    (a14 : PySem.W.nsIn K mainGlobals "law" = some (some (.ref f14))) (l14 : K.lookup f14 = some ⟨oc14, od14, .func (PySem.W.fnOf "law" "law" (defArgs s_law) (defBody s_law) (defScope s_law) .none kV14 dc14 pm14 an14 cd14 ct14), sl14⟩) (c14 : PySem.W.codeIn K cd14 "law" = true) (k14 : PySem.W.keepIn K (.ref f14) = true)
    (z1 : PySem.W.nsIn K mainGlobals "len" = some none) (z2 : PySem.W.nsIn K mainGlobals "range" = some none) (z3 : PySem.W.nsIn K mainGlobals "min" = some none) (z4 : PySem.W.nsIn K mainGlobals "max" = some none) (z5 : PySem.W.nsIn K mainGlobals "abs" = some none) (z6 : PySem.W.nsIn K mainGlobals "sum" = some none) (z7 : PySem.W.nsIn K mainGlobals "int" = some none) (z8 : PySem.W.nsIn K mainGlobals "list" = some none) (z9 : PySem.W.nsIn K mainGlobals "tuple" = some none) (z10 : PySem.W.nsIn K mainGlobals "sorted" = some none) (z11 : PySem.W.nsIn K mainGlobals "isinstance" = some none) (z12 : PySem.W.nsIn K mainGlobals "enumerate" = some none) (z13 : PySem.W.nsIn K mainGlobals "zip" = some none) (z14 : PySem.W.nsIn K mainGlobals "set" = some none) (z15 : PySem.W.nsIn K mainGlobals "repr" = some none) (z16 : PySem.W.nsIn K mainGlobals "all" = some none) (z17 : PySem.W.nsIn K mainGlobals "any" = some none) (z18 : PySem.W.nsIn K mainGlobals "dict" = some none) (z19 : PySem.W.nsIn K mainGlobals "reversed" = some none) (z20 : PySem.W.nsIn K mainGlobals "str" = some none) :
    ∃ fd : FuncData, (∀ (s : Shared) (v : Value), BindsTo s fd ⟨[v], []⟩ [("script", v)]) ∧ ∀ base : Heap, K.In base → base.Ns mainGlobals mg → FnOk l.prog w K mg base CX0 5 fa fd ["script"] (spP R_law) := by
  have e := hfa.symm.trans (PySem.W.mg_of X G a14)
  cases e
  have bn : Bn mg := ⟨PySem.W.mg_none_of X G z1, PySem.W.mg_none_of X G z2, PySem.W.mg_none_of X G z3, PySem.W.mg_none_of X G z4, PySem.W.mg_none_of X G z5, PySem.W.mg_none_of X G z6, PySem.W.mg_none_of X G z7, PySem.W.mg_none_of X G z8, PySem.W.mg_none_of X G z9, PySem.W.mg_none_of X G z10, PySem.W.mg_none_of X G z11, PySem.W.mg_none_of X G z12, PySem.W.mg_none_of X G z13, PySem.W.mg_none_of X G z14, PySem.W.mg_none_of X G z15, PySem.W.mg_none_of X G z16, PySem.W.mg_none_of X G z17, PySem.W.mg_none_of X G z18, PySem.W.mg_none_of X G z19, PySem.W.mg_none_of X G z20⟩
  have F1 := fun_mk (st := s_cells_between) l1 c1 k1
  have b1 := F1.binds (ps := ["one", "other"]) fun _ _ _ _ _ _ us hl => match us, hl with | [_, _], _ => rfl
  have F2 := fun_mk (st := s_thickness) l2 c2 k2
  have b2 := F2.binds (ps := ["clouds", "wind", "tick", "cell"]) fun _ _ _ _ _ _ us hl => match us, hl with | [_, _, _, _], _ => rfl
  have F3 := fun_mk (st := s_dimmed) l3 c3 k3
  have b3 := F3.binds (ps := ["clouds", "wind", "tick", "one", "other"]) fun _ _ _ _ _ _ us hl => match us, hl with | [_, _, _, _, _], _ => rfl
  have F4 := fun_mk (st := s_sees) l4 c4 k4
  have b4 := F4.binds (ps := ["clouds", "wind", "tick", "one", "other", "most"]) fun _ _ _ _ _ _ us hl => match us, hl with | [_, _, _, _, _, _], _ => rfl
  have F5 := fun_mk (st := s_first_sight) l5 c5 k5
  have b5 := F5.binds (ps := ["clouds", "wind", "ticks", "one", "other", "most"]) fun _ _ _ _ _ _ us hl => match us, hl with | [_, _, _, _, _, _], _ => rfl
  have F6 := fun_mk (st := s_latest_smoke) l6 c6 k6
  have b6 := F6.binds (ps := ["clouds"]) fun _ _ _ _ _ _ us hl => match us, hl with | [_], _ => rfl
  have F7 := fun_mk (st := s_worst_look) l7 c7 k7
  have b7 := F7.binds (ps := ["clouds", "wind", "looks"]) fun _ _ _ _ _ _ us hl => match us, hl with | [_, _, _], _ => rfl
  have F8 := fun_mk (st := s_l_state) l8 c8 k8
  have b8 := F8.binds (ps := ["script"]) fun _ _ _ _ _ _ us hl => match us, hl with | [_], _ => rfl
  have F9 := fun_mk (st := s_l_take) l9 c9 k9
  have b9 := F9.binds (ps := ["state", "most"]) fun _ _ _ _ _ _ us hl => match us, hl with | [_, _], _ => rfl
  have F10 := fun_mk (st := s_l_clouds) l10 c10 k10
  have b10 := F10.binds (ps := ["state", "most"]) fun _ _ _ _ _ _ us hl => match us, hl with | [_, _], _ => rfl
  have F11 := fun_mk (st := s_l_thick) l11 c11 k11
  have b11 := F11.binds (ps := ["clouds", "wind", "tick", "cell"]) fun _ _ _ _ _ _ us hl => match us, hl with | [_, _, _, _], _ => rfl
  have F12 := fun_mk (st := s_l_between) l12 c12 k12
  have b12 := F12.binds (ps := ["one", "other"]) fun _ _ _ _ _ _ us hl => match us, hl with | [_, _], _ => rfl
  have F13 := fun_mk (st := s_l_dim) l13 c13 k13
  have b13 := F13.binds (ps := ["clouds", "wind", "tick", "one", "other"]) fun _ _ _ _ _ _ us hl => match us, hl with | [_, _, _, _, _], _ => rfl
  have F14 := fun_mk (st := s_law) l14 c14 k14
  have b14 := F14.binds (ps := ["script"]) fun _ _ _ _ _ _ us hl => match us, hl with | [_], _ => rfl
  refine ⟨PySem.W.fnOf "law" "law" (defArgs s_law) (defBody s_law) (defScope s_law) .none kV14 dc14 pm14 an14 cd14 ct14, fun s v => .of_eq rfl, fun base _ _ => ?_⟩
  have C_l_state : Cal l.prog w K mg base "_law_state" ["script"] (spN R_state) 1 := ⟨_, _, fn_newstate (k := 0) F8 sc_l_state fun cdv A outer s H E hr => ps_l_state bn hr, PySem.W.mg_of X G a8, F8.kp, b8⟩
  have C_l_take : Cal l.prog w K mg base "_law_take" ["state", "most"] (spS R_take) 1 := ⟨_, _, fn_take (k := 0) F9 sc_l_take fun cdv A outer s H E hr => ps_l_take bn hr, PySem.W.mg_of X G a9, F9.kp, b9⟩
  have C_l_clouds : Cal l.prog w K mg base "_law_clouds" ["state", "most"] (spS R_clouds) 2 := ⟨_, _, ok_l_clouds (k := 1) F10 bn C_l_take (by decide) len_l_clouds (sx_l_clouds K), PySem.W.mg_of X G a10, F10.kp, b10⟩
  have C_l_thick : Cal l.prog w K mg base "_law_thick" ["clouds", "wind", "tick", "cell"] (spP R_thick) 1 := ⟨_, _, ok_l_thick (k := 0) F11 bn len_l_thick (sx_l_thick K), PySem.W.mg_of X G a11, F11.kp, b11⟩
  have C_l_between : Cal l.prog w K mg base "_law_between" ["one", "other"] (spP R_cells) 1 := ⟨_, _, ok_l_between (k := 0) F12 bn len_l_between (sx_l_between K), PySem.W.mg_of X G a12, F12.kp, b12⟩
  have C_l_dim : Cal l.prog w K mg base "_law_dim" ["clouds", "wind", "tick", "one", "other"] (spP R_dim) 2 := ⟨_, _, ok_l_dim (k := 1) F13 bn C_l_thick (by decide) C_l_between (by decide) len_l_dim (sx_l_dim K), PySem.W.mg_of X G a13, F13.kp, b13⟩
  have C_latest_smoke : Cal l.prog w K mg base "latest_smoke" ["clouds"] (spP R_latest) 1 := ⟨_, _, ok_latest_smoke (k := 0) F6 bn len_latest_smoke (sx_latest_smoke K), PySem.W.mg_of X G a6, F6.kp, b6⟩
  have C_thickness : Cal l.prog w K mg base "thickness" ["clouds", "wind", "tick", "cell"] (spP R_thick) 1 := ⟨_, _, ok_thickness (k := 0) F2 bn len_thickness (sx_thickness K), PySem.W.mg_of X G a2, F2.kp, b2⟩
  have C_cells_between : Cal l.prog w K mg base "cells_between" ["one", "other"] (spP R_cells) 1 := ⟨_, _, ok_cells_between (k := 0) F1 bn len_cells_between (sx_cells_between K), PySem.W.mg_of X G a1, F1.kp, b1⟩
  have C_dimmed : Cal l.prog w K mg base "dimmed" ["clouds", "wind", "tick", "one", "other"] (spP R_dim) 2 := ⟨_, _, ok_dimmed (k := 1) F3 bn C_thickness (by decide) C_cells_between (by decide) len_dimmed (sx_dimmed K), PySem.W.mg_of X G a3, F3.kp, b3⟩
  have C_sees : Cal l.prog w K mg base "sees" ["clouds", "wind", "tick", "one", "other", "most"] (spP R_sees) 3 := ⟨_, _, ok_sees (k := 2) F4 bn C_dimmed (by decide) len_sees (sx_sees K), PySem.W.mg_of X G a4, F4.kp, b4⟩
  have C_first_sight : Cal l.prog w K mg base "first_sight" ["clouds", "wind", "ticks", "one", "other", "most"] (spP R_first) 4 := ⟨_, _, ok_first_sight (k := 3) F5 bn C_sees (by decide) len_first_sight (sx_first_sight K), PySem.W.mg_of X G a5, F5.kp, b5⟩
  have C_worst_look : Cal l.prog w K mg base "worst_look" ["clouds", "wind", "looks"] (spP R_worst) 3 := ⟨_, _, ok_worst_look (k := 2) F7 bn C_dimmed (by decide) len_worst_look (sx_worst_look K), PySem.W.mg_of X G a7, F7.kp, b7⟩
  exact ok_law (k := 4) F14 bn C_l_state (by decide) C_l_clouds (by decide) C_l_take (by decide) C_l_dim (by decide) C_latest_smoke (by decide) C_thickness (by decide) C_l_thick (by decide) C_first_sight (by decide) C_worst_look (by decide) C_cells_between (by decide) C_l_between (by decide) C_dimmed (by decide) C_sees (by decide) len_law (sx_law K)
theorem walk {l : PySem.W.OpenLaw} {q : Program} {loose : List Str} {XP : (Str → Option Value) → Heap → Prop} {YP : World → Heap → Prop} {d : DefRec} {K : Params → PySem.W.Frag} (hn : l.most = some 63) (hdf : d.params.defaults = [])
    (hY : ∀ (w : World) (h : Heap), YP w h → (K w.params).In h) (nl : ∀ w : World, noLs (K w.params) = true)
    (F : ∀ (w : World) (mg : Str → Option Value) (fa : Addr) (h : Heap), (K w.params).In h → h.Ns mainGlobals mg → mg d.name = some (.ref fa) →
      ∃ fd : FuncData, (∀ (s : Shared) (u : Value), BindsTo s fd ⟨[u], []⟩ [("script", u)]) ∧ ∀ base : Heap, (K w.params).In base → base.Ns mainGlobals mg → FnOk l.prog w (K w.params) mg base CX0 5 fa fd ["script"] (spP R_law)) :
    PySem.W.WalkO q loose XP YP l.row.toRowW d [] (fun f vs => PySem.call f vs) :=
  L2.walk_of (n := 63) (k := 5) (x := "script") (CX := fun _ => CX0) (sp := fun w => spP R_law) hn (by decide) hdf ⟨rfl, by decide, by decide⟩ hY F (fun w _ a ns hl _ hS => sp_law (nl w) hS ⟨ns, rfl, rfl⟩) fun _ _ _ _ _ z => z
end Law_k73
open PySem PySem.W PyProof.Rows
set_option maxHeartbeats 0 in
theorem PySem.Challenge.cw_firescore_k73_whole_smoke_holds : PySem.Challenge.rw_firescore_k73_whole_smoke.Holds := by
  w_on; o_law; k_head; (case hw => w_witness2)
  k_fill
  refine Law_k73.walk (l := PySem.Challenge.rw_firescore_k73_whole_smoke) rfl rfl (fun w h Y => PySem.W.kIn_of Y) (fun w => ?NL) ?F
  case NL => rfl
  case F =>
    intro w mg fa h KX G hmg
    refine' Law_k73.all_mk KX G hmg ?a1 ?l1 ?c1 ?k1 ?a2 ?l2 ?c2 ?k2 ?a3 ?l3 ?c3 ?k3 ?a4 ?l4 ?c4 ?k4 ?a5 ?l5 ?c5 ?k5 ?a6 ?l6 ?c6 ?k6 ?a7 ?l7 ?c7 ?k7 ?a8 ?l8 ?c8 ?k8 ?a9 ?l9 ?c9 ?k9 ?a10 ?l10 ?c10 ?k10 ?a11 ?l11 ?c11 ?k11 ?a12 ?l12 ?c12 ?k12 ?a13 ?l13 ?c13 ?k13 ?a14 ?l14 ?c14 ?k14 ?z1 ?z2 ?z3 ?z4 ?z5 ?z6 ?z7 ?z8 ?z9 ?z10 ?z11 ?z12 ?z13 ?z14 ?z15 ?z16 ?z17 ?z18 ?z19 ?z20
    (case a1 => k_is); (case l1 => k_is); (case c1 => k_is); (case k1 => k_is)
    (case a2 => k_is); (case l2 => k_is); (case c2 => k_is); (case k2 => k_is)
    (case a3 => k_is); (case l3 => k_is); (case c3 => k_is); (case k3 => k_is)
    (case a4 => k_is); (case l4 => k_is); (case c4 => k_is); (case k4 => k_is)
    (case a5 => k_is); (case l5 => k_is); (case c5 => k_is); (case k5 => k_is)
    (case a6 => k_is); (case l6 => k_is); (case c6 => k_is); (case k6 => k_is)
    (case a7 => k_is); (case l7 => k_is); (case c7 => k_is); (case k7 => k_is)
    (case a8 => k_is); (case l8 => k_is); (case c8 => k_is); (case k8 => k_is)
    (case a9 => k_is); (case l9 => k_is); (case c9 => k_is); (case k9 => k_is)
    (case a10 => k_is); (case l10 => k_is); (case c10 => k_is); (case k10 => k_is)
    (case a11 => k_is); (case l11 => k_is); (case c11 => k_is); (case k11 => k_is)
    (case a12 => k_is); (case l12 => k_is); (case c12 => k_is); (case k12 => k_is)
    (case a13 => k_is); (case l13 => k_is); (case c13 => k_is); (case k13 => k_is)
    (case a14 => k_is); (case l14 => k_is); (case c14 => k_is); (case k14 => k_is)
    (case z1 => k_is)
    (case z2 => k_is)
    (case z3 => k_is)
    (case z4 => k_is)
    (case z5 => k_is)
    (case z6 => k_is)
    (case z7 => k_is)
    (case z8 => k_is)
    (case z9 => k_is)
    (case z10 => k_is)
    (case z11 => k_is)
    (case z12 => k_is)
    (case z13 => k_is)
    (case z14 => k_is)
    (case z15 => k_is)
    (case z16 => k_is)
    (case z17 => k_is)
    (case z18 => k_is)
    (case z19 => k_is)
    (case z20 => k_is)
