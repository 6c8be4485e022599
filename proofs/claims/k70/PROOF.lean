import PyProof.Rows.All
import Wide.All
import OpenK.AllK
import Wide.FinOn
import HandS.ForMost
import HandS.TupAny
import HandS.Zip
import KE.SortData
import KE.DataMinMax
import KE.DataEq
import KE.DataFind
import PySem.Challenge.RW_firescore_k70_trials_by_all_plans
set_option Elab.async false
set_option linter.all false
set_option autoImplicit false
set_option maxRecDepth 100000
set_option maxHeartbeats 4000000
/-! Pu: the hand layer's readings over pure data: slots hold data, own lists, a state; no addresses. -/
namespace Pu
open PySem L2

abbrev D := PyData
mutual
/-- the value v reads as the datum d in the frozen part F of the heap -/
inductive Rp (F : Hp) : V → D → Prop
  | non : Rp F .non .none
  | bl (b : Bool) : Rp F (.bl b) (.bool b)
  | int (i : Int) : Rp F (.int i) (.int i)
  | str (x : Str) : Rp F (.str x) (.str x)
  | lst {a : Addr} {xs : List V} {ds : List D} : Rd F a (.lst xs) → RpA F xs ds → Rp F (.ref a) (.list ds)
  | tup {a : Addr} {xs : List V} {ds : List D} : F a = some (.tup xs) → RpA F xs ds → Rp F (.ref a) (.tuple ds)
inductive RpA (F : Hp) : List V → List D → Prop
  | nil : RpA F [] []
  | cons {v : V} {vs : List V} {d : D} {ds : List D} : Rp F v d → RpA F vs ds → RpA F (v :: vs) (d :: ds)
end
theorem rd_mono {F G : Hp} {a : Addr} {u : HO} (e : Same F G) (h : Rd F a u) : Rd G a u := by
  rcases h with h | ⟨o, h⟩
  · exact .inl (e _ _ h)
  · exact .inr ⟨o, e _ _ h⟩
mutual
theorem Rp.mono {F G : Hp} (e : Same F G) : ∀ (d : D) {v : V}, Rp F v d → Rp G v d
  | .none, _, h => by cases h; exact .non
  | .bool b, _, h => by cases h; exact .bl b
  | .int i, _, h => by cases h; exact .int i
  | .str x, _, h => by cases h; exact .str x
  | .list ds, _, h => by
    cases h with
    | lst h1 h2 => exact .lst (rd_mono e h1) (RpA.mono e ds h2)
  | .tuple ds, _, h => by
    cases h with
    | tup h1 h2 => exact .tup (e _ _ h1) (RpA.mono e ds h2)
  | .dict _, _, h => by cases h
theorem RpA.mono {F G : Hp} (e : Same F G) : ∀ (ds : List D) {vs : List V}, RpA F vs ds → RpA G vs ds
  | [], _, h => by cases h; exact .nil
  | d :: ds, _, h => by
    cases h with
    | cons h1 h2 => exact .cons (Rp.mono e d h1) (RpA.mono e ds h2)
end
theorem Rp.up {F G : Hp} {d : D} {v : V} (h : Rp F v d) (e : Same F G) : Rp G v d := Rp.mono e d h
theorem RpA.up {F G : Hp} {ds : List D} {vs : List V} (h : RpA F vs ds) (e : Same F G) : RpA G vs ds := RpA.mono e ds h
theorem sqL_rd {K : PySem.W.Frag} {F H : Hp} {a : Addr} {xs : List V} (h : Rd F a (.lst xs)) (e : Same F H) : SqL K H a xs := .inl (rd_mono e h)
theorem sqT_rd {K : PySem.W.Frag} {F H : Hp} {a : Addr} {xs : List V} (h : F a = some (.tup xs)) (e : Same F H) : SqT K H a xs := .inl (.inl (e _ _ h))
mutual
theorem Rp.dp {K : PySem.W.Frag} {F H : Hp} (e : Same F H) : ∀ (d : D) {v : V}, Rp F v d → Dp K H v d
  | .none, _, h => by cases h; exact .non
  | .bool b, _, h => by cases h; exact .bl b
  | .int i, _, h => by cases h; exact .int i
  | .str x, _, h => by cases h; exact .str x
  | .list ds, _, h => by
    cases h with
    | lst h1 h2 => exact .lst (sqL_rd h1 e) (RpA.dp e ds h2)
  | .tuple ds, _, h => by
    cases h with
    | tup h1 h2 => exact .tup (sqT_rd h1 e) (RpA.dp e ds h2)
  | .dict _, _, h => by cases h
theorem RpA.dp {K : PySem.W.Frag} {F H : Hp} (e : Same F H) : ∀ (ds : List D) {vs : List V}, RpA F vs ds → DpAll K H vs ds
  | [], _, h => by cases h; exact .nil
  | d :: ds, _, h => by
    cases h with
    | cons h1 h2 => exact .cons (Rp.dp e d h1) (RpA.dp e ds h2)
end
section
variable {F : Hp}
theorem Rp.int_inv {v : V} {i : Int} (h : Rp F v (.int i)) : v = .int i := by cases h; rfl
theorem Rp.bl_inv {v : V} {b : Bool} (h : Rp F v (.bool b)) : v = .bl b := by cases h; rfl
theorem Rp.str_inv {v : V} {x : Str} (h : Rp F v (.str x)) : v = .str x := by cases h; rfl
theorem Rp.non_inv {v : V} (h : Rp F v .none) : v = .non := by cases h; rfl
theorem Rp.lst_inv {v : V} {ds : List D} (h : Rp F v (.list ds)) : ∃ a xs, v = .ref a ∧ Rd F a (.lst xs) ∧ RpA F xs ds := by
  cases h with
  | lst h1 h2 => exact ⟨_, _, rfl, h1, h2⟩
theorem Rp.tup_inv {v : V} {ds : List D} (h : Rp F v (.tuple ds)) : ∃ a xs, v = .ref a ∧ F a = some (.tup xs) ∧ RpA F xs ds := by
  cases h with
  | tup h1 h2 => exact ⟨_, _, rfl, h1, h2⟩
theorem RpA.len : ∀ {vs : List V} {ds : List D}, RpA F vs ds → vs.length = ds.length
  | _, [], h => by cases h; rfl
  | _, d :: ds, h => by
    cases h with
    | cons h1 h2 => simp [RpA.len h2]
theorem RpA.get : ∀ {vs : List V} {ds : List D} {k : Nat} {d : D}, RpA F vs ds → ds[k]? = some d → ∃ v, vs[k]? = some v ∧ Rp F v d
  | _, [], k, d, h, e => by simp at e
  | _, a :: ds, 0, d, h, e => by
    cases h with
    | cons h1 h2 =>
      simp at e
      subst e
      exact ⟨_, rfl, h1⟩
  | _, a :: ds, k + 1, d, h, e => by
    cases h with
    | cons h1 h2 =>
      obtain ⟨v, e1, e2⟩ := RpA.get (k := k) h2 (by simpa using e)
      exact ⟨v, by simpa using e1, e2⟩
theorem RpA.get' : ∀ {vs : List V} {ds : List D} {k : Nat} {v : V}, RpA F vs ds → vs[k]? = some v → ∃ d, ds[k]? = some d ∧ Rp F v d := fun {vs ds k v} h e => by
  have hk : k < ds.length := by rw [← h.len]; exact (List.getElem?_eq_some_iff.mp e).1
  obtain ⟨w, e1, e2⟩ := h.get (List.getElem?_eq_getElem hk)
  rw [e] at e1
  cases e1
  exact ⟨_, List.getElem?_eq_getElem hk, e2⟩
theorem RpA.app : ∀ {vs ws : List V} {ds es : List D}, RpA F vs ds → RpA F ws es → RpA F (vs ++ ws) (ds ++ es)
  | _, _, [], es, h, g => by cases h; exact g
  | _, _, d :: ds, es, h, g => by
    cases h with
    | cons h1 h2 => exact .cons h1 (RpA.app h2 g)
theorem RpA.take : ∀ {vs : List V} {ds : List D} (n : Nat), RpA F vs ds → RpA F (vs.take n) (ds.take n)
  | _, _, 0, h => by simp; exact .nil
  | _, [], n + 1, h => by cases h; exact .nil
  | _, d :: ds, n + 1, h => by
    cases h with
    | cons h1 h2 => exact .cons h1 (RpA.take n h2)
theorem RpA.drop : ∀ {vs : List V} {ds : List D} (n : Nat), RpA F vs ds → RpA F (vs.drop n) (ds.drop n)
  | _, _, 0, h => by simpa using h
  | _, [], n + 1, h => by cases h; exact .nil
  | _, d :: ds, n + 1, h => by
    cases h with
    | cons h1 h2 => exact RpA.drop n h2
theorem RpA.set : ∀ {vs : List V} {ds : List D} {v : V} {d : D} (n : Nat), RpA F vs ds → Rp F v d → RpA F (vs.set n v) (ds.set n d)
  | _, [], _, _, n, h, g => by cases h; exact .nil
  | _, e :: ds, _, _, 0, h, g => by
    cases h with
    | cons h1 h2 => exact .cons g h2
  | _, e :: ds, _, _, n + 1, h, g => by
    cases h with
    | cons h1 h2 => exact .cons h1 (RpA.set n h2 g)
theorem RpA.ints : ∀ (ns : List Int), RpA F (ns.map V.int) (ns.map PyData.int)
  | [] => .nil
  | n :: ns => .cons (.int n) (RpA.ints ns)
theorem RpA.ints_inv : ∀ {ns : List Int} {vs : List V}, RpA F vs (ns.map PyData.int) → vs = ns.map V.int
  | [], _, h => by cases h; rfl
  | n :: ns, _, h => by
    cases h with
    | cons h1 h2 =>
      rw [h1.int_inv, RpA.ints_inv h2]
      rfl
theorem RpA.rev {vs : List V} {ds : List D} (h : RpA F vs ds) : RpA F vs.reverse ds.reverse := by
  induction ds generalizing vs with
  | nil => cases h; exact .nil
  | cons d ds ih =>
    cases h with
    | cons h1 h2 =>
      rw [List.reverse_cons, List.reverse_cons]
      exact (ih h2).app (.cons h1 .nil)
end

/-! ### state, slots, the world -/
inductive Stt where
  | two (a b : Int)
  | cel (a : Int) (cs : List Int)
def StAt (H : Hp) : Stt → Addr → List Addr → Prop
  | .two a b, s, as => as = [s] ∧ H s = some (.lst [.int a, .int b])
  | .cel a cs, s, as => ∃ c, as = [s, c] ∧ s ≠ c ∧ H s = some (.lst [.int a, .ref c]) ∧ H c = some (.lst (cs.map V.int))
inductive Slot where
  | emp
  | val (d : D)
  | own (ds : List D)
  | st (S : Stt)
abbrev Env := List Slot
structure Base where
  F0 : Hp
  H0 : Hp
  M : Addr → Prop
  pin : Option (Addr × List Addr) := none
/-- from (F, H) to (F', H'): all is kept but what M has -/
structure Gr (M : Addr → Prop) (F H F' H' : Hp) : Prop where
  ff : Same F F'
  fh : Same F' H'
  kp : ∀ a o, H a = some o → ¬ M a → H' a = some o
  al : ∀ a, H a ≠ none → H' a ≠ none
  fr : ∀ a, H a ≠ none → F a = none → F' a = none
theorem Gr.refl {M : Addr → Prop} {F H : Hp} (e : Same F H) : Gr M F H F H := ⟨Same.refl F, e, fun _ _ h _ => h, fun _ h => h, fun _ _ h => h⟩
theorem Gr.trans {M M1 M2 : Addr → Prop} {F H F1 H1 F2 H2 : Hp} (a : Gr M1 F H F1 H1) (b : Gr M2 F1 H1 F2 H2) (i1 : ∀ x, H x ≠ none → M1 x → M x) (i2 : ∀ x, H x ≠ none → M2 x → M x) : Gr M F H F2 H2 :=
  ⟨a.ff.trans b.ff, b.fh, fun x o h m => b.kp x o (a.kp x o h fun z => m (i1 x (by rw [h]; intro q; cases q) z)) fun z => m (i2 x (by rw [h]; intro q; cases q) z), fun x h => b.al x (a.al x h), fun x h e => b.fr x (a.al x h) (a.fr x h e)⟩
/-- nothing changes -/
abbrev Non : Addr → Prop := fun _ => False

def SlotOk (B : Base) (F H : Hp) : Slot → Option (Option V) → List Addr → Prop
  | .emp, _, as => as = []
  | .val d, x, as => as = [] ∧ ∃ v, x = some (some v) ∧ Rp F v d
  | .own ds, x, as => ∃ p vs, as = [p] ∧ B.H0 p = none ∧ x = some (some (.ref p)) ∧ H p = some (.lst vs) ∧ RpA F vs ds
  | .st S, x, as => ∃ s, x = some (some (.ref s)) ∧ StAt H S s as
/-- a state that came as the first argument stays where it is -/
def PinOk (B : Base) (ad : Nat → List Addr) (ρ : Env) (σ : St) : Prop := ∀ s as, B.pin = some (s, as) → ∀ S, ρ[0]? = some (Slot.st S) → σ[0]? = some (some (.ref s)) ∧ ad 0 = as
theorem PinOk.to {B : Base} {ad ad' : Nat → List Addr} {ρ ρ' : Env} {σ σ' : St} (h : PinOk B ad ρ σ) (k : ∀ S, ρ'[0]? = some (Slot.st S) → (∃ S', ρ[0]? = some (Slot.st S')) ∧ σ'[0]? = σ[0]? ∧ ad' 0 = ad 0) : PinOk B ad' ρ' σ' := fun s as e S q => by
  obtain ⟨⟨S', e1⟩, e2, e3⟩ := k S q
  rw [e2, e3]
  exact h s as e S' e1
structure WA (B : Base) (ad : Nat → List Addr) (ρ : Env) (σ : St) (F H : Hp) : Prop where
  gr : Gr B.M B.F0 B.H0 F H
  len : σ.length = ρ.length
  sl : ∀ i s, ρ[i]? = some s → SlotOk B F H s σ[i]? (ad i)
  fz : ∀ i p, p ∈ ad i → F p = none ∧ (B.H0 p = none ∨ B.M p)
  dj : ∀ i j p, p ∈ ad i → p ∈ ad j → i = j
  out : ∀ i, ρ[i]? = none → ad i = []
  pin : PinOk B ad ρ σ
def W (B : Base) (ρ : Env) (σ : St) (F H : Hp) : Prop := ∃ ad, WA B ad ρ σ F H
/-- the addresses of the states -/
def MS (ad : Nat → List Addr) (ρ : Env) (a : Addr) : Prop := ∃ (i : Nat) (S : Stt), ρ[i]? = some (Slot.st S) ∧ a ∈ ad i
/-- behind an expression -/
structure Post (B : Base) (ad : Nat → List Addr) (σ : St) (ρ : Env) (F H : Hp) (ρ' : Env) (F' H' : Hp) : Prop where
  wa : WA B ad ρ' σ F' H'
  gr : Gr (MS ad ρ) F H F' H'
  sh : ∀ (i : Nat) (S' : Stt), ρ'[i]? = some (Slot.st S') → ∃ S, ρ[i]? = some (Slot.st S)
section
variable {B : Base} {ad : Nat → List Addr} {ρ ρ' ρ1 ρ2 : Env} {σ : St} {F H F' H' F1 H1 F2 H2 : Hp}
theorem Post.refl (w : WA B ad ρ σ F H) : Post B ad σ ρ F H ρ F H := ⟨w, Gr.refl w.gr.fh, fun i S h => ⟨S, h⟩⟩
theorem Post.trans (a : Post B ad σ ρ F H ρ1 F1 H1) (b : Post B ad σ ρ1 F1 H1 ρ2 F2 H2) : Post B ad σ ρ F H ρ2 F2 H2 :=
  ⟨b.wa, a.gr.trans b.gr (fun _ _ h => h) fun x _ ⟨i, S, h, m⟩ => let ⟨S', h'⟩ := a.sh i S h; ⟨i, S', h', m⟩, fun i S h => let ⟨S1, h1⟩ := b.sh i S h; a.sh i S1 h1⟩
theorem WA.lv (w : WA B ad ρ σ F H) {i : Nat} {p : Addr} (h : p ∈ ad i) : H p ≠ none := by
  cases e : ρ[i]? with
  | none => rw [w.out i e] at h; cases h
  | some s =>
    have k := w.sl i s e
    cases s with
    | emp => have k : ad i = [] := k; rw [k] at h; cases h
    | val d => have k : ad i = [] := k.1; rw [k] at h; cases h
    | own ds =>
      obtain ⟨q, vs, k, _, _, k2, _⟩ := k
      rw [k] at h
      have e : p = q := by simpa using h
      rw [e, k2]
      intro z; cases z
    | st S =>
      obtain ⟨s, _, k⟩ := k
      cases S with
      | two a b =>
        obtain ⟨k, k2⟩ := k
        rw [k] at h
        have e : p = s := by simpa using h
        rw [e, k2]
        intro z; cases z
      | cel a cs =>
        obtain ⟨c, k, _, k2, k3⟩ := k
        rw [k] at h
        have e : p = s ∨ p = c := by simpa using h
        rcases e with e | e
        · rw [e, k2]
          intro z; cases z
        · rw [e, k3]
          intro z; cases z
/-- nothing tracked changes, F grows -/
theorem WA.grow (w : WA B ad ρ σ F H) (g : Gr Non F H F' H') : WA B ad ρ σ F' H' where
  gr := w.gr.trans g (fun _ _ h => h) fun _ _ h => h.elim
  len := w.len
  sl := fun i s h => by
    have k := w.sl i s h
    cases s with
    | emp => exact k
    | val d =>
      obtain ⟨k, v, e, r⟩ := k
      exact ⟨k, v, e, r.up g.ff⟩
    | own ds =>
      obtain ⟨p, vs, k, k0, k1, k2, r⟩ := k
      exact ⟨p, vs, k, k0, k1, g.kp _ _ k2 id, r.up g.ff⟩
    | st S =>
      obtain ⟨s, k1, k⟩ := k
      refine ⟨s, k1, ?_⟩
      cases S with
      | two a b => exact ⟨k.1, g.kp _ _ k.2 id⟩
      | cel a cs =>
        obtain ⟨c, k, kn, k2, k3⟩ := k
        exact ⟨c, k, kn, g.kp _ _ k2 id, g.kp _ _ k3 id⟩
  fz := fun i p h => ⟨g.fr p (w.lv h) (w.fz i p h).1, (w.fz i p h).2⟩
  dj := w.dj
  out := w.out
  pin := w.pin
theorem Post.of (w : WA B ad ρ σ F H) (g : Gr Non F H F' H') : Post B ad σ ρ F H ρ F' H' := ⟨w.grow g, ⟨g.ff, g.fh, fun a o h _ => g.kp a o h id, g.al, g.fr⟩, fun i S h => ⟨S, h⟩⟩
theorem Gr.heap (e : Same F H) (g : Same H H') : Gr Non F H F H' where
  ff := Same.refl F
  fh := e.trans g
  kp := fun a o h _ => g a o h
  al := fun a h => by
    cases q : H a with
    | none => exact absurd q h
    | some o =>
      rw [g a o q]
      intro z
      cases z
  fr := fun _ _ h => h
theorem same_upd {p : Addr} {o : HO} (h : H p = none) : Same H (upd H p o) := fun b u q => by rw [upd_ne (ne_of_none q h)]; exact q
/-- a new object is laid and frozen -/
theorem Gr.new {p : Addr} {o : HO} (e : Same F H) (h : H p = none) : Gr Non F H (upd F p o) (upd H p o) where
  ff := same_upd (by
    cases q : F p with
    | none => rfl
    | some u => rw [e p u q] at h; cases h)
  fh := fun a u q => by
    by_cases ha : a = p
    · subst ha; rw [upd_same] at q ⊢; exact q
    · rw [upd_ne ha] at q ⊢; exact e a u q
  kp := fun a u q _ => by rw [upd_ne (ne_of_none q h)]; exact q
  al := fun a q => by
    by_cases ha : a = p
    · subst ha; rw [upd_same]; intro z; cases z
    · rw [upd_ne ha]; exact q
  fr := fun a q z => by
    have ha : a ≠ p := fun z => q (z ▸ h)
    rw [upd_ne ha]
    exact z
end

/-! ### expressions over pure data -/
def EX (te : TE) (ρ : Env) (Q : D → Env → Prop) : Prop := ∀ B ad σ F H, WA B ad ρ σ F H → ∀ Z : VK, (∀ d ρ' v F' H', Q d ρ' → Post B ad σ ρ F H ρ' F' H' → Rp F' v d → Z v H') → te σ H Z
def EA (ta : TA) (ρ : Env) (Q : List D → Env → Prop) : Prop := ∀ B ad σ F H, WA B ad ρ σ F H → ∀ Z : List V → Hp → Prop, (∀ ds ρ' vs F' H', Q ds ρ' → Post B ad σ ρ F H ρ' F' H' → RpA F' vs ds → Z vs H') → ta σ H Z
def ET (tt : TT) (ρ : Env) (Q : Bool → Env → Prop) : Prop := ∀ B ad σ F H, WA B ad ρ σ F H → ∀ Z : Bool → Hp → Prop, (∀ b ρ' F' H', Q b ρ' → Post B ad σ ρ F H ρ' F' H' → Z b H') → tt σ H Z
/-- a new list, not yet frozen -/
def EO (te : TE) (ρ : Env) (Q : List D → Env → Prop) : Prop := ∀ B ad σ F H, WA B ad ρ σ F H → ∀ Z : VK,
  (∀ ds ρ' p vs F' H', Q ds ρ' → Post B ad σ ρ F H ρ' F' H' → F' p = none → H p = none → H' p = some (.lst vs) → RpA F' vs ds → Z (.ref p) H') → te σ H Z
def EPt (to : TO) (ρ : Env) (Q : Option Int → Env → Prop) : Prop := ∀ B ad σ F H, WA B ad ρ σ F H → ∀ Z : Option Int → Hp → Prop, (∀ o ρ' F' H', Q o ρ' → Post B ad σ ρ F H ρ' F' H' → Z o H') → to σ H Z
/-- operations by data -/
def OpD (r : R2) (d1 d2 : D) (K : D → Prop) : Prop := ∀ F H x y, Same F H → Rp F x d1 → Rp F y d2 → ∀ Z : VK, (∀ d v F' H', K d → Gr Non F H F' H' → Rp F' v d → Z v H') → r x y H Z
def OpO (r : R2) (d1 d2 : D) (K : List D → Prop) : Prop := ∀ F H x y, Same F H → Rp F x d1 → Rp F y d2 → ∀ Z : VK, (∀ ds p vs H', K ds → Same H H' → H p = none → H' p = some (.lst vs) → RpA F vs ds → Z (.ref p) H') → r x y H Z
def UnD (r : V → Hp → VK → Prop) (d1 : D) (K : D → Prop) : Prop := ∀ F H x, Same F H → Rp F x d1 → ∀ Z : VK, (∀ d v F' H', K d → Gr Non F H F' H' → Rp F' v d → Z v H') → r x H Z
def CbD (r : List V → Hp → VK → Prop) (ds : List D) (K : D → Prop) : Prop := ∀ F H vs, Same F H → RpA F vs ds → ∀ Z : VK, (∀ d v F' H', K d → Gr Non F H F' H' → Rp F' v d → Z v H') → r vs H Z
def CbO (r : List V → Hp → VK → Prop) (ds : List D) (K : List D → Prop) : Prop := ∀ F H vs, Same F H → RpA F vs ds → ∀ Z : VK, (∀ es p ws H', K es → Same H H' → H p = none → H' p = some (.lst ws) → RpA F ws es → Z (.ref p) H') → r vs H Z
def SlD (r : V → Option Int → Option Int → Hp → VK → Prop) (d1 : D) (lo hi : Option Int) (K : D → Prop) : Prop := ∀ F H x, Same F H → Rp F x d1 → ∀ Z : VK, (∀ d v F' H', K d → Gr Non F H F' H' → Rp F' v d → Z v H') → r x lo hi H Z
def SlO (r : V → Option Int → Option Int → Hp → VK → Prop) (d1 : D) (lo hi : Option Int) (K : List D → Prop) : Prop := ∀ F H x, Same F H → Rp F x d1 → ∀ Z : VK, (∀ ds p vs H', K ds → Same H H' → H p = none → H' p = some (.lst vs) → RpA F vs ds → Z (.ref p) H') → r x lo hi H Z

section
variable {B : Base} {ad : Nat → List Addr} {ρ ρ' ρ1 ρ2 : Env} {σ : St} {F H F' H' F1 H1 F2 H2 : Hp} {te ta tb tc : TE} {tt tu : TT} {t : TA} {Q Q' : D → Env → Prop}
theorem WA.newp (w : WA B ad ρ σ F H) {p : Addr} (h : H p = none) : F p = none ∧ B.H0 p = none ∧ ∀ i, p ∉ ad i := by
  refine ⟨w.gr.fh.free h, ?_, fun i m => w.lv m h⟩
  cases q : B.H0 p with
  | none => rfl
  | some o => exact absurd h (w.gr.al p (by rw [q]; intro z; cases z))
/-- a list that nobody owns is frozen -/
theorem WA.freeze (w : WA B ad ρ σ F H) {p : Addr} {vs : List V} (hF : F p = none) (h0 : B.H0 p = none) (hn : ∀ i, p ∉ ad i) (hp : H p = some (.lst vs)) : WA B ad ρ σ (upd F p (.lst vs)) H where
  gr := ⟨w.gr.ff.trans (same_upd hF), fun a o e => by
    by_cases ha : a = p
    · subst ha; rw [upd_same] at e; rw [hp]; exact e
    · rw [upd_ne ha] at e; exact w.gr.fh a o e, w.gr.kp, w.gr.al, fun a e z => by
    have ha : a ≠ p := fun q => e (by rw [q]; exact h0)
    rw [upd_ne ha]
    exact w.gr.fr a e z⟩
  len := w.len
  sl := fun i s e => by
    have k := w.sl i s e
    have up := same_upd (o := .lst vs) hF
    cases s with
    | emp => exact k
    | val d =>
      obtain ⟨k, v, e, r⟩ := k
      exact ⟨k, v, e, r.up up⟩
    | own ds =>
      obtain ⟨q, ws, k, k0, k1, k2, r⟩ := k
      exact ⟨q, ws, k, k0, k1, k2, r.up up⟩
    | st S => exact k
  fz := fun i q m => by
    have ne : q ≠ p := fun z => hn i (z ▸ m)
    rw [upd_ne ne]
    exact w.fz i q m
  dj := w.dj
  out := w.out
  pin := w.pin
theorem Post.freeze (w : Post B ad σ ρ F H ρ' F' H') (w0 : WA B ad ρ σ F H) {p : Addr} {vs : List V} (hF : F' p = none) (hH : H p = none) (hp : H' p = some (.lst vs)) : Post B ad σ ρ F H ρ' (upd F' p (.lst vs)) H' :=
  have n := w0.newp hH
  have f := w.wa.freeze hF n.2.1 n.2.2 hp
  ⟨f, ⟨w.gr.ff.trans (same_upd hF), f.gr.fh, w.gr.kp, w.gr.al, fun a e z => by
    have ha : a ≠ p := fun q => e (by rw [q]; exact hH)
    rw [upd_ne ha]
    exact w.gr.fr a e z⟩, w.sh⟩

/-! #### the rules -/
theorem EX.imp (h : EX te ρ Q) (k : ∀ d ρ', Q d ρ' → Q' d ρ') : EX te ρ Q' := fun B ad σ F H w Z z => h B ad σ F H w Z fun d ρ' v F' H' q p r => z d ρ' v F' H' (k d ρ' q) p r
theorem ex_of {Q : D → Env → Prop} (h : EO te ρ fun ds ρ' => Q (.list ds) ρ') : EX te ρ Q := fun B ad σ F H w Z z => h B ad σ F H w Z fun ds ρ' p vs F' H' q P hF hH hp r =>
  z _ ρ' _ (upd F' p (.lst vs)) H' q (P.freeze w hF hH hp) (.lst (.inl upd_same) (r.up (same_upd hF)))
theorem ex_var {i : Nat} {d : D} (h : ρ[i]? = some (.val d)) (q : Q d ρ) : EX (tVar i) ρ Q := fun B ad σ F H w Z z => by
  obtain ⟨_, v, e, r⟩ := w.sl i _ h
  exact ⟨v, e, z d ρ v F H q (Post.refl w) r⟩
theorem ex_c {v : V} {d : D} (r : ∀ F, Rp F v d) (q : Q d ρ) : EX (tC v) ρ Q := fun B ad σ F H w Z z => z d ρ v F H q (Post.refl w) (r F)
theorem ex_int {i : Int} (q : Q (.int i) ρ) : EX (tC (.int i)) ρ Q := ex_c (fun _ => .int i) q
theorem ex_str {x : Str} (q : Q (.str x) ρ) : EX (tC (.str x)) ρ Q := ex_c (fun _ => .str x) q
theorem ex_bl {b : Bool} (q : Q (.bool b) ρ) : EX (tC (.bl b)) ρ Q := ex_c (fun _ => .bl b) q
theorem ex_non (q : Q .none ρ) : EX (tC .non) ρ Q := ex_c (fun _ => .non) q
theorem ex_op {r : R2} (h : EX ta ρ fun d1 ρ1 => EX tb ρ1 fun d2 ρ2 => OpD r d1 d2 fun d => Q d ρ2) : EX (tOp r ta tb) ρ Q := fun B ad σ F H w Z z =>
  h B ad σ F H w _ fun d1 ρ1 x F1 H1 q1 p1 r1 => q1 B ad σ F1 H1 p1.wa _ fun d2 ρ2 y F2 H2 q2 p2 r2 =>
    q2 F2 H2 x y p2.wa.gr.fh (r1.up p2.gr.ff) r2 Z fun d v F' H' kd g rv => z d ρ2 v F' H' kd ((p1.trans p2).trans (Post.of p2.wa g)) rv
theorem eo_op {r : R2} {Q : List D → Env → Prop} (h : EX ta ρ fun d1 ρ1 => EX tb ρ1 fun d2 ρ2 => OpO r d1 d2 fun d => Q d ρ2) : EO (tOp r ta tb) ρ Q := fun B ad σ F H w Z z =>
  h B ad σ F H w _ fun d1 ρ1 x F1 H1 q1 p1 r1 => q1 B ad σ F1 H1 p1.wa _ fun d2 ρ2 y F2 H2 q2 p2 r2 =>
    q2 F2 H2 x y p2.wa.gr.fh (r1.up p2.gr.ff) r2 Z fun ds p vs H' kd e hn hp rv => z ds ρ2 p vs F2 H' kd ((p1.trans p2).trans (Post.of p2.wa (Gr.heap p2.wa.gr.fh e))) (p2.wa.newp hn).1 (by
      cases q : H p with
      | none => rfl
      | some o => exact absurd hn (p2.gr.al p (p1.gr.al p (by rw [q]; intro z; cases z)))) hp rv
theorem ex_un {r : V → Hp → VK → Prop} (h : EX ta ρ fun d1 ρ1 => UnD r d1 fun d => Q d ρ1) : EX (tUn r ta) ρ Q := fun B ad σ F H w Z z =>
  h B ad σ F H w _ fun d1 ρ1 x F1 H1 q1 p1 r1 => q1 F1 H1 x p1.wa.gr.fh r1 Z fun d v F' H' kd g rv => z d ρ1 v F' H' kd (p1.trans (Post.of p1.wa g)) rv
theorem ea_nil {Q : List D → Env → Prop} (q : Q [] ρ) : EA tNil ρ Q := fun B ad σ F H w Z z => z [] ρ [] F H q (Post.refl w) .nil
theorem ea_cons {Q : List D → Env → Prop} (h : EX te ρ fun d ρ1 => EA t ρ1 fun ds ρ2 => Q (d :: ds) ρ2) : EA (tCons te t) ρ Q := fun B ad σ F H w Z z =>
  h B ad σ F H w _ fun d ρ1 v F1 H1 q1 p1 r1 => q1 B ad σ F1 H1 p1.wa _ fun ds ρ2 vs F2 H2 q2 p2 r2 => z (d :: ds) ρ2 (v :: vs) F2 H2 q2 (p1.trans p2) (.cons (r1.up p2.gr.ff) r2)
theorem ex_cb {r : List V → Hp → VK → Prop} (h : EA t ρ fun ds ρ1 => CbD r ds fun d => Q d ρ1) : EX (tCB r t) ρ Q := fun B ad σ F H w Z z =>
  h B ad σ F H w _ fun ds ρ1 vs F1 H1 q1 p1 r1 => q1 F1 H1 vs p1.wa.gr.fh r1 Z fun d v F' H' kd g rv => z d ρ1 v F' H' kd (p1.trans (Post.of p1.wa g)) rv
theorem eo_cb {r : List V → Hp → VK → Prop} {Q : List D → Env → Prop} (h : EA t ρ fun ds ρ1 => CbO r ds fun d => Q d ρ1) : EO (tCB r t) ρ Q := fun B ad σ F H w Z z =>
  h B ad σ F H w _ fun ds ρ1 vs F1 H1 q1 p1 r1 => q1 F1 H1 vs p1.wa.gr.fh r1 Z fun es p ws H' kd e hn hp rv => z es ρ1 p ws F1 H' kd (p1.trans (Post.of p1.wa (Gr.heap p1.wa.gr.fh e))) (p1.wa.newp hn).1 (by
      cases q : H p with
      | none => rfl
      | some o => exact absurd hn (p1.gr.al p (by rw [q]; intro z; cases z))) hp rv
theorem ex_tup (h : EA t ρ fun ds ρ1 => ds.length ≤ 100000 ∧ Q (.tuple ds) ρ1) : EX (tTup t) ρ Q := fun B ad σ F H w Z z =>
  h B ad σ F H w _ fun ds ρ1 vs F1 H1 q1 p1 r1 => ⟨Nat.le_trans (by rw [r1.len]; exact q1.1) (by decide), fun p hp =>
    z _ ρ1 _ (upd F1 p (.tup vs)) _ q1.2 (p1.trans (Post.of p1.wa (Gr.new p1.wa.gr.fh hp))) (.tup upd_same (r1.up (Gr.new p1.wa.gr.fh hp).ff))⟩
theorem eo_lst {Q : List D → Env → Prop} (h : EA t ρ fun ds ρ1 => ds.length ≤ 100000 ∧ Q ds ρ1) : EO (tLst t) ρ Q := fun B ad σ F H w Z z =>
  h B ad σ F H w _ fun ds ρ1 vs F1 H1 q1 p1 r1 => ⟨Nat.le_trans (by rw [r1.len]; exact q1.1) (by decide), fun p hp =>
    z _ ρ1 p vs F1 _ q1.2 (p1.trans (Post.of p1.wa (Gr.heap p1.wa.gr.fh (same_upd hp)))) (p1.wa.newp hp).1 (by
      cases q : H p with
      | none => rfl
      | some o => exact absurd hp (p1.gr.al p (by rw [q]; intro z; cases z))) upd_same r1⟩
/-! slices -/
theorem ep_no {Q : Option Int → Env → Prop} (q : Q none ρ) : EPt tNoPart ρ Q := fun B ad σ F H w Z z => z none ρ F H q (Post.refl w)
theorem ep_some {Q : Option Int → Env → Prop} (h : EX te ρ fun d ρ1 => ∃ i, d = .int i ∧ Q (some i) ρ1) : EPt (tPart te) ρ Q := fun B ad σ F H w Z z =>
  h B ad σ F H w _ fun d ρ1 v F1 H1 q1 p1 r1 => by
    obtain ⟨i, rfl, q⟩ := q1
    exact ⟨i, r1.int_inv, z _ ρ1 F1 H1 q p1⟩
theorem ex_sl {r : V → Option Int → Option Int → Hp → VK → Prop} {tl th : TO} (h : EX te ρ fun d1 ρ1 => EPt tl ρ1 fun lo ρ2 => EPt th ρ2 fun hi ρ3 => SlD r d1 lo hi fun d => Q d ρ3) : EX (tSl r te tl th) ρ Q := fun B ad σ F H w Z z =>
  h B ad σ F H w _ fun d1 ρ1 x F1 H1 q1 p1 r1 => q1 B ad σ F1 H1 p1.wa _ fun lo ρ2 F2 H2 q2 p2 => q2 B ad σ F2 H2 p2.wa _ fun hi ρ3 F3 H3 q3 p3 =>
    q3 F3 H3 x p3.wa.gr.fh ((r1.up p2.gr.ff).up p3.gr.ff) Z fun d v F' H' kd g rv => z d ρ3 v F' H' kd (((p1.trans p2).trans p3).trans (Post.of p3.wa g)) rv
theorem eo_sl {r : V → Option Int → Option Int → Hp → VK → Prop} {tl th : TO} {Q : List D → Env → Prop} (h : EX te ρ fun d1 ρ1 => EPt tl ρ1 fun lo ρ2 => EPt th ρ2 fun hi ρ3 => SlO r d1 lo hi fun d => Q d ρ3) : EO (tSl r te tl th) ρ Q := fun B ad σ F H w Z z =>
  h B ad σ F H w _ fun d1 ρ1 x F1 H1 q1 p1 r1 => q1 B ad σ F1 H1 p1.wa _ fun lo ρ2 F2 H2 q2 p2 => q2 B ad σ F2 H2 p2.wa _ fun hi ρ3 F3 H3 q3 p3 =>
    q3 F3 H3 x p3.wa.gr.fh ((r1.up p2.gr.ff).up p3.gr.ff) Z fun ds p vs H' kd e hn hp rv => z ds ρ3 p vs F3 H' kd (((p1.trans p2).trans p3).trans (Post.of p3.wa (Gr.heap p3.wa.gr.fh e))) (p3.wa.newp hn).1 (by
      cases q : H p with
      | none => rfl
      | some o => exact absurd hn (p3.gr.al p (p2.gr.al p (p1.gr.al p (by rw [q]; intro z; cases z))))) hp rv
/-! tests -/
theorem et_imp {Q Q' : Bool → Env → Prop} (h : ET tt ρ Q) (k : ∀ b ρ', Q b ρ' → Q' b ρ') : ET tt ρ Q' := fun B ad σ F H w Z z => h B ad σ F H w Z fun b ρ' F' H' q p => z b ρ' F' H' (k b ρ' q) p
theorem et_test {Q : Bool → Env → Prop} (h : EX te ρ fun d ρ1 => ∃ b, d = .bool b ∧ Q b ρ1) : ET (tTest te) ρ Q := fun B ad σ F H w Z z =>
  h B ad σ F H w _ fun d ρ1 v F1 H1 q1 p1 r1 => by
    obtain ⟨b, rfl, q⟩ := q1
    exact ⟨b, r1.bl_inv, z b ρ1 F1 H1 q p1⟩
theorem et_B {Q : Bool → Env → Prop} (h : EX te ρ fun d ρ1 => ∃ b, d = .bool b ∧ Q b ρ1) : ET (tB te) ρ Q := et_test h
theorem et_and {Q : Bool → Env → Prop} (h : ET tt ρ fun b ρ1 => (b = true → ET tu ρ1 Q) ∧ (b = false → Q false ρ1)) : ET (tAnd tt tu) ρ Q := fun B ad σ F H w Z z =>
  h B ad σ F H w _ fun b ρ1 F1 H1 q1 p1 => by
    cases b with
    | true =>
      show tu σ H1 Z
      exact q1.1 rfl B ad σ F1 H1 p1.wa Z fun b ρ' F' H' q p => z b ρ' F' H' q (p1.trans p)
    | false =>
      show Z false H1
      exact z false ρ1 F1 H1 (q1.2 rfl) p1
theorem et_or {Q : Bool → Env → Prop} (h : ET tt ρ fun b ρ1 => (b = true → Q true ρ1) ∧ (b = false → ET tu ρ1 Q)) : ET (tOr tt tu) ρ Q := fun B ad σ F H w Z z =>
  h B ad σ F H w _ fun b ρ1 F1 H1 q1 p1 => by
    cases b with
    | true =>
      show Z true H1
      exact z true ρ1 F1 H1 (q1.1 rfl) p1
    | false =>
      show tu σ H1 Z
      exact q1.2 rfl B ad σ F1 H1 p1.wa Z fun b ρ' F' H' q p => z b ρ' F' H' q (p1.trans p)
theorem et_not {Q : Bool → Env → Prop} (h : ET tt ρ fun b ρ1 => Q (!b) ρ1) : ET (tNot tt) ρ Q := fun B ad σ F H w Z z => h B ad σ F H w _ fun b ρ1 F1 H1 q p => z (!b) ρ1 F1 H1 q p
theorem ex_andV (h : EX ta ρ fun d ρ1 => ∃ b, d = .bool b ∧ (b = true → EX tb ρ1 Q) ∧ (b = false → Q (.bool false) ρ1)) : EX (tAndV ta tb) ρ Q := fun B ad σ F H w Z z =>
  h B ad σ F H w _ fun d ρ1 v F1 H1 q1 p1 r1 => by
    obtain ⟨b, rfl, k1, k2⟩ := q1
    refine ⟨b, r1.bl_inv, ?_⟩
    cases b with
    | true =>
      show tb σ H1 Z
      exact k1 rfl B ad σ F1 H1 p1.wa Z fun d ρ' v F' H' q p r => z d ρ' v F' H' q (p1.trans p) r
    | false =>
      show Z (.bl false) H1
      exact z _ ρ1 _ F1 H1 (k2 rfl) p1 (.bl false)
theorem ex_orV (h : EX ta ρ fun d ρ1 => ∃ b, d = .bool b ∧ (b = true → Q (.bool true) ρ1) ∧ (b = false → EX tb ρ1 Q)) : EX (tOrV ta tb) ρ Q := fun B ad σ F H w Z z =>
  h B ad σ F H w _ fun d ρ1 v F1 H1 q1 p1 r1 => by
    obtain ⟨b, rfl, k1, k2⟩ := q1
    refine ⟨b, r1.bl_inv, ?_⟩
    cases b with
    | true =>
      show Z (.bl true) H1
      exact z _ ρ1 _ F1 H1 (k1 rfl) p1 (.bl true)
    | false =>
      show tb σ H1 Z
      exact k2 rfl B ad σ F1 H1 p1.wa Z fun d ρ' v F' H' q p r => z d ρ' v F' H' q (p1.trans p) r
theorem ex_notV (h : EX ta ρ fun d ρ1 => ∃ b, d = .bool b ∧ Q (.bool !b) ρ1) : EX (tNotV ta) ρ Q := fun B ad σ F H w Z z =>
  h B ad σ F H w _ fun d ρ1 v F1 H1 q1 p1 r1 => by
    obtain ⟨b, rfl, k⟩ := q1
    exact ⟨b, r1.bl_inv, z _ ρ1 _ F1 H1 k p1 (.bl _)⟩
theorem ex_if (h : ET tt ρ fun b ρ1 => (b = true → EX ta ρ1 Q) ∧ (b = false → EX tb ρ1 Q)) : EX (tIf tt ta tb) ρ Q := fun B ad σ F H w Z z =>
  h B ad σ F H w _ fun b ρ1 F1 H1 q1 p1 => by
    cases b with
    | true =>
      show ta σ H1 Z
      exact q1.1 rfl B ad σ F1 H1 p1.wa Z fun d ρ' v F' H' q p r => z d ρ' v F' H' q (p1.trans p) r
    | false =>
      show tb σ H1 Z
      exact q1.2 rfl B ad σ F1 H1 p1.wa Z fun d ρ' v F' H' q p r => z d ρ' v F' H' q (p1.trans p) r
theorem ex_chain {r r' : R2} (h : EX ta ρ fun d1 ρ1 => EX tb ρ1 fun d2 ρ2 => OpD r d1 d2 fun d => ∃ b, d = .bool b ∧ (b = true → EX tc ρ2 fun d3 ρ3 => OpD r' d2 d3 fun d => Q d ρ3) ∧ (b = false → Q (.bool false) ρ2)) : EX (tChain r r' ta tb tc) ρ Q := fun B ad σ F H w Z z =>
  h B ad σ F H w _ fun d1 ρ1 x F1 H1 q1 p1 r1 => q1 B ad σ F1 H1 p1.wa _ fun d2 ρ2 y F2 H2 q2 p2 r2 =>
    q2 F2 H2 x y p2.wa.gr.fh (r1.up p2.gr.ff) r2 _ fun d v F3 H3 kd g rv => by
      obtain ⟨b, rfl, k1, k2⟩ := kd
      refine ⟨b, rv.bl_inv, ?_⟩
      have p3 := (p1.trans p2).trans (Post.of p2.wa g)
      cases b with
      | true =>
        show tc σ H3 fun w' H4 => r' y w' H4 Z
        exact k1 rfl B ad σ F3 H3 p3.wa _ fun d3 ρ3 u F4 H4 q4 p4 r4 => q4 F4 H4 y u p4.wa.gr.fh ((r2.up g.ff).up p4.gr.ff) r4 Z fun d v F' H' kd g rv => z d ρ3 v F' H' kd ((p3.trans p4).trans (Post.of p4.wa g)) rv
      | false =>
        show Z (.bl false) H3
        exact z _ ρ2 _ F3 H3 (k2 rfl) p3 (.bl false)
end
/-! ### operations -/
section
variable {K : PySem.W.Frag} {Q : D → Prop} {i j : Int} {d d1 d2 : D} {ds es : List D}
theorem opd_I0 {g : Int → Int → Int} (k : Q (.int (g i j))) : OpD (rI0 fun i j => .int (g i j)) (.int i) (.int j) Q := fun F H x y e rx ry Z z => ⟨i, j, rx.int_inv, ry.int_inv, z _ _ F H k (Gr.refl e) (.int _)⟩
theorem opd_B0 {g : Int → Int → Bool} (k : Q (.bool (g i j))) : OpD (rI0 fun i j => .bl (g i j)) (.int i) (.int j) Q := fun F H x y e rx ry Z z => ⟨i, j, rx.int_inv, ry.int_inv, z _ _ F H k (Gr.refl e) (.bl _)⟩
theorem opd_I {C : Int → Int → Prop} {g : Int → Int → Int} (c : C i j) (k : Q (.int (g i j))) : OpD (rI C fun i j => .int (g i j)) (.int i) (.int j) Q := fun F H x y e rx ry Z z => ⟨i, j, rx.int_inv, ry.int_inv, c, z _ _ F H k (Gr.refl e) (.int _)⟩
theorem und_neg (k : Q (.int (-i))) : UnD (rU fun i => .int (-i)) (.int i) Q := fun F H x e rx Z z => ⟨i, rx.int_inv, z _ _ F H k (Gr.refl e) (.int _)⟩
theorem opd_eq (s1 : SeqAt.shaped d1 = true) (s2 : SeqAt.shaped d2 = true) (k : Q (.bool (PyData.eqv d1 d2))) : OpD (rEqD K) d1 d2 Q := fun F H x y e rx ry Z z => ⟨d1, d2, rx.dp e, ry.dp e, s1, s2, z _ _ F H k (Gr.refl e) (.bl _)⟩
theorem opd_ne (s1 : SeqAt.shaped d1 = true) (s2 : SeqAt.shaped d2 = true) (k : Q (.bool (!PyData.eqv d1 d2))) : OpD (rNeD K) d1 d2 Q := fun F H x y e rx ry Z z => ⟨d1, d2, rx.dp e, ry.dp e, s1, s2, z _ _ F H k (Gr.refl e) (.bl _)⟩
def isN : D → Bool
  | .none => true
  | _ => false
theorem isN_of {F : Hp} {x : V} (r : Rp F x d) : decide (x = .non) = isN d := by cases r <;> rfl
def rIs : R2 := fun x y H Q => y = .non ∧ Q (.bl (decide (x = .non))) H
def rIsnt : R2 := fun x y H Q => y = .non ∧ Q (.bl (!decide (x = .non))) H
theorem op_is {X : Cx} : OpR X (compareOp .Is) rIs := op_isN
theorem op_isnt {X : Cx} : OpR X (compareOp .IsNot) rIsnt := op_notN
theorem opd_is (k : Q (.bool (isN d))) : OpD rIs d .none Q := fun F H x y e rx ry Z z => ⟨ry.non_inv, by rw [isN_of rx]; exact z _ _ F H k (Gr.refl e) (.bl _)⟩
theorem opd_isnt (k : Q (.bool (!isN d))) : OpD rIsnt d .none Q := fun F H x y e rx ry Z z => ⟨ry.non_inv, by rw [isN_of rx]; exact z _ _ F H k (Gr.refl e) (.bl _)⟩
/-! an item -/
theorem RpA.at_ {F : Hp} {vs : List V} (r : RpA F vs ds) (h : atI ds i = some d) : ∃ v, atI vs i = some v ∧ Rp F v d := by
  unfold atI at h ⊢
  rw [r.len]
  cases e : ixN ds.length i with
  | none => rw [e] at h; cases h
  | some k =>
    rw [e] at h
    exact r.get (k := k) h
def rIxA (K : PySem.W.Frag) : R2 := fun x y H Q => rIxL K x y H Q ∨ rIxT K x y H Q
theorem ix_any {X : Cx} : IxR X (rIxA X.K) := IxR.or ix_list ix_tup
theorem opd_ixL (h : atI ds i = some d) (k : Q d) : OpD (rIxA K) (.list ds) (.int i) Q := fun F H x y e rx ry Z z => by
  obtain ⟨a, xs, rfl, h1, h2⟩ := rx.lst_inv
  obtain ⟨v, hv, rv⟩ := h2.at_ h
  exact .inl ⟨a, xs, i, v, rfl, ry.int_inv, sqL_rd h1 e, hv, z _ _ F H k (Gr.refl e) rv⟩
theorem opd_ixT (h : atI ds i = some d) (k : Q d) : OpD (rIxA K) (.tuple ds) (.int i) Q := fun F H x y e rx ry Z z => by
  obtain ⟨a, xs, rfl, h1, h2⟩ := rx.tup_inv
  obtain ⟨v, hv, rv⟩ := h2.at_ h
  exact .inr ⟨a, xs, i, v, rfl, ry.int_inv, sqT_rd h1 e, hv, z _ _ F H k (Gr.refl e) rv⟩
/-! + -/
def rCatR : R2 := fun x y H Q => ∃ l b xs zs, x = .ref l ∧ y = .ref b ∧ Rd H l (.lst xs) ∧ Rd H b (.lst zs) ∧ xs.length + zs.length ≤ sizeLine ∧ ∀ p, H p = none → Q (.ref p) (upd H p (.lst (xs ++ zs)))
theorem op_catR {X : Cx} : OpR X (binaryOp .Add) rCatR := by
  intro pins s σ H x y v u Q I rx ry h
  obtain ⟨l, b, xs, zs, rfl, rfl, hH, hB, hz, q⟩ := h
  cases rx
  cases ry
  obtain ⟨z, its, n, r, e⟩ := hH.ok I.hok
  obtain ⟨z2, its2, n2, r2, e2⟩ := hB.ok I.hok
  have hl := r.length
  have hl2 := r2.length
  refine PySem.P.add_list e e2 ?_ (by rw [List.size_toArray, List.size_toArray]; omega)
  have ea : its.toArray ++ its2.toArray = (its ++ its2).toArray := by simp
  rw [ea]
  exact ⟨.ref _, _, I.lnew (t' := s.toks) (r.append r2) (by rw [List.length_append]; omega), rfl, q _ I.fresh⟩
def rPlus (K : PySem.W.Frag) : R2 := fun x y H Q => (fun x y H Q => rI0 (fun i j => .int (i + j)) x y H Q ∨ rCatR x y H Q) x y H Q ∨ rCatA K x y H Q
theorem op_plus {X : Cx} : OpR X (binaryOp .Add) (rPlus X.K) := OpR.or (OpR.or op_add op_catR) op_catA
theorem opd_plusI (k : Q (.int (i + j))) : OpD (rPlus K) (.int i) (.int j) Q := fun F H x y e rx ry Z z => .inl (.inl (opd_I0 k F H x y e rx ry Z z))
theorem opo_plusL {Q : List D → Prop} (hz : ds.length + es.length ≤ 1000000) (k : Q (ds ++ es)) : OpO (rPlus K) (.list ds) (.list es) Q := fun F H x y e rx ry Z z => by
  obtain ⟨a, xs, rfl, h1, h2⟩ := rx.lst_inv
  obtain ⟨b, ys, rfl, g1, g2⟩ := ry.lst_inv
  exact .inl (.inr ⟨a, b, xs, ys, rfl, rfl, rd_mono e h1, rd_mono e g1, Nat.le_trans (by rw [h2.len, g2.len]; exact hz) (by decide), fun p hp => z _ p _ _ k (same_upd hp) hp upd_same (h2.app g2)⟩)
theorem opd_plusT (hz : ds.length + es.length ≤ 1000000) (k : Q (.tuple (ds ++ es))) : OpD (rPlus K) (.tuple ds) (.tuple es) Q := fun F H x y e rx ry Z z => by
  obtain ⟨a, xs, rfl, h1, h2⟩ := rx.tup_inv
  obtain ⟨b, ys, rfl, g1, g2⟩ := ry.tup_inv
  refine .inr ⟨a, b, xs, ys, rfl, rfl, sqT_rd h1 e, sqT_rd g1 e, Nat.le_trans (by rw [h2.len, g2.len]; exact hz) (by decide), fun q => ?_, fun _ q => ?_, fun _ _ p hp => ?_⟩
  · subst q
    cases h2
    exact z _ _ F H k (Gr.refl e) ry
  · subst q
    cases g2
    rw [List.append_nil] at k
    exact z _ _ F H k (Gr.refl e) rx
  · exact z _ _ _ _ k (Gr.new e hp) (.tup upd_same ((h2.app g2).up (Gr.new e hp).ff))
/-! slices -/
def rSl (K : PySem.W.Frag) : V → Option Int → Option Int → Hp → VK → Prop := fun x lo hi H Q => rSlL K x lo hi H Q ∨ rSlA K x lo hi H Q
theorem sl_any {X : Cx} : SlR X (rSl X.K) := SlR.or sl_list sl_tupA
def cutD (xs : List D) (lo hi : Option Int) : List D := (xs.drop (HT.sIx xs.length 0 lo)).take (HT.sIx xs.length xs.length hi - HT.sIx xs.length 0 lo)
theorem RpA.cut {F : Hp} {vs : List V} (r : RpA F vs ds) (lo hi : Option Int) : RpA F (cutV vs lo hi) (cutD ds lo hi) := by
  unfold cutV cutD
  rw [r.len]
  exact (r.drop _).take _
theorem slo_L {Q : List D → Prop} {lo hi : Option Int} (k : Q (cutD ds lo hi)) : SlO (rSl K) (.list ds) lo hi Q := fun F H x e rx Z z => by
  obtain ⟨a, xs, rfl, h1, h2⟩ := rx.lst_inv
  exact .inl ⟨a, xs, rfl, sqL_rd h1 e, fun p hp => z _ p _ _ k (same_upd hp) hp upd_same (h2.cut lo hi)⟩
theorem sld_T {lo hi : Option Int} (k : Q (.tuple (cutD ds lo hi))) : SlD (rSl K) (.tuple ds) lo hi Q := fun F H x e rx Z z => by
  obtain ⟨a, xs, rfl, h1, h2⟩ := rx.tup_inv
  refine .inr ⟨a, xs, rfl, sqT_rd h1 e, fun w => ?_, fun w p hp => z _ _ _ _ k (Gr.new e hp) (.tup upd_same ((h2.cut lo hi).up (Gr.new e hp).ff))⟩
  have ec : cutD ds lo hi = ds := by
    rw [h2.len] at w
    unfold cutD
    rw [w.1, w.2, List.drop_zero, Nat.sub_zero, List.take_length]
  rw [ec] at k
  exact z _ _ F H k (Gr.refl e) rx
/-! built-ins -/
def rLen (K : PySem.W.Frag) : List V → Hp → VK → Prop := fun xs H Q => ∃ x n, xs = [x] ∧ LenV K x H n ∧ Q (.int (n : Int)) H
theorem cb_len {X : Cx} : CallR X (.builtin "len") (rLen X.K) := call_len
theorem RpA.one {F : Hp} {vs : List V} (h : RpA F vs [d]) : ∃ v, vs = [v] ∧ Rp F v d := by
  cases h with
  | cons h1 h2 => cases h2; exact ⟨_, rfl, h1⟩
theorem RpA.two {F : Hp} {vs : List V} (h : RpA F vs [d1, d2]) : ∃ v u, vs = [v, u] ∧ Rp F v d1 ∧ Rp F u d2 := by
  cases h with
  | cons h1 h2 => obtain ⟨u, rfl, r⟩ := h2.one; exact ⟨_, _, rfl, h1, r⟩
theorem cbd_lenL (k : Q (.int (ds.length : Int))) : CbD (rLen K) [.list ds] Q := fun F H vs e r Z z => by
  obtain ⟨v, rfl, rv⟩ := r.one
  obtain ⟨a, xs, rfl, h1, h2⟩ := rv.lst_inv
  exact ⟨_, ds.length, rfl, .inl ⟨xs, sqL_rd h1 e, h2.len.symm⟩, z _ _ F H k (Gr.refl e) (.int _)⟩
theorem cbd_lenT (k : Q (.int (ds.length : Int))) : CbD (rLen K) [.tuple ds] Q := fun F H vs e r Z z => by
  obtain ⟨v, rfl, rv⟩ := r.one
  obtain ⟨a, xs, rfl, h1, h2⟩ := rv.tup_inv
  exact ⟨_, ds.length, rfl, .inr ⟨xs, sqT_rd h1 e, h2.len.symm⟩, z _ _ F H k (Gr.refl e) (.int _)⟩
def rAbs : List V → Hp → VK → Prop := fun xs H Q => ∃ i, xs = [.int i] ∧ Q (.int (if i < 0 then -i else i)) H
theorem cb_abs {X : Cx} : CallR X (.builtin "abs") rAbs := call_abs
theorem cbd_abs (k : Q (.int (i.natAbs : Int))) : CbD rAbs [.int i] Q := fun F H vs e r Z z => by
  obtain ⟨v, rfl, rv⟩ := r.one
  refine ⟨i, by rw [rv.int_inv], ?_⟩
  have e2 : (if i < 0 then -i else i) = (i.natAbs : Int) := by
    by_cases h : i < 0
    · rw [if_pos h]; omega
    · rw [if_neg h]; omega
  rw [e2]
  exact z _ _ F H k (Gr.refl e) (.int _)
def rMx2 : List V → Hp → VK → Prop := fun xs H Q => ∃ i j, xs = [.int i, .int j] ∧ Q (.int (if j > i then j else i)) H
def rMn2 : List V → Hp → VK → Prop := fun xs H Q => ∃ i j, xs = [.int i, .int j] ∧ Q (.int (if j < i then j else i)) H
theorem cb_max2 {X : Cx} (hc : X.calm = true) : CallR X (.builtin "max") rMx2 := call_max2 hc
theorem cb_min2 {X : Cx} (hc : X.calm = true) : CallR X (.builtin "min") rMn2 := call_min2 hc
theorem cbd_max2 (k : Q (.int (max i j))) : CbD rMx2 [.int i, .int j] Q := fun F H vs e r Z z => by
  obtain ⟨v, u, rfl, rv, ru⟩ := r.two
  refine ⟨i, j, by rw [rv.int_inv, ru.int_inv], ?_⟩
  have e2 : (if j > i then j else i) = max i j := by
    by_cases h : j > i
    · rw [if_pos h]; omega
    · rw [if_neg h]; omega
  rw [e2]
  exact z _ _ F H k (Gr.refl e) (.int _)
theorem cbd_min2 (k : Q (.int (min i j))) : CbD rMn2 [.int i, .int j] Q := fun F H vs e r Z z => by
  obtain ⟨v, u, rfl, rv, ru⟩ := r.two
  refine ⟨i, j, by rw [rv.int_inv, ru.int_inv], ?_⟩
  have e2 : (if j < i then j else i) = min i j := by
    by_cases h : j < i
    · rw [if_pos h]; omega
    · rw [if_neg h]; omega
  rw [e2]
  exact z _ _ F H k (Gr.refl e) (.int _)
def rInt : List V → Hp → VK → Prop := fun xs H Q => (∃ i, xs = [.int i] ∧ Q (.int i) H) ∨ ∃ k, xs = [.bl k] ∧ Q (.int (if k then 1 else 0)) H
theorem cb_int {X : Cx} : CallR X (.type "int") rInt := call_int1
theorem cbd_int (k : Q (.int i)) : CbD rInt [.int i] Q := fun F H vs e r Z z => by
  obtain ⟨v, rfl, rv⟩ := r.one
  exact .inl ⟨i, by rw [rv.int_inv], z _ _ F H k (Gr.refl e) (.int _)⟩
def rList (K : PySem.W.Frag) : List V → Hp → VK → Prop := fun xs H Q => ∃ p ys, xs = [.ref p] ∧ (SqL K H p ys ∨ SqT K H p ys) ∧ ∀ l, H l = none → Q (.ref l) (upd H l (.lst ys))
theorem cb_list {X : Cx} : CallR X (.type "list") (rList X.K) := call_list_of
theorem cbo_listL {Q : List D → Prop} (k : Q ds) : CbO (rList K) [.list ds] Q := fun F H vs e r Z z => by
  obtain ⟨v, rfl, rv⟩ := r.one
  obtain ⟨a, xs, rfl, h1, h2⟩ := rv.lst_inv
  exact ⟨a, xs, rfl, .inl (sqL_rd h1 e), fun p hp => z _ p _ _ k (same_upd hp) hp upd_same h2⟩
theorem cbo_listT {Q : List D → Prop} (k : Q ds) : CbO (rList K) [.tuple ds] Q := fun F H vs e r Z z => by
  obtain ⟨v, rfl, rv⟩ := r.one
  obtain ⟨a, xs, rfl, h1, h2⟩ := rv.tup_inv
  exact ⟨a, xs, rfl, .inr (sqT_rd h1 e), fun p hp => z _ p _ _ k (same_upd hp) hp upd_same h2⟩
def rTup (K : PySem.W.Frag) : List V → Hp → VK → Prop := fun xs H Q => ∃ p ys, xs = [.ref p] ∧ ((SqL K H p ys ∧ ∀ l, H l = none → Q (.ref l) (upd H l (.tup ys))) ∨ (SqT K H p ys ∧ Q (.ref p) H))
theorem cb_tuple {X : Cx} : CallR X (.type "tuple") (rTup X.K) := call_tuple_of
theorem cbd_tupL (k : Q (.tuple ds)) : CbD (rTup K) [.list ds] Q := fun F H vs e r Z z => by
  obtain ⟨v, rfl, rv⟩ := r.one
  obtain ⟨a, xs, rfl, h1, h2⟩ := rv.lst_inv
  exact ⟨a, xs, rfl, .inl ⟨sqL_rd h1 e, fun p hp => z _ _ _ _ k (Gr.new e hp) (.tup upd_same (h2.up (Gr.new e hp).ff))⟩⟩
theorem cbd_sum {ns : List Int} (k : Q (.int ns.sum)) : CbD (rSum K) [.list (ns.map .int)] Q := fun F H vs e r Z z => by
  obtain ⟨v, rfl, rv⟩ := r.one
  obtain ⟨a, xs, rfl, h1, h2⟩ := rv.lst_inv
  exact ⟨a, ns, rfl, by rw [← h2.ints_inv]; exact sqL_rd h1 e, z _ _ F H k (Gr.refl e) (.int _)⟩
/-- isinstance(x, tuple) -/
theorem ex_isT {te : TE} {ρ : Env} {Q : D → Env → Prop} (h : EX te ρ fun d ρ1 => ∃ ds, d = .tuple ds ∧ Q (.bool true) ρ1) : EX (tCB RZ.rIsTy (tCons te (tCons (tC (.ty "tuple")) tNil))) ρ Q := fun B ad σ F H w Z z =>
  h B ad σ F H w _ fun d ρ1 v F1 H1 q1 p1 r1 => by
    obtain ⟨ds, rfl, q⟩ := q1
    obtain ⟨a, xs, rfl, h1, h2⟩ := r1.tup_inv
    exact ⟨.ref a, "tuple", rfl, .tup (p1.wa.gr.fh _ _ h1), z _ ρ1 _ F1 H1 q p1 (.bl true)⟩
end

/-! ### own lists -/
section
variable {B : Base} {ad : Nat → List Addr} {ρ ρ' : Env} {σ : St} {F H F' H' : Hp} {te tb : TE} {Q : D → Env → Prop}
theorem get_set {α : Type} {l : List α} {i j : Nat} {x y : α} (h : (l.set i x)[j]? = some y) : (j = i ∧ y = x) ∨ (j ≠ i ∧ l[j]? = some y) := by
  by_cases e : j = i
  · subst e
    by_cases hl : j < l.length
    · rw [List.getElem?_set_self hl] at h
      exact .inl ⟨rfl, (Option.some.inj h).symm⟩
    · rw [List.getElem?_eq_none (by simpa using hl)] at h
      cases h
  · rw [List.getElem?_set_ne (Ne.symm e)] at h
    exact .inr ⟨e, h⟩
theorem get_set' {α : Type} {l : List α} {i j : Nat} {x : α} (h : (l.set i x)[j]? = none) : l[j]? = none := by
  rw [List.getElem?_eq_none_iff] at h ⊢
  simpa using h
/-- slot i's own list is frozen where it stands -/
theorem WA.lend (w : WA B ad ρ σ F H) {i : Nat} {ds : List D} (h : ρ[i]? = some (.own ds)) : ∃ p vs, ad i = [p] ∧ F p = none ∧ H p = some (.lst vs) ∧ RpA F vs ds ∧ B.H0 p = none ∧ σ[i]? = some (some (.ref p)) ∧
    WA B (fun k => if k = i then [] else ad k) (ρ.set i (.val (.list ds))) σ (upd F p (.lst vs)) H := by
  obtain ⟨p, vs, k, k0, k1, k2, r⟩ := w.sl i _ h
  have hF : F p = none := (w.fz i p (by rw [k]; simp)).1
  have up := same_upd (o := .lst vs) hF
  refine ⟨p, vs, k, hF, k2, r, k0, k1, ?_⟩
  have hn : ∀ j, j ≠ i → p ∉ ad j := fun j hj m => hj (w.dj j i p m (by rw [k]; simp))
  refine ⟨⟨w.gr.ff.trans up, fun a o e => ?_, w.gr.kp, w.gr.al, fun a e z => ?_⟩, by rw [List.length_set]; exact w.len, fun j s e => ?_, fun j q m => ?_, fun j1 j2 q m1 m2 => ?_, fun j e => ?_, w.pin.to fun S e => by
    rcases get_set e with ⟨_, q⟩ | ⟨hj, e⟩
    · cases q
    · exact ⟨⟨S, e⟩, rfl, if_neg hj⟩⟩
  · by_cases ha : a = p
    · subst ha; rw [upd_same] at e; rw [k2]; exact e
    · rw [upd_ne ha] at e; exact w.gr.fh a o e
  · have ha : a ≠ p := fun q => e (by rw [q]; exact k0)
    rw [upd_ne ha]
    exact w.gr.fr a e z
  · rcases get_set e with ⟨rfl, rfl⟩ | ⟨hj, e⟩
    · exact ⟨if_pos rfl, _, k1, .lst (.inl upd_same) (r.up up)⟩
    · have q := w.sl j s e
      rw [if_neg hj]
      cases s with
      | emp => exact q
      | val d =>
        obtain ⟨k, v, e, r⟩ := q
        exact ⟨k, v, e, r.up up⟩
      | own es =>
        obtain ⟨q, ws, k, k0, k1, k2, r⟩ := q
        exact ⟨q, ws, k, k0, k1, k2, r.up up⟩
      | st S => exact q
  · by_cases hj : j = i
    · simp [hj] at m
    · simp only [if_neg hj] at m
      have ne : q ≠ p := fun z => hn j hj (z ▸ m)
      rw [upd_ne ne]
      exact w.fz j q m
  · by_cases h1 : j1 = i
    · simp [h1] at m1
    · by_cases h2 : j2 = i
      · simp [h2] at m2
      · simp only [if_neg h1] at m1
        simp only [if_neg h2] at m2
        exact w.dj j1 j2 q m1 m2
  · by_cases hj : j = i
    · show (if j = i then [] else ad j) = []
      rw [if_pos hj]
    · show (if j = i then [] else ad j) = []
      rw [if_neg hj]
      exact w.out j (get_set' e)
def scalD : D → Bool
  | .none => true
  | .bool _ => true
  | .int _ => true
  | .str _ => true
  | _ => false
theorem scal_any {d : D} {v : V} (h : scalD d = true) (r : Rp F v d) : Rp F' v d := by
  cases r with
  | non => exact .non
  | bl b => exact .bl b
  | int i => exact .int i
  | str x => exact .str x
  | lst _ _ => cases h
  | tup _ _ => cases h
/-- behind a loan, with nothing changed but the heap's new objects -/
theorem WA.back (w : WA B ad ρ σ F H) {i : Nat} {ds : List D} (h : ρ[i]? = some (.own ds)) {F1 : Hp} {ad1 : Nat → List Addr} {ρ1 : Env} (e1 : ρ1 = ρ.set i (.val (.list ds))) (ea : ad1 = fun k => if k = i then [] else ad k)
    (hF1 : Same F F1) (p : Post B ad1 σ ρ1 F1 H ρ1 F' H') : Post B ad σ ρ F H ρ F H' := by
  subst e1 ea
  have hi : i < ρ.length := (List.getElem?_eq_some_iff.mp h).1
  have ms : ∀ a, MS (fun k => if k = i then [] else ad k) (ρ.set i (.val (.list ds))) a → MS ad ρ a := fun a ⟨j, S, e, m⟩ => by
    rcases get_set e with ⟨_, q⟩ | ⟨hj, e⟩
    · cases q
    · simp only [if_neg hj] at m
      exact ⟨j, S, e, m⟩
  have fh : Same F H' := (hF1.trans p.gr.ff).trans p.gr.fh
  have nms : ∀ j q, q ∈ ad j → (∀ S, ρ[j]? ≠ some (Slot.st S)) → ¬ MS ad ρ q := fun j q m hj ⟨j', S, e, m'⟩ => by
    have := w.dj j j' q m m'
    subst this
    exact hj S e
  refine ⟨⟨⟨w.gr.ff, fh, p.wa.gr.kp, p.wa.gr.al, w.gr.fr⟩, w.len, fun j s e => ?_, w.fz, w.dj, w.out, w.pin⟩, ⟨Same.refl F, fh, fun a o e m => p.gr.kp a o e fun z => m (ms a z), p.gr.al, fun _ _ z => z⟩, fun j S e => ⟨S, e⟩⟩
  have k := w.sl j s e
  cases s with
  | emp => exact k
  | val d => exact k
  | own es =>
    obtain ⟨q, ws, k, k0, k1, k2, r⟩ := k
    refine ⟨q, ws, k, k0, k1, p.gr.kp q _ k2 fun z => nms j q (by rw [k]; simp) (fun S z => by rw [e] at z; cases z) (ms q z), r⟩
  | st S =>
    have hj : j ≠ i := fun z => by subst z; rw [h] at e; cases e
    have k' := p.wa.sl j (.st S) (by rw [List.getElem?_set_ne (Ne.symm hj)]; exact e)
    simp only [if_neg hj] at k'
    exact k'
theorem ex_lend (i : Nat) {ds : List D} (h : ρ[i]? = some (.own ds)) (k : EX te (ρ.set i (.val (.list ds))) fun d ρ' => ρ' = ρ.set i (.val (.list ds)) ∧ scalD d = true ∧ Q d ρ) : EX te ρ Q := fun B ad σ F H w Z z => by
  obtain ⟨p, vs, k1, k2, k3, k4, k5, k6, w2⟩ := w.lend h
  refine k B _ σ _ H w2 Z fun d ρ' v F' H' q P r => ?_
  obtain ⟨rfl, sc, q⟩ := q
  exact z d ρ v F H' q (w.back h rfl rfl (same_upd k2) P) (scal_any sc r)
theorem et_lend (i : Nat) {tt : TT} {Q : Bool → Env → Prop} {ds : List D} (h : ρ[i]? = some (.own ds)) (k : ET tt (ρ.set i (.val (.list ds))) fun b ρ' => ρ' = ρ.set i (.val (.list ds)) ∧ Q b ρ) : ET tt ρ Q := fun B ad σ F H w Z z => by
  obtain ⟨p, vs, k1, k2, k3, k4, k5, k6, w2⟩ := w.lend h
  refine k B _ σ _ H w2 Z fun d ρ' F' H' q P => ?_
  obtain ⟨rfl, q⟩ := q
  exact z d ρ F H' q (w.back h rfl rfl (same_upd k2) P)
/-- x[k], x an own list -/
theorem ex_ixO {K : PySem.W.Frag} {i : Nat} {es : List D} (h : ρ[i]? = some (.own es)) (k : EX tb ρ fun d ρ2 => ∃ ds j e, ρ2[i]? = some (.own ds) ∧ d = .int j ∧ atI ds j = some e ∧ Q e ρ2) : EX (tOp (rIxA K) (tVar i) tb) ρ Q := fun B ad σ F H w Z z => by
  obtain ⟨p0, _, _, _, k1, _⟩ := w.sl i _ h
  refine ⟨_, k1, k B ad σ F H w _ fun d ρ2 y F2 H2 q2 p2 r2 => ?_⟩
  obtain ⟨ds, j, e, h2, rfl, hj, q⟩ := q2
  obtain ⟨p, vs, _, _, k2, k3, rr⟩ := p2.wa.sl i _ h2
  rw [k1] at k2
  cases k2
  obtain ⟨v, hv, rv⟩ := rr.at_ hj
  exact .inl ⟨_, vs, j, v, rfl, r2.int_inv, .inl (.inl k3), hv, z e ρ2 v F2 H2 q p2 rv⟩
theorem ex_lenO {K : PySem.W.Frag} {i : Nat} {ds : List D} (h : ρ[i]? = some (.own ds)) (q : Q (.int (ds.length : Int)) ρ) : EX (tCB (rLen K) (tCons (tVar i) tNil)) ρ Q := fun B ad σ F H w Z z => by
  obtain ⟨p, vs, _, _, k1, k3, rr⟩ := w.sl i _ h
  exact ⟨_, k1, _, ds.length, rfl, .inl ⟨vs, .inl (.inl k3), rr.len.symm⟩, z _ ρ _ F H q (Post.refl w) (.int _)⟩
end

/-! ### statements -/
structure Po where
  nx : Env → Prop
  rt : D → Env → Prop
  bk : Env → Prop := fun _ => False
  ct : Env → Prop := fun _ => False
def SX (ts : TS) (ρ : Env) (P : Po) : Prop := ∀ B σ F H, W B ρ σ F H → ∀ Dn : Ends, (∀ ρ' σ' F' H', P.nx ρ' → W B ρ' σ' F' H' → Dn.nx σ' H') → (∀ d ρ' σ' v F' H', P.rt d ρ' → W B ρ' σ' F' H' → Rp F' v d → Dn.rt v H') →
  (∀ ρ' σ' F' H', P.bk ρ' → W B ρ' σ' F' H' → Dn.bk σ' H') → (∀ ρ' σ' F' H', P.ct ρ' → W B ρ' σ' F' H' → Dn.ct σ' H') → ts Dn σ H
/-- ρ' knows no more than ρ -/
inductive LeE : Env → Env → Prop
  | nil : LeE [] []
  | emp {s : Slot} {ρ' ρ : Env} : LeE ρ' ρ → LeE (.emp :: ρ') (s :: ρ)
  | eq {s s' : Slot} {ρ' ρ : Env} : s = s' → LeE ρ' ρ → LeE (s :: ρ') (s' :: ρ)
theorem LeE.refl : ∀ ρ, LeE ρ ρ
  | [] => .nil
  | _ :: ρ => .eq rfl (LeE.refl ρ)
theorem LeE.len {ρ' ρ : Env} (h : LeE ρ' ρ) : ρ'.length = ρ.length := by
  induction h with
  | nil => rfl
  | emp _ ih => simp [ih]
  | eq _ _ ih => simp [ih]
theorem LeE.get {ρ' ρ : Env} (h : LeE ρ' ρ) : ∀ {i : Nat} {s : Slot}, ρ'[i]? = some s → s = .emp ∨ ρ[i]? = some s := by
  induction h with
  | nil => intro i s e; simp at e
  | emp _ ih =>
    intro i s e
    cases i with
    | zero => simp at e; exact .inl e.symm
    | succ i => exact ih (by simpa using e)
  | eq q _ ih =>
    intro i s e
    cases i with
    | zero => simp at e; subst e; subst q; exact .inr rfl
    | succ i => exact ih (by simpa using e)
theorem WA.weak {B : Base} {ad : Nat → List Addr} {ρ ρ' : Env} {σ : St} {F H : Hp} (w : WA B ad ρ σ F H) (l : LeE ρ' ρ) : W B ρ' σ F H := by
  refine ⟨fun i => match ρ'[i]? with | some .emp => [] | _ => ad i, w.gr, by rw [l.len]; exact w.len, fun i s e => ?_, fun i p m => ?_, fun i j p m1 m2 => ?_, fun i e => ?_, w.pin.to fun S e => by
    rcases l.get e with h | h
    · cases h
    · exact ⟨⟨S, h⟩, rfl, by
        show (match ρ'[0]? with | some .emp => [] | _ => ad 0) = ad 0
        rw [e]⟩⟩
  · rcases l.get e with h | h
    · subst h
      show (match ρ'[i]? with | some .emp => [] | _ => ad i) = []
      rw [e]
    · have k := w.sl i s h
      show SlotOk B F H s σ[i]? (match ρ'[i]? with | some .emp => [] | _ => ad i)
      rw [e]
      cases s with
      | emp => rfl
      | _ => exact k
  · exact w.fz i p (by
      revert m
      show p ∈ (match ρ'[i]? with | some .emp => [] | _ => ad i) → p ∈ ad i
      split <;> simp)
  · have g : ∀ i, p ∈ (match ρ'[i]? with | some .emp => [] | _ => ad i) → p ∈ ad i := fun i => by split <;> simp
    exact w.dj i j p (g i m1) (g j m2)
  · show (match ρ'[i]? with | some .emp => [] | _ => ad i) = []
    rw [e]
    exact w.out i (by
      rw [List.getElem?_eq_none_iff] at e ⊢
      rw [← l.len]; exact e)
theorem W.weak {B : Base} {ρ ρ' : Env} {σ : St} {F H : Hp} (w : W B ρ σ F H) (l : LeE ρ' ρ) : W B ρ' σ F H := let ⟨_, w⟩ := w; w.weak l
/-- a slot is stored -/
theorem WA.setVal {B : Base} {ad : Nat → List Addr} {ρ : Env} {σ : St} {F H : Hp} (w : WA B ad ρ σ F H) (i : Nat) {d : D} {v : V} (r : Rp F v d) : W B (ρ.set i (.val d)) (σ.set i (some v)) F H := by
  refine ⟨fun k => if k = i then [] else ad k, w.gr, by rw [List.length_set, List.length_set]; exact w.len, fun j s e => ?_, fun j p m => ?_, fun j1 j2 q m1 m2 => ?_, fun j e => ?_, w.pin.to fun S e => by
    rcases get_set e with ⟨_, q⟩ | ⟨hj, e⟩
    · cases q
    · exact ⟨⟨S, e⟩, List.getElem?_set_ne (Ne.symm hj), if_neg hj⟩⟩
  · rcases get_set e with ⟨rfl, rfl⟩ | ⟨hj, e'⟩
    · have hi : j < σ.length := by
        have := (List.getElem?_eq_some_iff.mp e).1
        rw [List.length_set] at this
        rw [w.len]; exact this
      exact ⟨if_pos rfl, v, List.getElem?_set_self hi, r⟩
    · rw [if_neg hj, List.getElem?_set_ne (Ne.symm hj)]
      exact w.sl j s e'
  · by_cases hj : j = i
    · simp [hj] at m
    · simp only [if_neg hj] at m
      exact w.fz j p m
  · by_cases h1 : j1 = i
    · simp [h1] at m1
    · by_cases h2 : j2 = i
      · simp [h2] at m2
      · simp only [if_neg h1] at m1
        simp only [if_neg h2] at m2
        exact w.dj j1 j2 q m1 m2
  · show (if j = i then [] else ad j) = []
    by_cases hj : j = i
    · rw [if_pos hj]
    · rw [if_neg hj]
      exact w.out j (get_set' e)
theorem WA.setOwn {B : Base} {ad : Nat → List Addr} {ρ : Env} {σ : St} {F H : Hp} (w : WA B ad ρ σ F H) (i : Nat) {ds : List D} {p : Addr} {vs : List V} (hF : F p = none) (h0 : B.H0 p = none) (hn : ∀ i, p ∉ ad i) (hp : H p = some (.lst vs)) (r : RpA F vs ds) :
    W B (ρ.set i (.own ds)) (σ.set i (some (.ref p))) F H := by
  refine ⟨fun k => if k = i then (if i < ρ.length then [p] else []) else ad k, w.gr, by rw [List.length_set, List.length_set]; exact w.len, fun j s e => ?_, fun j q m => ?_, fun j1 j2 q m1 m2 => ?_, fun j e => ?_, w.pin.to fun S e => by
    rcases get_set e with ⟨_, q⟩ | ⟨hj, e⟩
    · cases q
    · exact ⟨⟨S, e⟩, List.getElem?_set_ne (Ne.symm hj), if_neg hj⟩⟩
  · rcases get_set e with ⟨rfl, rfl⟩ | ⟨hj, e'⟩
    · have hi : j < ρ.length := by
        have := (List.getElem?_eq_some_iff.mp e).1
        rwa [List.length_set] at this
      exact ⟨p, vs, by rw [if_pos rfl, if_pos hi], h0, List.getElem?_set_self (by rw [w.len]; exact hi), hp, r⟩
    · rw [if_neg hj, List.getElem?_set_ne (Ne.symm hj)]
      exact w.sl j s e'
  · by_cases hj : j = i
    · simp only [if_pos hj] at m
      by_cases hi : i < ρ.length
      · simp only [if_pos hi, List.mem_singleton] at m
        subst m
        exact ⟨hF, .inl h0⟩
      · simp [if_neg hi] at m
    · simp only [if_neg hj] at m
      exact w.fz j q m
  · have g : ∀ j, q ∈ (if j = i then (if i < ρ.length then [p] else []) else ad j) → (j = i ∧ q = p) ∨ (j ≠ i ∧ q ∈ ad j) := fun j m => by
      by_cases hj : j = i
      · simp only [if_pos hj] at m
        by_cases hi : i < ρ.length
        · simp only [if_pos hi, List.mem_singleton] at m
          exact .inl ⟨hj, m⟩
        · simp [if_neg hi] at m
      · simp only [if_neg hj] at m
        exact .inr ⟨hj, m⟩
    rcases g j1 m1 with ⟨a1, b1⟩ | ⟨a1, b1⟩ <;> rcases g j2 m2 with ⟨a2, b2⟩ | ⟨a2, b2⟩
    · rw [a1, a2]
    · exact absurd (b1 ▸ b2) (hn j2)
    · exact absurd (b2 ▸ b1) (hn j1)
    · exact w.dj j1 j2 q b1 b2
  · show (if j = i then (if i < ρ.length then [p] else []) else ad j) = []
    have e' := get_set' e
    by_cases hj : j = i
    · subst hj
      rw [if_pos rfl, if_neg (by rw [List.getElem?_eq_none_iff] at e'; omega)]
    · rw [if_neg hj]
      exact w.out j e'
/-- an own list is changed in place -/
theorem WA.mut {B : Base} {ad : Nat → List Addr} {ρ : Env} {σ : St} {F H : Hp} (w : WA B ad ρ σ F H) {i : Nat} {ds es : List D} {p : Addr} {ws : List V} (h : ρ[i]? = some (.own ds)) (hp : σ[i]? = some (some (.ref p))) (r : RpA F ws es) :
    W B (ρ.set i (.own es)) σ F (upd H p (.lst ws)) := by
  obtain ⟨p', vs, k, k0, k1, k2, _⟩ := w.sl i _ h
  rw [hp] at k1
  cases k1
  have hF : F p = none := (w.fz i p (by rw [k]; simp)).1
  have hn : ∀ j, j ≠ i → p ∉ ad j := fun j hj m => hj (w.dj j i p m (by rw [k]; simp))
  have ne0 : ∀ a o, B.H0 a = some o → a ≠ p := fun a o e z => by rw [z, k0] at e; cases e
  refine ⟨ad, ⟨w.gr.ff, fun a o e => ?_, fun a o e m => ?_, fun a e => ?_, w.gr.fr⟩, by rw [List.length_set]; exact w.len, fun j s e => ?_, w.fz, w.dj, fun j e => w.out j (get_set' e), w.pin.to fun S e => by
    rcases get_set e with ⟨_, q⟩ | ⟨hj, e⟩
    · cases q
    · exact ⟨⟨S, e⟩, rfl, rfl⟩⟩
  · rw [upd_ne (fun z => by rw [z, hF] at e; cases e)]
    exact w.gr.fh a o e
  · rw [upd_ne (ne0 a o e)]
    exact w.gr.kp a o e m
  · by_cases ha : a = p
    · rw [ha, upd_same]; intro z; cases z
    · rw [upd_ne ha]; exact w.gr.al a e
  · rcases get_set e with ⟨rfl, rfl⟩ | ⟨hj, e⟩
    · exact ⟨p, ws, k, k0, hp, upd_same, r⟩
    · have q := w.sl j s e
      cases s with
      | emp => exact q
      | val d => exact q
      | own es =>
        obtain ⟨q, vs, k1, k2, k3, k4, k5⟩ := q
        refine ⟨q, vs, k1, k2, k3, ?_, k5⟩
        rw [upd_ne (fun z => hn j hj (by rw [k1, z]; simp))]
        exact k4
      | st S =>
        obtain ⟨s, k1, q⟩ := q
        refine ⟨s, k1, ?_⟩
        cases S with
        | two a b =>
          refine ⟨q.1, ?_⟩
          rw [upd_ne (fun z => hn j hj (by rw [q.1, z]; simp))]
          exact q.2
        | cel a cs =>
          obtain ⟨c, q1, q2, q3, q4⟩ := q
          refine ⟨c, q1, q2, ?_, ?_⟩
          · rw [upd_ne (fun z => hn j hj (by rw [q1, z]; simp))]
            exact q3
          · rw [upd_ne (fun z => hn j hj (by rw [q1, z]; simp))]
            exact q4

/-! #### the rules for statements -/
section
variable {ρ ρ' : Env} {P : Po} {te ta tb : TE} {tt : TT} {t u : TS}
/-- what follows, perhaps with less known -/
def NX (P : Po) (ρ : Env) : Prop := ∃ ρ', LeE ρ' ρ ∧ P.nx ρ'
theorem nx_same (h : P.nx ρ) : NX P ρ := ⟨ρ, LeE.refl ρ, h⟩
theorem nx_le (l : LeE ρ' ρ) (h : P.nx ρ') : NX P ρ := ⟨ρ', l, h⟩
def CTn (P : Po) (ρ : Env) : Prop := ∃ ρ', LeE ρ' ρ ∧ P.ct ρ'
theorem sx_weak (l : LeE ρ' ρ) (h : SX t ρ' P) : SX t ρ P := fun B σ F H w => h B σ F H (w.weak l)
/-- then u -/
def Po.seq (P : Po) (u : TS) : Po := { P with nx := fun ρ' => SX u ρ' P }
theorem nx_seq (h : SX u ρ P) : NX (P.seq u) ρ := nx_same h
theorem nx_seqw (l : LeE ρ' ρ) (h : SX u ρ' P) : NX (P.seq u) ρ := nx_le l h
theorem sx_seq (h : SX t ρ (P.seq u)) : SX (tSeq t u) ρ P := fun B σ F H w Dn n r b c =>
  h B σ F H w { Dn with nx := u Dn } (fun ρ' σ' F' H' q w' => q B σ' F' H' w' Dn n r b c) r b c
theorem sx_next (h : NX P ρ) : SX tNext ρ P := fun B σ F H w Dn n r b c => let ⟨ρ', l, q⟩ := h; n ρ' σ F H q (w.weak l)
theorem sx_asg {i : Nat} (h : EX te ρ fun d ρ1 => NX P (ρ1.set i (.val d))) : SX (tAsg te (gName i)) ρ P := fun B σ F H w Dn n r b c => by
  obtain ⟨ad, w⟩ := w
  exact h B ad σ F H w _ fun d ρ1 v F1 H1 q p rv => let ⟨ρ', l, q⟩ := q; n ρ' _ F1 H1 q ((p.wa.setVal i rv).weak l)
theorem sx_asgO {i : Nat} (h : EO te ρ fun ds ρ1 => NX P (ρ1.set i (.own ds))) : SX (tAsg te (gName i)) ρ P := fun B σ F H w Dn n r b c => by
  obtain ⟨ad, w⟩ := w
  refine h B ad σ F H w _ fun ds ρ1 p vs F1 H1 q P hF hH hp rv => ?_
  obtain ⟨ρ', l, q⟩ := q
  have k := w.newp hH
  exact n ρ' _ F1 H1 q ((P.wa.setOwn i hF k.2.1 k.2.2 hp rv).weak l)
theorem sx_if (h : ET tt ρ fun b ρ1 => (b = true → SX t ρ1 P) ∧ (b = false → SX u ρ1 P)) : SX (tIfS tt t u) ρ P := fun B σ F H w Dn n r bk c => by
  obtain ⟨ad, w⟩ := w
  refine h B ad σ F H w _ fun b ρ1 F1 H1 q p => ?_
  cases b with
  | true =>
    show t Dn σ H1
    exact q.1 rfl B σ F1 H1 ⟨ad, p.wa⟩ Dn n r bk c
  | false =>
    show u Dn σ H1
    exact q.2 rfl B σ F1 H1 ⟨ad, p.wa⟩ Dn n r bk c
theorem sx_ret (h : EX te ρ fun d ρ1 => P.rt d ρ1) : SX (tRet te) ρ P := fun B σ F H w Dn n r b c => by
  obtain ⟨ad, w⟩ := w
  exact h B ad σ F H w _ fun d ρ1 v F1 H1 q p rv => r d ρ1 σ v F1 H1 q ⟨ad, p.wa⟩ rv
theorem sx_retN (h : P.rt .none ρ) : SX tRetN ρ P := fun B σ F H w Dn n r b c => r .none ρ σ .non F H h w .non
theorem sx_brk (h : P.bk ρ) : SX tBreak ρ P := fun B σ F H w Dn n r b c => b ρ σ F H h w
theorem sx_cont (h : CTn P ρ) : SX tCont ρ P := fun B σ F H w Dn n r b c => let ⟨ρ', l, q⟩ := h; c ρ' σ F H q (w.weak l)
theorem sx_drop (h : EX te ρ fun _ ρ1 => NX P ρ1) : SX (tDrop te) ρ P := fun B σ F H w Dn n r b c => by
  obtain ⟨ad, w⟩ := w
  exact h B ad σ F H w _ fun d ρ1 v F1 H1 q p rv => let ⟨ρ', l, q⟩ := q; n ρ' σ F1 H1 q (p.wa.weak l)
theorem W.freeze {B : Base} {σ : St} {F H : Hp} (w : W B ρ σ F H) {i : Nat} {ds : List D} (h : ρ[i]? = some (.own ds)) : ∃ F', W B (ρ.set i (.val (.list ds))) σ F' H := by
  obtain ⟨ad, w⟩ := w
  obtain ⟨p, vs, _, _, _, _, _, _, w2⟩ := w.lend h
  exact ⟨_, _, w2⟩
theorem sx_freeze (i : Nat) {ds : List D} (h : ρ[i]? = some (.own ds)) (k : SX t (ρ.set i (.val (.list ds))) P) : SX t ρ P := fun B σ F H w => by
  obtain ⟨F', w2⟩ := w.freeze h
  exact k B σ F' H w2
/-- x.append(e), x an own list -/
theorem sx_app {K : PySem.W.Frag} {i : Nat} {es : List D} (h : ρ[i]? = some (.own es)) (k : EX te ρ fun d ρ1 => ∃ ds, ρ1[i]? = some (.own ds) ∧ ds.length < 1000000 ∧ NX P (ρ1.set i (.own (ds ++ [d])))) : SX (tDrop (tBM K "list" rAppend (tVar i) (tCons te tNil))) ρ P := fun B σ F H w Dn n r b c => by
  obtain ⟨ad, w⟩ := w
  obtain ⟨p0, vs0, _, _, k1, k0, _⟩ := w.sl i _ h
  refine ⟨_, k1, .inl ⟨rfl, _, .inl (.inl k0)⟩, k B ad σ F H w _ fun d ρ1 v F1 H1 q1 p1 r1 => ?_⟩
  obtain ⟨ds, h1, hz, ρ', l, q⟩ := q1
  obtain ⟨p, vs, _, _, k2, k3, rr⟩ := p1.wa.sl i _ h1
  have e := k1.symm.trans k2
  cases e
  exact ⟨_, vs, v, rfl, rfl, k3, Nat.lt_of_lt_of_le (by rw [rr.len]; exact hz) (by decide), n ρ' σ F1 _ q ((p1.wa.mut h1 k2 (rr.app (.cons r1 .nil))).weak l)⟩
/-- x[j] = e, x an own list -/
theorem sx_setO {i : Nat} {es : List D} (h : EX te ρ fun d ρ1 => ρ1[i]? = some (.own es) ∧ EX tb ρ1 fun j ρ2 => ∃ ds k m, ρ2[i]? = some (.own ds) ∧ j = .int k ∧ ixN ds.length k = some m ∧ NX P (ρ2.set i (.own (ds.set m d)))) : SX (tAsg te (gSub (tVar i) tb rSetL)) ρ P := fun B σ F H w Dn n r b c => by
  obtain ⟨ad, w⟩ := w
  refine h B ad σ F H w _ fun d ρ1 v F1 H1 q1 p1 r1 => ?_
  obtain ⟨h1, q1⟩ := q1
  obtain ⟨p0, vs0, _, _, k1, k0, _⟩ := p1.wa.sl i _ h1
  refine ⟨_, k1, q1 B ad σ F1 H1 p1.wa _ fun j ρ2 y F2 H2 q2 p2 r2 => ?_⟩
  obtain ⟨ds, k, m, h2, rfl, hm, ρ', l, q⟩ := q2
  obtain ⟨p, vs, _, _, k2, k3, rr⟩ := p2.wa.sl i _ h2
  have e := k1.symm.trans k2
  cases e
  exact ⟨_, vs, k, m, rfl, r2.int_inv, k3, by rw [rr.len]; exact hm, n ρ' σ F2 _ q ((p2.wa.mut h2 k2 (rr.set m (r1.up p2.gr.ff))).weak l)⟩
/-- a, b = e, f -/
theorem sx_par {i j : Nat} {t : TA} (h : EA t ρ fun ds ρ1 => ∃ d e, ds = [d, e] ∧ NX P ((ρ1.set i (.val d)).set j (.val e))) : SX (tPar i j t) ρ P := fun B σ F H w Dn n r b c => by
  obtain ⟨ad, w⟩ := w
  refine h B ad σ F H w _ fun ds ρ1 vs F1 H1 q p rv => ?_
  obtain ⟨d, e, rfl, ρ', l, q⟩ := q
  obtain ⟨v, u, rfl, r1, r2⟩ := rv.two
  obtain ⟨ad2, w2⟩ := p.wa.setVal i r1
  exact ⟨v, u, rfl, n ρ' _ F1 H1 q ((w2.setVal j r2).weak l)⟩
/-! targets -/
def SG (J : List Nat) (g : TG) (d : D) (ρ : Env) (Qn : Env → Prop) : Prop := ∀ B ad σ F H v, WA B ad ρ σ F H → (∀ j ∈ J, ad j = []) → Rp F v d → ∀ Z : St → Hp → Prop, (∀ ρ' σ', Qn ρ' → WA B ad ρ' σ' F H → wipe σ' J = wipe σ J → (∀ i, i ∉ J → ρ'[i]? = ρ[i]?) → Z σ' H) → g v σ H Z
def SGs (J : List Nat) (g : TGs) (ds : List D) (ρ : Env) (Qn : Env → Prop) : Prop := ∀ B ad σ F H vs, WA B ad ρ σ F H → (∀ j ∈ J, ad j = []) → RpA F vs ds → ∀ Z : St → Hp → Prop, (∀ ρ' σ', Qn ρ' → WA B ad ρ' σ' F H → wipe σ' J = wipe σ J → (∀ i, i ∉ J → ρ'[i]? = ρ[i]?) → Z σ' H) → g vs σ H Z
theorem wipe_get {σ : St} {i : Nat} : ∀ {vs : List Nat}, (wipe σ vs)[i]? = if i ∈ vs ∧ i < σ.length then some none else σ[i]?
  | [] => by simp [wipe]
  | v :: vs => by
    unfold wipe
    by_cases h : i = v
    · subst h
      by_cases hl : i < σ.length
      · rw [List.getElem?_set_self (by rw [wipe_length]; exact hl)]
        simp [hl]
      · rw [List.getElem?_eq_none (by rw [List.length_set, wipe_length]; omega)]
        simp [hl]
    · rw [List.getElem?_set_ne (Ne.symm h), wipe_get]
      simp [h]
theorem wipe_set {σ : St} {i : Nat} {x : Option V} {J : List Nat} (h : i ∈ J) : wipe (σ.set i x) J = wipe σ J := by
  apply List.ext_getElem?
  intro k
  rw [wipe_get, wipe_get, List.length_set]
  by_cases hk : k ∈ J ∧ k < σ.length
  · rw [if_pos hk, if_pos hk]
  · rw [if_neg hk, if_neg hk]
    by_cases e : k = i
    · subst e
      have : ¬ k < σ.length := fun z => hk ⟨h, z⟩
      rw [List.getElem?_eq_none (by rw [List.length_set]; omega), List.getElem?_eq_none (by omega)]
    · rw [List.getElem?_set_ne (Ne.symm e)]
theorem WA.setVal' {B : Base} {ad : Nat → List Addr} {σ : St} {F H : Hp} (w : WA B ad ρ σ F H) (i : Nat) (hi : ad i = []) {d : D} {v : V} (r : Rp F v d) : WA B ad (ρ.set i (.val d)) (σ.set i (some v)) F H := by
  refine ⟨w.gr, by rw [List.length_set, List.length_set]; exact w.len, fun j s e => ?_, w.fz, w.dj, fun j e => w.out j (get_set' e), w.pin.to fun S e => by
    rcases get_set e with ⟨_, q⟩ | ⟨hj, e⟩
    · cases q
    · exact ⟨⟨S, e⟩, List.getElem?_set_ne (Ne.symm hj), rfl⟩⟩
  rcases get_set e with ⟨rfl, rfl⟩ | ⟨hj, e'⟩
  · have hl : j < σ.length := by
      have := (List.getElem?_eq_some_iff.mp e).1
      rw [List.length_set] at this
      rw [w.len]; exact this
    exact ⟨hi, v, List.getElem?_set_self hl, r⟩
  · rw [List.getElem?_set_ne (Ne.symm hj)]
    exact w.sl j s e'
theorem sg_name {J : List Nat} {i : Nat} {d : D} {Qn : Env → Prop} (hj : i ∈ J) (q : Qn (ρ.set i (.val d))) : SG J (gName i) d ρ Qn := fun B ad σ F H v w hJ r Z z => z _ _ q (w.setVal' i (hJ i hj) r) (wipe_set hj) fun k hk => List.getElem?_set_ne fun e => hk (by rw [← e]; exact hj)
theorem sgs_nil {J : List Nat} {Qn : Env → Prop} (q : Qn ρ) : SGs J gNil [] ρ Qn := fun B ad σ F H vs w hJ r Z z => by
  cases r
  exact ⟨rfl, z ρ σ q w rfl fun _ _ => rfl⟩
theorem sgs_cons {J : List Nat} {g : TG} {gs : TGs} {d : D} {ds : List D} {Qn : Env → Prop} (h : SG J g d ρ fun ρ1 => SGs J gs ds ρ1 Qn) : SGs J (gCons g gs) (d :: ds) ρ Qn := fun B ad σ F H vs w hJ r Z z => by
  cases r with
  | cons r1 r2 =>
    exact ⟨_, _, rfl, h B ad σ F H _ w hJ r1 _ fun ρ1 σ1 q w1 e1 f1 => q B ad σ1 F H _ w1 hJ r2 Z fun ρ2 σ2 q w2 e2 f2 => z ρ2 σ2 q w2 (e2.trans e1) fun i hi => (f2 i hi).trans (f1 i hi)⟩
theorem sg_tup {K : PySem.W.Frag} {J : List Nat} {n : Nat} {gs : TGs} {ds : List D} {Qn : Env → Prop} (hn : ds.length = n) (h : SGs J gs ds ρ Qn) : SG J (gTup K n gs) (.tuple ds) ρ Qn := fun B ad σ F H v w hJ r Z z => by
  obtain ⟨a, xs, rfl, h1, h2⟩ := r.tup_inv
  exact ⟨a, xs, rfl, sqT_rd h1 w.gr.fh, h2.len.trans hn, h B ad σ F H xs w hJ h2 Z z⟩
/-- the slots at vs forgotten -/
def wipeE (ρ : Env) (vs : List Nat) : Env := vs.foldl (fun r v => r.set v .emp) ρ
theorem wipeE_len (ρ : Env) (vs : List Nat) : (wipeE ρ vs).length = ρ.length := by
  unfold wipeE
  induction vs generalizing ρ with
  | nil => rfl
  | cons v vs ih => rw [List.foldl_cons, ih, List.length_set]
theorem wipeE_get : ∀ {vs : List Nat} {ρ : Env} {i : Nat}, (wipeE ρ vs)[i]? = if i ∈ vs ∧ i < ρ.length then some .emp else ρ[i]?
  | [], ρ, i => by simp [wipeE]
  | v :: vs, ρ, i => by
    have e : wipeE ρ (v :: vs) = wipeE (ρ.set v .emp) vs := rfl
    rw [e, wipeE_get, List.length_set]
    by_cases h : i ∈ vs ∧ i < ρ.length
    · rw [if_pos h, if_pos ⟨List.mem_cons_of_mem _ h.1, h.2⟩]
    · rw [if_neg h]
      by_cases hv : i = v
      · subst hv
        by_cases hl : i < ρ.length
        · rw [List.getElem?_set_self hl, if_pos ⟨by simp, hl⟩]
        · rw [List.getElem?_eq_none (by rw [List.length_set]; omega), if_neg (fun z => hl z.2), List.getElem?_eq_none (by omega)]
      · rw [List.getElem?_set_ne (Ne.symm hv)]
        rw [if_neg (fun z => h ⟨(List.mem_cons.mp z.1).resolve_left hv, z.2⟩)]
theorem WA.weakJ {B : Base} {ad : Nat → List Addr} {σ : St} {F H : Hp} (w : WA B ad ρ σ F H) (J : List Nat) : WA B (fun k => if k ∈ J then [] else ad k) (wipeE ρ J) σ F H := by
  have g : ∀ i p, p ∈ (if i ∈ J then [] else ad i) → p ∈ ad i := fun i p m => by
    by_cases h : i ∈ J
    · rw [if_pos h] at m; cases m
    · rw [if_neg h] at m; exact m
  refine ⟨w.gr, by rw [wipeE_len]; exact w.len, fun i s e => ?_, fun i p m => w.fz i p (g i p m), fun i j p m1 m2 => w.dj i j p (g i p m1) (g j p m2), fun i e => ?_, w.pin.to fun S e => by
    rw [wipeE_get] at e
    by_cases h : 0 ∈ J ∧ 0 < ρ.length
    · rw [if_pos h] at e; cases e
    · rw [if_neg h] at e
      have hi : 0 < ρ.length := (List.getElem?_eq_some_iff.mp e).1
      exact ⟨⟨S, e⟩, rfl, if_neg fun z => h ⟨z, hi⟩⟩⟩
  · rw [wipeE_get] at e
    by_cases h : i ∈ J ∧ i < ρ.length
    · rw [if_pos h] at e
      cases e
      exact if_pos h.1
    · rw [if_neg h] at e
      have hi : i < ρ.length := (List.getElem?_eq_some_iff.mp e).1
      have hJ : i ∉ J := fun z => h ⟨z, hi⟩
      simp only [if_neg hJ]
      exact w.sl i s e
  · rw [wipeE_get] at e
    by_cases hJ : i ∈ J
    · exact if_pos hJ
    · show (if i ∈ J then [] else ad i) = []
      rw [if_neg hJ]
      rw [if_neg (fun z => hJ z.1)] at e
      exact w.out i e
theorem sg_go {B : Base} {ad : Nat → List Addr} {σ : St} {F H : Hp} {J : List Nat} {g : TG} {d : D} {v : V} {Qn : Env → Prop} (h : SG J g d (wipeE ρ J) Qn) (w : WA B ad ρ σ F H) (r : Rp F v d) (Z : St → Hp → Prop) (z : ∀ ρ' σ', Qn ρ' → W B ρ' σ' F H → Z σ' H) : g v σ H Z :=
  h B _ σ F H v (w.weakJ J) (fun j hj => if_pos hj) r Z fun ρ' σ' q w' _ _ => z ρ' σ' q ⟨_, w'⟩
/-- (a, b) = e by a target -/
theorem sx_asgT {J : List Nat} {g : TG} (h : EX te ρ fun d ρ1 => SG J g d (wipeE ρ1 J) fun ρ2 => NX P ρ2) : SX (tAsg te g) ρ P := fun B σ F H w Dn n r b c => by
  obtain ⟨ad, w⟩ := w
  exact h B ad σ F H w _ fun d ρ1 v F1 H1 q p rv => sg_go q p.wa rv _ fun ρ2 σ2 q w2 => let ⟨ρ', l, q⟩ := q; n ρ' σ2 F1 H1 q (w2.weak l)
/-! loops -/
structure ItD (J : It) (F : Hp) (ds : List D) : Prop where
  go : ∀ i H, Same F H → i < ds.length → J.go i H
  stop : ∀ i H, Same F H → ds.length ≤ i → J.stop i H
  yld : ∀ i H x H' F1, Same F F1 → Same F1 H → J.yld i H x H' → i < ds.length → ∃ d F2, ds[i]? = some d ∧ Gr Non F1 H F2 H' ∧ Rp F2 x d
/-- what is walked -/
def EI (wi : TI) (ρ : Env) (Q : List D → Env → Prop) : Prop := ∀ B ad σ F H, WA B ad ρ σ F H → ∀ R : It → Hp → Prop, (∀ ds ρ' J F' H', Q ds ρ' → Post B ad σ ρ F H ρ' F' H' → ItD J F' ds → R J H') → wi σ H R
theorem W.rebase {B : Base} {σ : St} {F H : Hp} (w : W B ρ σ F H) : W { F0 := F, H0 := B.H0, M := B.M, pin := B.pin } ρ σ F H := by
  obtain ⟨ad, w⟩ := w
  refine ⟨ad, ⟨Same.refl F, w.gr.fh, w.gr.kp, w.gr.al, fun _ _ z => z⟩, w.len, fun i s e => ?_, w.fz, w.dj, w.out, w.pin⟩
  have k := w.sl i s e
  cases s <;> exact k
theorem W.unbase {B : Base} {σ σ' : St} {F H F' H' : Hp} (w : W B ρ σ F H) (w' : W { F0 := F, H0 := B.H0, M := B.M, pin := B.pin } ρ' σ' F' H') : W B ρ' σ' F' H' ∧ Same F F' := by
  obtain ⟨ad, w⟩ := w
  obtain ⟨ad', w'⟩ := w'
  refine ⟨⟨ad', ⟨w.gr.ff.trans w'.gr.ff, w'.gr.fh, w'.gr.kp, w'.gr.al, fun a e z => w'.gr.fr a e (w.gr.fr a e z)⟩, w'.len, fun i s e => ?_, w'.fz, w'.dj, w'.out, w'.pin⟩, w'.gr.ff⟩
  have k := w'.sl i s e
  cases s <;> exact k
theorem sx_for {wi : TI} {J : List Nat} {g : TG} (h : EI wi ρ fun ds ρ1 => ∃ I : Nat → Env → Prop, I 0 ρ1 ∧ (∀ k d ρ', ds[k]? = some d → I k ρ' → SG J g d (wipeE ρ' J) fun ρ2 => SX t ρ2 { nx := I (k + 1), ct := I (k + 1), bk := NX P, rt := P.rt }) ∧ ∀ ρ', I ds.length ρ' → NX P ρ') :
    SX (tFor wi g t) ρ P := fun B σ F H w Dn n r b c => by
  obtain ⟨ad, w⟩ := w
  refine h B ad σ F H w _ fun ds ρ1 J F1 H1 q1 p1 it => ?_
  obtain ⟨I, i0, turn, done⟩ := q1
  refine ⟨fun i m σ' H' => m = ds.length - i ∧ i ≤ ds.length ∧ ∃ ρ' F', I i ρ' ∧ W B ρ' σ' F' H' ∧ Same F1 F', ⟨_, rfl, Nat.zero_le _, ρ1, F1, i0, ⟨ad, p1.wa⟩, Same.refl _⟩, ?_⟩
  rintro i m σ' H' ⟨rfl, hi, ρ', F', iv, ⟨ad', w'⟩, sf⟩
  by_cases hlt : i < ds.length
  · refine .inr ⟨it.go i H' (sf.trans w'.gr.fh) hlt, fun σ2 H2 => ∃ ρ2 F2, I (i + 1) ρ2 ∧ W B ρ2 σ2 F2 H2 ∧ Same F1 F2, fun σ2 H2 ⟨ρ2, F2, a, b, c⟩ => ⟨ds.length - (i + 1), by omega, rfl, hlt, ρ2, F2, a, b, c⟩, fun x H2 y => ?_⟩
    obtain ⟨d, F2, e, gr, rx⟩ := it.yld i H' x H2 F' sf w'.gr.fh y hlt
    refine sg_go (turn i d ρ' e iv) (w'.grow gr) rx _ fun ρ2 σ2 q w2 => ?_
    exact q _ σ2 F2 H2 w2.rebase _ (fun ρ3 σ3 F3 H3 q3 w3 => let k := w2.unbase w3; ⟨ρ3, F3, q3, k.1, (sf.trans gr.ff).trans k.2⟩) (fun d ρ3 σ3 v F3 H3 q3 w3 rv => r d ρ3 σ3 v F3 H3 q3 (w2.unbase w3).1 rv) (fun ρ3 σ3 F3 H3 q3 w3 => let ⟨ρ4, l, q4⟩ := q3; n ρ4 σ3 F3 H3 q4 ((w2.unbase w3).1.weak l)) (fun ρ3 σ3 F3 H3 q3 w3 => let k := w2.unbase w3; ⟨ρ3, F3, q3, k.1, (sf.trans gr.ff).trans k.2⟩)
  · have e : i = ds.length := by omega
    subst e
    obtain ⟨ρ2, l, q⟩ := done ρ' iv
    exact .inl ⟨it.stop _ H' (sf.trans w'.gr.fh) (Nat.le_refl _), n ρ2 σ' F' H' q (w'.weak l)⟩
theorem sx_while (I : Nat → Env → Prop) (m0 : Nat) (i0 : I m0 ρ) (h : ∀ m ρ', I m ρ' → ET tt ρ' fun b ρ1 => (b = true → SX t ρ1 { nx := fun ρ2 => ∃ m', m' < m ∧ I m' ρ2, ct := fun ρ2 => ∃ m', m' < m ∧ I m' ρ2, bk := NX P, rt := P.rt }) ∧ (b = false → NX P ρ1)) : SX (tWhile tt t) ρ P := fun B σ F H w Dn n r b c => by
  refine ⟨fun m σ' H' => ∃ ρ' F', I m ρ' ∧ W B ρ' σ' F' H', ⟨m0, ρ, F, i0, w⟩, ?_⟩
  rintro m σ' H' ⟨ρ', F', iv, ⟨ad, w'⟩⟩
  refine h m ρ' iv B ad σ' F' H' w' _ fun b1 ρ1 F1 H1 q p => ?_
  cases b1 with
  | true =>
    refine ⟨fun σ2 H2 => ∃ m' ρ2 F2, m' < m ∧ I m' ρ2 ∧ W B ρ2 σ2 F2 H2, fun σ2 H2 ⟨m', ρ2, F2, a, b, c⟩ => ⟨m', a, ρ2, F2, b, c⟩, ?_⟩
    exact q.1 rfl B σ' F1 H1 ⟨ad, p.wa⟩ _ (fun ρ3 σ3 F3 H3 q3 w3 => let ⟨m', a, b⟩ := q3; ⟨m', ρ3, F3, a, b, w3⟩) r (fun ρ3 σ3 F3 H3 q3 w3 => let ⟨ρ4, l, q4⟩ := q3; n ρ4 σ3 F3 H3 q4 (w3.weak l)) (fun ρ3 σ3 F3 H3 q3 w3 => let ⟨m', a, b⟩ := q3; ⟨m', ρ3, F3, a, b, w3⟩)
  | false =>
    show Dn.nx σ' H1
    obtain ⟨ρ2, l, q2⟩ := q.2 rfl
    exact n ρ2 σ' F1 H1 q2 (W.weak ⟨ad, p.wa⟩ l)
/-! what is walked -/
theorem ei_list {K : PySem.W.Frag} {Q : List D → Env → Prop} (h : EX te ρ fun d ρ1 => ∃ ds, d = .list ds ∧ Q ds ρ1) : EI (iList K te) ρ Q := fun B ad σ F H w R z =>
  h B ad σ F H w _ fun d ρ1 v F1 H1 q p r => by
    obtain ⟨ds, rfl, q⟩ := q
    obtain ⟨a, xs, rfl, h1, h2⟩ := r.lst_inv
    refine ⟨a, rfl, ⟨xs, sqL_rd h1 p.wa.gr.fh⟩, z ds ρ1 _ F1 H1 q p ⟨fun i H' e hi => ⟨xs, xs[i]'(by rw [h2.len]; exact hi), sqL_rd h1 e, by simp⟩, fun i H' e hi => ⟨xs, sqL_rd h1 e, by rw [h2.len]; exact hi⟩, fun i H' x H2 F2 e1 e2 y hi => ?_⟩⟩
    obtain ⟨rfl, y⟩ := y
    obtain ⟨d, hd, rd⟩ := h2.get' (y xs (sqL_rd h1 (e1.trans e2)))
    exact ⟨d, F2, hd, Gr.refl e2, rd.up e1⟩
theorem ei_tup {K : PySem.W.Frag} {Q : List D → Env → Prop} (h : EX te ρ fun d ρ1 => ∃ ds, d = .tuple ds ∧ Q ds ρ1) : EI (iTup K te) ρ Q := fun B ad σ F H w R z =>
  h B ad σ F H w _ fun d ρ1 v F1 H1 q p r => by
    obtain ⟨ds, rfl, q⟩ := q
    obtain ⟨a, xs, rfl, h1, h2⟩ := r.tup_inv
    refine ⟨a, rfl, ⟨xs, sqT_rd h1 p.wa.gr.fh⟩, z ds ρ1 _ F1 H1 q p ⟨fun i H' e hi => ⟨xs, xs[i]'(by rw [h2.len]; exact hi), sqT_rd h1 e, by simp⟩, fun i H' e hi => ⟨xs, sqT_rd h1 e, by rw [h2.len]; exact hi⟩, fun i H' x H2 F2 e1 e2 y hi => ?_⟩⟩
    obtain ⟨rfl, y⟩ := y
    obtain ⟨d, hd, rd⟩ := h2.get' (y xs (sqT_rd h1 (e1.trans e2)))
    exact ⟨d, F2, hd, Gr.refl e2, rd.up e1⟩
/-- lo, lo + 1, .., n of them -/
def rngI (lo : Int) (n : Nat) : List Int := (List.range n).map fun k : Nat => lo + (k : Int)
theorem rngI_len (lo : Int) (n : Nat) : (rngI lo n).length = n := by simp [rngI]
theorem rngI_get {lo : Int} {n k : Nat} (h : k < n) : (rngI lo n)[k]? = some (lo + (k : Int)) := by simp [rngI, h]
theorem rngI_mem {lo x : Int} {n : Nat} : x ∈ rngI lo n ↔ lo ≤ x ∧ x < lo + (n : Int) := by
  unfold rngI
  rw [List.mem_map]
  constructor
  · rintro ⟨k, hk, rfl⟩
    rw [List.mem_range] at hk
    omega
  · intro h
    exact ⟨(x - lo).toNat, by rw [List.mem_range]; omega, by omega⟩
theorem itd_rng {F : Hp} (lo : Int) (n : Nat) : ItD (Itr lo n) F ((rngI lo n).map .int) where
  go := fun i H _ h => by rw [List.length_map, rngI_len] at h; exact h
  stop := fun i H _ h => by rw [List.length_map, rngI_len] at h; exact h
  yld := fun i H x H' F1 _ e2 y h => by
    rw [List.length_map, rngI_len] at h
    obtain ⟨rfl, rfl⟩ := y
    exact ⟨.int (lo + (i : Int)), F1, by rw [List.getElem?_map, rngI_get h]; rfl, Gr.refl e2, .int _⟩
theorem ei_rng1 {t : TA} {Q : List D → Env → Prop} (h : EA t ρ fun ds ρ1 => ∃ n, ds = [.int n] ∧ (-1000000000000 ≤ n ∧ n ≤ 1000000000000) ∧ Q ((rngI 0 n.toNat).map .int) ρ1) : EI (iRng1 t) ρ Q := fun B ad σ F H w R z =>
  h B ad σ F H w _ fun ds ρ1 vs F1 H1 q p r => by
    obtain ⟨n, rfl, ⟨hn1, hn2⟩, q⟩ := q
    obtain ⟨v, rfl, rv⟩ := r.one
    exact ⟨n, by rw [rv.int_inv], by omega, by omega, z _ ρ1 _ F1 H1 q p (itd_rng 0 _)⟩
theorem ei_rng2 {t : TA} {Q : List D → Env → Prop} (h : EA t ρ fun ds ρ1 => ∃ l n, ds = [.int l, .int n] ∧ (-1000000000000 ≤ l ∧ l ≤ 1000000000000 ∧ -1000000000000 ≤ n ∧ n ≤ 1000000000000) ∧ Q ((rngI l (n - l).toNat).map .int) ρ1) : EI (iRng2 t) ρ Q := fun B ad σ F H w R z =>
  h B ad σ F H w _ fun ds ρ1 vs F1 H1 q p r => by
    obtain ⟨l, n, rfl, ⟨hl1, hl2, hn1, hn2⟩, q⟩ := q
    obtain ⟨v, u, rfl, rv, ru⟩ := r.two
    exact ⟨l, n, by rw [rv.int_inv, ru.int_inv], ⟨by omega, by omega, by omega, by omega⟩, z _ ρ1 _ F1 H1 q p (itd_rng l _)⟩
/-- enumerate: pairs (index, item) -/
def enumD (k : Nat) : List D → List D
  | [] => []
  | d :: ds => .tuple [.int (k : Int), d] :: enumD (k + 1) ds
theorem enumD_len : ∀ (ds : List D) (k : Nat), (enumD k ds).length = ds.length
  | [], _ => rfl
  | d :: ds, k => by simp [enumD, enumD_len ds]
theorem enumD_get : ∀ (ds : List D) (k i : Nat) {d : D}, ds[i]? = some d → (enumD k ds)[i]? = some (.tuple [.int ((k + i : Nat) : Int), d])
  | [], _, i, _, h => by simp at h
  | e :: ds, k, 0, d, h => by simp at h; subst h; rfl
  | e :: ds, k, i + 1, d, h => by
    have q := enumD_get ds (k + 1) i (by simpa using h)
    show (enumD (k + 1) ds)[i]? = _
    rw [q, show k + 1 + i = k + (i + 1) by omega]
theorem ei_enum {K : PySem.W.Frag} {t : TA} {Q : List D → Env → Prop} (h : EA t ρ fun es ρ1 => ∃ ds, es = [.list ds] ∧ Q (enumD 0 ds) ρ1) : EI (iEnum K t) ρ Q := fun B ad σ F H w R z =>
  h B ad σ F H w _ fun es ρ1 vs F1 H1 q p r => by
    obtain ⟨ds, rfl, q⟩ := q
    obtain ⟨v, rfl, rv⟩ := r.one
    obtain ⟨a, xs, rfl, h1, h2⟩ := rv.lst_inv
    refine ⟨a, xs, rfl, sqL_rd h1 p.wa.gr.fh, z _ ρ1 _ F1 H1 q p ⟨fun i H' e hi => ?_, fun i H' e hi => ?_, fun i H' x H2 F2 e1 e2 y hi => ?_⟩⟩
    · rw [enumD_len] at hi
      exact ⟨xs, xs[i]'(by rw [h2.len]; exact hi), sqL_rd h1 e, by simp⟩
    · rw [enumD_len] at hi
      exact ⟨xs, sqL_rd h1 e, by rw [h2.len]; exact hi⟩
    · obtain ⟨T, x, rfl, hT, rfl, y⟩ := y
      obtain ⟨d, hd, rd⟩ := h2.get' (y xs (sqL_rd h1 (e1.trans e2)))
      have g := Gr.new (o := .tup [.int (i : Nat), x]) e2 hT
      refine ⟨_, upd F2 T (.tup [.int (i : Nat), x]), enumD_get ds 0 i hd, g, .tup upd_same (.cons ?_ (.cons ((rd.up e1).up g.ff) .nil))⟩
      rw [Nat.zero_add]
      exact .int _
theorem ei_zip {K : PySem.W.Frag} {t : TA} {Q : List D → Env → Prop} (h : EA t ρ fun es ρ1 => ∃ ds fs, es = [.list ds, .list fs] ∧ Q (List.zipWith (fun d f => PyData.tuple [d, f]) ds fs) ρ1) : EI (iZip K t) ρ Q := fun B ad σ F H w R z =>
  h B ad σ F H w _ fun es ρ1 vs F1 H1 q p r => by
    obtain ⟨ds, fs, rfl, q⟩ := q
    obtain ⟨v, u, rfl, rv, ru⟩ := r.two
    obtain ⟨a, xs, rfl, h1, h2⟩ := rv.lst_inv
    obtain ⟨b, ys, rfl, g1, g2⟩ := ru.lst_inv
    refine ⟨a, b, xs, ys, rfl, sqL_rd h1 p.wa.gr.fh, sqL_rd g1 p.wa.gr.fh, z _ ρ1 _ F1 H1 q p ⟨fun i H' e hi => ?_, fun i H' e hi => ?_, fun i H' x H2 F2 e1 e2 y hi => ?_⟩⟩
    · rw [List.length_zipWith] at hi
      exact ⟨xs, ys, xs[i]'(by rw [h2.len]; omega), ys[i]'(by rw [g2.len]; omega), sqL_rd h1 e, sqL_rd g1 e, by simp, by simp⟩
    · rw [List.length_zipWith] at hi
      exact ⟨xs, ys, sqL_rd h1 e, sqL_rd g1 e, by rw [h2.len, g2.len]; omega⟩
    · obtain ⟨T, x, y', rfl, hT, rfl, y1, y2⟩ := y
      obtain ⟨d, hd, rd⟩ := h2.get' (y1 xs (sqL_rd h1 (e1.trans e2)))
      obtain ⟨f, hf, rf⟩ := g2.get' (y2 ys (sqL_rd g1 (e1.trans e2)))
      have g := Gr.new (o := .tup [x, y']) e2 hT
      exact ⟨_, upd F2 T (.tup [x, y']), by rw [List.getElem?_zipWith, hd, hf], g, .tup upd_same (.cons ((rd.up e1).up g.ff) (.cons ((rf.up e1).up g.ff) .nil))⟩
end

/-! ### comprehensions -/
section
variable {ρ ρ' : Env} {te : TE} {tt : TT} {wi : TI} {g : TG}
/-- vs's slots as in the first, the others as in the second -/
def unwA : Nat → List Nat → Env → Env → Env
  | k, vs, a :: ρ, b :: ρ' => (if vs.contains k = true then a else b) :: unwA (k + 1) vs ρ ρ'
  | _, _, _, _ => []
abbrev unw (vs : List Nat) (ρ ρ' : Env) : Env := unwA 0 vs ρ ρ'
theorem unwA_len : ∀ {k : Nat} {vs : List Nat} {ρ ρ' : Env}, ρ'.length = ρ.length → (unwA k vs ρ ρ').length = ρ.length
  | _, _, [], [], _ => rfl
  | _, _, [], _ :: _, h => by simp at h
  | _, _, _ :: _, [], h => by simp at h
  | k, vs, a :: ρ, b :: ρ', h => by
    show (unwA (k + 1) vs ρ ρ').length + 1 = ρ.length + 1
    rw [unwA_len (by simpa using h)]
theorem unwA_get : ∀ {k : Nat} {vs : List Nat} {ρ ρ' : Env} {i : Nat}, ρ'.length = ρ.length → (unwA k vs ρ ρ')[i]? = if k + i ∈ vs then ρ[i]? else ρ'[i]?
  | _, _, [], [], i, _ => by simp [unwA]
  | _, _, [], _ :: _, _, h => by simp at h
  | _, _, _ :: _, [], _, h => by simp at h
  | k, vs, a :: ρ, b :: ρ', 0, h => by
    show some (if vs.contains k = true then a else b) = if k + 0 ∈ vs then some a else some b
    by_cases hk : k ∈ vs
    · rw [if_pos (by simpa using hk), if_pos (by simpa using hk)]
    · rw [if_neg (by simpa using hk), if_neg (by simpa using hk)]
  | k, vs, a :: ρ, b :: ρ', i + 1, h => by
    show (unwA (k + 1) vs ρ ρ')[i]? = if k + (i + 1) ∈ vs then ρ[i]? else ρ'[i]?
    rw [unwA_get (by simpa using h), show k + 1 + i = k + (i + 1) by omega]
/-- the slots at vs hold nothing that is owned -/
def isPl : Option Slot → Bool
  | some (.own _) => false
  | some (.st _) => false
  | _ => true
def Plain (ρ : Env) (vs : List Nat) : Prop := ∀ i ∈ vs, isPl ρ[i]? = true
theorem Plain.ad {B : Base} {ad : Nat → List Addr} {σ : St} {F H : Hp} {vs : List Nat} (w : WA B ad ρ σ F H) (pl : Plain ρ vs) : ∀ j ∈ vs, ad j = [] := fun j hj => by
  have k := pl j hj
  cases e : ρ[j]? with
  | none => exact w.out j e
  | some s =>
    have q := w.sl j s e
    rw [e] at k
    cases s with
    | emp => exact q
    | val d => exact q.1
    | own _ => cases k
    | st _ => cases k
theorem WA.wiped {B : Base} {ad : Nat → List Addr} {σ : St} {F H : Hp} {vs : List Nat} (w : WA B ad ρ σ F H) (pl : Plain ρ vs) : WA B ad (wipeE ρ vs) (wipe σ vs) F H where
  gr := w.gr
  len := by rw [wipe_length, wipeE_len]; exact w.len
  sl := fun i s e => by
    rw [wipeE_get] at e
    rw [wipe_get]
    by_cases h : i ∈ vs ∧ i < ρ.length
    · rw [if_pos h] at e
      cases e
      exact pl.ad w i h.1
    · rw [if_neg h] at e
      rw [if_neg (by rw [w.len]; exact h)]
      exact w.sl i s e
  fz := w.fz
  dj := w.dj
  out := fun i e => by
    rw [wipeE_get] at e
    by_cases h : i ∈ vs ∧ i < ρ.length
    · rw [if_pos h] at e; cases e
    · rw [if_neg h] at e; exact w.out i e
  pin := w.pin.to fun S e => by
    rw [wipeE_get] at e
    by_cases h : 0 ∈ vs ∧ 0 < ρ.length
    · rw [if_pos h] at e; cases e
    · rw [if_neg h] at e
      exact ⟨⟨S, e⟩, by rw [wipe_get, if_neg (by rw [w.len]; exact h)], rfl⟩
theorem wipe_eq {σ σ' : St} {vs : List Nat} (h : wipe σ' vs = wipe σ vs) {i : Nat} (hi : i ∉ vs) : σ'[i]? = σ[i]? := by
  have e := congrArg (fun l => l[i]?) h
  simp only [wipe_get] at e
  rwa [if_neg (fun z => hi z.1), if_neg (fun z => hi z.1)] at e
/-- behind the block's turn: the outer slots again -/
theorem Post.unwiped {B : Base} {ad : Nat → List Addr} {σ σ2 : St} {F H F' H' : Hp} {vs : List Nat} {ρ1 ρ2 : Env} (w : WA B ad ρ1 σ F H) (pl : Plain ρ1 vs)
    (hσ : wipe σ2 vs = wipe σ vs) (fr : ∀ i, i ∉ vs → ρ2[i]? = (wipeE ρ1 vs)[i]?) (w2 : WA B ad ρ2 σ2 F H) (p : Post B ad σ2 ρ2 F H ρ' F' H') : Post B ad σ ρ1 F H (unw vs ρ1 ρ') F' H' := by
  have hl : ρ'.length = ρ1.length := by
    have l1 := p.wa.len
    have l2 := congrArg List.length hσ
    rw [wipe_length, wipe_length] at l2
    rw [← l1, l2, w.len]
  have pa := pl.ad w
  have ms : ∀ a, MS ad ρ2 a → MS ad ρ1 a := fun a ⟨i, S, e, m⟩ => by
    have hi : i ∉ vs := fun z => by rw [pa i z] at m; cases m
    rw [fr i hi, wipeE_get, if_neg (fun z => hi z.1)] at e
    exact ⟨i, S, e, m⟩
  refine ⟨⟨p.wa.gr, by rw [unwA_len hl]; exact w.len, fun i s e => ?_, p.wa.fz, p.wa.dj, fun i e => ?_, fun s as hp S e => ?_⟩, ⟨p.gr.ff, p.gr.fh, fun a o e m => p.gr.kp a o e fun z => m (ms a z), p.gr.al, p.gr.fr⟩, fun i S e => ?_⟩
  · rw [unwA_get hl, Nat.zero_add] at e
    by_cases hi : i ∈ vs
    · rw [if_pos hi] at e
      have k := w.sl i s e
      have q := pl i hi
      rw [e] at q
      cases s with
      | emp => exact k
      | val d =>
        obtain ⟨k, v, e, r⟩ := k
        exact ⟨k, v, e, r.up p.gr.ff⟩
      | own _ => cases q
      | st _ => cases q
    · rw [if_neg hi] at e
      rw [← wipe_eq hσ hi]
      exact p.wa.sl i s e
  · rw [List.getElem?_eq_none_iff, unwA_len hl, ← hl, ← List.getElem?_eq_none_iff] at e
    exact p.wa.out i e
  · rw [unwA_get hl, Nat.zero_add] at e
    by_cases hi : 0 ∈ vs
    · rw [if_pos hi] at e
      have q := pl 0 hi
      rw [e] at q
      cases q
    · rw [if_neg hi] at e
      rw [← wipe_eq hσ hi]
      exact p.wa.pin s as hp S e
  · rw [unwA_get hl, Nat.zero_add] at e
    by_cases hi : i ∈ vs
    · rw [if_pos hi] at e
      exact ⟨S, e⟩
    · rw [if_neg hi] at e
      obtain ⟨S', e'⟩ := p.sh i S e
      rw [fr i hi, wipeE_get, if_neg (fun z => hi z.1)] at e'
      exact ⟨S', e'⟩
/-- [e for target in ..], by an invariant over the turn, the items made, the slots -/
theorem eo_lc {vs : List Nat} {Q : List D → Env → Prop} (h : EI wi ρ fun ds ρ1 => ∃ I : Nat → List D → Env → Prop, I 0 [] ρ1 ∧
    (∀ k d acc ρ', ds[k]? = some d → I k acc ρ' → Plain ρ' vs ∧ acc.length < 1000000 ∧ SG vs g d (wipeE ρ' vs) fun ρ2 => ET tt ρ2 fun b ρ3 => (b = true → EX te ρ3 fun e ρ4 => I (k + 1) (acc ++ [e]) (unw vs ρ' ρ4)) ∧ (b = false → I (k + 1) acc (unw vs ρ' ρ3))) ∧
    ∀ acc ρ', I ds.length acc ρ' → Q acc ρ') : EO (tLc wi g tt te vs) ρ Q := fun B ad σ F H w Z z => by
  refine h B ad σ F H w _ fun ds ρ1 J F1 H1 q1 p1 it => ?_
  obtain ⟨I, i0, turn, done⟩ := q1
  intro Dl hD
  have hDH : H Dl = none := by
    cases q : H Dl with
    | none => rfl
    | some o => exact absurd hD (p1.gr.al Dl (by rw [q]; intro z; cases z))
  have nw := p1.wa.newp hD
  -- at each turn: the outer slots, over a heap in which Dl is not seen
  let Inv := fun (i : Nat) (H' : Hp) => ∃ acc ρ' F' vs', I i acc ρ' ∧ Post B ad σ ρ1 F1 H1 ρ' F' H' ∧ F' Dl = none ∧ H' Dl = some (.lst vs') ∧ RpA F' vs' acc
  refine ⟨fun i m H' => m = ds.length - i ∧ i ≤ ds.length ∧ Inv i H', ⟨_, rfl, Nat.zero_le _, [], ρ1, F1, [], i0, Post.of p1.wa (Gr.heap p1.wa.gr.fh (same_upd hD)), nw.1, upd_same, .nil⟩, ?_⟩
  rintro i m H' ⟨rfl, hi, acc, ρ', F', vs', iv, P, hF, hH, ra⟩
  by_cases hlt : i < ds.length
  · refine .inr ⟨it.go i H' (P.gr.ff.trans P.wa.gr.fh) hlt, fun H2 => Inv (i + 1) H2, fun H2 k => ⟨ds.length - (i + 1), by omega, rfl, hlt, k⟩, fun x H2 y => ?_⟩
    obtain ⟨d, F2, e, gr, rx⟩ := it.yld i H' x H2 F' P.gr.ff P.wa.gr.fh y hlt
    obtain ⟨pl, hz, k⟩ := turn i d acc ρ' e iv
    have P2 := P.trans (Post.of P.wa gr)
    have w2 := P.wa.grow gr
    have hF2 : F2 Dl = none := gr.fr Dl (by rw [hH]; intro z; cases z) hF
    have hH2 : H2 Dl = some (.lst vs') := gr.kp Dl _ hH id
    have nms : ∀ (ρ2 : Env), ¬ MS ad ρ2 Dl := fun ρ2 ⟨j, S, _, m⟩ => nw.2.2 j m
    refine k B ad (wipe σ vs) F2 H2 x (w2.wiped pl) (pl.ad w2) rx _ fun ρ2 σ2 q wb e2 fr => ?_
    have e2' : wipe σ2 vs = wipe σ vs := by
      rw [e2]
      apply List.ext_getElem?
      intro j
      rw [wipe_get, wipe_get, wipe_length]
      split
      · rfl
      · first | rfl | rw [wipe_get, if_neg (by assumption)]
    refine ⟨e2', q B ad σ2 F2 H2 wb _ fun b ρ3 F3 H3 q3 p3 => ?_⟩
    cases b with
    | true =>
      show te σ2 H3 _
      refine q3.1 rfl B ad σ2 F3 H3 p3.wa _ fun e ρ4 v F4 H4 q4 p4 rv => ?_
      have p34 := p3.trans p4
      have pu := Post.unwiped w2 pl e2' fr wb p34
      have hH4 : H4 Dl = some (.lst vs') := p34.gr.kp Dl _ hH2 (nms _)
      have hF4 : F4 Dl = none := p34.gr.fr Dl (by rw [hH2]; intro z; cases z) hF2
      have ra4 : RpA F4 (vs' ++ [v]) (acc ++ [e]) := (ra.up (gr.ff.trans p34.gr.ff)).app (.cons rv .nil)
      refine ⟨vs', hH4, Nat.lt_of_lt_of_le (by rw [ra.len]; exact hz) (by decide), acc ++ [e], _, F4, vs' ++ [v], q4, ?_, hF4, upd_same, ra4⟩
      -- Dl grows: nobody sees it
      have pt := P2.trans pu
      have ne1 : ∀ a o, H1 a = some o → a ≠ Dl := fun a o q z => by rw [z, hD] at q; cases q
      have neF : ∀ a o, F4 a = some o → a ≠ Dl := fun a o q z => by rw [z, hF4] at q; cases q
      refine ⟨⟨⟨pt.wa.gr.ff, fun a o q => by rw [upd_ne (neF a o q)]; exact pt.wa.gr.fh a o q, fun a o q m => ?_, fun a q => ?_, pt.wa.gr.fr⟩, pt.wa.len, fun j s q => ?_, pt.wa.fz, pt.wa.dj, pt.wa.out, pt.wa.pin⟩, ⟨pt.gr.ff, fun a o q => by rw [upd_ne (neF a o q)]; exact pt.gr.fh a o q, fun a o q m => by rw [upd_ne (ne1 a o q)]; exact pt.gr.kp a o q m, fun a q => ?_, pt.gr.fr⟩, pt.sh⟩
      · rw [upd_ne (fun z => by rw [z, nw.2.1] at q; cases q)]
        exact pt.wa.gr.kp a o q m
      · by_cases ha : a = Dl
        · rw [ha, upd_same]; intro z; cases z
        · rw [upd_ne ha]; exact pt.wa.gr.al a q
      · have k := pt.wa.sl j s q
        cases s with
        | emp => exact k
        | val d => exact k
        | own es =>
          obtain ⟨p, ws, a1, a2, a3, a4, a5⟩ := k
          refine ⟨p, ws, a1, a2, a3, ?_, a5⟩
          rw [upd_ne (fun z => nw.2.2 j (by rw [a1, z]; simp))]
          exact a4
        | st S =>
          obtain ⟨s, a1, a2⟩ := k
          refine ⟨s, a1, ?_⟩
          cases S with
          | two x y =>
            refine ⟨a2.1, ?_⟩
            rw [upd_ne (fun z => nw.2.2 j (by rw [a2.1, z]; simp))]
            exact a2.2
          | cel x cs =>
            obtain ⟨c, b1, b2, b3, b4⟩ := a2
            refine ⟨c, b1, b2, ?_, ?_⟩
            · rw [upd_ne (fun z => nw.2.2 j (by rw [b1, z]; simp))]
              exact b3
            · rw [upd_ne (fun z => nw.2.2 j (by rw [b1, z]; simp))]
              exact b4
      · by_cases ha : a = Dl
        · rw [ha, upd_same]; intro z; cases z
        · rw [upd_ne ha]; exact pt.gr.al a q
    | false =>
      show Inv (i + 1) H3
      have pu := Post.unwiped w2 pl e2' fr wb p3
      exact ⟨acc, _, F3, vs', q3.2 rfl, P2.trans pu, p3.gr.fr Dl (by rw [hH2]; intro z; cases z) hF2, p3.gr.kp Dl _ hH2 (nms _), ra.up (gr.ff.trans p3.gr.ff)⟩
  · have e : i = ds.length := by omega
    subst e
    exact .inl ⟨it.stop _ H' (P.gr.ff.trans P.wa.gr.fh) (Nat.le_refl _), z acc ρ' Dl vs' F' H' (done acc ρ' iv) (p1.trans P) hF hDH hH ra⟩
theorem et_yes {Q : Bool → Env → Prop} (q : Q true ρ) : ET tYes ρ Q := fun B ad σ F H w Z z => z true ρ F H q (Post.refl w)
/-- items that read off a list of one's own; nothing changes: the filter and the map -/
theorem eo_lcP {α : Type} {vs : List Nat} {Q : List D → Env → Prop} (f : α → Bool) (gg : α → D) (h : EI wi ρ fun ds ρ1 => ∃ (xs : List α) (enc : α → D), ds = xs.map enc ∧ xs.length < 1000000 ∧ Plain ρ1 vs ∧
    (∀ x ∈ xs, SG vs g (enc x) (wipeE ρ1 vs) fun ρ2 => unw vs ρ1 ρ2 = ρ1 ∧ ET tt ρ2 fun b ρ3 => b = f x ∧ ρ3 = ρ2 ∧ (f x = true → EX te ρ2 fun e ρ4 => e = gg x ∧ ρ4 = ρ2)) ∧ Q ((xs.filter f).map gg) ρ1) : EO (tLc wi g tt te vs) ρ Q := by
  refine eo_lc fun B ad σ F H w R z => h B ad σ F H w R fun ds ρ1 J F' H' q p it => z ds ρ1 J F' H' ?_ p it
  obtain ⟨xs, enc, rfl, hz, pl, turn, q⟩ := q
  refine ⟨fun k acc ρ' => ρ' = ρ1 ∧ acc = ((xs.take k).filter f).map gg, ⟨rfl, by simp⟩, ?_, ?_⟩
  · rintro k d acc ρ' e ⟨rfl, rfl⟩
    rw [List.getElem?_map] at e
    obtain ⟨x, ex, rfl⟩ : ∃ x, xs[k]? = some x ∧ enc x = d := by
      cases hx : xs[k]? with
      | none => rw [hx] at e; cases e
      | some x => rw [hx] at e; exact ⟨x, rfl, Option.some.inj e⟩
    have hm : x ∈ xs := List.mem_of_getElem? ex
    have hk : k < xs.length := (List.getElem?_eq_some_iff.mp ex).1
    have et : xs.take (k + 1) = xs.take k ++ [x] := by
      rw [List.take_succ, ex]; rfl
    refine ⟨pl, ?_, fun B ad σ F H v w hJ r Z z => turn x hm B ad σ F H v w hJ r Z fun ρ2 σ2 q w2 a b => z ρ2 σ2 (fun B ad σ F H w Z z => q.2 B ad σ F H w Z fun b ρ3 F' H' q2 p => z b ρ3 F' H' ⟨fun hb => ?_, fun hb => ?_⟩ p) w2 a b⟩
    · rw [List.length_map]
      exact Nat.lt_of_le_of_lt (Nat.le_trans (List.length_filter_le _ _) (by rw [List.length_take]; exact Nat.min_le_right _ _)) hz
    · obtain ⟨rfl, rfl, q2⟩ := q2
      refine (q2 hb).imp fun e ρ4 q => ?_
      obtain ⟨rfl, rfl⟩ := q
      exact ⟨‹_ ∧ _›.1, by rw [et, List.filter_append, List.map_append, List.filter_cons, if_pos hb]; rfl⟩
    · obtain ⟨rfl, rfl, q2⟩ := q2
      exact ⟨‹_ ∧ _›.1, by rw [et, List.filter_append, List.filter_cons, if_neg (by rw [hb]; exact Bool.false_ne_true), List.filter_nil, List.append_nil]⟩
  · rintro acc ρ' ⟨rfl, rfl⟩
    rw [List.length_map, List.take_length]
    exact q
end

/-! ### calls -/
/-- what a def of data promises: R tells of the arguments and of what is wanted of the answer -/
def spP (R : List D → (D → Prop) → Prop) : Sp := fun vs H Q _ => ∃ F ds Z, Same F H ∧ RpA F vs ds ∧ R ds Z ∧ ∀ d v F' H', Z d → Gr Non F H F' H' → Rp F' v d → Q v H'
/-- the same with a state ahead of the arguments -/
def spS (R : Stt → List D → (D → Stt → Prop) → Prop) : Sp := fun vs H Q _ => ∃ F s as S us ds Z, vs = .ref s :: us ∧ Same F H ∧ StAt H S s as ∧ (∀ a ∈ as, F a = none) ∧ RpA F us ds ∧ R S ds Z ∧
  ∀ d S' v F' H', Z d S' → Gr (· ∈ as) F H F' H' → StAt H' S' s as → (∀ a ∈ as, F' a = none) → Rp F' v d → Q v H'
/-- a new state is handed back -/
def spN (R : List D → (Stt → Prop) → Prop) : Sp := fun vs H Q _ => ∃ F ds Z, Same F H ∧ RpA F vs ds ∧ R ds Z ∧ ∀ S s as F' H', Z S → Gr Non F H F' H' → StAt H' S s as → (∀ a ∈ as, F' a = none ∧ H a = none) → Q (.ref s) H'
section
variable {ρ ρ' : Env} {te : TE} {tt : TT} {t : TA} {E : XK}
theorem ex_call {R : List D → (D → Prop) → Prop} {Q : D → Env → Prop} (h : EA t ρ fun ds ρ1 => R ds fun d => Q d ρ1) : EX (tCall (spP R) [] E t) ρ Q := fun B ad σ F H w Z z =>
  h B ad σ F H w _ fun ds ρ1 vs F1 H1 q p r => by
    rw [List.append_nil]
    exact ⟨F1, ds, _, p.wa.gr.fh, r, q, fun d v F' H' zd g rv => z d ρ1 v F' H' zd (p.trans (Post.of p.wa g)) rv⟩
theorem StAt.mem {H : Hp} {S : Stt} {s : Addr} {as : List Addr} (h : StAt H S s as) : s ∈ as ∧ ∀ a ∈ as, H a ≠ none := by
  cases S with
  | two a b =>
    obtain ⟨rfl, h⟩ := h
    exact ⟨by simp, fun x hx => by
      have e : x = s := by simpa using hx
      rw [e, h]; intro z; cases z⟩
  | cel a cs =>
    obtain ⟨c, rfl, _, h1, h2⟩ := h
    exact ⟨by simp, fun x hx => by
      have e : x = s ∨ x = c := by simpa using hx
      rcases e with e | e
      · rw [e, h1]; intro z; cases z
      · rw [e, h2]; intro z; cases z⟩
theorem StAt.keep {H H' : Hp} {S : Stt} {s : Addr} {as : List Addr} (h : StAt H S s as) (k : ∀ a ∈ as, ∀ o, H a = some o → H' a = some o) : StAt H' S s as := by
  cases S with
  | two a b =>
    obtain ⟨rfl, h⟩ := h
    exact ⟨rfl, k s (by simp) _ h⟩
  | cel a cs =>
    obtain ⟨c, rfl, ne, h1, h2⟩ := h
    exact ⟨c, rfl, ne, k s (by simp) _ h1, k c (by simp) _ h2⟩
/-- f(state, ..) -/
theorem ex_callS {R : Stt → List D → (D → Stt → Prop) → Prop} {i : Nat} {S0 : Stt} {Q : D → Env → Prop} (h0 : ρ[i]? = some (.st S0)) (h : EA t ρ fun ds ρ1 => ∃ S, ρ1[i]? = some (.st S) ∧ R S ds fun d S' => Q d (ρ1.set i (.st S'))) :
    EX (tCall (spS R) [] E (tCons (tVar i) t)) ρ Q := fun B ad σ F H w Z z => by
  obtain ⟨s0, k0, _⟩ := w.sl i _ h0
  refine ⟨_, k0, h B ad σ F H w _ fun ds ρ1 vs F1 H1 q p r => ?_⟩
  obtain ⟨S, h1, q⟩ := q
  obtain ⟨s, k1, k2⟩ := p.wa.sl i _ h1
  rw [k0] at k1
  cases k1
  have hi : i < ρ1.length := (List.getElem?_eq_some_iff.mp h1).1
  rw [List.append_nil]
  refine ⟨F1, s0, ad i, S, vs, ds, _, rfl, p.wa.gr.fh, k2, fun a m => (p.wa.fz i a m).1, r, q, fun d S' v F' H' zd g st fn rv => ?_⟩
  have nm : ∀ j a, j ≠ i → a ∈ ad j → a ∉ ad i := fun j a hj m m' => hj (p.wa.dj j i a m m')
  refine z d _ v F' H' zd (p.trans ⟨⟨?_, ?_, fun j sl e => ?_, fun j a m => ?_, p.wa.dj, fun j e => p.wa.out j (get_set' e), p.wa.pin.to fun S2 e => by
    rcases get_set e with ⟨e0, _⟩ | ⟨hj, e⟩
    · exact ⟨⟨S, by rw [e0]; exact h1⟩, rfl, rfl⟩
    · exact ⟨⟨S2, e⟩, rfl, rfl⟩⟩, ⟨g.ff, g.fh, fun a o e m => g.kp a o e fun z => m ⟨i, S, h1, z⟩, g.al, g.fr⟩, fun j S'' e => ?_⟩) rv
  · refine ⟨p.wa.gr.ff.trans g.ff, g.fh, fun a o e m => g.kp a o (p.wa.gr.kp a o e m) fun z => ?_, fun a e => g.al a (p.wa.gr.al a e), fun a e z => g.fr a (p.wa.gr.al a e) (p.wa.gr.fr a e z)⟩
    rcases (p.wa.fz i a z).2 with q | q
    · rw [q] at e; cases e
    · exact m q
  · rw [List.length_set]; exact p.wa.len
  · rcases get_set e with ⟨rfl, rfl⟩ | ⟨hj, e⟩
    · exact ⟨s0, k0, st⟩
    · have k := p.wa.sl j sl e
      cases sl with
      | emp => exact k
      | val d =>
        obtain ⟨k, v, e, r⟩ := k
        exact ⟨k, v, e, r.up g.ff⟩
      | own es =>
        obtain ⟨q, ws, a1, a2, a3, a4, a5⟩ := k
        exact ⟨q, ws, a1, a2, a3, g.kp q _ a4 (nm j q hj (by rw [a1]; simp)), a5.up g.ff⟩
      | st S2 =>
        obtain ⟨s2, a1, a2⟩ := k
        exact ⟨s2, a1, a2.keep fun a m o e => g.kp a o e (nm j a hj m)⟩
  · refine ⟨?_, (p.wa.fz j a m).2⟩
    by_cases hj : j = i
    · subst hj; exact fn a m
    · exact g.fr a (p.wa.lv m) (p.wa.fz j a m).1
  · rcases get_set e with ⟨rfl, _⟩ | ⟨_, e⟩
    · exact ⟨S, h1⟩
    · exact ⟨S'', e⟩
/-- state = f(..) -/
theorem sx_asgN {R : List D → (Stt → Prop) → Prop} {i : Nat} {P : Po} (h00 : i ≠ 0) (h : EA t ρ fun ds ρ1 => R ds fun S => NX P (ρ1.set i (.st S))) : SX (tAsg (tCall (spN R) [] E t) (gName i)) ρ P := fun B σ F H w Dn n r b c => by
  obtain ⟨ad, w⟩ := w
  refine h B ad σ F H w _ fun ds ρ1 vs F1 H1 q p rv => ?_
  rw [List.append_nil]
  refine ⟨F1, ds, _, p.wa.gr.fh, rv, q, fun S s as F' H' zd g st fn => ?_⟩
  obtain ⟨ρ2, l, q⟩ := zd
  have w2 := p.wa.grow g
  have nw : ∀ a ∈ as, B.H0 a = none ∧ ∀ j, a ∉ ad j := fun a m => (p.wa.newp (fn a m).2).2
  refine n ρ2 _ F' H' q (W.weak ⟨fun k => if k = i then (if i < ρ1.length then as else []) else ad k, w2.gr, by rw [List.length_set, List.length_set]; exact w2.len, fun j sl e => ?_, fun j q m => ?_, fun j1 j2 q m1 m2 => ?_, fun j e => ?_, w2.pin.to fun S2 e => by
    rcases get_set e with ⟨e0, _⟩ | ⟨hj, e⟩
    · exact absurd e0.symm h00
    · exact ⟨⟨S2, e⟩, List.getElem?_set_ne (Ne.symm hj), if_neg hj⟩⟩ l)
  · rcases get_set e with ⟨rfl, rfl⟩ | ⟨hj, e'⟩
    · have hi : j < ρ1.length := by
        have := (List.getElem?_eq_some_iff.mp e).1
        rwa [List.length_set] at this
      exact ⟨s, List.getElem?_set_self (by rw [w2.len]; exact hi), by rw [if_pos rfl, if_pos hi]; exact st⟩
    · rw [if_neg hj, List.getElem?_set_ne (Ne.symm hj)]
      exact w2.sl j sl e'
  · by_cases hj : j = i
    · simp only [if_pos hj] at m
      by_cases hi : i < ρ1.length
      · simp only [if_pos hi] at m
        exact ⟨(fn q m).1, .inl (nw q m).1⟩
      · simp [if_neg hi] at m
    · simp only [if_neg hj] at m
      exact w2.fz j q m
  · have g : ∀ j, q ∈ (if j = i then (if i < ρ1.length then as else []) else ad j) → (j = i ∧ q ∈ as) ∨ (j ≠ i ∧ q ∈ ad j) := fun j m => by
      by_cases hj : j = i
      · simp only [if_pos hj] at m
        by_cases hi : i < ρ1.length
        · simp only [if_pos hi] at m
          exact .inl ⟨hj, m⟩
        · simp [if_neg hi] at m
      · simp only [if_neg hj] at m
        exact .inr ⟨hj, m⟩
    rcases g j1 m1 with ⟨a1, b1⟩ | ⟨a1, b1⟩ <;> rcases g j2 m2 with ⟨a2, b2⟩ | ⟨a2, b2⟩
    · rw [a1, a2]
    · exact absurd b2 ((nw q b1).2 j2)
    · exact absurd b1 ((nw q b2).2 j1)
    · exact w2.dj j1 j2 q b1 b2
  · show (if j = i then (if i < ρ1.length then as else []) else ad j) = []
    have e' := get_set' e
    by_cases hj : j = i
    · subst hj
      rw [if_pos rfl, if_neg (by rw [List.getElem?_eq_none_iff] at e'; omega)]
    · rw [if_neg hj]
      exact w2.out j e'
end

/-! ### defs -/
def startE (N : List Str) (ds : List D) : Env := ds.map .val ++ List.replicate (N.length - ds.length) .emp
section
variable {P : Program} {w : World} {K : PySem.W.Frag} {mg : Str → Option Value} {base : Heap} {x qual : Str} {st : Stmt} {f : Addr} {fd : FuncData} {N ps : List Str} {k : Nat}
theorem start_get {N : List Str} {us : List V} {i : Nat} {v : V} (h : us[i]? = some v) : (L2.start N us)[i]? = some (some v) := by
  unfold L2.start
  have hi := (List.getElem?_eq_some_iff.mp h).1
  rw [List.getElem?_append_left (by rw [List.length_map]; exact hi), List.getElem?_map, h]
  rfl
theorem startE_get {N : List Str} {ds : List D} {i : Nat} {s : Slot} (h : (startE N ds)[i]? = some s) : (∃ d, ds[i]? = some d ∧ s = .val d) ∨ s = .emp := by
  unfold startE at h
  by_cases hi : i < ds.length
  · rw [List.getElem?_append_left (by rw [List.length_map]; exact hi), List.getElem?_map] at h
    cases e : ds[i]? with
    | none => rw [e] at h; cases h
    | some d => rw [e] at h; exact .inl ⟨d, rfl, (Option.some.inj h).symm⟩
  · rw [List.getElem?_append_right (by rw [List.length_map]; omega)] at h
    exact .inr (List.eq_of_mem_replicate (List.mem_of_getElem? h))
theorem fn_pure {R : List D → (D → Prop) → Prop} (F : Fun K x qual st f fd) (S : FnScope N ps (defScope st)) (len : ∀ ds Z, R ds Z → ds.length = ps.length)
    (body : ∀ (cdv : Value) (A : Around) (outer : List PySem.Env) (s : Shared) (H : Hp) (E : XK), Room k (A.deeper (PyProof.Rows.envOfC qual (defScope st) s.heap.objs.size f cdv)) →
      ∃ t, PSs (cxOf CX0 P w K mg base N qual (defScope st) f cdv A outer s H E).nox (defBody st) t ∧ ∀ ds Z, R ds Z → SX t (startE N ds) { nx := fun _ => Z .none, rt := fun d _ => Z d }) :
    FnOk P w K mg base CX0 (k + 1) f fd ps (spP R) := by
  refine F.ok S (fun vs H Q E h => ?_) (fun cdv A outer s H vs Q E hr h => ?_)
  · obtain ⟨F, ds, Z, _, r, q, _⟩ := h
    rw [r.len]
    exact len ds Z q
  · obtain ⟨F0, ds, Z, fh, r, q, z⟩ := h
    obtain ⟨t, ht, hs⟩ := body cdv A outer s H E hr
    refine ⟨t, ht, hs ds Z q { F0 := F0, H0 := H, M := Non } (L2.start N vs) F0 H ⟨fun _ => [], Gr.refl fh, ?_, fun i s e => ?_, (fun i p m => by cases m), (fun i j p m => by cases m), fun _ _ => rfl, (fun s as e => by cases e)⟩ _ (fun ρ' σ' F' H' q w' => ?_) (fun d ρ' σ' v F' H' q w' rv => ?_) (fun _ _ _ _ q _ => q.elim) (fun _ _ _ _ q _ => q.elim)⟩
    · unfold L2.start startE
      rw [List.length_append, List.length_append, List.length_map, List.length_map, List.length_replicate, List.length_replicate, r.len]
    · rcases startE_get e with ⟨d, e2, rfl⟩ | rfl
      · obtain ⟨v, e1, rv⟩ := r.get e2
        exact ⟨rfl, v, start_get e1, rv⟩
      · rfl
    · obtain ⟨ad, w'⟩ := w'
      exact z .none .non F' H' q w'.gr .non
    · obtain ⟨ad, w'⟩ := w'
      exact z d v F' H' q w'.gr rv
/-- a def whose first parameter is a state -/
theorem fn_state {R : Stt → List D → (D → Stt → Prop) → Prop} (F : Fun K x qual st f fd) (S : FnScope N ps (defScope st)) (len : ∀ S ds Z, R S ds Z → ds.length + 1 = ps.length)
    (body : ∀ (cdv : Value) (A : Around) (outer : List PySem.Env) (s : Shared) (H : Hp) (E : XK), Room k (A.deeper (PyProof.Rows.envOfC qual (defScope st) s.heap.objs.size f cdv)) →
      ∃ t, PSs (cxOf CX0 P w K mg base N qual (defScope st) f cdv A outer s H E).nox (defBody st) t ∧ ∀ S ds Z, R S ds Z → SX t (.st S :: (ds.map .val ++ List.replicate (N.length - (ds.length + 1)) .emp)) { nx := fun ρ' => ∃ S', ρ'[0]? = some (.st S') ∧ Z .none S', rt := fun d ρ' => ∃ S', ρ'[0]? = some (.st S') ∧ Z d S' }) :
    FnOk P w K mg base CX0 (k + 1) f fd ps (spS R) := by
  refine F.ok S (fun vs H Q E h => ?_) (fun cdv A outer s H vs Q E hr h => ?_)
  · obtain ⟨F, s, as, S, us, ds, Z, rfl, _, _, _, r, q, _⟩ := h
    rw [List.length_cons, r.len]
    exact len S ds Z q
  · obtain ⟨F0, s0, as, S0, us, ds, Z, rfl, fh, sa, fn, r, q, z⟩ := h
    obtain ⟨t, ht, hs⟩ := body cdv A outer s H E hr
    have hm := sa.mem
    have hl : (L2.start N (.ref s0 :: us)).length = (Slot.st S0 :: (ds.map Slot.val ++ List.replicate (N.length - (ds.length + 1)) Slot.emp)).length := by
      unfold L2.start
      simp [r.len]
    have fin : ∀ (d : D) (ρ' : Env) (σ' : St) (v : V) (F' H' : Hp), (∃ S', ρ'[0]? = some (Slot.st S') ∧ Z d S') → W { F0 := F0, H0 := H, M := (· ∈ as), pin := some (s0, as) } ρ' σ' F' H' → Rp F' v d → Q v H' := fun d ρ' σ' v F' H' ⟨S', e, zd⟩ ⟨ad, w'⟩ rv => by
      obtain ⟨e1, e2⟩ := w'.pin s0 as rfl S' e
      obtain ⟨s1, k1, k2⟩ := w'.sl 0 _ e
      rw [e1] at k1
      cases k1
      rw [e2] at k2
      exact z d S' v F' H' zd w'.gr k2 (fun a m => (w'.fz 0 a (by rw [e2]; exact m)).1) rv
    refine ⟨t, ht, hs S0 ds Z q { F0 := F0, H0 := H, M := (· ∈ as), pin := some (s0, as) } (L2.start N (.ref s0 :: us)) F0 H ⟨fun i => if i = 0 then as else [], Gr.refl fh, hl, fun i sl e => ?_, fun i p m => ?_, fun i j p m1 m2 => ?_, fun i e => ?_, fun s as' e S _ => ?_⟩ _ (fun ρ' σ' F' H' q w' => fin .none ρ' σ' .non F' H' q w' .non) (fun d ρ' σ' v F' H' q w' rv => fin d ρ' σ' v F' H' q w' rv) (fun _ _ _ _ q _ => q.elim) (fun _ _ _ _ q _ => q.elim)⟩
    · cases i with
      | zero =>
        cases e
        exact ⟨s0, start_get (us := .ref s0 :: us) rfl, by rw [if_pos rfl]; exact sa⟩
      | succ i =>
        have e' : (startE (List.replicate (N.length - 1) "") ds)[i]? = some sl := by
          unfold startE
          rw [List.length_replicate, show N.length - 1 - ds.length = N.length - (ds.length + 1) by omega]
          exact e
        rw [if_neg (Nat.succ_ne_zero i)]
        rcases startE_get e' with ⟨d, e2, rfl⟩ | rfl
        · obtain ⟨v, e1, rv⟩ := r.get e2
          exact ⟨rfl, v, start_get (us := .ref s0 :: us) (by simpa using e1), rv⟩
        · rfl
    · by_cases hi : i = 0
      · rw [if_pos hi] at m
        exact ⟨fn p m, .inr m⟩
      · rw [if_neg hi] at m; cases m
    · by_cases hi : i = 0
      · by_cases hj : j = 0
        · rw [hi, hj]
        · rw [if_neg hj] at m2; cases m2
      · rw [if_neg hi] at m1; cases m1
    · by_cases hi : i = 0
      · subst hi; cases e
      · exact if_neg hi
    · cases e
      exact ⟨start_get (us := .ref s0 :: us) rfl, if_pos rfl⟩
end
end Pu
namespace Pu
open PySem L2

/-! ### what the defs call: built-ins, one another -/
/-- no name of a built-in is bound by the module -/
structure Bn (mg : Str → Option Value) : Prop where
  len_ : mg "len" = none
  range_ : mg "range" = none
  min_ : mg "min" = none
  max_ : mg "max" = none
  abs_ : mg "abs" = none
  sum_ : mg "sum" = none
  int_ : mg "int" = none
  list_ : mg "list" = none
  tuple_ : mg "tuple" = none
  sorted_ : mg "sorted" = none
  isinstance_ : mg "isinstance" = none
  enumerate_ : mg "enumerate" = none
  zip_ : mg "zip" = none
  set_ : mg "set" = none
  repr_ : mg "repr" = none
  all_ : mg "all" = none
  any_ : mg "any" = none
  dict_ : mg "dict" = none
  reversed_ : mg "reversed" = none
  str_ : mg "str" = none
/-- a def of the module that keeps a promise -/
inductive Cal (P : Program) (w : World) (K : PySem.W.Frag) (mg : Str → Option Value) (base : Heap) (x : Str) (ps : List Str) (sp : Sp) (k : Nat) : Prop
  | mk (f : Addr) (fd : FuncData) (ok : FnOk P w K mg base CX0 k f fd ps sp) (hm : mg x = some (.ref f)) (kp : PySem.W.keepIn K (.ref f) = true) (bd : Binds K fd ps []) : Cal P w K mg base x ps sp k
theorem pe_cal {X : Cx} {k : Nat} {ps : List Str} {sp : Sp} {x : Str} {p pos : Pos} {e : Expr} {es : List Expr} {t : TA} (C : Cal X.prog X.w X.K X.mg X.base x ps sp k) (hr : Room k X.A) (hg : Gl X x) (ha : PA X (e :: es) t)
    (hdb : (x == ("__debug__" : Str)) = false := by decide) (he : starEach (e :: es) X.env = (false, eval e X.env) :: starEach es X.env := by rfl) (hpl : (backTo pos (starEach es X.env)).any (·.1) = false := by rfl) :
    PE X (.Call (.Name x p) (e :: es) [] pos) (tCall sp [] E0 t) := by
  obtain ⟨f, fd, ok, hm, kp, bd⟩ := C
  exact pe_call ok hr hg hm kp bd .nil pass0 ha hdb he hpl
theorem Cal.imp {P : Program} {w : World} {K : PySem.W.Frag} {mg : Str → Option Value} {base : Heap} {x : Str} {ps : List Str} {sp sp' : Sp} {k : Nat} (C : Cal P w K mg base x ps sp k) (h : ∀ vs H Q E, sp' vs H Q E → sp vs H Q E) : Cal P w K mg base x ps sp' k := by
  obtain ⟨f, fd, ok, hm, kp, bd⟩ := C
  exact ⟨f, fd, ok.imp h, hm, kp, bd⟩
theorem Cal.mono {P : Program} {w : World} {K : PySem.W.Frag} {mg : Str → Option Value} {base : Heap} {x : Str} {ps : List Str} {sp : Sp} {j k : Nat} (C : Cal P w K mg base x ps sp j) (h : j ≤ k) : Cal P w K mg base x ps sp k := by
  obtain ⟨f, fd, ok, hm, kp, bd⟩ := C
  exact ⟨f, fd, ok.mono h, hm, kp, bd⟩

/-! ### reading data off the heap -/
section
variable {X : Cx} {pins : List (Addr × Obj)} {σ : St} {F H : Hp} {s : Shared} {d : D} {ds : List D} {v : V} {u : Value} {vs : List V} {us : List Value}
theorem rp_reads (I : Inv X pins σ H s) (e : Same F H) (r : Rp F v d) (ru : RelV v u) : ∃ as, Reads s.heap u d as := Dp.reads I d v u (r.dp e) ru
theorem rpa_reads (I : Inv X pins σ H s) (e : Same F H) (r : RpA F vs ds) (ru : Vals vs us) : ∃ as, ReadsAll s.heap us ds as := Dp.readsAll I ds vs us (r.dp e) ru
mutual
theorem Rp.plain : ∀ (d : D) {v : V}, Rp F v d → d.plain = true
  | .none, _, _ => by simp only [PyData.plain]
  | .bool _, _, _ => by simp only [PyData.plain]
  | .int _, _, _ => by simp only [PyData.plain]
  | .str _, _, _ => by simp only [PyData.plain]
  | .list ds, _, h => by
    cases h with
    | lst _ h => simp only [PyData.plain]; exact RpA.plain ds h
  | .tuple ds, _, h => by
    cases h with
    | tup _ h => simp only [PyData.plain]; exact RpA.plain ds h
  | .dict _, _, h => by cases h
theorem RpA.plain : ∀ (ds : List D) {vs : List V}, RpA F vs ds → PyData.plainAll ds = true
  | [], _, _ => by simp only [PyData.plainAll]
  | d :: ds, _, h => by
    cases h with
    | cons h1 h2 => simp only [PyData.plainAll, Bool.and_eq_true]; exact ⟨Rp.plain d h1, RpA.plain ds h2⟩
end
/-- at most so deep -/
def DpN (n : Nat) (d : D) : Prop := d.depth ≤ n
theorem dpn_int {n : Nat} {i : Int} : DpN n (.int i) := by simp [DpN, PyData.depth]
theorem dpn_bl {n : Nat} {b : Bool} : DpN n (.bool b) := by simp [DpN, PyData.depth]
theorem dpn_str {n : Nat} {x : Str} : DpN n (.str x) := by simp [DpN, PyData.depth]
theorem dpn_non {n : Nat} : DpN n .none := by simp [DpN, PyData.depth]
theorem depthAll_le {n : Nat} : ∀ {ds : List D}, (∀ d ∈ ds, DpN n d) → PyData.depthAll ds ≤ n
  | [], _ => by simp [PyData.depthAll]
  | d :: ds, h => by
    simp only [PyData.depthAll]
    exact Nat.max_le.mpr ⟨h d (by simp), depthAll_le fun e he => h e (by simp [he])⟩
theorem dpn_list {n : Nat} {ds : List D} (h : ∀ d ∈ ds, DpN n d) : DpN (n + 1) (.list ds) := by
  simp only [DpN, PyData.depth]
  exact Nat.succ_le_succ (depthAll_le h)
theorem dpn_tup {n : Nat} {ds : List D} (h : ∀ d ∈ ds, DpN n d) : DpN (n + 1) (.tuple ds) := by
  simp only [DpN, PyData.depth]
  exact Nat.succ_le_succ (depthAll_le h)
theorem dpn_map {α : Type} {n : Nat} {xs : List α} {f : α → D} (h : ∀ x ∈ xs, DpN n (f x)) : ∀ d ∈ xs.map f, DpN n d := fun d hd => by
  obtain ⟨x, hx, rfl⟩ := List.mem_map.mp hd
  exact h x hx
theorem dpn_nil {n : Nat} : ∀ d ∈ ([] : List D), DpN n d := fun d h => by cases h
theorem dpn_cons {n : Nat} {d : D} {ds : List D} (h : DpN n d) (hs : ∀ e ∈ ds, DpN n e) : ∀ e ∈ d :: ds, DpN n e := fun e he => by
  rcases List.mem_cons.mp he with rfl | he
  · exact h
  · exact hs e he
theorem DpN.up {n m : Nat} {d : D} (h : DpN n d) (k : n ≤ m) : DpN m d := Nat.le_trans h k
end

/-! ### ==, != of data at depth 64 -/
section
variable {X : Cx} {K : PySem.W.Frag} {d d1 d2 : D} {ds es : List D} {Q : D → Prop}
def rEqP (K : PySem.W.Frag) : R2 := fun x y H Q => ∃ d e, Dp K H x d ∧ Dp K H y e ∧ d.plain = true ∧ e.plain = true ∧ min d.depth e.depth ≤ 60 ∧ Q (.bl (PyData.eqv d e)) H
def rNeP (K : PySem.W.Frag) : R2 := fun x y H Q => ∃ d e, Dp K H x d ∧ Dp K H y e ∧ d.plain = true ∧ e.plain = true ∧ min d.depth e.depth ≤ 60 ∧ Q (.bl (!PyData.eqv d e)) H
theorem op_eqP (hu : X.A.units + 64 < cLine) : OpR X (compareOp .Eq) (rEqP X.K) := by
  rintro pins s σ H x y v u Q I rx ry ⟨d, e, hd, he, pd, pe, hz, q⟩
  obtain ⟨as, r1⟩ := Dp.reads I d x v hd rx
  obtain ⟨bs, r2⟩ := Dp.reads I e y u he ry
  exact PySem.SeqAt.eq_plain r1 r2 pd pe (by omega) ⟨.bl _, H, I, rfl, q⟩
theorem op_neP (hu : X.A.units + 64 < cLine) : OpR X (compareOp .NotEq) (rNeP X.K) := by
  rintro pins s σ H x y v u Q I rx ry ⟨d, e, hd, he, pd, pe, hz, q⟩
  obtain ⟨as, r1⟩ := Dp.reads I d x v hd rx
  obtain ⟨bs, r2⟩ := Dp.reads I e y u he ry
  exact PySem.SeqAt.ne_plain r1 r2 pd pe (by omega) ⟨.bl _, H, I, rfl, q⟩
theorem opd_eqP (h : min d1.depth d2.depth ≤ 60) (k : Q (.bool (PyData.eqv d1 d2))) : OpD (rEqP K) d1 d2 Q := fun F H x y e rx ry Z z => ⟨d1, d2, rx.dp e, ry.dp e, Rp.plain _ rx, Rp.plain _ ry, h, z _ _ F H k (Gr.refl e) (.bl _)⟩
theorem opd_neP (h : min d1.depth d2.depth ≤ 60) (k : Q (.bool (!PyData.eqv d1 d2))) : OpD (rNeP K) d1 d2 Q := fun F H x y e rx ry Z z => ⟨d1, d2, rx.dp e, ry.dp e, Rp.plain _ rx, Rp.plain _ ry, h, z _ _ F H k (Gr.refl e) (.bl _)⟩
theorem min_l {n m k : Nat} (h : n ≤ k) : min n m ≤ k := Nat.le_trans (Nat.min_le_left _ _) h
theorem min_r {n m k : Nat} (h : m ≤ k) : min n m ≤ k := Nat.le_trans (Nat.min_le_right _ _) h
/-! in, not in -/
def rInP (K : PySem.W.Frag) : R2 := fun x y H Q => ∃ d es, Dp K H x d ∧ (Dp K H y (.list es) ∨ Dp K H y (.tuple es)) ∧ d.plain = true ∧ PyData.plainAll es = true ∧ min (PyData.depthAll es) d.depth ≤ 60 ∧ Q (.bl (es.any fun y => PyData.eqv y d)) H
def rNinP (K : PySem.W.Frag) : R2 := fun x y H Q => ∃ d es, Dp K H x d ∧ (Dp K H y (.list es) ∨ Dp K H y (.tuple es)) ∧ d.plain = true ∧ PyData.plainAll es = true ∧ min (PyData.depthAll es) d.depth ≤ 60 ∧ Q (.bl (!es.any fun y => PyData.eqv y d)) H
theorem op_inP (hu : X.A.units + 64 < cLine) : OpR X (compareOp .In) (rInP X.K) := by
  rintro pins s σ H x y v u Q I rx ry ⟨d, es, hd, he, pd, pe, hz, q⟩
  obtain ⟨as, r1⟩ := Dp.reads I d x v hd rx
  rcases he with he | he
  · obtain ⟨bs, r2⟩ := Dp.reads I _ y u he ry
    exact PySem.SeqAt.in_list_data r2 r1 pe pd (by omega) ⟨.bl _, H, I, rfl, q⟩
  · obtain ⟨bs, r2⟩ := Dp.reads I _ y u he ry
    exact PySem.SeqAt.in_tuple_data r2 r1 pe pd (by omega) ⟨.bl _, H, I, rfl, q⟩
theorem op_ninP (hu : X.A.units + 64 < cLine) : OpR X (compareOp .NotIn) (rNinP X.K) := by
  rintro pins s σ H x y v u Q I rx ry ⟨d, es, hd, he, pd, pe, hz, q⟩
  obtain ⟨as, r1⟩ := Dp.reads I d x v hd rx
  rcases he with he | he
  · obtain ⟨bs, r2⟩ := Dp.reads I _ y u he ry
    exact PySem.SeqAt.notIn_list_data r2 r1 pe pd (by omega) ⟨.bl _, H, I, rfl, q⟩
  · obtain ⟨bs, r2⟩ := Dp.reads I _ y u he ry
    exact PySem.SeqAt.notIn_tuple_data r2 r1 pe pd (by omega) ⟨.bl _, H, I, rfl, q⟩
theorem opd_inL (h : min (PyData.depthAll es) d.depth ≤ 60) (k : Q (.bool (es.any fun y => PyData.eqv y d))) : OpD (rInP K) d (.list es) Q := fun F H x y e rx ry Z z =>
  ⟨d, es, rx.dp e, .inl (ry.dp e), Rp.plain _ rx, by have := Rp.plain _ ry; simpa only [PyData.plain] using this, h, z _ _ F H k (Gr.refl e) (.bl _)⟩
theorem opd_inT (h : min (PyData.depthAll es) d.depth ≤ 60) (k : Q (.bool (es.any fun y => PyData.eqv y d))) : OpD (rInP K) d (.tuple es) Q := fun F H x y e rx ry Z z =>
  ⟨d, es, rx.dp e, .inr (ry.dp e), Rp.plain _ rx, by have := Rp.plain _ ry; simpa only [PyData.plain] using this, h, z _ _ F H k (Gr.refl e) (.bl _)⟩
theorem opd_ninL (h : min (PyData.depthAll es) d.depth ≤ 60) (k : Q (.bool (!es.any fun y => PyData.eqv y d))) : OpD (rNinP K) d (.list es) Q := fun F H x y e rx ry Z z =>
  ⟨d, es, rx.dp e, .inl (ry.dp e), Rp.plain _ rx, by have := Rp.plain _ ry; simpa only [PyData.plain] using this, h, z _ _ F H k (Gr.refl e) (.bl _)⟩
theorem opd_ninT (h : min (PyData.depthAll es) d.depth ≤ 60) (k : Q (.bool (!es.any fun y => PyData.eqv y d))) : OpD (rNinP K) d (.tuple es) Q := fun F H x y e rx ry Z z =>
  ⟨d, es, rx.dp e, .inr (ry.dp e), Rp.plain _ rx, by have := Rp.plain _ ry; simpa only [PyData.plain] using this, h, z _ _ F H k (Gr.refl e) (.bl _)⟩
/-! min, max of a list of alike data -/
def rMnD (K : PySem.W.Frag) : List V → Hp → VK → Prop := fun vs H Q => ∃ (F : Hp) (a : Addr) (xs : List V) (d : D) (ds : List D), vs = [.ref a] ∧ Same F H ∧ Rd F a (.lst xs) ∧ RpA F xs (d :: ds) ∧ PySem.W.AlikeAll (d :: ds) ∧ PyData.depthAll (d :: ds) ≤ 60 ∧ ∀ v, Rp F v (PySem.W.minD d ds) → Q v H
def rMxD (K : PySem.W.Frag) : List V → Hp → VK → Prop := fun vs H Q => ∃ (F : Hp) (a : Addr) (xs : List V) (d : D) (ds : List D), vs = [.ref a] ∧ Same F H ∧ Rd F a (.lst xs) ∧ RpA F xs (d :: ds) ∧ PySem.W.AlikeAll (d :: ds) ∧ PyData.depthAll (d :: ds) ≤ 60 ∧ ∀ v, Rp F v (PySem.W.maxD d ds) → Q v H
theorem minD_mem (d : D) (ds : List D) : PySem.W.minD d ds ∈ d :: ds := by
  have : ∀ (es : List D) (a : D), es.foldl (fun a y => if PySem.W.dataLt y a then y else a) a ∈ a :: es := by
    intro es
    induction es with
    | nil => intro a; simp
    | cons e es ih =>
      intro a
      rw [List.foldl_cons]
      have q := ih (if PySem.W.dataLt e a then e else a)
      by_cases c : PySem.W.dataLt e a = true
      · rw [if_pos c] at q ⊢
        exact List.mem_cons_of_mem _ q
      · rw [if_neg c] at q ⊢
        rcases List.mem_cons.mp q with q | q
        · rw [q]; exact List.mem_cons_self
        · exact List.mem_cons_of_mem _ (List.mem_cons_of_mem _ q)
  exact this ds d
theorem maxD_mem (d : D) (ds : List D) : PySem.W.maxD d ds ∈ d :: ds := by
  have : ∀ (es : List D) (a : D), es.foldl (fun a y => if PySem.W.dataLt a y then y else a) a ∈ a :: es := by
    intro es
    induction es with
    | nil => intro a; simp
    | cons e es ih =>
      intro a
      rw [List.foldl_cons]
      have q := ih (if PySem.W.dataLt a e then e else a)
      by_cases c : PySem.W.dataLt a e = true
      · rw [if_pos c] at q ⊢
        exact List.mem_cons_of_mem _ q
      · rw [if_neg c] at q ⊢
        rcases List.mem_cons.mp q with q | q
        · rw [q]; exact List.mem_cons_self
        · exact List.mem_cons_of_mem _ (List.mem_cons_of_mem _ q)
  exact this ds d
theorem pick_rp {pins : List (Addr × Obj)} {σ : St} {F H : Hp} {s : Shared} {xs : List V} {its : List Value} {es : List D} {m : D} (I : Inv X pins σ H s) (e : Same F H) (ra : RpA F xs es) (rv : Vals xs its) (al : PySem.W.AlikeAll es) (hm : m ∈ es)
    {i : Nat} {v : Value} {h' : Heap} {bs : List Addr} (hi : its.toArray[i]? = some v) (rd : Reads h' v m bs) (hk : ∀ b o, s.heap.get? b = some o → h'.get? b = some o) : ∃ y, RelV y v ∧ Rp F y m := by
  have hi' : its[i]? = some v := by simpa using hi
  have hl : i < xs.length := by rw [rv.length]; exact (List.getElem?_eq_some_iff.mp hi').1
  obtain ⟨u, hu, ru⟩ := rv.get (List.getElem?_eq_getElem hl)
  rw [hi'] at hu
  cases hu
  obtain ⟨d, hd, rp⟩ := ra.get' (List.getElem?_eq_getElem hl)
  obtain ⟨as, r1⟩ := rp_reads I e rp ru
  have q : d = m := PySem.W.alike_unique d m v as bs (al.1 d (List.mem_of_getElem? hd) m hm) (PyProof.Rows.Reads.keeps hk r1) rd
  rw [q] at rp
  exact ⟨_, ru, rp⟩
theorem cb_minD (hc : X.calm = true) (hu : X.A.units + 64 < cLine) : CallR X (.builtin "min") (rMnD X.K) := by
  rintro pins s σ H vs us Q I r ⟨F, a, xs, d, ds, rfl, e, ha, ra, al, hz, q⟩
  obtain ⟨its, rv, hl, _⟩ := I.list (sqL_rd (K := X.K) ha e)
  obtain ⟨as, rr⟩ := rpa_reads I e ra rv
  rw [Vals.ref1 r]
  refine PySem.W.min_list_data (I.ok.hd hc) hl.isList (by simpa using rr) al (by omega) fun i v h' tk bs hi rd hk => ?_
  obtain ⟨y, ry, rp⟩ := pick_rp I e ra rv al (minD_mem d ds) hi rd hk
  exact ⟨y, H, I.kept hk, ry, q y rp⟩
theorem cb_maxD (hc : X.calm = true) (hu : X.A.units + 64 < cLine) : CallR X (.builtin "max") (rMxD X.K) := by
  rintro pins s σ H vs us Q I r ⟨F, a, xs, d, ds, rfl, e, ha, ra, al, hz, q⟩
  obtain ⟨its, rv, hl, _⟩ := I.list (sqL_rd (K := X.K) ha e)
  obtain ⟨as, rr⟩ := rpa_reads I e ra rv
  rw [Vals.ref1 r]
  refine PySem.W.max_list_data (I.ok.hd hc) hl.isList (by simpa using rr) al (by omega) fun i v h' tk bs hi rd hk => ?_
  obtain ⟨y, ry, rp⟩ := pick_rp I e ra rv al (maxD_mem d ds) hi rd hk
  exact ⟨y, H, I.kept hk, ry, q y rp⟩
theorem cbd_minD (al : PySem.W.AlikeAll (d :: ds)) (hz : PyData.depthAll (d :: ds) ≤ 60) (k : Q (PySem.W.minD d ds)) : CbD (rMnD K) [.list (d :: ds)] Q := fun F H vs e r Z z => by
  obtain ⟨v, rfl, rv⟩ := r.one
  obtain ⟨a, xs, rfl, h1, h2⟩ := rv.lst_inv
  exact ⟨F, a, xs, d, ds, rfl, e, h1, h2, al, hz, fun v rv => z _ _ F H k (Gr.refl e) rv⟩
theorem cbd_maxD (al : PySem.W.AlikeAll (d :: ds)) (hz : PyData.depthAll (d :: ds) ≤ 60) (k : Q (PySem.W.maxD d ds)) : CbD (rMxD K) [.list (d :: ds)] Q := fun F H vs e r Z z => by
  obtain ⟨v, rfl, rv⟩ := r.one
  obtain ⟨a, xs, rfl, h1, h2⟩ := rv.lst_inv
  exact ⟨F, a, xs, d, ds, rfl, e, h1, h2, al, hz, fun v rv => z _ _ F H k (Gr.refl e) rv⟩
theorem alike_ints (ns : List Int) : PySem.W.AlikeAll (ns.map PyData.int) := ⟨fun x hx y hy => by
  obtain ⟨a, _, rfl⟩ := List.mem_map.mp hx
  obtain ⟨b, _, rfl⟩ := List.mem_map.mp hy
  rfl, fun x hx => by
  obtain ⟨a, _, rfl⟩ := List.mem_map.mp hx
  intro z; cases z⟩
def foldMin : List Int → Int
  | [] => 0
  | n :: ns => ns.foldl min n
def foldMax : List Int → Int
  | [] => 0
  | n :: ns => ns.foldl max n
theorem cbd_minI {ns : List Int} (h : 0 < ns.length) (k : Q (.int (foldMin ns))) : CbD (rMnD K) [.list (ns.map .int)] Q := by
  cases ns with
  | nil => cases h
  | cons n ns =>
    refine cbd_minD (alike_ints (n :: ns)) ?_ ?_
    · exact depthAll_le (dpn_map (xs := n :: ns) fun x _ => dpn_int)
    · have e := PySem.W.minD_ints n ns
      show Q (PySem.W.minD (.int n) (ns.map .int))
      rw [e]
      exact k
theorem cbd_maxI {ns : List Int} (h : 0 < ns.length) (k : Q (.int (foldMax ns))) : CbD (rMxD K) [.list (ns.map .int)] Q := by
  cases ns with
  | nil => cases h
  | cons n ns =>
    refine cbd_maxD (alike_ints (n :: ns)) ?_ ?_
    · exact depthAll_le (dpn_map (xs := n :: ns) fun x _ => dpn_int)
    · have e := PySem.W.maxD_ints n ns
      show Q (PySem.W.maxD (.int n) (ns.map .int))
      rw [e]
      exact k
/-! sorted -/
abbrev sortD (ds : List D) : List D := ds.mergeSort (PySem.W.dataLe false id)
def rSrD (K : PySem.W.Frag) : List V → Hp → VK → Prop := fun vs H Q => ∃ (F : Hp) (a : Addr) (xs : List V) (ds : List D), vs = [.ref a] ∧ Same F H ∧ Rd F a (.lst xs) ∧ RpA F xs ds ∧ PySem.W.AllAlike ds ∧ PySem.W.Sortable ds ∧ PyData.depthAll ds ≤ 60 ∧
  ∀ p ys, H p = none → RpA F ys (sortD ds) → Q (.ref p) (upd H p (.lst ys))
theorem rpa_zip {F : Hp} : ∀ {xs : List V} {ds : List D}, RpA F xs ds → ∀ p ∈ xs.zip ds, Rp F p.1 p.2
  | _, [], h, p, hp => by cases h; cases hp
  | _, d :: ds, h, p, hp => by
    cases h with
    | cons h1 h2 =>
      rcases List.mem_cons.mp hp with rfl | hp
      · exact h1
      · exact rpa_zip h2 p hp
theorem rpa_of {F : Hp} : ∀ {zs : List (V × D)}, (∀ p ∈ zs, Rp F p.1 p.2) → RpA F (zs.map Prod.fst) (zs.map Prod.snd)
  | [], _ => .nil
  | z :: zs, h => .cons (h z (by simp)) (rpa_of fun p hp => h p (by simp [hp]))
theorem each_zip {F : Hp} : ∀ {xs : List V} {ds : List D} {its : List Value}, RpA F xs ds → Vals xs its → PySem.W.EachIs (fun v (b : V × D) => RelV b.1 v) its (xs.zip ds)
  | _, [], _, h, r => by cases h; cases r; exact .nil
  | _, d :: ds, _, h, r => by
    cases h with
    | cons h1 h2 =>
      cases r with
      | cons r1 r2 => exact .cons r1 (each_zip h2 r2)
theorem vals_each : ∀ {zs : List (V × D)} {out : List Value}, PySem.W.EachIs (fun v (b : V × D) => RelV b.1 v) out zs → Vals (zs.map Prod.fst) out
  | _, _, .nil => .nil
  | _, _, .cons h t => .cons h (vals_each t)
theorem each_reads {h : Heap} : ∀ {xs : List V} {ds : List D} {its : List Value} {as : List Addr}, xs.length = ds.length → ReadsAll h its ds as → PySem.W.EachIs (fun v (b : V × D) => ∃ as, Reads h v b.2 as) its (xs.zip ds)
  | [], [], _, _, _, r => by cases r; exact .nil
  | x :: xs, d :: ds, _, _, l, r => by
    cases r with
    | cons r1 r2 => exact .cons ⟨_, r1⟩ (each_reads (by simpa using l) r2)
  | [], _ :: _, _, _, l, _ => by simp at l
  | _ :: _, [], _, _, l, _ => by simp at l
theorem depth_mem : ∀ {ds : List D} {d : D}, d ∈ ds → d.depth ≤ PyData.depthAll ds
  | [], _, h => by cases h
  | e :: ds, d, h => by
    simp only [PyData.depthAll]
    rcases List.mem_cons.mp h with rfl | h
    · exact Nat.le_max_left _ _
    · exact Nat.le_trans (depth_mem h) (Nat.le_max_right _ _)
theorem cb_sortD (hu : X.A.units + 64 < cLine) : CallR X (.builtin "sorted") (rSrD X.K) := by
  rintro pins s σ H vs us Q I r ⟨F, a, xs, ds, rfl, e, ha, ra, al, so, hz, q⟩
  obtain ⟨its, rv, hl, hzl⟩ := I.list (sqL_rd (K := X.K) ha e)
  obtain ⟨as, rr⟩ := rpa_reads I e ra rv
  rw [Vals.ref1 r]
  have hmap : (xs.zip ds).map Prod.snd = ds := List.map_snd_zip (by rw [ra.len]; exact Nat.le_refl _)
  have hlen : (xs.zip ds).length = xs.length := by rw [List.length_zip, ra.len, Nat.min_self]
  refine PySem.W.sorted_data (bs := xs.zip ds) (enc := Prod.snd) hl.isList (each_zip ra rv) (each_reads ra.len rr) (by rw [hmap]; exact al) (by rw [hmap]; exact so) (by rw [hlen]; exact hzl)
    (fun b hb => ?_) fun out ho he => ?_
  · have hd : b.2 ∈ ds := by rw [← hmap]; exact List.mem_map_of_mem hb
    have := depth_mem hd
    omega
  · obtain ⟨ep, he'⟩ := PyProof.Rows.sortedAll_at s.heap its out.toArray
    have hv := vals_each he
    have hd : (List.mergeSort (xs.zip ds) (PySem.W.dataLe false Prod.snd)).map Prod.snd = sortD ds := by
      have q := PySem.W.sort_maps (r := PySem.W.dataLe false Prod.snd) (s := PySem.W.dataLe false id) (Prod.snd : V × D → D) (l := xs.zip ds) (fun a _ b _ => rfl)
      rw [q, hmap]
    have hr := rpa_of (F := F) (zs := List.mergeSort (xs.zip ds) (PySem.W.dataLe false Prod.snd)) fun p hp => rpa_zip ra p (List.mem_mergeSort.mp hp)
    rw [hd] at hr
    refine ⟨.ref _, upd H (s.heap.objs.size + 1) (.lst ((List.mergeSort (xs.zip ds) (PySem.W.dataLe false Prod.snd)).map Prod.fst)), I.laid (t' := s.toks) (fun _ _ => PyProof.Rows.sortedAll_old) (Nat.le_succ _) ⟨?_, out, ep, hv, he'⟩, rfl, q _ _ (I.hok.fresh (Nat.le_succ _)) hr⟩
    rw [List.length_map, List.length_mergeSort, hlen]
    exact hzl
theorem cbo_sortD {Q : List D → Prop} (al : PySem.W.AllAlike ds) (so : PySem.W.Sortable ds) (hz : PyData.depthAll ds ≤ 60) (k : Q (sortD ds)) : CbO (rSrD K) [.list ds] Q := fun F H vs e r Z z => by
  obtain ⟨v, rfl, rv⟩ := r.one
  obtain ⟨a, xs, rfl, h1, h2⟩ := rv.lst_inv
  exact ⟨F, a, xs, ds, rfl, e, h1, h2, al, so, hz, fun p ys hp rp => z _ p _ _ k (same_upd hp) hp upd_same rp⟩
/-! x.extend(ys) -/
def rExtR : V → List V → Hp → VK → Prop := fun x vs H Q => ∃ l b xs zs, x = .ref l ∧ vs = [.ref b] ∧ H l = some (.lst xs) ∧ Rd H b (.lst zs) ∧ xs.length + zs.length ≤ sizeLine ∧ Q .non (upd H l (.lst (xs ++ zs)))
theorem mt_extR : MtM X "list.extend" rExtR := by
  intro pins s σ H x vs v us Q I rx rv h
  obtain ⟨l, b, xs, zs, rfl, rfl, hH, hB, hz, q⟩ := h
  cases rx
  obtain ⟨u, rfl, ru⟩ := rv.one
  cases ru
  obtain ⟨z, its, n, r, hl, e⟩ := I.lstM hH
  obtain ⟨z2, its2, n2, r2, e2⟩ := hB.ok I.hok
  have hl2 := r2.length
  have k1 : its.toArray.size + its2.toArray.size ≤ sizeLine := by rw [List.size_toArray, List.size_toArray]; omega
  have k2 : ¬ (!its.toArray.isEmpty && Builtin.List.listTooLong (its.toArray.size + its2.toArray.size)) = true := by rw [notLongL k1, Bool.and_false]; exact Bool.false_ne_true
  refine call_meets F.slot_list_extend ⟨_, e, rfl⟩ F.entry_list_extend (F.args_list_extend_2 _ _) (AutoSeq1.list_extend_list_list_0 l its.toArray n b its2.toArray n2 k2 (by rw [List.size_toArray]; omega) (by omega)) ⟨e, e2, ?_⟩
  refine ⟨.non, _, I.lset (its' := its ++ its2) hH e (by simp) (r.append r2) ?_, rfl, q⟩
  rw [List.length_append]; omega
theorem sx_ext {ρ : Env} {P : Po} {te : TE} {i : Nat} {fs : List D} (h : ρ[i]? = some (.own fs)) (k : EX te ρ fun d ρ1 => ∃ ds es, d = .list es ∧ ρ1[i]? = some (.own ds) ∧ ds.length + es.length ≤ 1000000 ∧ NX P (ρ1.set i (.own (ds ++ es)))) : SX (tDrop (tBM K "list" rExtR (tVar i) (tCons te tNil))) ρ P := fun B σ F H w Dn n r b c => by
  obtain ⟨ad, w⟩ := w
  obtain ⟨p0, vs0, _, _, k1, k0, _⟩ := w.sl i _ h
  refine ⟨_, k1, .inl ⟨rfl, _, .inl (.inl k0)⟩, k B ad σ F H w _ fun d ρ1 v F1 H1 q1 p1 r1 => ?_⟩
  obtain ⟨ds, es, rfl, h1, hz, ρ', l, q⟩ := q1
  obtain ⟨p, vs, _, _, k2, k3, rr⟩ := p1.wa.sl i _ h1
  have e := k1.symm.trans k2
  cases e
  obtain ⟨a, ws, rfl, g1, g2⟩ := r1.lst_inv
  exact ⟨_, a, vs, ws, rfl, rfl, k3, rd_mono p1.wa.gr.fh g1, Nat.le_trans (by rw [rr.len, g2.len]; exact hz) (by decide), n ρ' σ F1 _ q ((p1.wa.mut h1 k2 (rr.app g2)).weak l)⟩
end

/-! ### short forms for a run -/
section
variable {K : PySem.W.Frag} {Q : D → Prop} {i j : Int} {d d1 d2 : D} {ds es : List D}
theorem Gr.frz {F H H' : Hp} {p : Addr} {vs : List V} (e : Same F H) (g : Same H H') (hn : H p = none) (hp : H' p = some (.lst vs)) : Gr Non F H (upd F p (.lst vs)) H' where
  ff := same_upd (e.free hn)
  fh := fun a u q => by
    by_cases ha : a = p
    · subst ha; rw [upd_same] at q; rw [hp]; exact q
    · rw [upd_ne ha] at q; exact g a u (e a u q)
  kp := fun a u q _ => g a u q
  al := fun a q => by
    cases z : H a with
    | none => exact absurd z q
    | some o => rw [g a o z]; intro z; cases z
  fr := fun a q z => by
    have ha : a ≠ p := fun z => q (z ▸ hn)
    rw [upd_ne ha]; exact z
theorem opd_ofO {r : R2} (h : OpO r d1 d2 fun ds => Q (.list ds)) : OpD r d1 d2 Q := fun F H x y e rx ry Z z => h F H x y e rx ry Z fun ds p vs H' q g hn hp rv =>
  z _ _ (upd F p (.lst vs)) H' q (Gr.frz e g hn hp) (.lst (.inl upd_same) (rv.up (Gr.frz e g hn hp).ff))
theorem cbd_ofO {r : List V → Hp → VK → Prop} (h : CbO r ds fun ds => Q (.list ds)) : CbD r ds Q := fun F H vs e rv Z z => h F H vs e rv Z fun ds p vs H' q g hn hp rv =>
  z _ _ (upd F p (.lst vs)) H' q (Gr.frz e g hn hp) (.lst (.inl upd_same) (rv.up (Gr.frz e g hn hp).ff))
theorem sld_ofO {r : V → Option Int → Option Int → Hp → VK → Prop} {lo hi : Option Int} (h : SlO r d lo hi fun ds => Q (.list ds)) : SlD r d lo hi Q := fun F H x e rx Z z => h F H x e rx Z fun ds p vs H' q g hn hp rv =>
  z _ _ (upd F p (.lst vs)) H' q (Gr.frz e g hn hp) (.lst (.inl upd_same) (rv.up (Gr.frz e g hn hp).ff))
theorem opd_plusL (hz : ds.length + es.length ≤ 1000000) (k : Q (.list (ds ++ es))) : OpD (rPlus K) (.list ds) (.list es) Q := opd_ofO (opo_plusL hz k)
theorem sld_L {lo hi : Option Int} (k : Q (.list (cutD ds lo hi))) : SlD (rSl K) (.list ds) lo hi Q := sld_ofO (slo_L k)
theorem cbd_listL (k : Q (.list ds)) : CbD (rList K) [.list ds] Q := cbd_ofO (cbo_listL k)
theorem cbd_listT (k : Q (.list ds)) : CbD (rList K) [.tuple ds] Q := cbd_ofO (cbo_listT k)
theorem cbd_sortD (al : PySem.W.AllAlike ds) (so : PySem.W.Sortable ds) (hz : PyData.depthAll ds ≤ 60) (k : Q (.list (sortD ds))) : CbD (rSrD K) [.list ds] Q := cbd_ofO (cbo_sortD al so hz k)
theorem opd_eqI (k : Q (.bool (decide (i = j)))) : OpD (rEqP K) (.int i) (.int j) Q := opd_eqP (min_l (by simp [PyData.depth])) (by
  have e : PyData.eqv (.int i) (.int j) = decide (i = j) := by simp only [PyData.eqv]; exact Bool.beq_eq_decide_eq i j
  rw [e]; exact k)
theorem opd_neI (k : Q (.bool (!decide (i = j)))) : OpD (rNeP K) (.int i) (.int j) Q := opd_neP (min_l (by simp [PyData.depth])) (by
  have e : PyData.eqv (.int i) (.int j) = decide (i = j) := by simp only [PyData.eqv]; exact Bool.beq_eq_decide_eq i j
  rw [e]; exact k)
theorem opd_eqS {x y : Str} (k : Q (.bool (decide (x = y)))) : OpD (rEqP K) (.str x) (.str y) Q := opd_eqP (min_l (by simp [PyData.depth])) (by
  have e : PyData.eqv (.str x) (.str y) = decide (x = y) := by simp only [PyData.eqv]; by_cases h : x = y <;> simp [h]
  rw [e]; exact k)
theorem opd_neS {x y : Str} (k : Q (.bool (!decide (x = y)))) : OpD (rNeP K) (.str x) (.str y) Q := opd_neP (min_l (by simp [PyData.depth])) (by
  have e : PyData.eqv (.str x) (.str y) = decide (x = y) := by simp only [PyData.eqv]; by_cases h : x = y <;> simp [h]
  rw [e]; exact k)
theorem atI_in {α : Type} {xs : List α} {k : Int} (h0 : 0 ≤ k) (h1 : k < xs.length) : atI xs k = some (xs[k.toNat]'(by omega)) := by
  obtain ⟨n, rfl⟩ : ∃ n : Nat, k = (n : Int) := ⟨k.toNat, by omega⟩
  exact atI_nat (by simp)
/-- an item of a mapped list, told by a default -/
theorem atI_map {α : Type} {xs : List α} {f : α → D} {k : Int} (a : α) (h0 : 0 ≤ k) (h1 : k < xs.length) : atI (xs.map f) k = some (f (xs.getD k.toNat a)) := by
  have hk : k.toNat < xs.length := by omega
  have e := atI_in (xs := xs.map f) h0 (by rw [List.length_map]; exact h1)
  rw [e, List.getElem_map, List.getD_eq_getElem?_getD, List.getElem?_eq_getElem hk]
  rfl
theorem opd_ixM {α : Type} {xs : List α} {f : α → D} {k : Int} (a : α) (h0 : 0 ≤ k) (h1 : k < xs.length) (q : Q (f (xs.getD k.toNat a))) : OpD (rIxA K) (.list (xs.map f)) (.int k) Q := opd_ixL (atI_map a h0 h1) q
end

theorem rng_at {lo : Int} {n k : Nat} {d : D} (h : ((rngI lo n).map PyData.int)[k]? = some d) : k < n ∧ d = .int (lo + (k : Int)) := by
  have hk : k < n := by
    have := (List.getElem?_eq_some_iff.mp h).1
    rw [List.length_map, rngI_len] at this
    exact this
  rw [List.getElem?_map, rngI_get hk] at h
  exact ⟨hk, (Option.some.inj h).symm⟩
theorem rng_size (lo : Int) (n : Nat) : ((rngI lo n).map PyData.int).length = n := by rw [List.length_map, rngI_len]
theorem map_at {α : Type} {xs : List α} {f : α → D} {k : Nat} {d : D} (h : (xs.map f)[k]? = some d) : ∃ x, xs[k]? = some x ∧ d = f x := by
  rw [List.getElem?_map] at h
  cases e : xs[k]? with
  | none => rw [e] at h; cases h
  | some x => rw [e] at h; exact ⟨x, rfl, (Option.some.inj h).symm⟩

/-- what a slot that holds data gives on -/
def VQ (s : Option Slot) (Q : D → Env → Prop) (ρ : Env) : Prop := match s with
  | some (.val d) => Q d ρ
  | _ => False
theorem ex_vr {ρ : Env} {i : Nat} {Q : D → Env → Prop} (h : VQ ρ[i]? Q ρ) : EX (tVar i) ρ Q := by
  unfold VQ at h
  split at h
  · rename_i d e
    exact ex_var e h
  · exact h.elim

section
variable {K : PySem.W.Frag} {Q : D → Prop} {d : D}
/-- two times the same datum -/
theorem opd_eqSelf (h : d.depth ≤ 60) (k : Q (.bool true)) : OpD (rEqP K) d d Q := fun F H x y e rx ry Z z => opd_eqP (Q := Q) (min_l h) (by rw [PySem.SeqAt.eqv_refl_plain d (Rp.plain d rx)]; exact k) F H x y e rx ry Z z
theorem opd_neSelf (h : d.depth ≤ 60) (k : Q (.bool false)) : OpD (rNeP K) d d Q := fun F H x y e rx ry Z z => opd_neP (Q := Q) (min_l h) (by rw [PySem.SeqAt.eqv_refl_plain d (Rp.plain d rx)]; exact k) F H x y e rx ry Z z
/-! pairs of ints -/
def ltP (a b : Int × Int) : Bool := decide (a.1 < b.1 ∨ a.1 = b.1 ∧ a.2 < b.2)
def encP (p : Int × Int) : D := .tuple [.int p.1, .int p.2]
theorem dataLt_P (a b : Int × Int) : PySem.W.dataLt (encP a) (encP b) = ltP a b := by
  unfold encP ltP
  rw [PySem.W.dataLt_pair rfl rfl]
  simp only [PyData.eqv, PySem.W.dataLt_int]
  by_cases h : a.1 = b.1
  · by_cases h2 : a.2 = b.2
    · simp [h, h2]
    · simp [h, h2]
  · simp [h]
def minPs : List (Int × Int) → Int × Int
  | [] => (0, 0)
  | p :: ps => ps.foldl (fun a y => if ltP y a = true then y else a) p
theorem minD_P (p : Int × Int) (ps : List (Int × Int)) : PySem.W.minD (encP p) (ps.map encP) = encP (minPs (p :: ps)) := by
  have h : ∀ (qs : List (Int × Int)) (a : Int × Int), (qs.map encP).foldl (fun a y => if PySem.W.dataLt y a then y else a) (encP a) = encP (qs.foldl (fun a y => if ltP y a = true then y else a) a) := by
    intro qs
    induction qs with
    | nil => intro a; rfl
    | cons q qs ih =>
      intro a
      simp only [List.map_cons, List.foldl_cons, dataLt_P]
      by_cases h : ltP q a = true
      · rw [if_pos h, if_pos h]; exact ih q
      · rw [if_neg h, if_neg h]; exact ih a
  exact h ps p
theorem alike_P (ps : List (Int × Int)) : PySem.W.AlikeAll (ps.map encP) := ⟨fun x hx y hy => by
  obtain ⟨a, _, rfl⟩ := List.mem_map.mp hx
  obtain ⟨b, _, rfl⟩ := List.mem_map.mp hy
  rfl, fun x hx => by
  obtain ⟨a, _, rfl⟩ := List.mem_map.mp hx
  intro z; cases z⟩
theorem cbd_minP {ps : List (Int × Int)} (h : 0 < ps.length) (k : Q (encP (minPs ps))) : CbD (rMnD K) [.list (ps.map encP)] Q := by
  cases ps with
  | nil => cases h
  | cons p ps =>
    refine cbd_minD (alike_P (p :: ps)) (depthAll_le (dpn_map (xs := p :: ps) fun x _ => dpn_tup (dpn_cons dpn_int (dpn_cons dpn_int dpn_nil)))) ?_
    have e := minD_P p ps
    show Q (PySem.W.minD (encP p) (ps.map encP))
    rw [e]
    exact k
theorem minPs_mem : ∀ {ps : List (Int × Int)}, 0 < ps.length → minPs ps ∈ ps
  | p :: ps, _ => by
    have : ∀ (qs : List (Int × Int)) (a : Int × Int), qs.foldl (fun a y => if ltP y a = true then y else a) a ∈ a :: qs := by
      intro qs
      induction qs with
      | nil => intro a; simp
      | cons e es ih =>
        intro a
        rw [List.foldl_cons]
        have q := ih (if ltP e a = true then e else a)
        by_cases c : ltP e a = true
        · rw [if_pos c] at q ⊢; exact List.mem_cons_of_mem _ q
        · rw [if_neg c] at q ⊢
          rcases List.mem_cons.mp q with q | q
          · rw [q]; exact List.mem_cons_self
          · exact List.mem_cons_of_mem _ (List.mem_cons_of_mem _ q)
    exact this ps p
end

/-! ### the ends: nothing asked, the law's own argument -/
section
variable {P : Program} {w : World} {K : PySem.W.Frag} {mg : Str → Option Value} {base : Heap} {f : Addr} {fd : FuncData} {k : Nat} {ps : List Str}
theorem fn_no {sp : Sp} (no : ∀ vs H Q E, ¬ sp vs H Q E) : FnOk P w K mg base CX0 k f fd ps sp := ⟨fun vs H Q E h => absurd h (no vs H Q E), fun A outer s H args us vs Q E _ _ _ _ h => absurd h (no vs H Q E)⟩
theorem fn_noP {R : List D → (D → Prop) → Prop} (no : ∀ ds Z, ¬ R ds Z) : FnOk P w K mg base CX0 k f fd ps (spP R) := fn_no fun vs H Q E h => by
  obtain ⟨F, ds, Z, _, _, q, _⟩ := h
  exact no ds Z q
theorem fn_noS {R : Stt → List D → (D → Stt → Prop) → Prop} (no : ∀ S ds Z, ¬ R S ds Z) : FnOk P w K mg base CX0 k f fd ps (spS R) := fn_no fun vs H Q E h => by
  obtain ⟨F, s, as, S, us, ds, Z, _, _, _, _, _, q, _⟩ := h
  exact no S ds Z q
/-- the written part holds no list -/
def noLs (K : PySem.W.Frag) : Bool := K.all fun p => match p.2.cls with
  | .type s => !(s == "list")
  | _ => true
theorem noLs_at {K : PySem.W.Frag} (h : noLs K = true) : ∀ {a : Addr} {o : Obj}, K.lookup a = some o → o.cls ≠ .type "list" := by
  intro a o e q
  unfold noLs at h
  induction K with
  | nil => cases e
  | cons p r ih =>
    obtain ⟨b, x⟩ := p
    simp only [List.all_cons, Bool.and_eq_true] at h
    simp only [List.lookup] at e
    split at e
    · cases e
      have h1 := h.1
      rw [q] at h1
      revert h1
      decide
    · exact ih h.2 e
theorem sqL_noK {H : Hp} {a : Addr} {xs : List V} (h : noLs K = true) (s : SqL K H a xs) : Rd H a (.lst xs) := by
  rcases s with s | ⟨o, its, n, e, c, _⟩
  · exact s
  · exact absurd c (noLs_at h e)
theorem rpa_ints {F : Hp} : ∀ ns : List Int, RpA F (ns.map V.int) (ns.map PyData.int)
  | [] => .nil
  | n :: ns => .cons (.int n) (rpa_ints ns)
theorem sp_law {R : List D → (D → Prop) → Prop} {H : Hp} {a : Addr} {ns : List Int} {E : XK} (nl : noLs K = true) (s : SqL K H a (ns.map V.int)) (hR : R [.list (ns.map .int)] fun d => d = .bool true) : spP R [.ref a] H (fun v _ => v = .bl true) E :=
  ⟨H, _, _, fun _ _ h => h, .cons (.lst (sqL_noK nl s) (rpa_ints ns)) .nil, hR, fun d v F' H' e _ rv => by
    subst e
    cases rv
    rfl⟩
end
end Pu
/-! the laws' drawing state: its making and its draws, once for all laws -/
namespace Pu
open PySem L2
/-- a state of the laws: a counter, cells from 0 on -/
def Ok : Stt → Prop
  | .cel a cs => 0 < cs.length ∧ cs.length ≤ 100000 ∧ 0 ≤ a ∧ ∀ c ∈ cs, 0 ≤ c
  | _ => False
def R_state : List D → (Stt → Prop) → Prop := fun ds Z => ∃ ns : List Int, ds = [.list (ns.map .int)] ∧ ∀ S, Ok S → Z S
/-- what is drawn: any number below the bound -/
def R_take : Stt → List D → (D → Stt → Prop) → Prop := fun S ds Z => ∃ m : Int, ds = [.int m] ∧ 1 ≤ m ∧ m < 1073741824 ∧ Ok S ∧ ∀ r S', 0 ≤ r → r < m → Ok S' → Z (.int r) S'
def T_state (K : PySem.W.Frag) : TS :=
    (tSeq (tAsg (tLc (iList K (tSl (rSl K) (tVar 0) tNoPart (tPart (tC (.int 63))))) (gName 2) tYes (tCB (rAbs) (tCons (tVar 2) tNil)) [2]) (gName 1))
    (tSeq (tIfS (tTest (tOp (rEqP K) (tCB (rLen K) (tCons (tVar 1) tNil)) (tC (.int 0))))
      (tAsg (tLst (tCons (tC (.int 0)) tNil)) (gName 1))
      tNext)
    (tRet (tLst (tCons (tC (.int 0)) (tCons (tVar 1) tNil))))))
def T_take (K : PySem.W.Frag) : TS :=
    (tSeq (tAsg (tOp (rIxA K) (tVar 0) (tC (.int 1))) (gName 2))
    (tSeq (tAsg (tOp (rI (fun _ j => 0 < j) fun i j => .int (i % j)) (tOp (rIxA K) (tVar 0) (tC (.int 0))) (tCB (rLen K) (tCons (tVar 2) tNil))) (gName 3))
    (tSeq (tAsg (tOp (rIxA K) (tVar 2) (tVar 3)) (gName 4))
    (tSeq (tIfS (tTest (tOp (rI0 fun i j => .bl (decide (j ≤ i))) (tVar 4) (tC (.int 1000000000000000000))))
      (tSeq (tAsg (tOp (rI CDiv fun i j => .int (i / j)) (tVar 4) (tVar 1)) (gSub (tVar 2) (tVar 3) rSetL))
    (tRet (tOp (rI (fun _ j => 0 < j) fun i j => .int (i % j)) (tVar 4) (tVar 1))))
      tNext)
    (tSeq (tAsg (tOp (rPlus K) (tOp (rIxA K) (tVar 0) (tC (.int 0))) (tC (.int 1))) (gSub (tVar 0) (tC (.int 0)) rSetL))
    (tSeq (tAsg (tOp (rI (fun _ j => 0 < j) fun i j => .int (i % j)) (tCB (rInt) (tCons (tOp (rPlus K) (tOp (rI CMul fun i j => .int (i * j)) (tVar 4) (tC (.int 48271))) (tOp (rI CMul fun i j => .int (i * j)) (tOp (rIxA K) (tVar 0) (tC (.int 0))) (tC (.int 69621)))) tNil)) (tC (.int 2147483647))) (gName 5))
    (tSeq (tAsg (tOp (rI (fun _ j => 0 < j) fun i j => .int (i % j)) (tCB (rInt) (tCons (tOp (rPlus K) (tOp (rI CMul fun i j => .int (i * j)) (tVar 5) (tC (.int 16807))) (tOp (rI CMul fun i j => .int (i * j)) (tOp (rIxA K) (tVar 0) (tC (.int 0))) (tC (.int 7919)))) tNil)) (tC (.int 1000000007))) (gName 5))
    (tRet (tOp (rI (fun _ j => 0 < j) fun i j => .int (i % j)) (tOp (rI CDiv fun i j => .int (i / j)) (tVar 5) (tC (.int 7))) (tVar 1))))))))))
theorem W.first {F H : Hp} {N : List Str} {vs : List V} {ds : List D} (fh : Same F H) (r : RpA F vs ds) : W { F0 := F, H0 := H, M := Non } (startE N ds) (L2.start N vs) F H := by
  refine ⟨fun _ => [], Gr.refl fh, ?_, fun i s e => ?_, (fun i p m => by cases m), (fun i j p m => by cases m), fun _ _ => rfl, (fun s as e => by cases e)⟩
  · unfold L2.start startE
    rw [List.length_append, List.length_append, List.length_map, List.length_map, List.length_replicate, List.length_replicate, r.len]
  · rcases startE_get e with ⟨d, e2, rfl⟩ | rfl
    · obtain ⟨v, e1, rv⟩ := r.get e2
      exact ⟨rfl, v, start_get e1, rv⟩
    · rfl
theorem mem_cut {xs : List D} {lo hi : Option Int} {x : D} (h : x ∈ cutD xs lo hi) : x ∈ xs := List.mem_of_mem_drop (List.mem_of_mem_take h)
theorem cut_map {α : Type} {f : α → D} (xs : List α) (lo hi : Option Int) : ∃ ys : List α, cutD (xs.map f) lo hi = ys.map f ∧ ys.length ≤ xs.length := by
  refine ⟨(xs.drop (HT.sIx (xs.map f).length 0 lo)).take (HT.sIx (xs.map f).length (xs.map f).length hi - HT.sIx (xs.map f).length 0 lo), ?_, ?_⟩
  · unfold cutD
    rw [← List.map_drop, ← List.map_take]
  · rw [List.length_take, List.length_drop]
    omega
theorem run_state {K : PySem.W.Frag} {vs : List V} {H : Hp} {Q : VK} {E : XK} (h : spN R_state vs H Q E) : T_state K { nx := fun _ H' => Q .non H', rt := Q } (L2.start ["script", "cells", "cell"] vs) H := by
  obtain ⟨F, ds, Z, fh, r, ⟨ns, rfl, hz⟩, z⟩ := h
  -- the cells, then the state
  have s1 : SX (tAsg (tLc (iList K (tSl (rSl K) (tVar 0) tNoPart (tPart (tC (.int 63))))) (gName 2) tYes (tCB (rAbs) (tCons (tVar 2) tNil)) [2]) (gName 1)) [.val (.list (ns.map .int)), .emp, .emp]
      { nx := fun ρ' => ∃ cs : List Int, (cs.length ≤ 63 ∧ ∀ c ∈ cs, 0 ≤ c) ∧ ρ' = [.val (.list (ns.map .int)), .own (cs.map .int), .emp], rt := fun _ _ => False } := by
    refine sx_asgO (eo_lcP (α := Int) (fun _ => true) (fun c => .int (c.natAbs : Int)) (ei_list (ex_of (eo_sl (ex_var rfl (ep_no (ep_some (ex_int ⟨63, rfl, slo_L ?_⟩))))))))
    obtain ⟨ys, ey, ly⟩ : ∃ ys : List Int, cutD (ns.map PyData.int) none (some 63) = ys.map PyData.int ∧ ys.length ≤ 63 := by
      refine ⟨(ns.drop (HT.sIx (ns.map PyData.int).length 0 none)).take (HT.sIx (ns.map PyData.int).length (ns.map PyData.int).length (some 63) - HT.sIx (ns.map PyData.int).length 0 none), ?_, ?_⟩
      · unfold cutD
        rw [← List.map_drop, ← List.map_take]
      · rw [List.length_take]
        refine Nat.le_trans (Nat.min_le_left _ _) ?_
        unfold HT.sIx
        simp
        omega
    refine ⟨_, rfl, ys, .int, ey, by omega, fun i hi => by simp at hi; subst hi; rfl, fun x _ => sg_name (by simp) ⟨rfl, et_yes ⟨rfl, rfl, fun _ => ex_cb (ea_cons (ex_var rfl (ea_nil (cbd_abs ⟨rfl, rfl⟩))))⟩⟩, ?_⟩
    refine nx_same ⟨ys.map fun c => (c.natAbs : Int), ⟨by rw [List.length_map]; exact ly, fun c hc => ?_⟩, ?_⟩
    · obtain ⟨x, _, rfl⟩ := List.mem_map.mp hc
      omega
    · rw [List.filter_eq_self.mpr (fun _ _ => rfl), List.map_map]
      rfl
  have s2 : ∀ cs : List Int, (cs.length ≤ 63 ∧ ∀ c ∈ cs, 0 ≤ c) → SX (tIfS (tTest (tOp (rEqP K) (tCB (rLen K) (tCons (tVar 1) tNil)) (tC (.int 0)))) (tAsg (tLst (tCons (tC (.int 0)) tNil)) (gName 1)) tNext) [.val (.list (ns.map .int)), .own (cs.map .int), .emp]
      { nx := fun ρ' => ∃ cs : List Int, (0 < cs.length ∧ cs.length ≤ 63 ∧ ∀ c ∈ cs, 0 ≤ c) ∧ ρ' = [.val (.list (ns.map .int)), .own (cs.map .int), .emp], rt := fun _ _ => False } := fun cs hcs => by
    refine sx_if (et_test (ex_op (ex_lenO rfl (ex_int (opd_eqP (min_l (by simp [PyData.depth])) ⟨_, rfl, fun hb => ?_, fun hb => ?_⟩)))))
    · exact sx_asgO (eo_lst (ea_cons (ex_int (ea_nil ⟨by simp, nx_same ⟨[0], by simp, rfl⟩⟩))))
    · refine sx_next (nx_same ⟨cs, ⟨?_, hcs⟩, rfl⟩)
      simp only [PyData.eqv, List.length_map, beq_eq_false_iff_ne, ne_eq] at hb
      omega
  have w0 := W.first (N := ["script", "cells", "cell"]) fh r
  refine s1 _ _ F H w0 _ (fun ρ1 σ1 F1 H1 q1 w1 => ?_) (fun _ _ _ _ _ _ q => q.elim) (fun _ _ _ _ q => q.elim) (fun _ _ _ _ q => q.elim)
  obtain ⟨cs, hcs, rfl⟩ := q1
  refine s2 cs hcs _ _ F1 H1 w1 _ (fun ρ2 σ2 F2 H2 q2 w2 => ?_) (fun _ _ _ _ _ _ q => q.elim) (fun _ _ _ _ q => q.elim) (fun _ _ _ _ q => q.elim)
  obtain ⟨cs, hcs, rfl⟩ := q2
  obtain ⟨ad, w2⟩ := w2
  obtain ⟨p, us, ka, k0, k1, k2, kr⟩ := w2.sl 1 _ rfl
  refine ⟨_, k1, by show 2 ≤ sizeLine; decide, fun q hq => ?_⟩
  have nq := w2.newp hq
  have npq : p ≠ q := ne_of_none k2 hq
  have g := w2.gr
  refine z (.cel 0 cs) q [q, p] F2 _ (hz _ ⟨hcs.1, by omega, Int.le_refl 0, hcs.2.2⟩) ⟨g.ff, g.fh.trans (same_upd hq), fun a o e m => same_upd hq _ _ (g.kp a o e m), fun a e => ?_, g.fr⟩ ⟨p, rfl, npq.symm, upd_same, ?_⟩ fun a ha => ?_
  · by_cases ha : a = q
    · rw [ha, upd_same]; intro z; cases z
    · rw [upd_ne ha]; exact g.al a e
  · rw [upd_ne npq, k2, kr.ints_inv]
  · have e : a = q ∨ a = p := by simpa using ha
    rcases e with e | e
    · rw [e]; exact ⟨nq.1, nq.2.1⟩
    · rw [e]; exact ⟨(w2.fz 1 p (by rw [ka]; simp)).1, k0⟩
theorem run_take {K : PySem.W.Frag} {vs : List V} {H : Hp} {Q : VK} {E : XK} (h : spS R_take vs H Q E) : T_take K { nx := fun _ H' => Q .non H', rt := Q } (L2.start ["state", "most", "cells", "at", "cell", "mixed"] vs) H := by
  obtain ⟨F, s, as, S, us, ds, Z, rfl, fh, sa, fn, r, ⟨m, rfl, hm1, hm2, ok, hz⟩, z⟩ := h
  obtain ⟨v, rfl, rv⟩ := r.one
  have ev := rv.int_inv
  subst ev
  cases S with
  | two a b => exact ok.elim
  | cel a cs =>
    obtain ⟨c, rfl, ne, hs, hc⟩ := sa
    obtain ⟨hl, hl2, ha, hcs⟩ := ok
    have hlen : (cs.map V.int).length = cs.length := List.length_map _
    have hi0 : 0 ≤ a % (cs.length : Int) := Int.emod_nonneg _ (by omega)
    have hi1 : a % (cs.length : Int) < (cs.length : Int) := Int.emod_lt_of_pos _ (by omega)
    obtain ⟨i, ei⟩ : ∃ i : Nat, a % (cs.length : Int) = (i : Int) := ⟨(a % (cs.length : Int)).toNat, by omega⟩
    have hi : i < cs.length := by omega
    -- cells = state[1]; at = state[0] % len(cells); cell = cells[at]
    refine ⟨_, rfl, .inl ⟨s, _, 1, .ref c, rfl, rfl, .inl (.inl hs), rfl, ?_⟩⟩
    refine ⟨_, rfl, .inl ⟨s, _, 0, .int a, rfl, rfl, .inl (.inl hs), rfl, ?_⟩⟩
    refine ⟨_, rfl, _, cs.length, rfl, .inl ⟨_, .inl (.inl hc), hlen.symm⟩, a, (cs.length : Int), rfl, rfl, by omega, ?_⟩
    refine ⟨_, rfl, _, rfl, .inl ⟨c, _, (i : Int), .int cs[i], rfl, congrArg V.int ei, .inl (.inl hc), atI_nat (by rw [List.getElem?_map, List.getElem?_eq_getElem hi]; rfl), ?_⟩⟩
    refine ⟨_, rfl, _, _, rfl, rfl, _, rfl, ?_⟩
    have gr : ∀ H', (∀ b o, H b = some o → b ≠ s → b ≠ c → H' b = some o) → (∃ o, H' s = some o) → (∃ o, H' c = some o) → Gr (· ∈ [s, c]) F H F H' := fun H' k1 k2 k3 => by
      have fs := fn s (by simp)
      have fc := fn c (by simp)
      refine ⟨Same.refl F, fun b o e => k1 b o (fh b o e) (fun q => by rw [q, fs] at e; cases e) (fun q => by rw [q, fc] at e; cases e), fun b o e m => k1 b o e (fun q => m (by simp [q])) (fun q => m (by simp [q])), fun b e => ?_, fun _ _ z => z⟩
      by_cases h1 : b = s
      · obtain ⟨o, k⟩ := k2
        rw [h1, k]; intro z; cases z
      · by_cases h2 : b = c
        · obtain ⟨o, k⟩ := k3
          rw [h2, k]; intro z; cases z
        · cases q : H b with
          | none => exact absurd q e
          | some o => rw [k1 b o q h1 h2]; intro z; cases z
    refine ite2 (fun hbig => ?_) (fun hsmall => ?_)
    · -- cells[at] = cell // most; return cell % most
      refine ⟨_, rfl, _, rfl, cs[i], m, rfl, rfl, ⟨by omega, by omega⟩, ?_⟩
      refine ⟨_, rfl, _, rfl, c, _, (i : Int), i, rfl, congrArg V.int ei, hc, ?_, ?_⟩
      · unfold ixN
        rw [hlen, if_pos (by omega), if_pos (by omega)]
        simp
      refine ⟨_, rfl, _, rfl, cs[i], m, rfl, rfl, by omega, ?_⟩
      have hd : 0 ≤ cs[i] := hcs _ (List.getElem_mem hi)
      refine z (.int (cs[i] % m)) (.cel a (cs.set i (cs[i] / m))) _ F _ (hz _ _ (Int.emod_nonneg _ (by omega)) (Int.emod_lt_of_pos _ (by omega)) ⟨by rw [List.length_set]; exact hl, by rw [List.length_set]; exact hl2, ha, fun x hx => ?_⟩) (gr _ (fun b o e h1 h2 => by rw [upd_ne h2]; exact e) ⟨_, by rw [upd_ne ne]; exact hs⟩ ⟨_, upd_same⟩) ⟨c, rfl, ne, by rw [upd_ne ne]; exact hs, by rw [upd_same, List.map_set]⟩ fn (.int _)
      rcases List.mem_or_eq_of_mem_set hx with h | h
      · exact hcs x h
      · rw [h]; exact Int.ediv_nonneg hd (by omega)
    · -- state[0] = state[0] + 1
      refine ⟨_, rfl, .inl ⟨s, _, 0, .int a, rfl, rfl, .inl (.inl hs), rfl, ?_⟩⟩
      refine .inl (.inl ⟨a, 1, rfl, rfl, ?_⟩)
      refine ⟨_, rfl, s, _, 0, 0, rfl, rfl, hs, rfl, ?_⟩
      have hs' : upd H s (.lst ([.int a, .ref c].set 0 (.int (a + 1)))) s = some (.lst [.int (a + 1), .ref c]) := upd_same
      -- mixed
      refine ⟨_, rfl, _, _, rfl, rfl, .inr ⟨by decide, by decide⟩, ?_⟩
      refine ⟨_, rfl, .inl ⟨s, _, 0, .int (a + 1), rfl, rfl, .inl (.inl hs'), rfl, ?_⟩⟩
      refine ⟨_, _, rfl, rfl, .inr ⟨by decide, by decide⟩, ?_⟩
      refine .inl (.inl ⟨_, _, rfl, rfl, ?_⟩)
      refine .inl ⟨_, rfl, ?_⟩
      refine ⟨_, _, rfl, rfl, (by decide : (0 : Int) < 2147483647), ?_⟩
      refine ⟨_, rfl, _, _, rfl, rfl, .inr ⟨by decide, by decide⟩, ?_⟩
      refine ⟨_, rfl, .inl ⟨s, _, 0, .int (a + 1), rfl, rfl, .inl (.inl hs'), rfl, ?_⟩⟩
      refine ⟨_, _, rfl, rfl, .inr ⟨by decide, by decide⟩, ?_⟩
      refine .inl (.inl ⟨_, _, rfl, rfl, ?_⟩)
      refine .inl ⟨_, rfl, ?_⟩
      refine ⟨_, _, rfl, rfl, (by decide : (0 : Int) < 1000000007), ?_⟩
      refine ⟨_, rfl, _, _, rfl, rfl, ⟨by decide, by decide⟩, ?_⟩
      refine ⟨_, rfl, _, _, rfl, rfl, by omega, ?_⟩
      exact z _ (.cel (a + 1) cs) _ F _ (hz _ _ (Int.emod_nonneg _ (by omega)) (Int.emod_lt_of_pos _ (by omega)) ⟨hl, hl2, by omega, hcs⟩) (gr _ (fun b o e h1 h2 => by rw [upd_ne h1]; exact e) ⟨_, upd_same⟩ ⟨_, by rw [upd_ne ne.symm]; exact hc⟩) ⟨c, rfl, ne, hs', by rw [upd_ne ne.symm]; exact hc⟩ fn (.int _)

section
variable {P : Program} {w : World} {K : PySem.W.Frag} {mg : Str → Option Value} {base : Heap} {f : Addr} {fd : FuncData} {k : Nat} {x qual : Str} {st : Stmt}
theorem fn_newstate (F : Fun K x qual st f fd) (S : FnScope ["script", "cells", "cell"] ["script"] (defScope st))
    (body : ∀ (cdv : Value) (A : Around) (outer : List PySem.Env) (s : Shared) (H : Hp) (E : XK), Room k (A.deeper (PyProof.Rows.envOfC qual (defScope st) s.heap.objs.size f cdv)) →
      PSs (cxOf CX0 P w K mg base ["script", "cells", "cell"] qual (defScope st) f cdv A outer s H E).nox (defBody st) (T_state K)) : FnOk P w K mg base CX0 (k + 1) f fd ["script"] (spN R_state) :=
  F.ok S (fun vs H Q E h => by
    obtain ⟨F, ds, Z, _, r, ⟨ns, rfl, _⟩, _⟩ := h
    rw [r.len]; rfl) fun cdv A outer s H vs Q E hr h => ⟨_, body cdv A outer s H E hr, run_state h⟩
theorem fn_take (F : Fun K x qual st f fd) (S : FnScope ["state", "most", "cells", "at", "cell", "mixed"] ["state", "most"] (defScope st))
    (body : ∀ (cdv : Value) (A : Around) (outer : List PySem.Env) (s : Shared) (H : Hp) (E : XK), Room k (A.deeper (PyProof.Rows.envOfC qual (defScope st) s.heap.objs.size f cdv)) →
      PSs (cxOf CX0 P w K mg base ["state", "most", "cells", "at", "cell", "mixed"] qual (defScope st) f cdv A outer s H E).nox (defBody st) (T_take K)) : FnOk P w K mg base CX0 (k + 1) f fd ["state", "most"] (spS R_take) :=
  F.ok S (fun vs H Q E h => by
    obtain ⟨F, s, as, S, us, ds, Z, rfl, _, _, _, r, ⟨m, rfl, _⟩, _⟩ := h
    rw [List.length_cons, r.len]; rfl) fun cdv A outer s H vs Q E hr h => ⟨_, body cdv A outer s H E hr, run_take h⟩
end
end Pu
/-! readings of the defs of law_k70_trials_by_all_plans: printed by gen.py -/
namespace Law_k70
open PySem L2 Pu

/-- reach: slots shots 0, shells 1, total 2, ways 3, broken 4 -/
abbrev N_reach : List Str := ["shots", "shells", "total", "ways", "broken"]
def T_reach (K : PySem.W.Frag) : TS :=
    (tSeq (tAsg (tC (.int 0)) (gName 2))
    (tSeq (tAsg (tC (.int 1)) (gName 3))
    (tSeq (tFor (iRng1 (tCons (tOp (rPlus K) (tCB (rMn2) (tCons (tVar 0) (tCons (tVar 1) tNil))) (tC (.int 1))) tNil)) (gName 4)
      (tSeq (tAsg (tOp (rPlus K) (tVar 2) (tVar 3)) (gName 2))
    (tAsg (tOp (rI CDiv fun i j => .int (i / j)) (tOp (rI CMul fun i j => .int (i * j)) (tVar 3) (tOp (rI0 fun i j => .int (i - j)) (tVar 0) (tVar 4))) (tOp (rPlus K) (tVar 4) (tC (.int 1)))) (gName 3))))
    (tRet (tVar 2)))))
/-- least_shots: slots charges 0, shells 1, shots 2 -/
abbrev N_least_shots : List Str := ["charges", "shells", "shots"]
def T_least_shots (K : PySem.W.Frag) (R_reach : List D → (D → Prop) → Prop) : TS :=
    (tSeq (tAsg (tC (.int 0)) (gName 2))
    (tSeq (tWhile (tTest (tOp (rI0 fun i j => .bl (decide (i < j))) (tCall (spP R_reach) [] E0 (tCons (tVar 2) (tCons (tVar 1) tNil))) (tOp (rPlus K) (tVar 0) (tC (.int 1)))))
      (tAsg (tOp (rPlus K) (tVar 2) (tC (.int 1))) (gName 2)))
    (tRet (tVar 2))))
/-- plan_for: slots low 0, high 1, shots 2, shells 3, charge 4, below 5 -/
abbrev N_plan_for : List Str := ["low", "high", "shots", "shells", "charge", "below"]
def T_plan_for (K : PySem.W.Frag) (R_plan_for : List D → (D → Prop) → Prop) (R_reach : List D → (D → Prop) → Prop) : TS :=
    (tSeq (tIfS (tTest (tOp (rEqP K) (tVar 0) (tVar 1)))
      (tRet (tTup (tCons (tC (.str "holds")) (tCons (tVar 0) tNil))))
      tNext)
    (tSeq (tAsg (tCB (rMn2) (tCons (tVar 1) (tCons (tOp (rPlus K) (tVar 0) (tCall (spP R_reach) [] E0 (tCons (tOp (rI0 fun i j => .int (i - j)) (tVar 2) (tC (.int 1))) (tCons (tOp (rI0 fun i j => .int (i - j)) (tVar 3) (tC (.int 1))) tNil)))) tNil))) (gName 4))
    (tSeq (tAsg (tCall (spP R_plan_for) [] E0 (tCons (tVar 0) (tCons (tOp (rI0 fun i j => .int (i - j)) (tVar 4) (tC (.int 1))) (tCons (tOp (rI0 fun i j => .int (i - j)) (tVar 2) (tC (.int 1))) (tCons (tOp (rI0 fun i j => .int (i - j)) (tVar 3) (tC (.int 1))) tNil))))) (gName 5))
    (tRet (tTup (tCons (tC (.str "shoot")) (tCons (tVar 4) (tCons (tVar 5) (tCons (tCall (spP R_plan_for) [] E0 (tCons (tVar 4) (tCons (tVar 1) (tCons (tOp (rI0 fun i j => .int (i - j)) (tVar 2) (tC (.int 1))) (tCons (tVar 3) tNil))))) tNil)))))))))
/-- trial: slots charges 0, shells 1, shots 2 -/
abbrev N_trial : List Str := ["charges", "shells", "shots"]
def T_trial (K : PySem.W.Frag) (R_least_shots : List D → (D → Prop) → Prop) (R_plan_for : List D → (D → Prop) → Prop) : TS :=
    (tSeq (tAsg (tCall (spP R_least_shots) [] E0 (tCons (tVar 0) (tCons (tVar 1) tNil))) (gName 2))
    (tRet (tTup (tCons (tVar 2) (tCons (tCall (spP R_plan_for) [] E0 (tCons (tC (.int 0)) (tCons (tVar 0) (tCons (tVar 2) (tCons (tVar 1) tNil))))) tNil)))))
/-- plan_fault: slots low 0, high 1, shots 2, shells 3, path 4, plan 5, fault 6 -/
abbrev N_plan_fault : List Str := ["low", "high", "shots", "shells", "path", "plan", "fault"]
def T_plan_fault (K : PySem.W.Frag) (R_plan_fault : List D → (D → Prop) → Prop) : TS :=
    (tSeq (tIfS (tTest (tOp (rEqP K) (tOp (rIxA K) (tVar 5) (tC (.int 0))) (tC (.str "holds"))))
      (tRet (tIf (tTest (tChain (rEqP K) (rEqP K) (tVar 0) (tVar 1) (tOp (rIxA K) (tVar 5) (tC (.int 1))))) (tC .non) (tTup (tCons (tC (.str "holds")) (tCons (tVar 4) tNil)))))
      tNext)
    (tSeq (tIfS (tTest (tOp (rEqP K) (tVar 2) (tC (.int 0))))
      (tRet (tTup (tCons (tC (.str "shots")) (tCons (tVar 4) tNil))))
      tNext)
    (tSeq (tIfS (tTest (tOp (rEqP K) (tVar 3) (tC (.int 0))))
      (tRet (tTup (tCons (tC (.str "shells")) (tCons (tVar 4) tNil))))
      tNext)
    (tSeq (tIfS (tNot (tTest (tChain (rI0 fun i j => .bl (decide (i < j))) (rI0 fun i j => .bl (decide (i ≤ j))) (tVar 0) (tOp (rIxA K) (tVar 5) (tC (.int 1))) (tVar 1))))
      (tRet (tTup (tCons (tC (.str "charge")) (tCons (tVar 4) tNil))))
      tNext)
    (tSeq (tAsg (tCall (spP R_plan_fault) [] E0 (tCons (tVar 0) (tCons (tOp (rI0 fun i j => .int (i - j)) (tOp (rIxA K) (tVar 5) (tC (.int 1))) (tC (.int 1))) (tCons (tOp (rI0 fun i j => .int (i - j)) (tVar 2) (tC (.int 1))) (tCons (tOp (rI0 fun i j => .int (i - j)) (tVar 3) (tC (.int 1))) (tCons (tOp (rPlus K) (tVar 4) (tLst (tCons (tC (.int 1)) tNil))) (tCons (tOp (rIxA K) (tVar 5) (tC (.int 2))) tNil))))))) (gName 6))
    (tRet (tIf (tTest (tOp (rIsnt) (tVar 6) (tC .non))) (tVar 6) (tCall (spP R_plan_fault) [] E0 (tCons (tOp (rIxA K) (tVar 5) (tC (.int 1))) (tCons (tVar 1) (tCons (tOp (rI0 fun i j => .int (i - j)) (tVar 2) (tC (.int 1))) (tCons (tVar 3) (tCons (tOp (rPlus K) (tVar 4) (tLst (tCons (tC (.int 0)) tNil))) (tCons (tOp (rIxA K) (tVar 5) (tC (.int 3))) tNil))))))))))))))
/-- trial_fault: slots charges 0, shells 1, told 2, shots 3, plan 4, fault 5 -/
abbrev N_trial_fault : List Str := ["charges", "shells", "told", "shots", "plan", "fault"]
def T_trial_fault (K : PySem.W.Frag) (R_plan_fault : List D → (D → Prop) → Prop) (R_reach : List D → (D → Prop) → Prop) : TS :=
    (tSeq (tAsg (tVar 2) (gTup K 2 (gCons (gName 3) (gCons (gName 4) gNil))))
    (tSeq (tIfS (tTest (tOp (rI0 fun i j => .bl (decide (i < j))) (tVar 3) (tC (.int 0))))
      (tRet (tTup (tCons (tC (.str "shots")) tNil)))
      tNext)
    (tSeq (tAsg (tCall (spP R_plan_fault) [] E0 (tCons (tC (.int 0)) (tCons (tVar 0) (tCons (tVar 3) (tCons (tVar 1) (tCons (tLst tNil) (tCons (tVar 4) tNil))))))) (gName 5))
    (tSeq (tIfS (tTest (tOp (rIsnt) (tVar 5) (tC .non)))
      (tRet (tTup (tCons (tC (.str "plan")) (tCons (tVar 5) tNil))))
      tNext)
    (tRet (tIf (tOr (tTest (tOp (rEqP K) (tVar 3) (tC (.int 0)))) (tTest (tOp (rI0 fun i j => .bl (decide (i < j))) (tCall (spP R_reach) [] E0 (tCons (tOp (rI0 fun i j => .int (i - j)) (tVar 3) (tC (.int 1))) (tCons (tVar 1) tNil))) (tOp (rPlus K) (tVar 0) (tC (.int 1)))))) (tC .non) (tTup (tCons (tC (.str "many")) tNil))))))))
/-- shot: slots plan 0, holds 1, row 2; own: row -/
abbrev N_shot : List Str := ["plan", "holds", "row"]
def T_shot (K : PySem.W.Frag) : TS :=
    (tSeq (tAsg (tLst tNil) (gName 2))
    (tSeq (tWhile (tTest (tOp (rEqP K) (tOp (rIxA K) (tVar 0) (tC (.int 0))) (tC (.str "shoot"))))
      (tSeq (tDrop (tBM K "list" rAppend (tVar 2) (tCons (tOp (rIxA K) (tVar 0) (tC (.int 1))) tNil)))
    (tAsg (tIf (tTest (tOp (rI0 fun i j => .bl (decide (j < i))) (tOp (rIxA K) (tVar 0) (tC (.int 1))) (tVar 1))) (tOp (rIxA K) (tVar 0) (tC (.int 2))) (tOp (rIxA K) (tVar 0) (tC (.int 3)))) (gName 0))))
    (tRet (tTup (tCons (tVar 2) (tCons (tOp (rIxA K) (tVar 0) (tC (.int 1))) tNil))))))
/-- broken_by: slots plan 0, holds 1, charge 2 -/
abbrev N_broken_by : List Str := ["plan", "holds", "charge"]
def T_broken_by (K : PySem.W.Frag) (R_shot : List D → (D → Prop) → Prop) : TS :=
    (tRet (tCB (rLen K) (tCons (tLc (iList K (tOp (rIxA K) (tCall (spP R_shot) [] E0 (tCons (tVar 0) (tCons (tVar 1) tNil))) (tC (.int 0)))) (gName 2) (tTest (tOp (rI0 fun i j => .bl (decide (j < i))) (tVar 2) (tVar 1))) (tVar 2) [2]) tNil)))
/-- worth_it: slots charges 0, price 1, cost 2, best 3, shells 4, shots 5, cents 6 -/
abbrev N_worth_it : List Str := ["charges", "price", "cost", "best", "shells", "shots", "cents"]
def T_worth_it (K : PySem.W.Frag) (R_least_shots : List D → (D → Prop) → Prop) : TS :=
    (tSeq (tAsg (tC .non) (gName 3))
    (tSeq (tFor (iRng2 (tCons (tC (.int 1)) (tCons (tOp (rPlus K) (tVar 0) (tC (.int 1))) tNil))) (gName 4)
      (tSeq (tAsg (tCall (spP R_least_shots) [] E0 (tCons (tVar 0) (tCons (tVar 4) tNil))) (gName 5))
    (tSeq (tAsg (tOp (rPlus K) (tOp (rI CMul fun i j => .int (i * j)) (tVar 5) (tVar 2)) (tOp (rI CMul fun i j => .int (i * j)) (tCB (rMn2) (tCons (tVar 4) (tCons (tVar 5) tNil))) (tVar 1))) (gName 6))
    (tIfS (tOr (tTest (tOp (rIs) (tVar 3) (tC .non))) (tTest (tOp (rI0 fun i j => .bl (decide (i < j))) (tVar 6) (tOp (rIxA K) (tVar 3) (tC (.int 2))))))
      (tAsg (tTup (tCons (tVar 4) (tCons (tVar 5) (tCons (tVar 6) tNil)))) (gName 3))
      tNext))))
    (tRet (tVar 3))))
/-- _law_state: slots script 0, cells 1, cell 2 -/
abbrev N_l_state : List Str := ["script", "cells", "cell"]
def T_l_state (K : PySem.W.Frag) : TS :=
    (tSeq (tAsg (tLc (iList K (tSl (rSl K) (tVar 0) tNoPart (tPart (tC (.int 63))))) (gName 2) tYes (tCB (rAbs) (tCons (tVar 2) tNil)) [2]) (gName 1))
    (tSeq (tIfS (tTest (tOp (rEqP K) (tCB (rLen K) (tCons (tVar 1) tNil)) (tC (.int 0))))
      (tAsg (tLst (tCons (tC (.int 0)) tNil)) (gName 1))
      tNext)
    (tRet (tLst (tCons (tC (.int 0)) (tCons (tVar 1) tNil))))))
/-- _law_take: slots state 0, most 1, cells 2, at 3, cell 4, mixed 5; own: cells, state -/
abbrev N_l_take : List Str := ["state", "most", "cells", "at", "cell", "mixed"]
def T_l_take (K : PySem.W.Frag) : TS :=
    (tSeq (tAsg (tOp (rIxA K) (tVar 0) (tC (.int 1))) (gName 2))
    (tSeq (tAsg (tOp (rI (fun _ j => 0 < j) fun i j => .int (i % j)) (tOp (rIxA K) (tVar 0) (tC (.int 0))) (tCB (rLen K) (tCons (tVar 2) tNil))) (gName 3))
    (tSeq (tAsg (tOp (rIxA K) (tVar 2) (tVar 3)) (gName 4))
    (tSeq (tIfS (tTest (tOp (rI0 fun i j => .bl (decide (j ≤ i))) (tVar 4) (tC (.int 1000000000000000000))))
      (tSeq (tAsg (tOp (rI CDiv fun i j => .int (i / j)) (tVar 4) (tVar 1)) (gSub (tVar 2) (tVar 3) rSetL))
    (tRet (tOp (rI (fun _ j => 0 < j) fun i j => .int (i % j)) (tVar 4) (tVar 1))))
      tNext)
    (tSeq (tAsg (tOp (rPlus K) (tOp (rIxA K) (tVar 0) (tC (.int 0))) (tC (.int 1))) (gSub (tVar 0) (tC (.int 0)) rSetL))
    (tSeq (tAsg (tOp (rI (fun _ j => 0 < j) fun i j => .int (i % j)) (tCB (rInt) (tCons (tOp (rPlus K) (tOp (rI CMul fun i j => .int (i * j)) (tVar 4) (tC (.int 48271))) (tOp (rI CMul fun i j => .int (i * j)) (tOp (rIxA K) (tVar 0) (tC (.int 0))) (tC (.int 69621)))) tNil)) (tC (.int 2147483647))) (gName 5))
    (tSeq (tAsg (tOp (rI (fun _ j => 0 < j) fun i j => .int (i % j)) (tCB (rInt) (tCons (tOp (rPlus K) (tOp (rI CMul fun i j => .int (i * j)) (tVar 5) (tC (.int 16807))) (tOp (rI CMul fun i j => .int (i * j)) (tOp (rIxA K) (tVar 0) (tC (.int 0))) (tC (.int 7919)))) tNil)) (tC (.int 1000000007))) (gName 5))
    (tRet (tOp (rI (fun _ j => 0 < j) fun i j => .int (i % j)) (tOp (rI CDiv fun i j => .int (i / j)) (tVar 5) (tC (.int 7))) (tVar 1))))))))))
/-- _law_reach: slots shots 0, shells 1, total 2, ways 3, broken 4 -/
abbrev N_l_reach : List Str := ["shots", "shells", "total", "ways", "broken"]
def T_l_reach (K : PySem.W.Frag) : TS :=
    (tSeq (tAsg (tTup (tCons (tC (.int 0)) (tCons (tC (.int 1)) tNil))) (gTup K 2 (gCons (gName 2) (gCons (gName 3) gNil))))
    (tSeq (tFor (iRng1 (tCons (tOp (rPlus K) (tCB (rMn2) (tCons (tVar 0) (tCons (tVar 1) tNil))) (tC (.int 1))) tNil)) (gName 4)
      (tSeq (tAsg (tOp (rPlus K) (tVar 2) (tVar 3)) (gName 2))
    (tAsg (tOp (rI CDiv fun i j => .int (i / j)) (tOp (rI CMul fun i j => .int (i * j)) (tVar 3) (tOp (rI0 fun i j => .int (i - j)) (tVar 0) (tVar 4))) (tOp (rPlus K) (tVar 4) (tC (.int 1)))) (gName 3))))
    (tRet (tVar 2))))
/-- _law_plan_fault: slots low 0, high 1, shots 2, shells 3, path 4, plan 5, found 6 -/
abbrev N_l_plan_fault : List Str := ["low", "high", "shots", "shells", "path", "plan", "found"]
def T_l_plan_fault (K : PySem.W.Frag) (R_l_plan_fault : List D → (D → Prop) → Prop) : TS :=
    (tSeq (tIfS (tTest (tOp (rEqP K) (tOp (rIxA K) (tVar 5) (tC (.int 0))) (tC (.str "holds"))))
      (tRet (tIf (tAnd (tTest (tOp (rEqP K) (tVar 0) (tVar 1))) (tTest (tOp (rEqP K) (tOp (rIxA K) (tVar 5) (tC (.int 1))) (tVar 0)))) (tC .non) (tTup (tCons (tC (.str "holds")) (tCons (tVar 4) tNil)))))
      tNext)
    (tSeq (tIfS (tTest (tOp (rEqP K) (tVar 2) (tC (.int 0))))
      (tRet (tTup (tCons (tC (.str "shots")) (tCons (tVar 4) tNil))))
      tNext)
    (tSeq (tIfS (tTest (tOp (rEqP K) (tVar 3) (tC (.int 0))))
      (tRet (tTup (tCons (tC (.str "shells")) (tCons (tVar 4) tNil))))
      tNext)
    (tSeq (tIfS (tNot (tTest (tChain (rI0 fun i j => .bl (decide (i < j))) (rI0 fun i j => .bl (decide (i ≤ j))) (tVar 0) (tOp (rIxA K) (tVar 5) (tC (.int 1))) (tVar 1))))
      (tRet (tTup (tCons (tC (.str "charge")) (tCons (tVar 4) tNil))))
      tNext)
    (tSeq (tAsg (tCall (spP R_l_plan_fault) [] E0 (tCons (tVar 0) (tCons (tOp (rI0 fun i j => .int (i - j)) (tOp (rIxA K) (tVar 5) (tC (.int 1))) (tC (.int 1))) (tCons (tOp (rI0 fun i j => .int (i - j)) (tVar 2) (tC (.int 1))) (tCons (tOp (rI0 fun i j => .int (i - j)) (tVar 3) (tC (.int 1))) (tCons (tOp (rPlus K) (tVar 4) (tLst (tCons (tC (.int 1)) tNil))) (tCons (tOp (rIxA K) (tVar 5) (tC (.int 2))) tNil))))))) (gName 6))
    (tSeq (tIfS (tTest (tOp (rIsnt) (tVar 6) (tC .non)))
      (tRet (tVar 6))
      tNext)
    (tRet (tCall (spP R_l_plan_fault) [] E0 (tCons (tOp (rIxA K) (tVar 5) (tC (.int 1))) (tCons (tVar 1) (tCons (tOp (rI0 fun i j => .int (i - j)) (tVar 2) (tC (.int 1))) (tCons (tVar 3) (tCons (tOp (rPlus K) (tVar 4) (tLst (tCons (tC (.int 0)) tNil))) (tCons (tOp (rIxA K) (tVar 5) (tC (.int 3))) tNil))))))))))))))
/-- _law_fault: slots charges 0, shells 1, told 2, shots 3, plan 4, found 5 -/
abbrev N_l_fault : List Str := ["charges", "shells", "told", "shots", "plan", "found"]
def T_l_fault (K : PySem.W.Frag) (R_l_plan_fault : List D → (D → Prop) → Prop) (R_l_reach : List D → (D → Prop) → Prop) : TS :=
    (tSeq (tAsg (tVar 2) (gTup K 2 (gCons (gName 3) (gCons (gName 4) gNil))))
    (tSeq (tIfS (tTest (tOp (rI0 fun i j => .bl (decide (i < j))) (tVar 3) (tC (.int 0))))
      (tRet (tTup (tCons (tC (.str "shots")) tNil)))
      tNext)
    (tSeq (tAsg (tCall (spP R_l_plan_fault) [] E0 (tCons (tC (.int 0)) (tCons (tVar 0) (tCons (tVar 3) (tCons (tVar 1) (tCons (tLst tNil) (tCons (tVar 4) tNil))))))) (gName 5))
    (tSeq (tIfS (tTest (tOp (rIsnt) (tVar 5) (tC .non)))
      (tRet (tTup (tCons (tC (.str "plan")) (tCons (tVar 5) tNil))))
      tNext)
    (tRet (tIf (tOr (tTest (tOp (rEqP K) (tVar 3) (tC (.int 0)))) (tTest (tOp (rI0 fun i j => .bl (decide (i ≤ j))) (tCall (spP R_l_reach) [] E0 (tCons (tOp (rI0 fun i j => .int (i - j)) (tVar 3) (tC (.int 1))) (tCons (tVar 1) tNil))) (tVar 0)))) (tC .non) (tTup (tCons (tC (.str "many")) tNil))))))))
/-- _law_least: slots charges 0, most 1, table 2, shells 3, many 4, row 5, best 6, first 7, broken 8, held 9, told 10; own: row, table -/
abbrev N_l_least : List Str := ["charges", "most", "table", "shells", "many", "row", "best", "first", "broken", "held", "told"]
def T_l_least (K : PySem.W.Frag) : TS :=
    (tSeq (tAsg (tLst (tCons (tLc (iRng1 (tCons (tOp (rPlus K) (tVar 1) (tC (.int 1))) tNil)) (gName 3) tYes (tC (.int 0)) [3]) tNil)) (gName 2))
    (tSeq (tFor (iRng2 (tCons (tC (.int 1)) (tCons (tOp (rPlus K) (tVar 0) (tC (.int 1))) tNil))) (gName 4)
      (tSeq (tAsg (tLst (tCons (tC .non) tNil)) (gName 5))
    (tSeq (tFor (iRng2 (tCons (tC (.int 1)) (tCons (tOp (rPlus K) (tVar 1) (tC (.int 1))) tNil))) (gName 3)
      (tSeq (tAsg (tC .non) (gName 6))
    (tSeq (tFor (iRng2 (tCons (tC (.int 1)) (tCons (tOp (rPlus K) (tVar 4) (tC (.int 1))) tNil))) (gName 7)
      (tSeq (tAsg (tOp (rIxA K) (tOp (rIxA K) (tVar 2) (tOp (rI0 fun i j => .int (i - j)) (tVar 7) (tC (.int 1)))) (tOp (rI0 fun i j => .int (i - j)) (tVar 3) (tC (.int 1)))) (gName 8))
    (tSeq (tAsg (tOp (rIxA K) (tOp (rIxA K) (tVar 2) (tOp (rI0 fun i j => .int (i - j)) (tVar 4) (tVar 7))) (tVar 3)) (gName 9))
    (tIfS (tTest (tOp (rIsnt) (tVar 8) (tC .non)))
      (tSeq (tAsg (tOp (rPlus K) (tC (.int 1)) (tCB (rMx2) (tCons (tVar 8) (tCons (tVar 9) tNil)))) (gName 10))
    (tAsg (tIf (tOr (tTest (tOp (rIs) (tVar 6) (tC .non))) (tTest (tOp (rI0 fun i j => .bl (decide (i < j))) (tVar 10) (tVar 6)))) (tVar 10) (tVar 6)) (gName 6)))
      tNext))))
    (tDrop (tBM K "list" rAppend (tVar 5) (tCons (tVar 6) tNil))))))
    (tDrop (tBM K "list" rAppend (tVar 2) (tCons (tVar 5) tNil))))))
    (tRet (tVar 2))))
/-- _law_bent: slots state 0, charges 1, plan 2, side 3 -/
abbrev N_l_bent : List Str := ["state", "charges", "plan", "side"]
def T_l_bent (K : PySem.W.Frag) (R_l_take : Stt → List D → (D → Stt → Prop) → Prop) (R_l_bent : Stt → List D → (D → Stt → Prop) → Prop) : TS :=
    (tSeq (tIfS (tAnd (tTest (tOp (rEqP K) (tOp (rIxA K) (tVar 2) (tC (.int 0))) (tC (.str "shoot")))) (tTest (tOp (rI0 fun i j => .bl (decide (j < i))) (tCall (spS R_l_take) [] E0 (tCons (tVar 0) (tCons (tC (.int 3)) tNil))) (tC (.int 0)))))
      (tSeq (tAsg (tOp (rPlus K) (tC (.int 2)) (tCall (spS R_l_take) [] E0 (tCons (tVar 0) (tCons (tC (.int 2)) tNil)))) (gName 3))
    (tRet (tOp (rPlus K) (tOp (rPlus K) (tSl (rSl K) (tVar 2) tNoPart (tPart (tVar 3))) (tTup (tCons (tCall (spS R_l_bent) [] E0 (tCons (tVar 0) (tCons (tVar 1) (tCons (tOp (rIxA K) (tVar 2) (tVar 3)) tNil)))) tNil))) (tSl (rSl K) (tVar 2) (tPart (tOp (rPlus K) (tVar 3) (tC (.int 1)))) tNoPart))))
      tNext)
    (tSeq (tIfS (tTest (tOp (rEqP K) (tOp (rIxA K) (tVar 2) (tC (.int 0))) (tC (.str "holds"))))
      (tRet (tOp (rIxA K) (tLst (tCons (tTup (tCons (tC (.str "holds")) (tCons (tOp (rPlus K) (tOp (rIxA K) (tVar 2) (tC (.int 1))) (tC (.int 1))) tNil))) (tCons (tTup (tCons (tC (.str "shoot")) (tCons (tOp (rIxA K) (tVar 2) (tC (.int 1))) (tCons (tVar 2) (tCons (tVar 2) tNil))))) tNil))) (tCall (spS R_l_take) [] E0 (tCons (tVar 0) (tCons (tC (.int 2)) tNil)))))
      tNext)
    (tRet (tOp (rIxA K) (tLst (tCons (tOp (rPlus K) (tTup (tCons (tC (.str "shoot")) (tCons (tOp (rPlus K) (tOp (rIxA K) (tVar 2) (tC (.int 1))) (tC (.int 1))) tNil))) (tSl (rSl K) (tVar 2) (tPart (tC (.int 2))) tNoPart)) (tCons (tOp (rPlus K) (tSl (rSl K) (tVar 2) tNoPart (tPart (tC (.int 2)))) (tTup (tCons (tOp (rIxA K) (tVar 2) (tC (.int 3))) (tCons (tOp (rIxA K) (tVar 2) (tC (.int 2))) tNil)))) (tCons (tOp (rIxA K) (tVar 2) (tC (.int 2))) (tCons (tOp (rPlus K) (tTup (tCons (tC (.str "shoot")) (tCons (tCall (spS R_l_take) [] E0 (tCons (tVar 0) (tCons (tOp (rPlus K) (tVar 1) (tC (.int 2))) tNil))) tNil))) (tSl (rSl K) (tVar 2) (tPart (tC (.int 2))) tNoPart)) tNil))))) (tCall (spS R_l_take) [] E0 (tCons (tVar 0) (tCons (tC (.int 4)) tNil)))))))
/-- law: slots script 0, state 1, charges 2, shells 3, table 4, told 5, holds 6, row 7, answer 8, one 9, shots 10, price 11, cost 12, rows 13, k 14, turn 15, other 16 -/
abbrev N_law : List Str := ["script", "state", "charges", "shells", "table", "told", "holds", "row", "answer", "one", "shots", "price", "cost", "rows", "k", "turn", "other"]
def T_law (K : PySem.W.Frag) (R_l_state : List D → (Stt → Prop) → Prop) (R_l_least : List D → (D → Prop) → Prop) (R_trial : List D → (D → Prop) → Prop) (R_l_take : Stt → List D → (D → Stt → Prop) → Prop) (R_shot : List D → (D → Prop) → Prop) (R_worth_it : List D → (D → Prop) → Prop) (R_least_shots : List D → (D → Prop) → Prop) (R_l_fault : List D → (D → Prop) → Prop) (R_trial_fault : List D → (D → Prop) → Prop) (R_broken_by : List D → (D → Prop) → Prop) (R_reach : List D → (D → Prop) → Prop) (R_l_reach : List D → (D → Prop) → Prop) (R_l_bent : Stt → List D → (D → Stt → Prop) → Prop) : TS :=
    (tSeq (tAsg (tCall (spN R_l_state) [] E0 (tCons (tVar 0) tNil)) (gName 1))
    (tSeq (tAsg (tTup (tCons (tCall (spS R_l_take) [] E0 (tCons (tVar 1) (tCons (tC (.int 15)) tNil))) (tCons (tOp (rPlus K) (tC (.int 1)) (tCall (spS R_l_take) [] E0 (tCons (tVar 1) (tCons (tC (.int 4)) tNil)))) tNil))) (gTup K 2 (gCons (gName 2) (gCons (gName 3) gNil))))
    (tSeq (tAsg (tCall (spP R_l_least) [] E0 (tCons (tVar 2) (tCons (tCB (rMx2) (tCons (tVar 3) (tCons (tVar 2) tNil))) tNil))) (gName 4))
    (tSeq (tAsg (tCall (spP R_trial) [] E0 (tCons (tVar 2) (tCons (tVar 3) tNil))) (gName 5))
    (tSeq (tIfS (tOr (tNot (tB (tCB RZ.rIsTy (tCons (tVar 5) (tCons (tC (.ty "tuple")) tNil))))) (tOr (tTest (tOp (rNeP K) (tOp (rIxA K) (tVar 5) (tC (.int 0))) (tOp (rIxA K) (tOp (rIxA K) (tVar 4) (tVar 2)) (tVar 3)))) (tTest (tOp (rNeP K) (tCall (spP R_least_shots) [] E0 (tCons (tVar 2) (tCons (tVar 3) tNil))) (tOp (rIxA K) (tVar 5) (tC (.int 0)))))))
      (tRet (tC (.bl false)))
      tNext)
    (tSeq (tIfS (tOr (tTest (tOp (rIsnt) (tCall (spP R_l_fault) [] E0 (tCons (tVar 2) (tCons (tVar 3) (tCons (tVar 5) tNil)))) (tC .non))) (tTest (tOp (rIsnt) (tCall (spP R_trial_fault) [] E0 (tCons (tVar 2) (tCons (tVar 3) (tCons (tVar 5) tNil)))) (tC .non))))
      (tRet (tC (.bl false)))
      tNext)
    (tSeq (tFor (iRng1 (tCons (tOp (rPlus K) (tVar 2) (tC (.int 1))) tNil)) (gName 6)
      (tSeq (tAsg (tCall (spP R_shot) [] E0 (tCons (tOp (rIxA K) (tVar 5) (tC (.int 1))) (tCons (tVar 6) tNil))) (gTup K 2 (gCons (gName 7) (gCons (gName 8) gNil))))
    (tSeq (tIfS (tOr (tTest (tOp (rNeP K) (tVar 8) (tVar 6))) (tOr (tTest (tOp (rI0 fun i j => .bl (decide (j < i))) (tCB (rLen K) (tCons (tVar 7) tNil)) (tOp (rIxA K) (tVar 5) (tC (.int 0))))) (tTest (tOp (rNeP K) (tCall (spP R_broken_by) [] E0 (tCons (tOp (rIxA K) (tVar 5) (tC (.int 1))) (tCons (tVar 6) tNil))) (tCB (rLen K) (tCons (tLc (iList K (tVar 7)) (gName 9) (tTest (tOp (rI0 fun i j => .bl (decide (j < i))) (tVar 9) (tVar 6))) (tVar 9) [9]) tNil))))))
      (tRet (tC (.bl false)))
      tNext)
    (tIfS (tTest (tOp (rI0 fun i j => .bl (decide (j < i))) (tCall (spP R_broken_by) [] E0 (tCons (tOp (rIxA K) (tVar 5) (tC (.int 1))) (tCons (tVar 6) tNil))) (tVar 3)))
      (tRet (tC (.bl false)))
      tNext))))
    (tSeq (tFor (iRng1 (tCons (tC (.int 6)) tNil)) (gName 10)
      (tIfS (tTest (tOp (rNeP K) (tCall (spP R_reach) [] E0 (tCons (tVar 10) (tCons (tVar 3) tNil))) (tCall (spP R_l_reach) [] E0 (tCons (tVar 10) (tCons (tVar 3) tNil)))))
      (tRet (tC (.bl false)))
      tNext))
    (tSeq (tAsg (tTup (tCons (tCall (spS R_l_take) [] E0 (tCons (tVar 1) (tCons (tC (.int 9)) tNil))) (tCons (tCall (spS R_l_take) [] E0 (tCons (tVar 1) (tCons (tC (.int 9)) tNil))) tNil))) (gTup K 2 (gCons (gName 11) (gCons (gName 12) gNil))))
    (tSeq (tAsg (tLc (iRng2 (tCons (tC (.int 1)) (tCons (tOp (rPlus K) (tVar 2) (tC (.int 1))) tNil))) (gName 14) tYes (tTup (tCons (tOp (rPlus K) (tOp (rI CMul fun i j => .int (i * j)) (tOp (rIxA K) (tOp (rIxA K) (tVar 4) (tVar 2)) (tVar 14)) (tVar 12)) (tOp (rI CMul fun i j => .int (i * j)) (tCB (rMn2) (tCons (tVar 14) (tCons (tOp (rIxA K) (tOp (rIxA K) (tVar 4) (tVar 2)) (tVar 14)) tNil))) (tVar 11))) (tCons (tVar 14) tNil))) [14]) (gName 13))
    (tSeq (tIfS (tTest (tOp (rNeP K) (tCall (spP R_worth_it) [] E0 (tCons (tVar 2) (tCons (tVar 11) (tCons (tVar 12) tNil)))) (tIf (tTest (tOp (rI0 fun i j => .bl (decide (j < i))) (tCB (rLen K) (tCons (tVar 13) tNil)) (tC (.int 0)))) (tTup (tCons (tOp (rIxA K) (tCB (rMnD K) (tCons (tVar 13) tNil)) (tC (.int 1))) (tCons (tOp (rIxA K) (tOp (rIxA K) (tVar 4) (tVar 2)) (tOp (rIxA K) (tCB (rMnD K) (tCons (tVar 13) tNil)) (tC (.int 1)))) (tCons (tOp (rIxA K) (tCB (rMnD K) (tCons (tVar 13) tNil)) (tC (.int 0))) tNil)))) (tC .non))))
      (tRet (tC (.bl false)))
      tNext)
    (tSeq (tFor (iRng1 (tCons (tC (.int 8)) tNil)) (gName 15)
      (tSeq (tAsg (tIf (tTest (tOp (rI0 fun i j => .bl (decide (j < i))) (tCall (spS R_l_take) [] E0 (tCons (tVar 1) (tCons (tC (.int 3)) tNil))) (tC (.int 0)))) (tTup (tCons (tOp (rIxA K) (tVar 5) (tC (.int 0))) (tCons (tCall (spS R_l_bent) [] E0 (tCons (tVar 1) (tCons (tVar 2) (tCons (tOp (rIxA K) (tVar 5) (tC (.int 1))) tNil)))) tNil))) (tTup (tCons (tOp (rI0 fun i j => .int (i - j)) (tOp (rPlus K) (tOp (rIxA K) (tVar 5) (tC (.int 0))) (tCall (spS R_l_take) [] E0 (tCons (tVar 1) (tCons (tC (.int 3)) tNil)))) (tC (.int 1))) (tCons (tOp (rIxA K) (tVar 5) (tC (.int 1))) tNil)))) (gName 16))
    (tIfS (tTest (tOp (rNeP K) (tCall (spP R_trial_fault) [] E0 (tCons (tVar 2) (tCons (tVar 3) (tCons (tVar 16) tNil)))) (tCall (spP R_l_fault) [] E0 (tCons (tVar 2) (tCons (tVar 3) (tCons (tVar 16) tNil))))))
      (tRet (tC (.bl false)))
      tNext)))
    (tRet (tC (.bl true)))))))))))))))
end Law_k70
/-! k70: the plain functions -/
namespace Law_k70
inductive Plan where
  | holds (c : Int)
  | shoot (c : Int) (a b : Plan)
def Plan.deep : Plan → Nat
  | .holds _ => 1
  | .shoot _ a b => max a.deep b.deep + 1
def reachStep (shots : Int) (p : Int × Int) (k : Nat) : Int × Int := (p.1 + p.2, p.2 * (shots - (k : Int)) / ((k : Int) + 1))
def reachF (shots shells : Int) : Int := ((List.range (min shots shells + 1).toNat).foldl (reachStep shots) (0, 1)).1
def leastF (charges shells : Int) : Nat := ((List.range 20).find? fun k : Nat => decide (charges + 1 ≤ reachF (k : Int) shells)).getD 0
def planF : Nat → Int → Int → Int → Int → Option Plan
  | 0, _, _, _, _ => none
  | n + 1, low, high, shots, shells =>
    if low = high then some (.holds low)
    else
      let charge := min high (low + reachF (shots - 1) (shells - 1))
      match planF n low (charge - 1) (shots - 1) (shells - 1), planF n charge high (shots - 1) shells with
      | some a, some b => some (.shoot charge a b)
      | _, _ => none
def faultF : Int → Int → Int → Int → List Int → Plan → Option (String × List Int)
  | low, high, _, _, path, .holds c => if low = high ∧ high = c then none else some ("holds", path)
  | low, high, shots, shells, path, .shoot c a b =>
    if shots = 0 then some ("shots", path) else if shells = 0 then some ("shells", path) else if ¬ (low < c ∧ c ≤ high) then some ("charge", path)
    else match faultF low (c - 1) (shots - 1) (shells - 1) (path ++ [1]) a with
      | some f => some f
      | none => faultF c high (shots - 1) shells (path ++ [0]) b
def shotF : Plan → Int → List Int × Int
  | .holds c, _ => ([], c)
  | .shoot c a b, h => let r := if h < c then shotF a h else shotF b h; (c :: r.1, r.2)
inductive TF where
  | ok | shots | many | plan (f : String × List Int)
def tfaultF (charges shells shots : Int) (p : Plan) : TF :=
  if shots < 0 then .shots else match faultF 0 charges shots shells [] p with
    | some f => .plan f
    | none => if shots = 0 ∨ reachF (shots - 1) shells < charges + 1 then .ok else .many
-- the table of the law
abbrev Row := List (Option Int)
def cellT (T : List Row) (i j : Nat) : Option Int := (T.getD i []).getD j none
def bestStep (T : List Row) (many s : Nat) (best : Option Int) (first : Nat) : Option Int :=
  match cellT T (first - 1) (s - 1) with
  | none => best
  | some br =>
    let told := 1 + max br ((cellT T (many - first) s).getD 0)
    match best with
    | none => some told
    | some b => if told < b then some told else some b
def bestF (T : List Row) (many s : Nat) : Nat → Option Int
  | 0 => none
  | k + 1 => bestStep T many s (bestF T many s k) (k + 1)
def rowF (T : List Row) (many : Nat) : Nat → Row
  | 0 => [none]
  | k + 1 => rowF T many k ++ [bestF T many (k + 1) many]
def tabF (most : Nat) : Nat → List Row
  | 0 => [List.replicate (most + 1) (some 0)]
  | k + 1 => tabF most k ++ [rowF (tabF most k) (k + 1) most]
def goodT (most k : Nat) : Bool := (tabF most k).length == k + 1 && (tabF most k).all (fun r => r.length == most + 1 && ((List.range most).all fun s => (r.getD (s + 1) none).isSome))
def worthStep (charges price cost : Int) (best : Option (Int × Int × Int)) (k : Nat) : Option (Int × Int × Int) :=
  let shells : Int := (k : Int) + 1
  let shots : Int := leastF charges shells
  let cents := shots * cost + min shells shots * price
  match best with
  | none => some (shells, shots, cents)
  | some b => if cents < b.2.2 then some (shells, shots, cents) else some b
def worthF (charges price cost : Int) : Option (Int × Int × Int) := (List.range charges.toNat).foldl (worthStep charges price cost) none
def pairs (charges price cost : Int) : List (Int × Int) := (List.range charges.toNat).map fun k : Nat => let t : Int := leastF charges ((k : Int) + 1); (t * cost + min ((k : Int) + 1) t * price, (k : Int) + 1)
def minP : List (Int × Int) → Int × Int
  | [] => (0, 0)
  | p :: ps => ps.foldl (fun a y => if y.1 < a.1 ∨ y.1 = a.1 ∧ y.2 < a.2 then y else a) p
-- checks over the few cases
theorem good_tab : ∀ m : Fin 15, ∀ k : Fin 15, goodT m.val k.val = true := by decide +kernel
theorem least_ok : ∀ c : Fin 15, ∀ s : Fin 15, s.val = 0 ∨ (leastF c.val s.val ≤ 14 ∧ (∀ k : Fin 15, k.val < leastF c.val s.val → reachF k.val s.val < (c.val : Int) + 1) ∧ (c.val : Int) + 1 ≤ reachF (leastF c.val s.val) s.val) := by decide +kernel
theorem tab_least : ∀ c : Fin 15, ∀ m : Fin 15, ∀ s : Fin 15, s.val = 0 ∨ m.val < s.val ∨ cellT (tabF m.val c.val) c.val s.val = some (leastF c.val s.val : Int) := by decide +kernel
theorem worth_ok : ∀ c : Fin 15, ∀ p : Fin 9, ∀ q : Fin 9, worthF c.val p.val q.val = (if c.val = 0 then none else some ((minP (pairs c.val p.val q.val)).2, (leastF c.val (minP (pairs c.val p.val q.val)).2 : Int), (minP (pairs c.val p.val q.val)).1)) := by decide +kernel
def Plan.ok (c : Int) (s : Int) (shots : Int) (p : Plan) : Bool :=
  (match tfaultF c s shots p with | .ok => true | _ => false) && decide (p.deep ≤ 16) &&
  (List.range (c.toNat + 1)).all fun h : Nat => let r := shotF p (h : Int); r.2 == (h : Int) && decide ((r.1.length : Int) ≤ shots) && decide (((r.1.filter fun x => decide ((h : Int) < x)).length : Int) ≤ s)
theorem plan_ok : ∀ c : Fin 15, ∀ s : Fin 5, s.val = 0 ∨ (match planF 16 0 c.val (leastF c.val s.val) s.val with | some p => Plan.ok c.val s.val (leastF c.val s.val) p | none => false) = true := by decide +kernel
end Law_k70
namespace Law_k70
open PySem L2 Pu
local macro_rules | `(tactic| walk_at "e") => `(tactic| first
  | ((with_reducible refine nx_seq ?_); (try dsimp only [List.set_cons_succ, List.set_cons_zero]))
  | ((with_reducible refine ex_vr ?_); dsimp only [VQ, List.set_cons_succ, List.set_cons_zero, List.getElem?_cons_zero, List.getElem?_cons_succ]; (fail_if_success (with_reducible show False)))
  | (with_reducible refine sx_seq ?_)
  | (with_reducible refine sx_if ?_)
  | (with_reducible refine sx_next ?_)
  | (with_reducible refine sx_ret ?_)
  | (with_reducible refine sx_asg ?_)
  | (with_reducible refine ex_int ?_)
  | (with_reducible refine ex_str ?_)
  | (with_reducible refine ex_bl ?_)
  | (with_reducible refine ex_non ?_)
  | (with_reducible refine ex_op ?_)
  | (with_reducible refine ex_un ?_)
  | (with_reducible refine ex_chain ?_)
  | (with_reducible refine ex_call ?_)
  | (with_reducible refine ex_isT ?_)
  | (with_reducible refine ex_cb ?_)
  | (with_reducible refine ex_sl ?_)
  | (with_reducible refine ex_tup ?_)
  | (with_reducible refine ex_if ?_)
  | (with_reducible refine ex_of (eo_lst ?_))
  | (with_reducible refine ex_notV ?_)
  | (with_reducible refine ea_nil ?_)
  | (with_reducible refine ea_cons ?_)
  | (with_reducible refine ep_no ?_)
  | (with_reducible refine ep_some ?_)
  | (with_reducible refine et_test ?_)
  | (with_reducible refine et_B ?_)
  | (with_reducible refine et_and ?_)
  | (with_reducible refine et_or ?_)
  | (with_reducible refine et_not ?_)
  | (with_reducible refine et_yes ?_)
  | (with_reducible refine opd_plusI ?_)
  | (with_reducible refine opd_I0 ?_)
  | (with_reducible refine opd_B0 ?_)
  | (with_reducible refine opd_eqI ?_)
  | (with_reducible refine opd_neI ?_)
  | (with_reducible refine opd_eqS ?_)
  | (with_reducible refine opd_neS ?_)
  | (with_reducible refine opd_is ?_)
  | (with_reducible refine opd_isnt ?_)
  | (with_reducible refine opd_ixT rfl ?_)
  | (with_reducible refine opd_ixL rfl ?_)
  | (with_reducible refine und_neg ?_)
  | (with_reducible refine cbd_lenL ?_)
  | (with_reducible refine cbd_lenT ?_)
  | (with_reducible refine cbd_min2 ?_)
  | (with_reducible refine cbd_max2 ?_)
  | (with_reducible refine cbd_abs ?_)
  | (with_reducible refine cbd_int ?_)
  | (with_reducible refine cbd_tupL ?_)
  | (with_reducible refine cbd_listL ?_)
  | (with_reducible refine cbd_listT ?_)
  | (with_reducible refine cbd_sum ?_)
  | (with_reducible refine sld_T ?_)
  | (with_reducible refine sld_L ?_)
  | (with_reducible refine Exists.intro _ (And.intro rfl ?_))
  | ((with_reducible show EX (tCall (spS _) [] _ (tCons (tVar _) _)) _ _); refine ex_callS rfl ?_)
  | ((with_reducible refine opd_I ?_ ?_); focus (first | omega | (show CDiv _ _; exact ⟨by omega, by omega⟩) | (show CMul _ _; first | exact Or.inl ⟨by omega, by omega⟩ | exact Or.inr ⟨by omega, by omega⟩))))
local macro_rules | `(tactic| walk_at "es") => `(tactic| repeat walk_at "e")
local macro_rules | `(tactic| walk_at "w") => `(tactic| try dsimp only [wipeE, List.foldl_cons, List.foldl_nil, List.set_cons_succ, List.set_cons_zero])
local macro_rules | `(tactic| walk_at "le") => `(tactic| repeat' first | exact LeE.nil | (refine LeE.eq rfl ?_) | (refine LeE.emp ?_) | (refine LeE.eq ?_ ?_))
local macro_rules | `(tactic| walk_at "no") => `(tactic| ((refine And.intro (fun hb => absurd hb ?_) (fun _ => ?_)); (focus (first | (exact Bool.false_ne_true) | (simp; done) | (simp; omega) | (simp only [decide_eq_true_eq]; omega)))))
local macro_rules | `(tactic| walk_at "yes") => `(tactic| ((refine And.intro (fun _ => ?_) (fun hb => absurd hb ?_)); (rotate_left); (focus (first | (exact Bool.noConfusion) | (simp; done) | (simp; omega) | (simp only [decide_eq_false_iff_not]; omega)))))
def Small (a : Int) : Prop := -1000 ≤ a ∧ a ≤ 1000
def R_reach : List D → (D → Prop) → Prop := fun ds Z => ∃ a b : Int, ds = [.int a, .int b] ∧ Small a ∧ Small b ∧ Z (.int (reachF a b))
abbrev reachP (a : Int) (k : Nat) : Int × Int := (List.range k).foldl (reachStep a) (0, 1)
theorem reachP_succ (a : Int) (k : Nat) : reachP a (k + 1) = reachStep a (reachP a k) k := by simp [reachP, List.range_succ]
theorem sx_reach (K : PySem.W.Frag) (ds : List D) (Z : D → Prop) (h : R_reach ds Z) : SX (T_reach K) (startE N_reach ds) { nx := fun _ => Z .none, rt := fun d _ => Z d } := by
  obtain ⟨a, b, rfl, ha, hb, z⟩ := h
  obtain ⟨ha1, ha2⟩ := ha
  obtain ⟨hb1, hb2⟩ := hb
  show SX (T_reach K) [.val (.int a), .val (.int b), .emp, .emp, .emp] _
  unfold T_reach
  walk_at "es"
  refine sx_for (J := [4]) (ei_rng1 ?_)
  walk_at "es"
  refine ⟨by omega, fun k ρ' => ρ' = [.val (.int a), .val (.int b), .val (.int (reachP a k).1), .val (.int (reachP a k).2), .emp], ?_, ?_, ?_⟩
  · rfl
  · rintro k d ρ' hd rfl
    obtain ⟨hk, rfl⟩ := rng_at hd
    refine sg_name (by simp) ?_
    walk_at "w"
    walk_at "es"
    refine ⟨_, ?_, rfl⟩
    rw [reachP_succ]
    walk_at "le"
    · rw [Int.zero_add]; rfl
  · rintro ρ' rfl
    rw [rng_size]
    walk_at "es"
    exact z
theorem sx_l_reach (K : PySem.W.Frag) (ds : List D) (Z : D → Prop) (h : R_reach ds Z) : SX (T_l_reach K) (startE N_l_reach ds) { nx := fun _ => Z .none, rt := fun d _ => Z d } := by
  obtain ⟨a, b, rfl, ha, hb, z⟩ := h
  obtain ⟨ha1, ha2⟩ := ha
  obtain ⟨hb1, hb2⟩ := hb
  show SX (T_l_reach K) [.val (.int a), .val (.int b), .emp, .emp, .emp] _
  unfold T_l_reach
  refine sx_seq (sx_asgT (J := [2, 3]) ?_)
  walk_at "es"
  refine ⟨by simp, sg_tup rfl (sgs_cons (sg_name (by simp) (sgs_cons (sg_name (by simp) (sgs_nil ?_)))))⟩
  walk_at "w"
  walk_at "es"
  refine sx_for (J := [4]) (ei_rng1 ?_)
  walk_at "es"
  refine ⟨by omega, fun k ρ' => ρ' = [.val (.int a), .val (.int b), .val (.int (reachP a k).1), .val (.int (reachP a k).2), .emp], ?_, ?_, ?_⟩
  · rfl
  · rintro k d ρ' hd rfl
    obtain ⟨hk, rfl⟩ := rng_at hd
    refine sg_name (by simp) ?_
    walk_at "w"
    walk_at "es"
    refine ⟨_, ?_, rfl⟩
    rw [reachP_succ]
    walk_at "le"
    · rw [Int.zero_add]; rfl
  · rintro ρ' rfl
    rw [rng_size]
    walk_at "es"
    exact z
/-- charges and shells of the few cases -/
def Few (c s : Int) : Prop := 0 ≤ c ∧ c ≤ 14 ∧ 1 ≤ s ∧ s ≤ 14
theorem few_least {c s : Int} (h : Few c s) : leastF c s ≤ 14 ∧ (∀ k : Nat, k < leastF c s → reachF k s < c + 1) ∧ c + 1 ≤ reachF (leastF c s) s := by
  obtain ⟨h1, h2, h3, h4⟩ := h
  obtain ⟨c', rfl⟩ : ∃ n : Nat, c = (n : Int) := ⟨c.toNat, by omega⟩
  obtain ⟨s', rfl⟩ : ∃ n : Nat, s = (n : Int) := ⟨s.toNat, by omega⟩
  rcases least_ok ⟨c', by omega⟩ ⟨s', by omega⟩ with q | ⟨q1, q2, q3⟩
  · simp at q; omega
  · exact ⟨q1, fun k hk => q2 ⟨k, by have : k < leastF (c' : Int) (s' : Int) := hk; have : leastF (c' : Int) (s' : Int) ≤ 14 := q1; omega⟩ hk, q3⟩
def R_least_shots : List D → (D → Prop) → Prop := fun ds Z => ∃ c s : Int, ds = [.int c, .int s] ∧ Few c s ∧ Z (.int (leastF c s : Int))
theorem sx_least_shots (K : PySem.W.Frag) (ds : List D) (Z : D → Prop) (h : R_least_shots ds Z) : SX (T_least_shots K R_reach) (startE N_least_shots ds) { nx := fun _ => Z .none, rt := fun d _ => Z d } := by
  obtain ⟨c, s, rfl, few, z⟩ := h
  obtain ⟨l1, l2, l3⟩ := few_least few
  obtain ⟨f1, f2, f3, f4⟩ := id few
  show SX (T_least_shots K R_reach) [.val (.int c), .val (.int s), .emp] _
  unfold T_least_shots
  walk_at "es"
  refine sx_while (fun m ρ' => ∃ k : Nat, k ≤ leastF c s ∧ m = leastF c s - k ∧ ρ' = [.val (.int c), .val (.int s), .val (.int (k : Int))]) _ ⟨0, Nat.zero_le _, rfl, rfl⟩ ?_
  rintro m ρ' ⟨k, hk, rfl, rfl⟩
  walk_at "es"
  refine ⟨(k : Int), s, rfl, ⟨by omega, by omega⟩, ⟨by omega, by omega⟩, ?_⟩
  walk_at "es"
  refine ⟨fun hb => ?_, fun hb => ?_⟩
  · simp only [decide_eq_true_eq] at hb
    have hlt : k < leastF c s := by
      rcases Nat.lt_or_ge k (leastF c s) with q | q
      · exact q
      · have e : k = leastF c s := by omega
        rw [e] at hb
        omega
    walk_at "es"
    refine ⟨_, ?_, _, ?_, k + 1, hlt, rfl, rfl⟩
    · walk_at "le"
      all_goals rfl
    · omega
  · simp only [decide_eq_false_iff_not] at hb
    have e : k = leastF c s := by
      rcases Nat.lt_or_ge k (leastF c s) with q | q
      · exact absurd (l2 k q) hb
      · omega
    rw [e]
    walk_at "es"
    exact z
/-- plans as data -/
def Plan.toD : Plan → D
  | .holds c => .tuple [.str "holds", .int c]
  | .shoot c a b => .tuple [.str "shoot", .int c, a.toD, b.toD]
def R_plan_for (n : Nat) : List D → (D → Prop) → Prop := fun ds Z => ∃ (low high shots shells : Int) (p : Plan), ds = [.int low, .int high, .int shots, .int shells] ∧ (Small (shots - n) ∧ Small shots) ∧ (Small (shells - n) ∧ Small shells) ∧ planF n low high shots shells = some p ∧ Z p.toD
theorem sx_plan_for (K : PySem.W.Frag) (n : Nat) (ds : List D) (Z : D → Prop) (h : R_plan_for (n + 1) ds Z) : SX (T_plan_for K (R_plan_for n) R_reach) (startE N_plan_for ds) { nx := fun _ => Z .none, rt := fun d _ => Z d } := by
  obtain ⟨low, high, shots, shells, p, rfl, ⟨⟨a1, a2⟩, ⟨a3, a4⟩⟩, ⟨⟨b1, b2⟩, ⟨b3, b4⟩⟩, hp, z⟩ := h
  show SX (T_plan_for K (R_plan_for n) R_reach) [.val (.int low), .val (.int high), .val (.int shots), .val (.int shells), .emp, .emp] _
  unfold T_plan_for
  unfold planF at hp
  walk_at "es"
  refine ⟨fun hb => ?_, fun hb => ?_⟩
  · simp only [decide_eq_true_eq] at hb
    rw [if_pos hb] at hp
    cases hp
    walk_at "es"
    exact ⟨by simp, z⟩
  · simp only [decide_eq_false_iff_not] at hb
    rw [if_neg hb] at hp
    simp only at hp
    cases ha : planF n low (min high (low + reachF (shots - 1) (shells - 1)) - 1) (shots - 1) (shells - 1) with
    | none => rw [ha] at hp; cases hp
    | some a =>
      cases hb : planF n (min high (low + reachF (shots - 1) (shells - 1))) high (shots - 1) shells with
      | none => rw [ha, hb] at hp; cases hp
      | some b =>
        rw [ha, hb] at hp
        cases hp
        walk_at "es"
        refine ⟨shots - 1, shells - 1, rfl, ⟨by omega, by omega⟩, ⟨by omega, by omega⟩, ?_⟩
        walk_at "es"
        refine ⟨_, _, _, _, a, rfl, ⟨⟨by omega, by omega⟩, by omega, by omega⟩, ⟨⟨by omega, by omega⟩, by omega, by omega⟩, ha, ?_⟩
        walk_at "es"
        refine ⟨_, _, _, _, b, rfl, ⟨⟨by omega, by omega⟩, by omega, by omega⟩, ⟨⟨by omega, by omega⟩, by omega, by omega⟩, hb, ?_⟩
        walk_at "es"
        exact ⟨by simp, z⟩
def encF : Option (String × List Int) → D
  | none => .none
  | some (w, path) => .tuple [.str w, .list (path.map .int)]
def R_pf (n : Nat) : List D → (D → Prop) → Prop := fun ds Z => ∃ (low high shots shells : Int) (path : List Int) (p : Plan), ds = [.int low, .int high, .int shots, .int shells, .list (path.map .int), p.toD] ∧ p.deep ≤ n ∧ path.length + n ≤ 1000 ∧ Z (encF (faultF low high shots shells path p))
theorem app_one (path : List Int) (k : Int) : path.map PyData.int ++ [PyData.int k] = (path ++ [k]).map PyData.int := by simp
theorem ne_sh : ¬ (("shoot" : Str) = "holds") := by decide +kernel
theorem ne_hs : ¬ (("holds" : Str) = "shoot") := by decide +kernel
theorem sx_plan_fault (K : PySem.W.Frag) (n : Nat) (ds : List D) (Z : D → Prop) (h : R_pf (n + 1) ds Z) : SX (T_plan_fault K (R_pf n)) (startE N_plan_fault ds) { nx := fun _ => Z .none, rt := fun d _ => Z d } := by
  obtain ⟨low, high, shots, shells, path, p, rfl, hd, hl, z⟩ := h
  show SX (T_plan_fault K (R_pf n)) [.val (.int low), .val (.int high), .val (.int shots), .val (.int shells), .val (.list (path.map .int)), .val p.toD, .emp] _
  unfold T_plan_fault
  cases p with
  | holds c =>
    simp only [Plan.toD, faultF] at z ⊢
    walk_at "es"
    refine ⟨fun _ => ?_, fun hb => absurd rfl (of_decide_eq_false hb)⟩
    walk_at "es"
    refine ⟨fun hb => ?_, fun hb => ?_⟩
    · simp only [decide_eq_true_eq] at hb
      walk_at "es"
      refine ⟨fun hc => ?_, fun hc => ?_⟩
      · simp only [decide_eq_true_eq] at hc
        rw [if_pos ⟨hb, hc⟩] at z
        walk_at "es"
        exact z
      · simp only [decide_eq_false_iff_not] at hc
        rw [if_neg (fun q => hc q.2)] at z
        walk_at "es"
        exact ⟨by simp, z⟩
    · simp only [decide_eq_false_iff_not] at hb
      rw [if_neg (fun q => hb q.1)] at z
      walk_at "es"
      refine ⟨(fun q => by cases q), fun _ => ?_⟩
      walk_at "es"
      exact ⟨by simp, z⟩
  | shoot c a b =>
    simp only [Plan.toD, faultF] at z ⊢
    simp only [Plan.deep] at hd
    have da : a.deep ≤ n := by omega
    have db : b.deep ≤ n := by omega
    walk_at "es"
    refine ⟨fun hb => absurd (of_decide_eq_true hb) ne_sh, fun _ => ?_⟩
    walk_at "es"
    refine ⟨fun hb => ?_, fun hb => ?_⟩
    · simp only [decide_eq_true_eq] at hb
      rw [if_pos hb] at z
      walk_at "es"
      exact ⟨by simp, z⟩
    simp only [decide_eq_false_iff_not] at hb
    rw [if_neg hb] at z
    walk_at "es"
    refine ⟨fun hb => ?_, fun hb => ?_⟩
    · simp only [decide_eq_true_eq] at hb
      rw [if_pos hb] at z
      walk_at "es"
      exact ⟨by simp, z⟩
    simp only [decide_eq_false_iff_not] at hb
    rw [if_neg hb] at z
    walk_at "es"
    refine ⟨fun hb => ?_, fun hb => ?_⟩
    · simp only [decide_eq_true_eq] at hb
      walk_at "es"
      refine ⟨fun hc => ?_, fun hc => ?_⟩
      · rw [if_pos] at z
        · walk_at "es"
          exact ⟨by simp, z⟩
        · intro q
          simp at hc
          omega
      · simp at hc
        rw [if_neg (fun q => q ⟨hb, hc⟩)] at z
        walk_at "es"
        refine ⟨by simp, opd_plusL (by simp; omega) ?_⟩
        walk_at "es"
        rw [app_one]
        refine ⟨low, c - 1, shots - 1, shells - 1, path ++ [1], a, rfl, da, by simp; omega, ?_⟩
        cases hf : faultF low (c - 1) (shots - 1) (shells - 1) (path ++ [1]) a with
        | some f =>
          rw [hf] at z
          walk_at "es"
          refine ⟨fun _ => ?_, (fun q => by cases q)⟩
          walk_at "es"
          exact z
        | none =>
          rw [hf] at z
          walk_at "es"
          refine ⟨(fun q => by cases q), fun _ => ?_⟩
          walk_at "es"
          refine ⟨by simp, opd_plusL (by simp; omega) ?_⟩
          walk_at "es"
          rw [app_one]
          exact ⟨c, high, shots - 1, shells, path ++ [0], b, rfl, db, by simp; omega, z⟩
    · simp only [decide_eq_false_iff_not] at hb
      rw [if_pos (fun q => hb q.1)] at z
      walk_at "es"
      refine ⟨fun _ => ?_, (fun q => by cases q)⟩
      walk_at "es"
      exact ⟨by simp, z⟩
theorem sx_l_plan_fault (K : PySem.W.Frag) (n : Nat) (ds : List D) (Z : D → Prop) (h : R_pf (n + 1) ds Z) : SX (T_l_plan_fault K (R_pf n)) (startE N_l_plan_fault ds) { nx := fun _ => Z .none, rt := fun d _ => Z d } := by
  obtain ⟨low, high, shots, shells, path, p, rfl, hd, hl, z⟩ := h
  show SX (T_l_plan_fault K (R_pf n)) [.val (.int low), .val (.int high), .val (.int shots), .val (.int shells), .val (.list (path.map .int)), .val p.toD, .emp] _
  unfold T_l_plan_fault
  cases p with
  | holds c =>
    simp only [Plan.toD, faultF] at z ⊢
    walk_at "es"
    refine ⟨fun _ => ?_, fun hb => absurd rfl (of_decide_eq_false hb)⟩
    walk_at "es"
    refine ⟨fun hb => ?_, fun hb => ?_⟩
    · simp only [decide_eq_true_eq] at hb
      walk_at "es"
      refine ⟨fun hc => ?_, fun hc => ?_⟩
      · simp only [decide_eq_true_eq] at hc
        rw [if_pos ⟨hb, by omega⟩] at z
        walk_at "es"
        exact z
      · simp only [decide_eq_false_iff_not] at hc
        rw [if_neg (fun q => hc (by omega))] at z
        walk_at "es"
        exact ⟨by simp, z⟩
    · simp only [decide_eq_false_iff_not] at hb
      rw [if_neg (fun q => hb q.1)] at z
      refine ⟨(fun q => by cases q), fun _ => ?_⟩
      walk_at "es"
      exact ⟨by simp, z⟩
  | shoot c a b =>
    simp only [Plan.toD, faultF] at z ⊢
    simp only [Plan.deep] at hd
    have da : a.deep ≤ n := by omega
    have db : b.deep ≤ n := by omega
    walk_at "es"
    refine ⟨fun hb => absurd (of_decide_eq_true hb) ne_sh, fun _ => ?_⟩
    walk_at "es"
    refine ⟨fun hb => ?_, fun hb => ?_⟩
    · simp only [decide_eq_true_eq] at hb
      rw [if_pos hb] at z
      walk_at "es"
      exact ⟨by simp, z⟩
    simp only [decide_eq_false_iff_not] at hb
    rw [if_neg hb] at z
    walk_at "es"
    refine ⟨fun hb => ?_, fun hb => ?_⟩
    · simp only [decide_eq_true_eq] at hb
      rw [if_pos hb] at z
      walk_at "es"
      exact ⟨by simp, z⟩
    simp only [decide_eq_false_iff_not] at hb
    rw [if_neg hb] at z
    walk_at "es"
    refine ⟨fun hb => ?_, fun hb => ?_⟩
    · simp only [decide_eq_true_eq] at hb
      walk_at "es"
      refine ⟨fun hc => ?_, fun hc => ?_⟩
      · rw [if_pos] at z
        · walk_at "es"
          exact ⟨by simp, z⟩
        · intro q
          simp at hc
          omega
      · simp at hc
        rw [if_neg (fun q => q ⟨hb, hc⟩)] at z
        walk_at "es"
        refine ⟨by simp, opd_plusL (by simp; omega) ?_⟩
        walk_at "es"
        rw [app_one]
        refine ⟨low, c - 1, shots - 1, shells - 1, path ++ [1], a, rfl, da, by simp; omega, ?_⟩
        cases hf : faultF low (c - 1) (shots - 1) (shells - 1) (path ++ [1]) a with
        | some f =>
          rw [hf] at z
          walk_at "es"
          refine ⟨fun _ => ?_, (fun q => by cases q)⟩
          walk_at "es"
          exact z
        | none =>
          rw [hf] at z
          walk_at "es"
          refine ⟨(fun q => by cases q), fun _ => ?_⟩
          walk_at "es"
          refine ⟨by simp, opd_plusL (by simp; omega) ?_⟩
          walk_at "es"
          rw [app_one]
          exact ⟨c, high, shots - 1, shells, path ++ [0], b, rfl, db, by simp; omega, z⟩
    · simp only [decide_eq_false_iff_not] at hb
      rw [if_pos (fun q => hb q.1)] at z
      walk_at "es"
      refine ⟨fun _ => ?_, (fun q => by cases q)⟩
      walk_at "es"
      exact ⟨by simp, z⟩
def encT : TF → D
  | .ok => .none
  | .shots => .tuple [.str "shots"]
  | .many => .tuple [.str "many"]
  | .plan (w, path) => .tuple [.str "plan", .tuple [.str w, .list (path.map .int)]]
def R_trial_fault : List D → (D → Prop) → Prop := fun ds Z => ∃ (c s shots : Int) (p : Plan), ds = [.int c, .int s, .tuple [.int shots, p.toD]] ∧ p.deep ≤ 40 ∧ (-900 ≤ shots ∧ shots ≤ 900) ∧ Small s ∧ Z (encT (tfaultF c s shots p))
theorem sx_trial_fault (K : PySem.W.Frag) (ds : List D) (Z : D → Prop) (h : R_trial_fault ds Z) : SX (T_trial_fault K (R_pf 40) R_reach) (startE N_trial_fault ds) { nx := fun _ => Z .none, rt := fun d _ => Z d } := by
  obtain ⟨c, s, shots, p, rfl, hd, ⟨hs1, hs2⟩, sm, z⟩ := h
  show SX (T_trial_fault K (R_pf 40) R_reach) [.val (.int c), .val (.int s), .val (.tuple [.int shots, p.toD]), .emp, .emp, .emp] _
  unfold T_trial_fault
  unfold tfaultF at z
  refine sx_seq (sx_asgT (J := [3, 4]) ?_)
  walk_at "es"
  refine sg_tup rfl (sgs_cons (sg_name (by simp) (sgs_cons (sg_name (by simp) (sgs_nil ?_)))))
  walk_at "w"
  walk_at "es"
  refine ⟨fun hb => ?_, fun hb => ?_⟩
  · simp only [decide_eq_true_eq] at hb
    rw [if_pos hb] at z
    walk_at "es"
    exact ⟨by simp, z⟩
  simp only [decide_eq_false_iff_not] at hb
  rw [if_neg hb] at z
  walk_at "es"
  refine ⟨by simp, ?_⟩
  walk_at "es"
  refine ⟨0, c, shots, s, [], p, rfl, hd, by simp, ?_⟩
  cases hf : faultF 0 c shots s [] p with
  | some f =>
    rw [hf] at z
    walk_at "es"
    refine ⟨fun _ => ?_, (fun q => by cases q)⟩
    walk_at "es"
    exact ⟨by simp, z⟩
  | none =>
    rw [hf] at z
    simp only at z
    walk_at "es"
    refine ⟨(fun q => by cases q), fun _ => ?_⟩
    walk_at "es"
    refine ⟨fun hb => ?_, fun hb => ?_⟩
    · simp only [decide_eq_true_eq] at hb
      rw [if_pos (.inl hb)] at z
      refine ⟨fun _ => ?_, (fun q => by cases q)⟩
      walk_at "es"
      exact z
    · simp only [decide_eq_false_iff_not] at hb
      walk_at "es"
      refine ⟨shots - 1, s, rfl, ⟨by omega, by omega⟩, sm, ?_⟩
      walk_at "es"
      refine ⟨fun hc => ?_, fun hc => ?_⟩
      · simp only [decide_eq_true_eq] at hc
        rw [if_pos (.inr hc)] at z
        walk_at "es"
        exact z
      · simp only [decide_eq_false_iff_not] at hc
        rw [if_neg (fun q => q.elim hb hc)] at z
        walk_at "es"
        exact ⟨by simp, z⟩
theorem sx_l_fault (K : PySem.W.Frag) (ds : List D) (Z : D → Prop) (h : R_trial_fault ds Z) : SX (T_l_fault K (R_pf 40) R_reach) (startE N_l_fault ds) { nx := fun _ => Z .none, rt := fun d _ => Z d } := by
  obtain ⟨c, s, shots, p, rfl, hd, ⟨hs1, hs2⟩, sm, z⟩ := h
  show SX (T_l_fault K (R_pf 40) R_reach) [.val (.int c), .val (.int s), .val (.tuple [.int shots, p.toD]), .emp, .emp, .emp] _
  unfold T_l_fault
  unfold tfaultF at z
  refine sx_seq (sx_asgT (J := [3, 4]) ?_)
  walk_at "es"
  refine sg_tup rfl (sgs_cons (sg_name (by simp) (sgs_cons (sg_name (by simp) (sgs_nil ?_)))))
  walk_at "w"
  walk_at "es"
  refine ⟨fun hb => ?_, fun hb => ?_⟩
  · simp only [decide_eq_true_eq] at hb
    rw [if_pos hb] at z
    walk_at "es"
    exact ⟨by simp, z⟩
  simp only [decide_eq_false_iff_not] at hb
  rw [if_neg hb] at z
  walk_at "es"
  refine ⟨by simp, ?_⟩
  walk_at "es"
  refine ⟨0, c, shots, s, [], p, rfl, hd, by simp, ?_⟩
  cases hf : faultF 0 c shots s [] p with
  | some f =>
    rw [hf] at z
    walk_at "es"
    refine ⟨fun _ => ?_, (fun q => by cases q)⟩
    walk_at "es"
    exact ⟨by simp, z⟩
  | none =>
    rw [hf] at z
    simp only at z
    walk_at "es"
    refine ⟨(fun q => by cases q), fun _ => ?_⟩
    walk_at "es"
    refine ⟨fun hb => ?_, fun hb => ?_⟩
    · simp only [decide_eq_true_eq] at hb
      rw [if_pos (.inl hb)] at z
      refine ⟨fun _ => ?_, (fun q => by cases q)⟩
      walk_at "es"
      exact z
    · simp only [decide_eq_false_iff_not] at hb
      walk_at "es"
      refine ⟨shots - 1, s, rfl, ⟨by omega, by omega⟩, sm, ?_⟩
      walk_at "es"
      refine ⟨fun hc => ?_, fun hc => ?_⟩
      · simp only [decide_eq_true_eq] at hc
        rw [if_pos (.inr (by omega))] at z
        walk_at "es"
        exact z
      · simp only [decide_eq_false_iff_not] at hc
        rw [if_neg (fun q => q.elim hb fun q => hc (by omega))] at z
        walk_at "es"
        exact ⟨by simp, z⟩
def R_trial : List D → (D → Prop) → Prop := fun ds Z => ∃ (c s : Int) (p : Plan), ds = [.int c, .int s] ∧ Few c s ∧ planF 16 0 c (leastF c s) s = some p ∧ Z (.tuple [.int (leastF c s : Int), p.toD])
theorem sx_trial (K : PySem.W.Frag) (ds : List D) (Z : D → Prop) (h : R_trial ds Z) : SX (T_trial K R_least_shots (R_plan_for 16)) (startE N_trial ds) { nx := fun _ => Z .none, rt := fun d _ => Z d } := by
  obtain ⟨c, s, p, rfl, few, hp, z⟩ := h
  have l := few_least few
  obtain ⟨f1, f2, f3, f4⟩ := id few
  show SX (T_trial K R_least_shots (R_plan_for 16)) [.val (.int c), .val (.int s), .emp] _
  unfold T_trial
  walk_at "es"
  refine ⟨c, s, rfl, few, ?_⟩
  walk_at "es"
  refine ⟨0, c, _, s, p, rfl, ⟨⟨by omega, by omega⟩, by omega, by omega⟩, ⟨⟨by omega, by omega⟩, by omega, by omega⟩, hp, ?_⟩
  walk_at "es"
  exact ⟨by simp, z⟩
def R_shot : List D → (D → Prop) → Prop := fun ds Z => ∃ (p : Plan) (h : Int), ds = [p.toD, .int h] ∧ p.deep ≤ 1000 ∧ Z (.tuple [.list ((shotF p h).1.map .int), .int (shotF p h).2])
theorem sx_shot (K : PySem.W.Frag) (ds : List D) (Z : D → Prop) (h : R_shot ds Z) : SX (T_shot K) (startE N_shot ds) { nx := fun _ => Z .none, rt := fun d _ => Z d } := by
  obtain ⟨p, h, rfl, hd, z⟩ := h
  show SX (T_shot K) [.val p.toD, .val (.int h), .emp] _
  unfold T_shot
  refine sx_seq (sx_asgO (eo_lst (ea_nil ⟨by simp, ?_⟩)))
  walk_at "es"
  refine sx_while (fun m ρ' => ∃ (q : Plan) (row : List Int), m = q.deep ∧ row.length + q.deep ≤ 1000 ∧ row ++ (shotF q h).1 = (shotF p h).1 ∧ (shotF q h).2 = (shotF p h).2 ∧ ρ' = [.val q.toD, .val (.int h), .own (row.map .int)]) _ ⟨p, [], rfl, by simp; omega, by simp, rfl, rfl⟩ ?_
  rintro m ρ' ⟨q, row, rfl, hl, h1, h2, rfl⟩
  cases q with
  | holds c =>
    simp only [Plan.toD, shotF, List.append_nil] at h1 h2 ⊢
    walk_at "es"
    refine ⟨fun hb => absurd (of_decide_eq_true hb) ne_hs, fun _ => ?_⟩
    refine nx_seq (sx_freeze 2 rfl ?_)
    walk_at "w"
    walk_at "es"
    refine ⟨by simp, ?_⟩
    rw [h1, h2]
    exact z
  | shoot c a b =>
    simp only [Plan.toD, shotF, Plan.deep] at h1 h2 hl ⊢
    walk_at "es"
    refine ⟨fun _ => ?_, fun hb => absurd rfl (of_decide_eq_false hb)⟩
    refine sx_seq (sx_app rfl ?_)
    walk_at "es"
    refine ⟨by simp; omega, ?_⟩
    rw [app_one]
    walk_at "es"
    refine ⟨fun hb => ?_, fun hb => ?_⟩
    · simp only [decide_eq_true_eq] at hb
      rw [if_pos hb] at h1 h2
      walk_at "es"
      refine ⟨_, ?_, a.deep, by omega, a, row ++ [c], rfl, by simp; omega, by rw [← h1]; simp, h2, rfl⟩
      walk_at "le"
    · simp only [decide_eq_false_iff_not] at hb
      rw [if_neg hb] at h1 h2
      walk_at "es"
      refine ⟨_, ?_, b.deep, by omega, b, row ++ [c], rfl, by simp; omega, by rw [← h1]; simp, h2, rfl⟩
      walk_at "le"
def R_broken_by : List D → (D → Prop) → Prop := fun ds Z => ∃ (p : Plan) (h : Int), ds = [p.toD, .int h] ∧ p.deep ≤ 1000 ∧ Z (.int (((shotF p h).1.filter fun x => decide (h < x)).length : Int))
theorem shot_len (p : Plan) (h : Int) : (shotF p h).1.length < p.deep := by
  induction p with
  | holds c => simp [shotF, Plan.deep]
  | shoot c a b iha ihb =>
    simp only [shotF, Plan.deep, List.length_cons]
    split <;> omega
theorem sx_broken_by (K : PySem.W.Frag) (ds : List D) (Z : D → Prop) (h : R_broken_by ds Z) : SX (T_broken_by K R_shot) (startE N_broken_by ds) { nx := fun _ => Z .none, rt := fun d _ => Z d } := by
  obtain ⟨p, h, rfl, hd, z⟩ := h
  have hs := shot_len p h
  show SX (T_broken_by K R_shot) [.val p.toD, .val (.int h), .emp] _
  unfold T_broken_by
  walk_at "es"
  refine ex_of (eo_lcP (α := Int) (fun x => decide (h < x)) PyData.int (ei_list ?_))
  walk_at "es"
  refine ⟨p, h, rfl, hd, ?_⟩
  walk_at "es"
  refine ⟨_, PyData.int, rfl, by omega, fun i hi => by simp at hi; subst hi; rfl, fun x _ => sg_name (by simp) ⟨rfl, ?_⟩, ?_⟩
  · walk_at "w"
    walk_at "es"
    refine ⟨rfl, rfl, fun _ => ?_⟩
    walk_at "es"
    exact ⟨rfl, rfl⟩
  · walk_at "es"
    rw [List.length_map]
    exact z
def encW : Option (Int × Int × Int) → D
  | none => .none
  | some (a, b, c) => .tuple [.int a, .int b, .int c]
def R_worth_it : List D → (D → Prop) → Prop := fun ds Z => ∃ c p q : Int, ds = [.int c, .int p, .int q] ∧ (0 ≤ c ∧ c ≤ 14) ∧ (0 ≤ p ∧ p ≤ 8) ∧ (0 ≤ q ∧ q ≤ 8) ∧ Z (encW (worthF c p q))
abbrev worthP (c p q : Int) (k : Nat) : Option (Int × Int × Int) := (List.range k).foldl (worthStep c p q) none
theorem worthP_succ (c p q : Int) (k : Nat) : worthP c p q (k + 1) = worthStep c p q (worthP c p q k) k := by simp [worthP, List.range_succ]
theorem sx_worth_it (K : PySem.W.Frag) (ds : List D) (Z : D → Prop) (h : R_worth_it ds Z) : SX (T_worth_it K R_least_shots) (startE N_worth_it ds) { nx := fun _ => Z .none, rt := fun d _ => Z d } := by
  obtain ⟨c, p, q, rfl, ⟨c1, c2⟩, ⟨p1, p2⟩, ⟨q1, q2⟩, z⟩ := h
  show SX (T_worth_it K R_least_shots) [.val (.int c), .val (.int p), .val (.int q), .emp, .emp, .emp, .emp] _
  unfold T_worth_it
  walk_at "es"
  refine sx_for (J := [4]) (ei_rng2 ?_)
  walk_at "es"
  refine ⟨1, c + 1, rfl, by omega, fun k ρ' => ρ' = [.val (.int c), .val (.int p), .val (.int q), .val (encW (worthP c p q k)), .emp, .emp, .emp], rfl, ?_, ?_⟩
  · rintro k d ρ' hd rfl
    obtain ⟨hk, rfl⟩ := rng_at hd
    have ek : (1 : Int) + (k : Int) = (k : Int) + 1 := by omega
    rw [ek]
    refine sg_name (by simp) ?_
    walk_at "w"
    walk_at "es"
    have few : Few c ((k : Int) + 1) := ⟨c1, c2, by omega, by omega⟩
    have l := few_least few
    refine ⟨c, (k : Int) + 1, rfl, few, ?_⟩
    walk_at "es"
    have done : ∀ (d : D), d = encW (worthP c p q (k + 1)) → ∀ s1 s2 s3, LeE [.val (.int c), .val (.int p), .val (.int q), .val (encW (worthP c p q (k + 1))), .emp, .emp, .emp] [.val (.int c), .val (.int p), .val (.int q), .val d, s1, s2, s3] := by
      rintro d rfl s1 s2 s3
      walk_at "le"
    cases hw : worthP c p q k with
    | none =>
      walk_at "es"
      refine ⟨fun _ => ?_, (fun q => by cases q)⟩
      refine ⟨fun _ => ?_, (fun q => by cases q)⟩
      walk_at "es"
      refine ⟨by simp, ⟨_, done _ ?_ _ _ _, rfl⟩⟩
      rw [worthP_succ, hw]
      rfl
    | some b =>
      obtain ⟨b1, b2, b3⟩ := b
      walk_at "es"
      refine ⟨(fun q => by cases q), fun _ => ?_⟩
      simp only [encW]
      walk_at "es"
      refine ⟨fun hb => ?_, fun hb => ?_⟩
      · simp only [decide_eq_true_eq] at hb
        walk_at "es"
        refine ⟨by simp, ⟨_, done _ ?_ _ _ _, rfl⟩⟩
        rw [worthP_succ, hw]
        simp only [worthStep]
        rw [if_pos hb]
        rfl
      · simp only [decide_eq_false_iff_not] at hb
        walk_at "es"
        refine ⟨_, done _ ?_ _ _ _, rfl⟩
        rw [worthP_succ, hw]
        simp only [worthStep]
        rw [if_neg hb]
        rfl
  · rintro ρ' rfl
    rw [rng_size]
    walk_at "es"
    have e : (c + 1 - 1).toNat = c.toNat := by omega
    rw [e]
    exact z
def optI : Option Int → D
  | none => .none
  | some i => .int i
def encRow (r : Row) : D := .list (r.map optI)
def R_l_least : List D → (D → Prop) → Prop := fun ds Z => ∃ c m : Int, ds = [.int c, .int m] ∧ (0 ≤ c ∧ c ≤ 14) ∧ (1 ≤ m ∧ m ≤ 14) ∧ Z (.list ((tabF m.toNat c.toNat).map encRow))
theorem tab_cell {m k i j : Nat} (hm : m ≤ 14) (hk : k ≤ 14) (hi : i ≤ k) (hj : j ≤ m) : i < (tabF m k).length ∧ ((tabF m k).getD i []).length = m + 1 ∧ (1 ≤ j → ∃ v, cellT (tabF m k) i j = some v) := by
  have g := good_tab ⟨m, by omega⟩ ⟨k, by omega⟩
  simp only [goodT, Bool.and_eq_true, beq_iff_eq, List.all_eq_true] at g
  obtain ⟨g1, g2⟩ := g
  have hi' : i < (tabF m k).length := by rw [g1]; omega
  have em : (tabF m k).getD i [] ∈ tabF m k := by
    rw [List.getD_eq_getElem?_getD, List.getElem?_eq_getElem hi']
    exact List.getElem_mem hi'
  obtain ⟨h1, h2⟩ := g2 _ em
  refine ⟨hi', h1, fun hj1 => ?_⟩
  have q := h2 (j - 1) (by rw [List.mem_range]; omega)
  rw [show j - 1 + 1 = j by omega] at q
  exact Option.isSome_iff_exists.mp q
theorem len_rowF (T : List Row) (many : Nat) : ∀ k, (rowF T many k).length = k + 1
  | 0 => rfl
  | k + 1 => by simp [rowF, len_rowF T many k]
theorem sx_l_least (K : PySem.W.Frag) (ds : List D) (Z : D → Prop) (h : R_l_least ds Z) : SX (T_l_least K) (startE N_l_least ds) { nx := fun _ => Z .none, rt := fun d _ => Z d } := by
  obtain ⟨c, m, rfl, ⟨c1, c2⟩, ⟨m1, m2⟩, z⟩ := h
  obtain ⟨M, rfl⟩ : ∃ n : Nat, m = (n : Int) := ⟨m.toNat, by omega⟩
  obtain ⟨C, rfl⟩ : ∃ n : Nat, c = (n : Int) := ⟨c.toNat, by omega⟩
  simp only [Int.toNat_natCast] at z
  show SX (T_l_least K) [.val (.int (C : Int)), .val (.int (M : Int)), .emp, .emp, .emp, .emp, .emp, .emp, .emp, .emp, .emp] _
  unfold T_l_least
  refine sx_seq (sx_asgO (eo_lst (ea_cons (ex_of (eo_lcP (α := Int) (fun _ => true) (fun _ => .int 0) (ei_rng1 ?_))))))
  walk_at "es"
  refine ⟨by omega, _, PyData.int, rfl, by rw [rngI_len]; omega, fun i hi => by simp at hi; subst hi; rfl, fun x _ => sg_name (by simp) ⟨rfl, ?_⟩, ?_⟩
  · walk_at "es"
    refine ⟨rfl, rfl, fun _ => ?_⟩
    walk_at "es"
    exact ⟨rfl, rfl⟩
  have e0 : List.map (fun _ => PyData.int 0) (List.filter (fun _ => true) (rngI 0 ((M : Int) + 1).toNat)) = (List.replicate (M + 1) (some 0)).map optI := by
    rw [List.filter_eq_self.mpr (fun _ _ => rfl)]
    apply List.ext_getElem
    · simp [rngI]
    · intro i h1 h2
      simp [optI]
  rw [e0]
  refine ea_nil ⟨by simp, ?_⟩
  walk_at "es"
  refine sx_for (J := [4]) (ei_rng2 ?_)
  walk_at "es"
  refine ⟨1, (C : Int) + 1, rfl, by omega, fun k ρ' => ρ' = [.val (.int (C : Int)), .val (.int (M : Int)), .own ((tabF M k).map encRow), .emp, .emp, .emp, .emp, .emp, .emp, .emp, .emp], rfl, ?_, ?_⟩
  · rintro k d ρ' hd rfl
    obtain ⟨hk, rfl⟩ := rng_at hd
    have hk' : k + 1 ≤ C := by omega
    refine sg_name (by simp) ?_
    walk_at "w"
    refine sx_seq (sx_asgO (eo_lst ?_))
    walk_at "es"
    refine ⟨by simp, ?_⟩
    walk_at "es"
    refine sx_for (J := [3]) (ei_rng2 ?_)
    walk_at "es"
    refine ⟨1, (M : Int) + 1, rfl, by omega, fun j ρ' => ρ' = [.val (.int (C : Int)), .val (.int (M : Int)), .own ((tabF M k).map encRow), .emp, .val (.int (1 + (k : Int))), .own ((rowF (tabF M k) (k + 1) j).map optI), .emp, .emp, .emp, .emp, .emp], rfl, ?_, ?_⟩
    · rintro j d ρ' hd rfl
      obtain ⟨hj, rfl⟩ := rng_at hd
      have hj' : j + 1 ≤ M := by omega
      refine sg_name (by simp) ?_
      walk_at "w"
      walk_at "es"
      refine sx_for (J := [7]) (ei_rng2 ?_)
      walk_at "es"
      refine ⟨1, (1 + (k : Int)) + 1, rfl, by omega, fun f ρ' => ρ' = [.val (.int (C : Int)), .val (.int (M : Int)), .own ((tabF M k).map encRow), .val (.int (1 + (j : Int))), .val (.int (1 + (k : Int))), .own ((rowF (tabF M k) (k + 1) j).map optI), .val (optI (bestF (tabF M k) (k + 1) (j + 1) f)), .emp, .emp, .emp, .emp], rfl, ?_, ?_⟩
      · rintro f d ρ' hd rfl
        obtain ⟨hf, rfl⟩ := rng_at hd
        have hf' : f ≤ k := by omega
        have hM : M ≤ 14 := by omega
        have hk14 : k ≤ 14 := by omega
        obtain ⟨t1, t2, _⟩ := tab_cell (m := M) (k := k) (i := f) (j := j) hM hk14 hf' (by omega)
        obtain ⟨u1, u2, u3⟩ := tab_cell (m := M) (k := k) (i := k - f) (j := j + 1) hM hk14 (by omega) (by omega)
        obtain ⟨v, hv⟩ := u3 (by omega)
        refine sg_name (by simp) ?_
        walk_at "w"
        refine sx_seq (sx_asg (ex_op (ex_ixO rfl ?_)))
        walk_at "es"
        refine ⟨_, 1 + (f : Int) - 1, encRow ((tabF M k).getD f []), rfl, rfl, ?_, ?_⟩
        · rw [show (1 : Int) + (f : Int) - 1 = ((f : Nat) : Int) by omega]
          exact atI_map [] (by omega) (by omega)
        walk_at "es"
        refine opd_ixM (none : Option Int) (by omega) (by omega) ?_
        rw [show ((1 : Int) + (j : Int) - 1).toNat = j by omega]
        refine nx_seq ?_
        walk_at "w"
        refine sx_seq (sx_asg (ex_op (ex_ixO rfl ?_)))
        walk_at "es"
        refine ⟨_, 1 + (k : Int) - (1 + (f : Int)), encRow ((tabF M k).getD (k - f) []), rfl, rfl, ?_, ?_⟩
        · rw [show (1 : Int) + (k : Int) - (1 + (f : Int)) = (((k - f) : Nat) : Int) by omega]
          exact atI_map [] (by omega) (by omega)
        walk_at "es"
        refine opd_ixM (none : Option Int) (by omega) (by omega) ?_
        rw [show ((1 : Int) + (j : Int)).toNat = j + 1 by omega]
        have ev : ((tabF M k).getD (k - f) []).getD (j + 1) none = some v := hv
        rw [ev]
        refine nx_seq ?_
        walk_at "w"
        -- the step
        have step : bestF (tabF M k) (k + 1) (j + 1) (f + 1) = bestStep (tabF M k) (k + 1) (j + 1) (bestF (tabF M k) (k + 1) (j + 1) f) (f + 1) := rfl
        have ea : cellT (tabF M k) (f + 1 - 1) (j + 1 - 1) = ((tabF M k).getD f []).getD j none := by
          rw [show f + 1 - 1 = f by omega, show j + 1 - 1 = j by omega]; rfl
        have eb : cellT (tabF M k) (k + 1 - (f + 1)) (j + 1) = some v := by
          rw [show k + 1 - (f + 1) = k - f by omega]; exact hv
        unfold bestStep at step
        rw [ea, eb] at step
        have done : ∀ (d : D), d = optI (bestF (tabF M k) (k + 1) (j + 1) (f + 1)) → ∀ s1 s2 s3 s4, LeE [.val (.int (C : Int)), .val (.int (M : Int)), .own ((tabF M k).map encRow), .val (.int (1 + (j : Int))), .val (.int (1 + (k : Int))), .own ((rowF (tabF M k) (k + 1) j).map optI), .val (optI (bestF (tabF M k) (k + 1) (j + 1) (f + 1))), .emp, .emp, .emp, .emp]
            [.val (.int (C : Int)), .val (.int (M : Int)), .own ((tabF M k).map encRow), .val (.int (1 + (j : Int))), .val (.int (1 + (k : Int))), .own ((rowF (tabF M k) (k + 1) j).map optI), .val d, s1, s2, s3, s4] := by
          rintro d rfl s1 s2 s3 s4
          walk_at "le"
        cases hc : ((tabF M k).getD f []).getD j none with
        | none =>
          rw [hc] at step
          walk_at "es"
          refine ⟨(fun q => by cases q), fun _ => ?_⟩
          walk_at "es"
          refine ⟨_, done _ ?_ _ _ _ _, rfl⟩
          rw [step]
        | some b =>
          rw [hc] at step
          simp only [optI]
          walk_at "es"
          refine ⟨fun _ => ?_, (fun q => by cases q)⟩
          walk_at "es"
          cases hb : bestF (tabF M k) (k + 1) (j + 1) f with
          | none =>
            rw [hb] at step
            refine ⟨fun _ => ?_, (fun q => by cases q)⟩
            refine ⟨fun _ => ?_, (fun q => by cases q)⟩
            walk_at "es"
            refine ⟨_, done _ ?_ _ _ _ _, rfl⟩
            rw [step]
            rfl
          | some b0 =>
            rw [hb] at step
            simp only [optI]
            refine ⟨(fun q => by cases q), fun _ => ?_⟩
            walk_at "es"
            refine ⟨fun hb => ?_, fun hb => ?_⟩
            · simp only [decide_eq_true_eq] at hb
              walk_at "es"
              refine ⟨_, done _ ?_ _ _ _ _, rfl⟩
              rw [step]
              simp only [Option.getD_some]
              rw [if_pos hb]
              rfl
            · simp only [decide_eq_false_iff_not] at hb
              walk_at "es"
              refine ⟨_, done _ ?_ _ _ _ _, rfl⟩
              rw [step]
              simp only [Option.getD_some]
              rw [if_neg hb]
              rfl
      · rintro ρ' rfl
        rw [rng_size, show (1 + (k : Int) + 1 - 1).toNat = k + 1 by omega]
        refine nx_seq (sx_app rfl ?_)
        walk_at "es"
        refine ⟨by rw [List.length_map, len_rowF]; omega, ⟨_, ?_, rfl⟩⟩
        walk_at "le"
        simp [rowF]
    · rintro ρ' rfl
      rw [rng_size, show ((M : Int) + 1 - 1).toNat = M by omega]
      refine nx_seq (sx_freeze 5 rfl ?_)
      walk_at "w"
      refine sx_app rfl ?_
      walk_at "es"
      have tl := (tab_cell (m := M) (k := k) (i := k) (j := 0) (by omega) (by omega) (Nat.le_refl _) (by omega)).1
      have tg := good_tab ⟨M, by omega⟩ ⟨k, by omega⟩
      simp only [goodT, Bool.and_eq_true, beq_iff_eq] at tg
      refine ⟨by rw [List.length_map, tg.1]; omega, ⟨_, ?_, rfl⟩⟩
      walk_at "le"
      simp [tabF, encRow]
  · rintro ρ' rfl
    rw [rng_size, show ((C : Int) + 1 - 1).toNat = C by omega]
    refine nx_seq (sx_freeze 2 rfl ?_)
    walk_at "w"
    walk_at "es"
    exact z
def R_l_bent (n : Nat) : Stt → List D → (D → Stt → Prop) → Prop := fun S ds Z => ∃ (c : Int) (p : Plan), ds = [.int c, p.toD] ∧ (0 ≤ c ∧ c ≤ 14) ∧ p.deep ≤ n ∧ Ok S ∧ ∀ (q : Plan) (S' : Stt), q.deep ≤ p.deep + 1 → Ok S' → Z q.toD S'
theorem sx_l_bent (K : PySem.W.Frag) (n : Nat) (S : Stt) (ds : List D) (Z : D → Stt → Prop) (h : R_l_bent (n + 1) S ds Z) :
    SX (T_l_bent K R_take (R_l_bent n)) (.st S :: (ds.map .val ++ List.replicate (N_l_bent.length - (ds.length + 1)) .emp)) { nx := fun ρ' => ∃ S', ρ'[0]? = some (.st S') ∧ Z .none S', rt := fun d ρ' => ∃ S', ρ'[0]? = some (.st S') ∧ Z d S' } := by
  obtain ⟨c, p, rfl, ⟨hc1, hc2⟩, hd, ok, z⟩ := h
  show SX (T_l_bent K R_take (R_l_bent n)) [.st S, .val (.int c), .val p.toD, .emp] _
  unfold T_l_bent
  cases p with
  | holds v =>
    simp only [Plan.toD] at z ⊢
    walk_at "es"
    refine ⟨fun hb => absurd (of_decide_eq_true hb) ne_hs, fun _ => ?_⟩
    refine ⟨(fun q => by cases q), fun _ => ?_⟩
    walk_at "es"
    refine ⟨fun _ => ?_, fun hb => absurd rfl (of_decide_eq_false hb)⟩
    walk_at "es"
    refine ⟨by simp, ?_⟩
    walk_at "es"
    refine ⟨by simp, ?_⟩
    walk_at "es"
    refine ⟨by simp, ?_⟩
    walk_at "es"
    refine ⟨2, rfl, by omega, by omega, ok, fun r S' h0 h1 ok' => ?_⟩
    rcases (show r = 0 ∨ r = 1 by omega) with rfl | rfl
    · walk_at "es"
      exact ⟨S', rfl, z (.holds (v + 1)) S' (by simp [Plan.deep]) ok'⟩
    · walk_at "es"
      exact ⟨S', rfl, z (.shoot v (.holds v) (.holds v)) S' (by simp [Plan.deep]) ok'⟩
  | shoot v a b =>
    simp only [Plan.toD] at z ⊢
    simp only [Plan.deep] at hd z
    have bend : ∀ S, Ok S → SX (tSeq (tIfS (tTest (tOp (rEqP K) (tOp (rIxA K) (tVar 2) (tC (.int 0))) (tC (.str "holds"))))
      (tRet (tOp (rIxA K) (tLst (tCons (tTup (tCons (tC (.str "holds")) (tCons (tOp (rPlus K) (tOp (rIxA K) (tVar 2) (tC (.int 1))) (tC (.int 1))) tNil))) (tCons (tTup (tCons (tC (.str "shoot")) (tCons (tOp (rIxA K) (tVar 2) (tC (.int 1))) (tCons (tVar 2) (tCons (tVar 2) tNil))))) tNil))) (tCall (spS R_take) [] E0 (tCons (tVar 0) (tCons (tC (.int 2)) tNil)))))
      tNext)
    (tRet (tOp (rIxA K) (tLst (tCons (tOp (rPlus K) (tTup (tCons (tC (.str "shoot")) (tCons (tOp (rPlus K) (tOp (rIxA K) (tVar 2) (tC (.int 1))) (tC (.int 1))) tNil))) (tSl (rSl K) (tVar 2) (tPart (tC (.int 2))) tNoPart)) (tCons (tOp (rPlus K) (tSl (rSl K) (tVar 2) tNoPart (tPart (tC (.int 2)))) (tTup (tCons (tOp (rIxA K) (tVar 2) (tC (.int 3))) (tCons (tOp (rIxA K) (tVar 2) (tC (.int 2))) tNil)))) (tCons (tOp (rIxA K) (tVar 2) (tC (.int 2))) (tCons (tOp (rPlus K) (tTup (tCons (tC (.str "shoot")) (tCons (tCall (spS R_take) [] E0 (tCons (tVar 0) (tCons (tOp (rPlus K) (tVar 1) (tC (.int 2))) tNil))) tNil))) (tSl (rSl K) (tVar 2) (tPart (tC (.int 2))) tNoPart)) tNil))))) (tCall (spS R_take) [] E0 (tCons (tVar 0) (tCons (tC (.int 4)) tNil))))))
      [.st S, .val (.int c), .val (.tuple [.str "shoot", .int v, a.toD, b.toD]), .emp] { nx := fun ρ' => ∃ S', ρ'[0]? = some (.st S') ∧ Z .none S', rt := fun d ρ' => ∃ S', ρ'[0]? = some (.st S') ∧ Z d S' } := fun S ok => by
      walk_at "es"
      refine ⟨fun hb => absurd (of_decide_eq_true hb) ne_sh, fun _ => ?_⟩
      walk_at "es"
      refine ⟨by simp, ?_⟩
      walk_at "es"
      refine opd_plusT (by simp [cutD]; omega) ?_
      walk_at "es"
      refine ⟨by simp, opd_plusT (by simp [cutD]; omega) ?_⟩
      walk_at "es"
      refine ⟨c + 2, rfl, by omega, by omega, ok, fun r S1 h0 h1 ok1 => ?_⟩
      walk_at "es"
      refine ⟨by simp, ?_⟩
      walk_at "es"
      refine opd_plusT (by simp [cutD]; omega) ?_
      walk_at "es"
      refine ⟨by simp, ?_⟩
      walk_at "es"
      refine ⟨4, rfl, by omega, by omega, ok1, fun i S2 i0 i1 ok2 => ?_⟩
      rcases (show i = 0 ∨ i = 1 ∨ i = 2 ∨ i = 3 by omega) with rfl | rfl | rfl | rfl
      · walk_at "es"
        exact z (.shoot (v + 1) a b) S2 (by simp [Plan.deep]) ok2
      · walk_at "es"
        exact z (.shoot v b a) S2 (by simp [Plan.deep]; omega) ok2
      · walk_at "es"
        exact z a S2 (by omega) ok2
      · walk_at "es"
        exact z (.shoot r a b) S2 (by simp [Plan.deep]) ok2
    walk_at "es"
    refine ⟨fun _ => ?_, fun hb => absurd rfl (of_decide_eq_false hb)⟩
    walk_at "es"
    refine ⟨3, rfl, by omega, by omega, ok, fun r S1 h0 h1 ok1 => ?_⟩
    walk_at "es"
    refine ⟨fun hb => ?_, fun hb => ?_⟩
    · walk_at "es"
      refine ⟨2, rfl, by omega, by omega, ok1, fun r S2 h0 h1 ok2 => ?_⟩
      rcases (show r = 0 ∨ r = 1 by omega) with rfl | rfl
      · walk_at "es"
        refine ⟨c, a, rfl, ⟨hc1, hc2⟩, by omega, ok2, fun q S3 hq ok3 => ?_⟩
        walk_at "es"
        refine ⟨by simp, opd_plusT (by simp [cutD]; omega) ?_⟩
        walk_at "es"
        refine opd_plusT (by simp [cutD]; omega) ?_
        exact ⟨S3, rfl, z (.shoot v q b) S3 (by simp [Plan.deep]; omega) ok3⟩
      · walk_at "es"
        refine ⟨c, b, rfl, ⟨hc1, hc2⟩, by omega, ok2, fun q S3 hq ok3 => ?_⟩
        walk_at "es"
        refine ⟨by simp, opd_plusT (by simp [cutD]; omega) ?_⟩
        walk_at "es"
        refine opd_plusT (by simp [cutD]; omega) ?_
        exact ⟨S3, rfl, z (.shoot v a q) S3 (by simp [Plan.deep]; omega) ok3⟩
    · exact sx_next (nx_seq (bend S1 ok1))
end Law_k70
namespace Law_k70
open PySem L2 Pu
local macro_rules | `(tactic| walk_at "e") => `(tactic| first
  | ((with_reducible refine nx_seq ?_); (try dsimp only [List.set_cons_succ, List.set_cons_zero]))
  | ((with_reducible refine ex_vr ?_); dsimp only [VQ, List.set_cons_succ, List.set_cons_zero, List.getElem?_cons_zero, List.getElem?_cons_succ]; (fail_if_success (with_reducible show False)))
  | (with_reducible refine sx_seq ?_)
  | (with_reducible refine sx_if ?_)
  | (with_reducible refine sx_next ?_)
  | (with_reducible refine sx_ret ?_)
  | (with_reducible refine sx_asg ?_)
  | (with_reducible refine ex_int ?_)
  | (with_reducible refine ex_str ?_)
  | (with_reducible refine ex_bl ?_)
  | (with_reducible refine ex_non ?_)
  | (with_reducible refine ex_op ?_)
  | (with_reducible refine ex_un ?_)
  | (with_reducible refine ex_chain ?_)
  | (with_reducible refine ex_call ?_)
  | (with_reducible refine ex_isT ?_)
  | (with_reducible refine ex_cb ?_)
  | (with_reducible refine ex_sl ?_)
  | (with_reducible refine ex_tup ?_)
  | (with_reducible refine ex_if ?_)
  | (with_reducible refine ex_of (eo_lst ?_))
  | (with_reducible refine ex_notV ?_)
  | (with_reducible refine ea_nil ?_)
  | (with_reducible refine ea_cons ?_)
  | (with_reducible refine ep_no ?_)
  | (with_reducible refine ep_some ?_)
  | (with_reducible refine et_test ?_)
  | (with_reducible refine et_B ?_)
  | (with_reducible refine et_and ?_)
  | (with_reducible refine et_or ?_)
  | (with_reducible refine et_not ?_)
  | (with_reducible refine et_yes ?_)
  | (with_reducible refine opd_plusI ?_)
  | (with_reducible refine opd_I0 ?_)
  | (with_reducible refine opd_B0 ?_)
  | (with_reducible refine opd_eqI ?_)
  | (with_reducible refine opd_neI ?_)
  | (with_reducible refine opd_eqS ?_)
  | (with_reducible refine opd_neS ?_)
  | (with_reducible refine opd_is ?_)
  | (with_reducible refine opd_isnt ?_)
  | (with_reducible refine opd_ixT rfl ?_)
  | (with_reducible refine opd_ixL rfl ?_)
  | (with_reducible refine und_neg ?_)
  | (with_reducible refine cbd_lenL ?_)
  | (with_reducible refine cbd_lenT ?_)
  | (with_reducible refine cbd_min2 ?_)
  | (with_reducible refine cbd_max2 ?_)
  | (with_reducible refine cbd_abs ?_)
  | (with_reducible refine cbd_int ?_)
  | (with_reducible refine cbd_tupL ?_)
  | (with_reducible refine cbd_listL ?_)
  | (with_reducible refine cbd_listT ?_)
  | (with_reducible refine cbd_sum ?_)
  | (with_reducible refine sld_T ?_)
  | (with_reducible refine sld_L ?_)
  | (with_reducible refine Exists.intro _ (And.intro rfl ?_))
  | ((with_reducible show EX (tCall (spS _) [] _ (tCons (tVar _) _)) _ _); refine ex_callS rfl ?_)
  | ((with_reducible refine opd_I ?_ ?_); focus (first | omega | (show CDiv _ _; exact ⟨by omega, by omega⟩) | (show CMul _ _; first | exact Or.inl ⟨by omega, by omega⟩ | exact Or.inr ⟨by omega, by omega⟩))))
local macro_rules | `(tactic| walk_at "es") => `(tactic| repeat walk_at "e")
local macro_rules | `(tactic| walk_at "w") => `(tactic| try dsimp only [wipeE, List.foldl_cons, List.foldl_nil, List.set_cons_succ, List.set_cons_zero])
local macro_rules | `(tactic| walk_at "le") => `(tactic| repeat' first | exact LeE.nil | (refine LeE.eq rfl ?_) | (refine LeE.emp ?_) | (refine LeE.eq ?_ ?_))
local macro_rules | `(tactic| walk_at "no") => `(tactic| ((refine And.intro (fun hb => absurd hb ?_) (fun _ => ?_)); (focus (first | (exact Bool.false_ne_true) | (simp; done) | (simp; omega) | (simp only [decide_eq_true_eq]; omega)))))
local macro_rules | `(tactic| walk_at "yes") => `(tactic| ((refine And.intro (fun _ => ?_) (fun hb => absurd hb ?_)); (rotate_left); (focus (first | (exact Bool.noConfusion) | (simp; done) | (simp; omega) | (simp only [decide_eq_false_iff_not]; omega)))))
theorem encT_deep (t : TF) : (encT t).depth ≤ 60 := by
  have h : DpN 5 (encT t) := by
    cases t with
    | ok => exact dpn_non
    | shots => exact dpn_tup (dpn_cons dpn_str dpn_nil)
    | many => exact dpn_tup (dpn_cons dpn_str dpn_nil)
    | plan f => exact dpn_tup (dpn_cons dpn_str (dpn_cons (dpn_tup (dpn_cons dpn_str (dpn_cons (dpn_list (dpn_map fun x _ => dpn_int)) dpn_nil))) dpn_nil))
  exact Nat.le_trans h (by decide)
theorem encW_deep (t : Option (Int × Int × Int)) : (encW t).depth ≤ 60 := by
  have h : DpN 5 (encW t) := by
    cases t with
    | none => exact dpn_non
    | some t => exact dpn_tup (dpn_cons dpn_int (dpn_cons dpn_int (dpn_cons dpn_int dpn_nil)))
  exact Nat.le_trans h (by decide)
theorem minPs_eq (ps : List (Int × Int)) : minPs ps = minP ps := by
  cases ps with
  | nil => rfl
  | cons p ps =>
    have e : (fun (a y : Int × Int) => if ltP y a = true then y else a) = fun (a y : Int × Int) => if y.1 < a.1 ∨ y.1 = a.1 ∧ y.2 < a.2 then y else a := by
      funext a y
      unfold ltP
      by_cases h : y.1 < a.1 ∨ y.1 = a.1 ∧ y.2 < a.2 <;> simp [h]
    show ps.foldl _ p = ps.foldl _ p
    rw [e]
/-- the table's cell -/
theorem tab_at {c m s : Int} (hc : 0 ≤ c ∧ c ≤ 14) (hm : 1 ≤ m ∧ m ≤ 14) (hs : 1 ≤ s ∧ s ≤ m) : c.toNat < (tabF m.toNat c.toNat).length ∧ s.toNat < ((tabF m.toNat c.toNat).getD c.toNat []).length ∧ ((tabF m.toNat c.toNat).getD c.toNat []).getD s.toNat none = some (leastF c s : Int) := by
  obtain ⟨C, rfl⟩ : ∃ n : Nat, c = (n : Int) := ⟨c.toNat, by omega⟩
  obtain ⟨M, rfl⟩ : ∃ n : Nat, m = (n : Int) := ⟨m.toNat, by omega⟩
  obtain ⟨S, rfl⟩ : ∃ n : Nat, s = (n : Int) := ⟨s.toNat, by omega⟩
  simp only [Int.toNat_natCast]
  have h := tab_cell (m := M) (k := C) (i := C) (j := S) (by omega) (by omega) (Nat.le_refl _) (by omega)
  have t := tab_least ⟨C, by omega⟩ ⟨M, by omega⟩ ⟨S, by omega⟩
  rcases t with t | t | t
  · exact absurd t (by simp; omega)
  · exact absurd t (by simp; omega)
  · exact ⟨h.1, by rw [h.2.1]; omega, t⟩
/-- the law's table at a cell -/
theorem opd_tab1 {K : PySem.W.Frag} {c m : Int} {Q : D → Prop} (hc : 0 ≤ c ∧ c ≤ 14) (hm : 1 ≤ m ∧ m ≤ 14) (k : Q (encRow ((tabF m.toNat c.toNat).getD c.toNat []))) : OpD (rIxA K) (.list ((tabF m.toNat c.toNat).map encRow)) (.int c) Q := by
  have t := tab_at hc hm (s := 1) ⟨by omega, by omega⟩
  exact opd_ixM [] (by omega) (by omega) k
theorem opd_tab2 {K : PySem.W.Frag} {c m s : Int} {Q : D → Prop} (hc : 0 ≤ c ∧ c ≤ 14) (hm : 1 ≤ m ∧ m ≤ 14) (hs : 1 ≤ s ∧ s ≤ m) (k : Q (.int (leastF c s : Int))) : OpD (rIxA K) (encRow ((tabF m.toNat c.toNat).getD c.toNat [])) (.int s) Q := by
  have t := tab_at hc hm hs
  refine opd_ixM none (by omega) (by omega) ?_
  rw [t.2.2]
  exact k
theorem cbd_minQ {K : PySem.W.Frag} {Q : D → Prop} {ps : List (Int × Int)} (h : 0 < ps.length) (k : Q (.tuple [.int (minPs ps).1, .int (minPs ps).2])) : CbD (rMnD K) [.list (ps.map encP)] Q := cbd_minP h k
theorem pairs_eq (c price cost : Int) : ((rngI 1 (c + 1 - 1).toNat).filter fun _ => true).map (fun k : Int => encP ((leastF c k : Int) * cost + min k (leastF c k : Int) * price, k)) = (pairs c price cost).map encP := by
  unfold pairs rngI
  rw [List.map_map, List.filter_eq_self.mpr (fun _ _ => rfl), List.map_map, Int.add_sub_cancel]
  refine List.map_congr_left fun k _ => ?_
  simp only [Function.comp, Int.add_comm 1]
theorem pairs_len (c price cost : Int) : (pairs c price cost).length = c.toNat := by simp [pairs]
theorem pairs_mem {c price cost : Int} {p : Int × Int} (h : p ∈ pairs c price cost) : 1 ≤ p.2 ∧ p.2 ≤ c := by
  obtain ⟨k, hk, rfl⟩ := List.mem_map.mp h
  have := List.mem_range.mp hk
  simp only
  omega
theorem worth_eq {c price cost : Int} (hc : 0 ≤ c ∧ c ≤ 14) (hp : 0 ≤ price ∧ price < 9) (hq : 0 ≤ cost ∧ cost < 9) : worthF c price cost = (if c = 0 then none else some ((minPs (pairs c price cost)).2, (leastF c (minPs (pairs c price cost)).2 : Int), (minPs (pairs c price cost)).1)) := by
  obtain ⟨C, rfl⟩ : ∃ n : Nat, c = (n : Int) := ⟨c.toNat, by omega⟩
  obtain ⟨P, rfl⟩ : ∃ n : Nat, price = (n : Int) := ⟨price.toNat, by omega⟩
  obtain ⟨R, rfl⟩ : ∃ n : Nat, cost = (n : Int) := ⟨cost.toNat, by omega⟩
  have t := worth_ok ⟨C, by omega⟩ ⟨P, by omega⟩ ⟨R, by omega⟩
  simp only at t
  rw [t, minPs_eq]
  by_cases h : C = 0
  · rw [if_pos h, if_pos (by omega)]
  · rw [if_neg h, if_neg (by omega)]
theorem plan_data {c s : Int} (hc : 0 ≤ c ∧ c ≤ 14) (hs : 1 ≤ s ∧ s ≤ 4) : ∃ p, planF 16 0 c (leastF c s) s = some p ∧ tfaultF c s (leastF c s) p = .ok ∧ p.deep ≤ 16 ∧
    ∀ h : Nat, h < (c + 1).toNat → (shotF p h).2 = h ∧ ((shotF p h).1.length : Int) ≤ (leastF c s : Int) ∧ (((shotF p h).1.filter fun x => decide ((h : Int) < x)).length : Int) ≤ s := by
  obtain ⟨C, rfl⟩ : ∃ n : Nat, c = (n : Int) := ⟨c.toNat, by omega⟩
  obtain ⟨S, rfl⟩ : ∃ n : Nat, s = (n : Int) := ⟨s.toNat, by omega⟩
  have t := plan_ok ⟨C, by omega⟩ ⟨S, by omega⟩
  rcases t with t | t
  · exact absurd t (by simp; omega)
  simp only at t
  cases hp : planF 16 0 (C : Int) (leastF (C : Int) (S : Int)) (S : Int) with
  | none => rw [hp] at t; cases t
  | some p =>
    rw [hp] at t
    simp only [Plan.ok, Bool.and_eq_true, decide_eq_true_eq, List.all_eq_true, List.mem_range, beq_iff_eq] at t
    obtain ⟨⟨t1, t2⟩, t3⟩ := t
    refine ⟨p, rfl, ?_, t2, fun h hh => ?_⟩
    · cases e : tfaultF (C : Int) (S : Int) (leastF (C : Int) (S : Int)) p <;> rw [e] at t1 <;> first | rfl | cases t1
    · have := t3 h (by omega)
      exact ⟨this.1.1, this.1.2, this.2⟩
def T_law_fin (K : PySem.W.Frag) : TS :=
    (tIfS (tTest (tOp (rNeP K) (tCall (spP R_trial_fault) [] E0 (tCons (tVar 2) (tCons (tVar 3) (tCons (tVar 16) tNil)))) (tCall (spP R_trial_fault) [] E0 (tCons (tVar 2) (tCons (tVar 3) (tCons (tVar 16) tNil))))))
      (tRet (tC (.bl false)))
      tNext)
theorem sx_fin {K : PySem.W.Frag} {P : Po} {c sh u : Int} {q : Plan} {a0 a1 a4 a5 a6 a7 a8 a9 a10 a11 a12 a13 a14 a15 : Slot} (hs : 1 ≤ sh ∧ sh ≤ 4) (hu : -2 ≤ u ∧ u ≤ 20) (hq : q.deep ≤ 17)
    (k : NX P [a0, a1, .val (.int c), .val (.int sh), a4, a5, a6, a7, a8, a9, a10, a11, a12, a13, a14, a15, .val (.tuple [.int u, q.toD])]) : SX (T_law_fin K) [a0, a1, .val (.int c), .val (.int sh), a4, a5, a6, a7, a8, a9, a10, a11, a12, a13, a14, a15, .val (.tuple [.int u, q.toD])] P := by
  unfold T_law_fin
  walk_at "es"
  refine ⟨c, sh, u, q, rfl, by omega, by omega, ⟨by omega, by omega⟩, ?_⟩
  walk_at "es"
  refine ⟨c, sh, u, q, rfl, by omega, by omega, ⟨by omega, by omega⟩, ?_⟩
  refine opd_neSelf (encT_deep _) ?_
  walk_at "es"
  walk_at "no"
  walk_at "es"
  exact k
def T_law_end (K : PySem.W.Frag) : TS :=
    (tFor (iRng1 (tCons (tC (.int 8)) tNil)) (gName 15)
      (tSeq (tAsg (tIf (tTest (tOp (rI0 fun i j => .bl (decide (j < i))) (tCall (spS R_take) [] E0 (tCons (tVar 1) (tCons (tC (.int 3)) tNil))) (tC (.int 0)))) (tTup (tCons (tOp (rIxA K) (tVar 5) (tC (.int 0))) (tCons (tCall (spS (R_l_bent 20)) [] E0 (tCons (tVar 1) (tCons (tVar 2) (tCons (tOp (rIxA K) (tVar 5) (tC (.int 1))) tNil)))) tNil))) (tTup (tCons (tOp (rI0 fun i j => .int (i - j)) (tOp (rPlus K) (tOp (rIxA K) (tVar 5) (tC (.int 0))) (tCall (spS R_take) [] E0 (tCons (tVar 1) (tCons (tC (.int 3)) tNil)))) (tC (.int 1))) (tCons (tOp (rIxA K) (tVar 5) (tC (.int 1))) tNil)))) (gName 16))
    (T_law_fin K)))
def R_law : List D → (D → Prop) → Prop := fun ds Z => ∃ ns : List Int, ds = [.list (ns.map .int)] ∧ Z (.bool true)
theorem sx_law (K : PySem.W.Frag) (ds : List D) (Z : D → Prop) (h : R_law ds Z) : SX (T_law K R_state R_l_least R_trial R_take R_shot R_worth_it R_least_shots R_trial_fault R_trial_fault R_broken_by R_reach R_reach (R_l_bent 20)) (startE N_law ds) { nx := fun _ => Z .none, rt := fun d _ => Z d } := by
  obtain ⟨ns, rfl, z⟩ := h
  show SX (T_law K R_state R_l_least R_trial R_take R_shot R_worth_it R_least_shots R_trial_fault R_trial_fault R_broken_by R_reach R_reach (R_l_bent 20)) [.val (.list (ns.map .int)), .emp, .emp, .emp, .emp, .emp, .emp, .emp, .emp, .emp, .emp, .emp, .emp, .emp, .emp, .emp, .emp] _
  unfold T_law
  refine sx_seq (sx_asgN (by decide) ?_)
  walk_at "es"
  refine ⟨ns, rfl, fun S0 ok0 => ?_⟩
  walk_at "es"
  refine sx_asgT (J := [2, 3]) ?_
  walk_at "es"
  refine ⟨15, rfl, by omega, by omega, ok0, fun c S1 hc0 hc1 ok1 => ?_⟩
  walk_at "es"
  refine ⟨4, rfl, by omega, by omega, ok1, fun s S2 hs0 hs1 ok2 => ?_⟩
  walk_at "es"
  refine ⟨by simp, sg_tup rfl (sgs_cons (sg_name (by simp) (sgs_cons (sg_name (by simp) (sgs_nil ?_)))))⟩
  walk_at "w"
  walk_at "es"
  generalize hs : (1 : Int) + s = sh
  have hc : 0 ≤ c ∧ c ≤ 14 := ⟨hc0, by omega⟩
  have hsh : 1 ≤ sh ∧ sh ≤ 4 := by omega
  have hm : 1 ≤ max sh c ∧ max sh c ≤ 14 := by omega
  have few : Few c sh := ⟨by omega, by omega, by omega, by omega⟩
  have fl := few_least few
  refine ⟨c, max sh c, rfl, hc, hm, ?_⟩
  walk_at "es"
  obtain ⟨p, hp, hf, hd, hsho⟩ := plan_data hc hsh
  refine ⟨c, sh, p, rfl, few, hp, ?_⟩
  walk_at "es"
  walk_at "no"
  walk_at "es"
  refine opd_tab1 hc hm ?_
  walk_at "es"
  refine opd_tab2 hc hm (by omega) ?_
  walk_at "es"
  walk_at "no"
  walk_at "es"
  refine ⟨c, sh, rfl, few, ?_⟩
  walk_at "es"
  walk_at "no"
  walk_at "es"
  refine ⟨c, sh, _, p, rfl, by omega, by omega, ⟨by omega, by omega⟩, ?_⟩
  rw [hf]
  walk_at "es"
  walk_at "no"
  walk_at "es"
  refine ⟨c, sh, _, p, rfl, by omega, by omega, ⟨by omega, by omega⟩, ?_⟩
  rw [hf]
  walk_at "es"
  walk_at "no"
  walk_at "es"
  generalize hT : (tabF (max sh c).toNat c.toNat).map encRow = T
  refine sx_for (J := [6]) (ei_rng1 ?_)
  walk_at "es"
  refine ⟨by omega, fun _ ρ' => ρ' = [.val (.list (ns.map .int)), .st S2, .val (.int c), .val (.int sh), .val (.list T), .val (.tuple [.int (leastF c sh), p.toD]), .emp, .emp, .emp, .emp, .emp, .emp, .emp, .emp, .emp, .emp, .emp], rfl, ?_, ?_⟩
  · rintro k d ρ' hd0 rfl
    obtain ⟨hk, rfl⟩ := rng_at hd0
    obtain ⟨h1, h2, h3⟩ := hsho k hk
    rw [Int.zero_add]
    refine sg_name (by simp) ?_
    walk_at "w"
    refine sx_seq (sx_asgT (J := [7, 8]) ?_)
    walk_at "es"
    refine ⟨p, k, rfl, by omega, sg_tup rfl (sgs_cons (sg_name (by simp) (sgs_cons (sg_name (by simp) (sgs_nil ?_)))))⟩
    rw [h1]
    walk_at "w"
    walk_at "es"
    walk_at "no"
    walk_at "es"
    walk_at "no"
    walk_at "es"
    refine ⟨p, k, rfl, by omega, ?_⟩
    walk_at "es"
    refine ex_of (eo_lcP (α := Int) (fun x => decide ((k : Int) < x)) PyData.int (ei_list ?_))
    walk_at "es"
    refine ⟨_, PyData.int, rfl, by omega, fun i hi => by simp at hi; subst hi; rfl, fun x _ => sg_name (by simp) ⟨rfl, ?_⟩, ?_⟩
    · walk_at "w"
      walk_at "es"
      refine ⟨rfl, rfl, fun _ => ?_⟩
      walk_at "es"
      exact ⟨rfl, rfl⟩
    walk_at "es"
    rw [List.length_map]
    walk_at "no"
    walk_at "es"
    refine ⟨p, k, rfl, by omega, ?_⟩
    walk_at "es"
    walk_at "no"
    walk_at "es"
    refine ⟨_, ?_, rfl⟩
    walk_at "le"
  rintro ρ' rfl
  walk_at "es"
  refine sx_for (J := [10]) (ei_rng1 ?_)
  walk_at "es"
  refine ⟨by omega, fun _ ρ' => ρ' = [.val (.list (ns.map .int)), .st S2, .val (.int c), .val (.int sh), .val (.list T), .val (.tuple [.int (leastF c sh), p.toD]), .emp, .emp, .emp, .emp, .emp, .emp, .emp, .emp, .emp, .emp, .emp], rfl, ?_, ?_⟩
  · rintro k d ρ' hd0 rfl
    obtain ⟨hk, rfl⟩ := rng_at hd0
    rw [Int.zero_add]
    refine sg_name (by simp) ?_
    walk_at "w"
    walk_at "es"
    refine ⟨k, sh, rfl, ⟨by omega, by omega⟩, ⟨by omega, by omega⟩, ?_⟩
    walk_at "es"
    refine ⟨k, sh, rfl, ⟨by omega, by omega⟩, ⟨by omega, by omega⟩, ?_⟩
    walk_at "es"
    walk_at "no"
    walk_at "es"
    refine ⟨_, ?_, rfl⟩
    walk_at "le"
  rintro ρ' rfl
  walk_at "es"
  refine sx_asgT (J := [11, 12]) ?_
  walk_at "es"
  refine ⟨9, rfl, by omega, by omega, ok2, fun price S3 hp0 hp1 ok3 => ?_⟩
  walk_at "es"
  refine ⟨9, rfl, by omega, by omega, ok3, fun cost S4 hq0 hq1 ok4 => ?_⟩
  walk_at "es"
  refine ⟨by simp, sg_tup rfl (sgs_cons (sg_name (by simp) (sgs_cons (sg_name (by simp) (sgs_nil ?_)))))⟩
  walk_at "w"
  walk_at "es"
  refine ex_of (eo_lcP (α := Int) (fun _ => true) (fun k => encP ((leastF c k : Int) * cost + min k (leastF c k : Int) * price, k)) (ei_rng2 ?_))
  walk_at "es"
  refine ⟨1, c + 1, rfl, by omega, _, PyData.int, rfl, by rw [rngI_len]; omega, fun i hi => by simp at hi; subst hi; rfl, fun x hx => sg_name (by simp) ⟨rfl, ?_⟩, ?_⟩
  · obtain ⟨k, hk, rfl⟩ := List.mem_map.mp hx
    have hk := List.mem_range.mp hk
    have fk := few_least (c := c) (s := 1 + (k : Int)) ⟨by omega, by omega, by omega, by omega⟩
    walk_at "w"
    walk_at "es"
    refine ⟨rfl, rfl, fun _ => ?_⟩
    subst hT
    walk_at "es"
    refine opd_tab1 hc hm ?_
    walk_at "es"
    refine opd_tab2 hc hm (by omega) ?_
    walk_at "es"
    refine opd_tab1 hc hm ?_
    walk_at "es"
    refine opd_tab2 hc hm (by omega) ?_
    walk_at "es"
    exact ⟨by simp, rfl, rfl⟩
  rw [pairs_eq]
  walk_at "es"
  refine ⟨c, price, cost, rfl, hc, by omega, by omega, ?_⟩
  walk_at "es"
  have we := worth_eq hc ⟨hp0, hp1⟩ ⟨hq0, hq1⟩
  have pl := pairs_len c price cost
  generalize hP : pairs c price cost = ps at we pl ⊢
  have rest : SX (T_law_end K) [.val (.list (ns.map .int)), .st S4, .val (.int c), .val (.int sh), .val (.list T), .val (.tuple [.int (leastF c sh), p.toD]), .emp, .emp, .emp, .emp, .emp, .val (.int price), .val (.int cost), .val (.list (ps.map encP)),  .emp, .emp, .emp] (({ nx := fun _ => Z .none, rt := fun d _ => Z d } : Po).seq (tRet (tC (.bl true)))) := by
    unfold T_law_end
    refine (sx_for (J := [15]) (ei_rng1 ?_))
    walk_at "es"
    refine ⟨by omega, fun _ ρ' => ∃ S, Ok S ∧ ρ' = [.val (.list (ns.map .int)), .st S, .val (.int c), .val (.int sh), .val (.list T), .val (.tuple [.int (leastF c sh), p.toD]), .emp, .emp, .emp, .emp, .emp, .val (.int price), .val (.int cost), .val (.list (ps.map encP)), .emp, .emp, .emp], ⟨S4, ok4, rfl⟩, ?_, ?_⟩
    · rintro k d ρ' hd0 ⟨S, ok, rfl⟩
      obtain ⟨hk, rfl⟩ := rng_at hd0
      refine sg_name (by simp) ?_
      walk_at "w"
      walk_at "es"
      refine ⟨3, rfl, by omega, by omega, ok, fun r S5 hr0 hr1 ok5 => ?_⟩
      walk_at "es"
      refine ⟨fun _ => ?_, fun _ => ?_⟩
      · walk_at "es"
        refine ⟨c, p, rfl, hc, by omega, ok5, fun q S6 hq ok6 => ?_⟩
        walk_at "es"
        refine ⟨by simp, ?_⟩
        walk_at "es"
        refine sx_fin hsh ⟨by omega, by omega⟩ (by omega) ?_
        refine ⟨_, ?_, S6, ok6, rfl⟩
        walk_at "le"
      · walk_at "es"
        refine ⟨3, rfl, by omega, by omega, ok5, fun r2 S6 hr20 hr21 ok6 => ?_⟩
        walk_at "es"
        refine ⟨by simp, ?_⟩
        walk_at "es"
        refine sx_fin hsh ⟨by omega, by omega⟩ (by omega) ?_
        refine ⟨_, ?_, S6, ok6, rfl⟩
        walk_at "le"
    · rintro ρ' ⟨S, ok, rfl⟩
      walk_at "es"
      exact z
  refine ⟨fun hb => ?_, fun hb => ?_⟩
  · have hb := of_decide_eq_true hb
    rw [List.length_map] at hb
    rw [if_neg (by omega)] at we
    have hmem := minPs_mem (ps := ps) (by omega)
    have hpm := pairs_mem (by rw [hP]; exact hmem)
    walk_at "es"
    refine cbd_minQ (by omega) ?_
    walk_at "es"
    subst hT
    refine opd_tab1 hc hm ?_
    walk_at "es"
    refine cbd_minQ (by omega) ?_
    walk_at "es"
    refine opd_tab2 hc hm (by omega) ?_
    walk_at "es"
    refine cbd_minQ (by omega) ?_
    walk_at "es"
    refine ⟨by simp, ?_⟩
    rw [we]
    refine opd_neSelf (encW_deep (some _)) ?_
    walk_at "es"
    walk_at "no"
    walk_at "es"
    exact rest
  · have hb := of_decide_eq_false hb
    rw [List.length_map] at hb
    rw [if_pos (by omega)] at we
    rw [we]
    walk_at "es"
    refine opd_neSelf (encW_deep none) ?_
    walk_at "es"
    walk_at "no"
    walk_at "es"
    exact rest
theorem no_plan_for : ∀ ds Z, ¬ R_plan_for 0 ds Z := fun ds Z h => by
  obtain ⟨_, _, _, _, _, _, _, _, h, _⟩ := h
  cases h
theorem deep_pos (p : Plan) : 0 < p.deep := by cases p <;> simp [Plan.deep]
theorem no_pf : ∀ ds Z, ¬ R_pf 0 ds Z := fun ds Z h => by
  obtain ⟨_, _, _, _, _, p, _, h, _⟩ := h
  have := deep_pos p
  omega
theorem no_l_bent : ∀ S ds Z, ¬ R_l_bent 0 S ds Z := fun S ds Z h => by
  obtain ⟨_, p, _, _, h, _⟩ := h
  have := deep_pos p
  omega
end Law_k70
namespace Law_k70
open PySem L2 Pu

def topS (i : Nat) : Stmt := PySem.Challenge.pw_firescore_k70_trials_by_all_plans.main.body.getD i (.Pass ⟨0, 0, 0, 0⟩)
abbrev s_reach : Stmt := topS 1
abbrev s_least_shots : Stmt := topS 2
abbrev s_plan_for : Stmt := topS 3
abbrev s_trial : Stmt := topS 4
abbrev s_plan_fault : Stmt := topS 5
abbrev s_trial_fault : Stmt := topS 6
abbrev s_shot : Stmt := topS 7
abbrev s_broken_by : Stmt := topS 8
abbrev s_worth_it : Stmt := topS 9
abbrev s_l_state : Stmt := topS 11
abbrev s_l_take : Stmt := topS 12
abbrev s_l_reach : Stmt := topS 13
abbrev s_l_plan_fault : Stmt := topS 14
abbrev s_l_fault : Stmt := topS 15
abbrev s_l_least : Stmt := topS 16
abbrev s_l_bent : Stmt := topS 17
abbrev s_law : Stmt := topS 18
theorem sc_reach : FnScope N_reach ["shots", "shells"] (defScope s_reach) := ⟨rfl, rfl, rfl, by decide +kernel, rfl, by decide +kernel, by decide +kernel⟩
theorem sc_least_shots : FnScope N_least_shots ["charges", "shells"] (defScope s_least_shots) := ⟨rfl, rfl, rfl, by decide +kernel, rfl, by decide +kernel, by decide +kernel⟩
theorem sc_plan_for : FnScope N_plan_for ["low", "high", "shots", "shells"] (defScope s_plan_for) := ⟨rfl, rfl, rfl, by decide +kernel, rfl, by decide +kernel, by decide +kernel⟩
theorem sc_trial : FnScope N_trial ["charges", "shells"] (defScope s_trial) := ⟨rfl, rfl, rfl, by decide +kernel, rfl, by decide +kernel, by decide +kernel⟩
theorem sc_plan_fault : FnScope N_plan_fault ["low", "high", "shots", "shells", "path", "plan"] (defScope s_plan_fault) := ⟨rfl, rfl, rfl, by decide +kernel, rfl, by decide +kernel, by decide +kernel⟩
theorem sc_trial_fault : FnScope N_trial_fault ["charges", "shells", "told"] (defScope s_trial_fault) := ⟨rfl, rfl, rfl, by decide +kernel, rfl, by decide +kernel, by decide +kernel⟩
theorem sc_shot : FnScope N_shot ["plan", "holds"] (defScope s_shot) := ⟨rfl, rfl, rfl, by decide +kernel, rfl, by decide +kernel, by decide +kernel⟩
theorem sc_broken_by : FnScope N_broken_by ["plan", "holds"] (defScope s_broken_by) := ⟨rfl, rfl, rfl, by decide +kernel, rfl, by decide +kernel, by decide +kernel⟩
theorem sc_worth_it : FnScope N_worth_it ["charges", "price", "cost"] (defScope s_worth_it) := ⟨rfl, rfl, rfl, by decide +kernel, rfl, by decide +kernel, by decide +kernel⟩
theorem sc_l_state : FnScope N_l_state ["script"] (defScope s_l_state) := ⟨rfl, rfl, rfl, by decide +kernel, rfl, by decide +kernel, by decide +kernel⟩
theorem sc_l_take : FnScope N_l_take ["state", "most"] (defScope s_l_take) := ⟨rfl, rfl, rfl, by decide +kernel, rfl, by decide +kernel, by decide +kernel⟩
theorem sc_l_reach : FnScope N_l_reach ["shots", "shells"] (defScope s_l_reach) := ⟨rfl, rfl, rfl, by decide +kernel, rfl, by decide +kernel, by decide +kernel⟩
theorem sc_l_plan_fault : FnScope N_l_plan_fault ["low", "high", "shots", "shells", "path", "plan"] (defScope s_l_plan_fault) := ⟨rfl, rfl, rfl, by decide +kernel, rfl, by decide +kernel, by decide +kernel⟩
theorem sc_l_fault : FnScope N_l_fault ["charges", "shells", "told"] (defScope s_l_fault) := ⟨rfl, rfl, rfl, by decide +kernel, rfl, by decide +kernel, by decide +kernel⟩
theorem sc_l_least : FnScope N_l_least ["charges", "most"] (defScope s_l_least) := ⟨rfl, rfl, rfl, by decide +kernel, rfl, by decide +kernel, by decide +kernel⟩
theorem sc_l_bent : FnScope N_l_bent ["state", "charges", "plan"] (defScope s_l_bent) := ⟨rfl, rfl, rfl, by decide +kernel, rfl, by decide +kernel, by decide +kernel⟩
theorem sc_law : FnScope N_law ["script"] (defScope s_law) := ⟨rfl, rfl, rfl, by decide +kernel, rfl, by decide +kernel, by decide +kernel⟩
section
variable {P : Program} {w : World} {K : PySem.W.Frag} {mg : Str → Option Value} {base : Heap} {f : Addr} {fd : FuncData} {k : Nat}
theorem ps_reach {cdv : Value} {A : Around} {outer : List PySem.Env} {s : Shared} {H : Hp} {E : XK} (bn : Bn mg) (hr : Room k (A.deeper (PyProof.Rows.envOfC "reach" (defScope s_reach) s.heap.objs.size f cdv))) :
    PSs (cxOf CX0 P w K mg base N_reach "reach" (defScope s_reach) f cdv A outer s H E).nox (defBody s_reach) (T_reach K) :=
  have nd := sc_reach.nd
  (pss_cons (ps_set (i := 2) nd rfl (by first | exact Or.inl rfl | exact Or.inr rfl) pe_int)
    (pss_cons (ps_set (i := 3) nd rfl (by first | exact Or.inl rfl | exact Or.inr rfl) pe_int)
    (pss_cons (ps_for PassesOwn.never rfl (pi_range1 (by rfl) bn.range_ (pa_cons (pe_op op_plus (pe_callB (cb_min2 rfl) (by rfl) bn.min_ (by decide +kernel) (pa_cons (pv 0) (pa_cons (pv 1) pa_nil))) pe_int) pa_nil)) (pg_name (i := 4) nd rfl (by first | exact Or.inl rfl | exact Or.inr rfl))
      (pss_cons (ps_set (i := 2) nd rfl (by first | exact Or.inl rfl | exact Or.inr rfl) (pe_op op_plus (pv 2) (pv 3)))
    (pss_one (ps_set (i := 3) nd rfl (by first | exact Or.inl rfl | exact Or.inr rfl) (pe_op op_fdiv (pe_op op_mul (pv 3) (pe_op op_sub (pv 0) (pv 4))) (pe_op op_plus (pv 4) pe_int))))))
    (pss_one (ps_ret (pv 2))))))
theorem ok_reach {R : List D → (D → Prop) → Prop} (F : Fun K "reach" "reach" s_reach f fd) (bn : Bn mg) (len : ∀ ds Z, R ds Z → ds.length = 2) (sx : ∀ ds Z, R ds Z → SX (T_reach K) (startE N_reach ds) { nx := fun _ => Z .none, rt := fun d _ => Z d }) :
    FnOk P w K mg base CX0 (k + 1) f fd ["shots", "shells"] (spP R) := fn_pure F sc_reach len fun cdv A outer s H E hr => ⟨_, ps_reach bn hr, sx⟩
theorem ps_least_shots {cdv : Value} {A : Around} {outer : List PySem.Env} {s : Shared} {H : Hp} {E : XK} (bn : Bn mg) (hr : Room k (A.deeper (PyProof.Rows.envOfC "least_shots" (defScope s_least_shots) s.heap.objs.size f cdv))) {R_reach : List D → (D → Prop) → Prop} {k_reach : Nat} (C_reach : Cal P w K mg base "reach" ["shots", "shells"] (spP R_reach) k_reach) (h_reach : k_reach ≤ k) :
    PSs (cxOf CX0 P w K mg base N_least_shots "least_shots" (defScope s_least_shots) f cdv A outer s H E).nox (defBody s_least_shots) (T_least_shots K R_reach) :=
  have nd := sc_least_shots.nd
  (pss_cons (ps_set (i := 2) nd rfl (by first | exact Or.inl rfl | exact Or.inr rfl) pe_int)
    (pss_cons (ps_while PassesOwn.never (pt_cmpR op_lt (pe_cal C_reach (hr.mono h_reach) (by rfl) (pa_cons (pv 2) (pa_cons (pv 1) pa_nil))) (pe_op op_plus (pv 0) pe_int) (nomark _))
      (pss_one (ps_set (i := 2) nd rfl (by first | exact Or.inl rfl | exact Or.inr rfl) (pe_op op_plus (pv 2) pe_int))))
    (pss_one (ps_ret (pv 2)))))
theorem ok_least_shots {R : List D → (D → Prop) → Prop} (F : Fun K "least_shots" "least_shots" s_least_shots f fd) (bn : Bn mg) {R_reach : List D → (D → Prop) → Prop} {k_reach : Nat} (C_reach : Cal P w K mg base "reach" ["shots", "shells"] (spP R_reach) k_reach) (h_reach : k_reach ≤ k) (len : ∀ ds Z, R ds Z → ds.length = 2) (sx : ∀ ds Z, R ds Z → SX (T_least_shots K R_reach) (startE N_least_shots ds) { nx := fun _ => Z .none, rt := fun d _ => Z d }) :
    FnOk P w K mg base CX0 (k + 1) f fd ["charges", "shells"] (spP R) := fn_pure F sc_least_shots len fun cdv A outer s H E hr => ⟨_, ps_least_shots bn hr C_reach h_reach, sx⟩
theorem ps_plan_for {cdv : Value} {A : Around} {outer : List PySem.Env} {s : Shared} {H : Hp} {E : XK} (bn : Bn mg) (hr : Room k (A.deeper (PyProof.Rows.envOfC "plan_for" (defScope s_plan_for) s.heap.objs.size f cdv))) {R_plan_for : List D → (D → Prop) → Prop} {k_plan_for : Nat} (C_plan_for : Cal P w K mg base "plan_for" ["low", "high", "shots", "shells"] (spP R_plan_for) k_plan_for) (h_plan_for : k_plan_for ≤ k) {R_reach : List D → (D → Prop) → Prop} {k_reach : Nat} (C_reach : Cal P w K mg base "reach" ["shots", "shells"] (spP R_reach) k_reach) (h_reach : k_reach ≤ k) :
    PSs (cxOf CX0 P w K mg base N_plan_for "plan_for" (defScope s_plan_for) f cdv A outer s H E).nox (defBody s_plan_for) (T_plan_for K R_plan_for R_reach) :=
  have nd := sc_plan_for.nd
  (pss_cons (ps_if (pt_cmpR (op_eqP hr.units) (pv 0) (pv 1) (nomark _))
      (pss_one (ps_ret (pe_tup (pa_cons pe_str (pa_cons (pv 0) pa_nil)))))
      pss_nil)
    (pss_cons (ps_set (i := 4) nd rfl (by first | exact Or.inl rfl | exact Or.inr rfl) (pe_callB (cb_min2 rfl) (by rfl) bn.min_ (by decide +kernel) (pa_cons (pv 1) (pa_cons (pe_op op_plus (pv 0) (pe_cal C_reach (hr.mono h_reach) (by rfl) (pa_cons (pe_op op_sub (pv 2) pe_int) (pa_cons (pe_op op_sub (pv 3) pe_int) pa_nil)))) pa_nil))))
    (pss_cons (ps_set (i := 5) nd rfl (by first | exact Or.inl rfl | exact Or.inr rfl) (pe_cal C_plan_for (hr.mono h_plan_for) (by rfl) (pa_cons (pv 0) (pa_cons (pe_op op_sub (pv 4) pe_int) (pa_cons (pe_op op_sub (pv 2) pe_int) (pa_cons (pe_op op_sub (pv 3) pe_int) pa_nil))))))
    (pss_one (ps_ret (pe_tup (pa_cons pe_str (pa_cons (pv 4) (pa_cons (pv 5) (pa_cons (pe_cal C_plan_for (hr.mono h_plan_for) (by rfl) (pa_cons (pv 4) (pa_cons (pv 1) (pa_cons (pe_op op_sub (pv 2) pe_int) (pa_cons (pv 3) pa_nil))))) pa_nil))))))))))
theorem ok_plan_for {R : List D → (D → Prop) → Prop} (F : Fun K "plan_for" "plan_for" s_plan_for f fd) (bn : Bn mg) {R_plan_for : List D → (D → Prop) → Prop} {k_plan_for : Nat} (C_plan_for : Cal P w K mg base "plan_for" ["low", "high", "shots", "shells"] (spP R_plan_for) k_plan_for) (h_plan_for : k_plan_for ≤ k) {R_reach : List D → (D → Prop) → Prop} {k_reach : Nat} (C_reach : Cal P w K mg base "reach" ["shots", "shells"] (spP R_reach) k_reach) (h_reach : k_reach ≤ k) (len : ∀ ds Z, R ds Z → ds.length = 4) (sx : ∀ ds Z, R ds Z → SX (T_plan_for K R_plan_for R_reach) (startE N_plan_for ds) { nx := fun _ => Z .none, rt := fun d _ => Z d }) :
    FnOk P w K mg base CX0 (k + 1) f fd ["low", "high", "shots", "shells"] (spP R) := fn_pure F sc_plan_for len fun cdv A outer s H E hr => ⟨_, ps_plan_for bn hr C_plan_for h_plan_for C_reach h_reach, sx⟩
theorem ps_trial {cdv : Value} {A : Around} {outer : List PySem.Env} {s : Shared} {H : Hp} {E : XK} (bn : Bn mg) (hr : Room k (A.deeper (PyProof.Rows.envOfC "trial" (defScope s_trial) s.heap.objs.size f cdv))) {R_least_shots : List D → (D → Prop) → Prop} {k_least_shots : Nat} (C_least_shots : Cal P w K mg base "least_shots" ["charges", "shells"] (spP R_least_shots) k_least_shots) (h_least_shots : k_least_shots ≤ k) {R_plan_for : List D → (D → Prop) → Prop} {k_plan_for : Nat} (C_plan_for : Cal P w K mg base "plan_for" ["low", "high", "shots", "shells"] (spP R_plan_for) k_plan_for) (h_plan_for : k_plan_for ≤ k) :
    PSs (cxOf CX0 P w K mg base N_trial "trial" (defScope s_trial) f cdv A outer s H E).nox (defBody s_trial) (T_trial K R_least_shots R_plan_for) :=
  have nd := sc_trial.nd
  (pss_cons (ps_set (i := 2) nd rfl (by first | exact Or.inl rfl | exact Or.inr rfl) (pe_cal C_least_shots (hr.mono h_least_shots) (by rfl) (pa_cons (pv 0) (pa_cons (pv 1) pa_nil))))
    (pss_one (ps_ret (pe_tup (pa_cons (pv 2) (pa_cons (pe_cal C_plan_for (hr.mono h_plan_for) (by rfl) (pa_cons pe_int (pa_cons (pv 0) (pa_cons (pv 2) (pa_cons (pv 1) pa_nil))))) pa_nil))))))
theorem ok_trial {R : List D → (D → Prop) → Prop} (F : Fun K "trial" "trial" s_trial f fd) (bn : Bn mg) {R_least_shots : List D → (D → Prop) → Prop} {k_least_shots : Nat} (C_least_shots : Cal P w K mg base "least_shots" ["charges", "shells"] (spP R_least_shots) k_least_shots) (h_least_shots : k_least_shots ≤ k) {R_plan_for : List D → (D → Prop) → Prop} {k_plan_for : Nat} (C_plan_for : Cal P w K mg base "plan_for" ["low", "high", "shots", "shells"] (spP R_plan_for) k_plan_for) (h_plan_for : k_plan_for ≤ k) (len : ∀ ds Z, R ds Z → ds.length = 2) (sx : ∀ ds Z, R ds Z → SX (T_trial K R_least_shots R_plan_for) (startE N_trial ds) { nx := fun _ => Z .none, rt := fun d _ => Z d }) :
    FnOk P w K mg base CX0 (k + 1) f fd ["charges", "shells"] (spP R) := fn_pure F sc_trial len fun cdv A outer s H E hr => ⟨_, ps_trial bn hr C_least_shots h_least_shots C_plan_for h_plan_for, sx⟩
theorem ps_plan_fault {cdv : Value} {A : Around} {outer : List PySem.Env} {s : Shared} {H : Hp} {E : XK} (bn : Bn mg) (hr : Room k (A.deeper (PyProof.Rows.envOfC "plan_fault" (defScope s_plan_fault) s.heap.objs.size f cdv))) {R_plan_fault : List D → (D → Prop) → Prop} {k_plan_fault : Nat} (C_plan_fault : Cal P w K mg base "plan_fault" ["low", "high", "shots", "shells", "path", "plan"] (spP R_plan_fault) k_plan_fault) (h_plan_fault : k_plan_fault ≤ k) :
    PSs (cxOf CX0 P w K mg base N_plan_fault "plan_fault" (defScope s_plan_fault) f cdv A outer s H E).nox (defBody s_plan_fault) (T_plan_fault K R_plan_fault) :=
  have nd := sc_plan_fault.nd
  (pss_cons (ps_if (pt_cmpR (op_eqP hr.units) (pe_ix ix_any (pv 5) pe_int (fun _ _ => rfl)) pe_str (nomark _))
      (pss_one (ps_ret (pe_ifExp (pt_chain (op_eqP hr.units) (op_eqP hr.units) (pv 0) (pv 1) (pe_ix ix_any (pv 5) pe_int (fun _ _ => rfl))) pe_non (pe_tup (pa_cons pe_str (pa_cons (pv 4) pa_nil))))))
      pss_nil)
    (pss_cons (ps_if (pt_cmpR (op_eqP hr.units) (pv 2) pe_int (nomark _))
      (pss_one (ps_ret (pe_tup (pa_cons pe_str (pa_cons (pv 4) pa_nil)))))
      pss_nil)
    (pss_cons (ps_if (pt_cmpR (op_eqP hr.units) (pv 3) pe_int (nomark _))
      (pss_one (ps_ret (pe_tup (pa_cons pe_str (pa_cons (pv 4) pa_nil)))))
      pss_nil)
    (pss_cons (ps_if (pt_not (pt_chain op_lt op_le (pv 0) (pe_ix ix_any (pv 5) pe_int (fun _ _ => rfl)) (pv 1)))
      (pss_one (ps_ret (pe_tup (pa_cons pe_str (pa_cons (pv 4) pa_nil)))))
      pss_nil)
    (pss_cons (ps_set (i := 6) nd rfl (by first | exact Or.inl rfl | exact Or.inr rfl) (pe_cal C_plan_fault (hr.mono h_plan_fault) (by rfl) (pa_cons (pv 0) (pa_cons (pe_op op_sub (pe_ix ix_any (pv 5) pe_int (fun _ _ => rfl)) pe_int) (pa_cons (pe_op op_sub (pv 2) pe_int) (pa_cons (pe_op op_sub (pv 3) pe_int) (pa_cons (pe_op op_plus (pv 4) (pe_lst (pa_cons pe_int pa_nil))) (pa_cons (pe_ix ix_any (pv 5) pe_int (fun _ _ => rfl)) pa_nil))))))))
    (pss_one (ps_ret (pe_ifExp (pt_cmpR op_isnt (pv 6) pe_non (nomark _)) (pv 6) (pe_cal C_plan_fault (hr.mono h_plan_fault) (by rfl) (pa_cons (pe_ix ix_any (pv 5) pe_int (fun _ _ => rfl)) (pa_cons (pv 1) (pa_cons (pe_op op_sub (pv 2) pe_int) (pa_cons (pv 3) (pa_cons (pe_op op_plus (pv 4) (pe_lst (pa_cons pe_int pa_nil))) (pa_cons (pe_ix ix_any (pv 5) pe_int (fun _ _ => rfl)) pa_nil)))))))))))))))
theorem ok_plan_fault {R : List D → (D → Prop) → Prop} (F : Fun K "plan_fault" "plan_fault" s_plan_fault f fd) (bn : Bn mg) {R_plan_fault : List D → (D → Prop) → Prop} {k_plan_fault : Nat} (C_plan_fault : Cal P w K mg base "plan_fault" ["low", "high", "shots", "shells", "path", "plan"] (spP R_plan_fault) k_plan_fault) (h_plan_fault : k_plan_fault ≤ k) (len : ∀ ds Z, R ds Z → ds.length = 6) (sx : ∀ ds Z, R ds Z → SX (T_plan_fault K R_plan_fault) (startE N_plan_fault ds) { nx := fun _ => Z .none, rt := fun d _ => Z d }) :
    FnOk P w K mg base CX0 (k + 1) f fd ["low", "high", "shots", "shells", "path", "plan"] (spP R) := fn_pure F sc_plan_fault len fun cdv A outer s H E hr => ⟨_, ps_plan_fault bn hr C_plan_fault h_plan_fault, sx⟩
theorem ps_trial_fault {cdv : Value} {A : Around} {outer : List PySem.Env} {s : Shared} {H : Hp} {E : XK} (bn : Bn mg) (hr : Room k (A.deeper (PyProof.Rows.envOfC "trial_fault" (defScope s_trial_fault) s.heap.objs.size f cdv))) {R_plan_fault : List D → (D → Prop) → Prop} {k_plan_fault : Nat} (C_plan_fault : Cal P w K mg base "plan_fault" ["low", "high", "shots", "shells", "path", "plan"] (spP R_plan_fault) k_plan_fault) (h_plan_fault : k_plan_fault ≤ k) {R_reach : List D → (D → Prop) → Prop} {k_reach : Nat} (C_reach : Cal P w K mg base "reach" ["shots", "shells"] (spP R_reach) k_reach) (h_reach : k_reach ≤ k) :
    PSs (cxOf CX0 P w K mg base N_trial_fault "trial_fault" (defScope s_trial_fault) f cdv A outer s H E).nox (defBody s_trial_fault) (T_trial_fault K R_plan_fault R_reach) :=
  have nd := sc_trial_fault.nd
  (pss_cons (ps_asg (pv 2) (pg_tup (n := 2) rfl (pgs_cons (pg_name (i := 3) nd rfl (by first | exact Or.inl rfl | exact Or.inr rfl)) (pgs_cons (pg_name (i := 4) nd rfl (by first | exact Or.inl rfl | exact Or.inr rfl)) pgs_nil))))
    (pss_cons (ps_if (pt_cmpR op_lt (pv 3) pe_int (nomark _))
      (pss_one (ps_ret (pe_tup (pa_cons pe_str pa_nil))))
      pss_nil)
    (pss_cons (ps_set (i := 5) nd rfl (by first | exact Or.inl rfl | exact Or.inr rfl) (pe_cal C_plan_fault (hr.mono h_plan_fault) (by rfl) (pa_cons pe_int (pa_cons (pv 0) (pa_cons (pv 3) (pa_cons (pv 1) (pa_cons (pe_lst pa_nil) (pa_cons (pv 4) pa_nil))))))))
    (pss_cons (ps_if (pt_cmpR op_isnt (pv 5) pe_non (nomark _))
      (pss_one (ps_ret (pe_tup (pa_cons pe_str (pa_cons (pv 5) pa_nil)))))
      pss_nil)
    (pss_one (ps_ret (pe_ifExp (PW.pt (pw_or (pt_cmpR (op_eqP hr.units) (pv 3) pe_int (nomark _)) (pw_or1 (pt_cmpR op_lt (pe_cal C_reach (hr.mono h_reach) (by rfl) (pa_cons (pe_op op_sub (pv 3) pe_int) (pa_cons (pv 1) pa_nil))) (pe_op op_plus (pv 0) pe_int) (nomark _))))) pe_non (pe_tup (pa_cons pe_str pa_nil)))))))))
theorem ok_trial_fault {R : List D → (D → Prop) → Prop} (F : Fun K "trial_fault" "trial_fault" s_trial_fault f fd) (bn : Bn mg) {R_plan_fault : List D → (D → Prop) → Prop} {k_plan_fault : Nat} (C_plan_fault : Cal P w K mg base "plan_fault" ["low", "high", "shots", "shells", "path", "plan"] (spP R_plan_fault) k_plan_fault) (h_plan_fault : k_plan_fault ≤ k) {R_reach : List D → (D → Prop) → Prop} {k_reach : Nat} (C_reach : Cal P w K mg base "reach" ["shots", "shells"] (spP R_reach) k_reach) (h_reach : k_reach ≤ k) (len : ∀ ds Z, R ds Z → ds.length = 3) (sx : ∀ ds Z, R ds Z → SX (T_trial_fault K R_plan_fault R_reach) (startE N_trial_fault ds) { nx := fun _ => Z .none, rt := fun d _ => Z d }) :
    FnOk P w K mg base CX0 (k + 1) f fd ["charges", "shells", "told"] (spP R) := fn_pure F sc_trial_fault len fun cdv A outer s H E hr => ⟨_, ps_trial_fault bn hr C_plan_fault h_plan_fault C_reach h_reach, sx⟩
theorem ps_shot {cdv : Value} {A : Around} {outer : List PySem.Env} {s : Shared} {H : Hp} {E : XK} (bn : Bn mg) (hr : Room k (A.deeper (PyProof.Rows.envOfC "shot" (defScope s_shot) s.heap.objs.size f cdv))) :
    PSs (cxOf CX0 P w K mg base N_shot "shot" (defScope s_shot) f cdv A outer s H E).nox (defBody s_shot) (T_shot K) :=
  have nd := sc_shot.nd
  (pss_cons (ps_set (i := 2) nd rfl (by first | exact Or.inl rfl | exact Or.inr rfl) (pe_lst pa_nil))
    (pss_cons (ps_while PassesOwn.never (pt_cmpR (op_eqP hr.units) (pe_ix ix_any (pv 0) pe_int (fun _ _ => rfl)) pe_str (nomark _))
      (pss_cons (ps_expr (pe_bm PySem.F.plainAttrs_list PySem.F.slot_list_append PySem.F.type_list_append mt_append (pv 2) (pa_cons (pe_ix ix_any (pv 0) pe_int (fun _ _ => rfl)) pa_nil)))
    (pss_one (ps_set (i := 0) nd rfl (by first | exact Or.inl rfl | exact Or.inr rfl) (pe_ifExp (pt_cmpR op_gt (pe_ix ix_any (pv 0) pe_int (fun _ _ => rfl)) (pv 1) (nomark _)) (pe_ix ix_any (pv 0) pe_int (fun _ _ => rfl)) (pe_ix ix_any (pv 0) pe_int (fun _ _ => rfl)))))))
    (pss_one (ps_ret (pe_tup (pa_cons (pv 2) (pa_cons (pe_ix ix_any (pv 0) pe_int (fun _ _ => rfl)) pa_nil)))))))
theorem ok_shot {R : List D → (D → Prop) → Prop} (F : Fun K "shot" "shot" s_shot f fd) (bn : Bn mg) (len : ∀ ds Z, R ds Z → ds.length = 2) (sx : ∀ ds Z, R ds Z → SX (T_shot K) (startE N_shot ds) { nx := fun _ => Z .none, rt := fun d _ => Z d }) :
    FnOk P w K mg base CX0 (k + 1) f fd ["plan", "holds"] (spP R) := fn_pure F sc_shot len fun cdv A outer s H E hr => ⟨_, ps_shot bn hr, sx⟩
theorem ps_broken_by {cdv : Value} {A : Around} {outer : List PySem.Env} {s : Shared} {H : Hp} {E : XK} (bn : Bn mg) (hr : Room k (A.deeper (PyProof.Rows.envOfC "broken_by" (defScope s_broken_by) s.heap.objs.size f cdv))) {R_shot : List D → (D → Prop) → Prop} {k_shot : Nat} (C_shot : Cal P w K mg base "shot" ["plan", "holds"] (spP R_shot) k_shot) (h_shot : k_shot ≤ k) :
    PSs (cxOf CX0 P w K mg base N_broken_by "broken_by" (defScope s_broken_by) f cdv A outer s H E).nox (defBody s_broken_by) (T_broken_by K R_shot) :=
  have nd := sc_broken_by.nd
  (pss_one (ps_ret (pe_callB cb_len (by rfl) bn.len_ (by decide +kernel) (pa_cons (pe_lc (own := [("charge", 2)]) (g := (gName 2)) (tt := (tTest (tOp (rI0 fun i j => .bl (decide (j < i))) (tVar 2) (tVar 1)))) rfl nd (pi_list (pe_ix ix_any (pe_cal C_shot (hr.mono h_shot) (by rfl) (pa_cons (pv 0) (pa_cons (pv 1) pa_nil))) pe_int (fun _ _ => rfl))) (blkOk_by (N := N_broken_by) (sc := defScope s_broken_by) (by decide +kernel)) (fun _ _ _ _ _ => (pg_name (i := 2) nd rfl (by first | exact Or.inl rfl | exact Or.inr rfl))) (fun _ _ _ _ _ => (pts_one (pt_cmpR op_gt (pv 2) (pv 1) (nomark _)))) (fun _ _ _ _ _ => (pv 2))) pa_nil))))
theorem ok_broken_by {R : List D → (D → Prop) → Prop} (F : Fun K "broken_by" "broken_by" s_broken_by f fd) (bn : Bn mg) {R_shot : List D → (D → Prop) → Prop} {k_shot : Nat} (C_shot : Cal P w K mg base "shot" ["plan", "holds"] (spP R_shot) k_shot) (h_shot : k_shot ≤ k) (len : ∀ ds Z, R ds Z → ds.length = 2) (sx : ∀ ds Z, R ds Z → SX (T_broken_by K R_shot) (startE N_broken_by ds) { nx := fun _ => Z .none, rt := fun d _ => Z d }) :
    FnOk P w K mg base CX0 (k + 1) f fd ["plan", "holds"] (spP R) := fn_pure F sc_broken_by len fun cdv A outer s H E hr => ⟨_, ps_broken_by bn hr C_shot h_shot, sx⟩
theorem ps_worth_it {cdv : Value} {A : Around} {outer : List PySem.Env} {s : Shared} {H : Hp} {E : XK} (bn : Bn mg) (hr : Room k (A.deeper (PyProof.Rows.envOfC "worth_it" (defScope s_worth_it) s.heap.objs.size f cdv))) {R_least_shots : List D → (D → Prop) → Prop} {k_least_shots : Nat} (C_least_shots : Cal P w K mg base "least_shots" ["charges", "shells"] (spP R_least_shots) k_least_shots) (h_least_shots : k_least_shots ≤ k) :
    PSs (cxOf CX0 P w K mg base N_worth_it "worth_it" (defScope s_worth_it) f cdv A outer s H E).nox (defBody s_worth_it) (T_worth_it K R_least_shots) :=
  have nd := sc_worth_it.nd
  (pss_cons (ps_set (i := 3) nd rfl (by first | exact Or.inl rfl | exact Or.inr rfl) pe_non)
    (pss_cons (ps_for PassesOwn.never rfl (pi_range2 (by rfl) bn.range_ (pa_cons pe_int (pa_cons (pe_op op_plus (pv 0) pe_int) pa_nil))) (pg_name (i := 4) nd rfl (by first | exact Or.inl rfl | exact Or.inr rfl))
      (pss_cons (ps_set (i := 5) nd rfl (by first | exact Or.inl rfl | exact Or.inr rfl) (pe_cal C_least_shots (hr.mono h_least_shots) (by rfl) (pa_cons (pv 0) (pa_cons (pv 4) pa_nil))))
    (pss_cons (ps_set (i := 6) nd rfl (by first | exact Or.inl rfl | exact Or.inr rfl) (pe_op op_plus (pe_op op_mul (pv 5) (pv 2)) (pe_op op_mul (pe_callB (cb_min2 rfl) (by rfl) bn.min_ (by decide +kernel) (pa_cons (pv 4) (pa_cons (pv 5) pa_nil))) (pv 1))))
    (pss_one (ps_if (PW.pt (pw_or (pt_cmpR op_is (pv 3) pe_non (nomark _)) (pw_or1 (pt_cmpR op_lt (pv 6) (pe_ix ix_any (pv 3) pe_int (fun _ _ => rfl)) (nomark _)))))
      (pss_one (ps_set (i := 3) nd rfl (by first | exact Or.inl rfl | exact Or.inr rfl) (pe_tup (pa_cons (pv 4) (pa_cons (pv 5) (pa_cons (pv 6) pa_nil))))))
      pss_nil)))))
    (pss_one (ps_ret (pv 3)))))
theorem ok_worth_it {R : List D → (D → Prop) → Prop} (F : Fun K "worth_it" "worth_it" s_worth_it f fd) (bn : Bn mg) {R_least_shots : List D → (D → Prop) → Prop} {k_least_shots : Nat} (C_least_shots : Cal P w K mg base "least_shots" ["charges", "shells"] (spP R_least_shots) k_least_shots) (h_least_shots : k_least_shots ≤ k) (len : ∀ ds Z, R ds Z → ds.length = 3) (sx : ∀ ds Z, R ds Z → SX (T_worth_it K R_least_shots) (startE N_worth_it ds) { nx := fun _ => Z .none, rt := fun d _ => Z d }) :
    FnOk P w K mg base CX0 (k + 1) f fd ["charges", "price", "cost"] (spP R) := fn_pure F sc_worth_it len fun cdv A outer s H E hr => ⟨_, ps_worth_it bn hr C_least_shots h_least_shots, sx⟩
theorem ps_l_state {cdv : Value} {A : Around} {outer : List PySem.Env} {s : Shared} {H : Hp} {E : XK} (bn : Bn mg) (hr : Room k (A.deeper (PyProof.Rows.envOfC "_law_state" (defScope s_l_state) s.heap.objs.size f cdv))) :
    PSs (cxOf CX0 P w K mg base N_l_state "_law_state" (defScope s_l_state) f cdv A outer s H E).nox (defBody s_l_state) (T_l_state K) :=
  have nd := sc_l_state.nd
  (pss_cons (ps_setLc (i := 1) (own := [("cell", 2)]) (g := (gName 2)) (tt := tYes) rfl nd rfl rfl (sw_true rfl rfl rfl (by decide +kernel)) (pi_list (pe_slice sl_any (pv 0) po_none (po_some pe_int))) (blkOk_by (N := N_l_state) (sc := defScope s_l_state) (by decide +kernel)) (fun _ _ _ _ _ => (pg_name (i := 2) nd rfl (by first | exact Or.inl rfl | exact Or.inr rfl))) (fun _ _ _ _ _ => pts_nil) (fun _ _ _ _ _ => (pe_callB cb_abs (by rfl) bn.abs_ (by decide +kernel) (pa_cons (pv 2) pa_nil))))
    (pss_cons (ps_if (pt_cmpR (op_eqP hr.units) (pe_callB cb_len (by rfl) bn.len_ (by decide +kernel) (pa_cons (pv 1) pa_nil)) pe_int (nomark _))
      (pss_one (ps_set (i := 1) nd rfl (by first | exact Or.inl rfl | exact Or.inr rfl) (pe_lst (pa_cons pe_int pa_nil))))
      pss_nil)
    (pss_one (ps_ret (pe_lst (pa_cons pe_int (pa_cons (pv 1) pa_nil)))))))
theorem ps_l_take {cdv : Value} {A : Around} {outer : List PySem.Env} {s : Shared} {H : Hp} {E : XK} (bn : Bn mg) (hr : Room k (A.deeper (PyProof.Rows.envOfC "_law_take" (defScope s_l_take) s.heap.objs.size f cdv))) :
    PSs (cxOf CX0 P w K mg base N_l_take "_law_take" (defScope s_l_take) f cdv A outer s H E).nox (defBody s_l_take) (T_l_take K) :=
  have nd := sc_l_take.nd
  (pss_cons (ps_set (i := 2) nd rfl (by first | exact Or.inl rfl | exact Or.inr rfl) (pe_ix ix_any (pv 0) pe_int (fun _ _ => rfl)))
    (pss_cons (ps_set (i := 3) nd rfl (by first | exact Or.inl rfl | exact Or.inr rfl) (pe_op op_mod (pe_ix ix_any (pv 0) pe_int (fun _ _ => rfl)) (pe_callB cb_len (by rfl) bn.len_ (by decide +kernel) (pa_cons (pv 2) pa_nil))))
    (pss_cons (ps_set (i := 4) nd rfl (by first | exact Or.inl rfl | exact Or.inr rfl) (pe_ix ix_any (pv 2) (pv 3) (fun _ _ => rfl)))
    (pss_cons (ps_if (pt_cmpR op_ge (pv 4) pe_int (nomark _))
      (pss_cons (ps_asg (pe_op op_fdiv (pv 4) (pv 1)) (pg_sub (pv 2) (pv 3) set_list))
    (pss_one (ps_ret (pe_op op_mod (pv 4) (pv 1)))))
      pss_nil)
    (pss_cons (ps_asg (pe_op op_plus (pe_ix ix_any (pv 0) pe_int (fun _ _ => rfl)) pe_int) (pg_sub (pv 0) pe_int set_list))
    (pss_cons (ps_set (i := 5) nd rfl (by first | exact Or.inl rfl | exact Or.inr rfl) (pe_op op_mod (pe_callTy cb_int (by rfl) bn.int_ (by decide +kernel) (pa_cons (pe_op op_plus (pe_op op_mul (pv 4) pe_int) (pe_op op_mul (pe_ix ix_any (pv 0) pe_int (fun _ _ => rfl)) pe_int)) pa_nil)) pe_int))
    (pss_cons (ps_set (i := 5) nd rfl (by first | exact Or.inl rfl | exact Or.inr rfl) (pe_op op_mod (pe_callTy cb_int (by rfl) bn.int_ (by decide +kernel) (pa_cons (pe_op op_plus (pe_op op_mul (pv 5) pe_int) (pe_op op_mul (pe_ix ix_any (pv 0) pe_int (fun _ _ => rfl)) pe_int)) pa_nil)) pe_int))
    (pss_one (ps_ret (pe_op op_mod (pe_op op_fdiv (pv 5) pe_int) (pv 1)))))))))))
theorem ps_l_reach {cdv : Value} {A : Around} {outer : List PySem.Env} {s : Shared} {H : Hp} {E : XK} (bn : Bn mg) (hr : Room k (A.deeper (PyProof.Rows.envOfC "_law_reach" (defScope s_l_reach) s.heap.objs.size f cdv))) :
    PSs (cxOf CX0 P w K mg base N_l_reach "_law_reach" (defScope s_l_reach) f cdv A outer s H E).nox (defBody s_l_reach) (T_l_reach K) :=
  have nd := sc_l_reach.nd
  (pss_cons (ps_asg (pe_tup (pa_cons pe_int (pa_cons pe_int pa_nil))) (pg_tup (n := 2) rfl (pgs_cons (pg_name (i := 2) nd rfl (by first | exact Or.inl rfl | exact Or.inr rfl)) (pgs_cons (pg_name (i := 3) nd rfl (by first | exact Or.inl rfl | exact Or.inr rfl)) pgs_nil))))
    (pss_cons (ps_for PassesOwn.never rfl (pi_range1 (by rfl) bn.range_ (pa_cons (pe_op op_plus (pe_callB (cb_min2 rfl) (by rfl) bn.min_ (by decide +kernel) (pa_cons (pv 0) (pa_cons (pv 1) pa_nil))) pe_int) pa_nil)) (pg_name (i := 4) nd rfl (by first | exact Or.inl rfl | exact Or.inr rfl))
      (pss_cons (ps_set (i := 2) nd rfl (by first | exact Or.inl rfl | exact Or.inr rfl) (pe_op op_plus (pv 2) (pv 3)))
    (pss_one (ps_set (i := 3) nd rfl (by first | exact Or.inl rfl | exact Or.inr rfl) (pe_op op_fdiv (pe_op op_mul (pv 3) (pe_op op_sub (pv 0) (pv 4))) (pe_op op_plus (pv 4) pe_int))))))
    (pss_one (ps_ret (pv 2)))))
theorem ok_l_reach {R : List D → (D → Prop) → Prop} (F : Fun K "_law_reach" "_law_reach" s_l_reach f fd) (bn : Bn mg) (len : ∀ ds Z, R ds Z → ds.length = 2) (sx : ∀ ds Z, R ds Z → SX (T_l_reach K) (startE N_l_reach ds) { nx := fun _ => Z .none, rt := fun d _ => Z d }) :
    FnOk P w K mg base CX0 (k + 1) f fd ["shots", "shells"] (spP R) := fn_pure F sc_l_reach len fun cdv A outer s H E hr => ⟨_, ps_l_reach bn hr, sx⟩
theorem ps_l_plan_fault {cdv : Value} {A : Around} {outer : List PySem.Env} {s : Shared} {H : Hp} {E : XK} (bn : Bn mg) (hr : Room k (A.deeper (PyProof.Rows.envOfC "_law_plan_fault" (defScope s_l_plan_fault) s.heap.objs.size f cdv))) {R_l_plan_fault : List D → (D → Prop) → Prop} {k_l_plan_fault : Nat} (C_l_plan_fault : Cal P w K mg base "_law_plan_fault" ["low", "high", "shots", "shells", "path", "plan"] (spP R_l_plan_fault) k_l_plan_fault) (h_l_plan_fault : k_l_plan_fault ≤ k) :
    PSs (cxOf CX0 P w K mg base N_l_plan_fault "_law_plan_fault" (defScope s_l_plan_fault) f cdv A outer s H E).nox (defBody s_l_plan_fault) (T_l_plan_fault K R_l_plan_fault) :=
  have nd := sc_l_plan_fault.nd
  (pss_cons (ps_if (pt_cmpR (op_eqP hr.units) (pe_ix ix_any (pv 5) pe_int (fun _ _ => rfl)) pe_str (nomark _))
      (pss_one (ps_ret (pe_ifExp (PW.pt (pw_and (pt_cmpR (op_eqP hr.units) (pv 0) (pv 1) (nomark _)) (pw_and1 (pt_cmpR (op_eqP hr.units) (pe_ix ix_any (pv 5) pe_int (fun _ _ => rfl)) (pv 0) (nomark _))))) pe_non (pe_tup (pa_cons pe_str (pa_cons (pv 4) pa_nil))))))
      pss_nil)
    (pss_cons (ps_if (pt_cmpR (op_eqP hr.units) (pv 2) pe_int (nomark _))
      (pss_one (ps_ret (pe_tup (pa_cons pe_str (pa_cons (pv 4) pa_nil)))))
      pss_nil)
    (pss_cons (ps_if (pt_cmpR (op_eqP hr.units) (pv 3) pe_int (nomark _))
      (pss_one (ps_ret (pe_tup (pa_cons pe_str (pa_cons (pv 4) pa_nil)))))
      pss_nil)
    (pss_cons (ps_if (pt_not (pt_chain op_lt op_le (pv 0) (pe_ix ix_any (pv 5) pe_int (fun _ _ => rfl)) (pv 1)))
      (pss_one (ps_ret (pe_tup (pa_cons pe_str (pa_cons (pv 4) pa_nil)))))
      pss_nil)
    (pss_cons (ps_set (i := 6) nd rfl (by first | exact Or.inl rfl | exact Or.inr rfl) (pe_cal C_l_plan_fault (hr.mono h_l_plan_fault) (by rfl) (pa_cons (pv 0) (pa_cons (pe_op op_sub (pe_ix ix_any (pv 5) pe_int (fun _ _ => rfl)) pe_int) (pa_cons (pe_op op_sub (pv 2) pe_int) (pa_cons (pe_op op_sub (pv 3) pe_int) (pa_cons (pe_op op_plus (pv 4) (pe_lst (pa_cons pe_int pa_nil))) (pa_cons (pe_ix ix_any (pv 5) pe_int (fun _ _ => rfl)) pa_nil))))))))
    (pss_cons (ps_if (pt_cmpR op_isnt (pv 6) pe_non (nomark _))
      (pss_one (ps_ret (pv 6)))
      pss_nil)
    (pss_one (ps_ret (pe_cal C_l_plan_fault (hr.mono h_l_plan_fault) (by rfl) (pa_cons (pe_ix ix_any (pv 5) pe_int (fun _ _ => rfl)) (pa_cons (pv 1) (pa_cons (pe_op op_sub (pv 2) pe_int) (pa_cons (pv 3) (pa_cons (pe_op op_plus (pv 4) (pe_lst (pa_cons pe_int pa_nil))) (pa_cons (pe_ix ix_any (pv 5) pe_int (fun _ _ => rfl)) pa_nil)))))))))))))))
theorem ok_l_plan_fault {R : List D → (D → Prop) → Prop} (F : Fun K "_law_plan_fault" "_law_plan_fault" s_l_plan_fault f fd) (bn : Bn mg) {R_l_plan_fault : List D → (D → Prop) → Prop} {k_l_plan_fault : Nat} (C_l_plan_fault : Cal P w K mg base "_law_plan_fault" ["low", "high", "shots", "shells", "path", "plan"] (spP R_l_plan_fault) k_l_plan_fault) (h_l_plan_fault : k_l_plan_fault ≤ k) (len : ∀ ds Z, R ds Z → ds.length = 6) (sx : ∀ ds Z, R ds Z → SX (T_l_plan_fault K R_l_plan_fault) (startE N_l_plan_fault ds) { nx := fun _ => Z .none, rt := fun d _ => Z d }) :
    FnOk P w K mg base CX0 (k + 1) f fd ["low", "high", "shots", "shells", "path", "plan"] (spP R) := fn_pure F sc_l_plan_fault len fun cdv A outer s H E hr => ⟨_, ps_l_plan_fault bn hr C_l_plan_fault h_l_plan_fault, sx⟩
theorem ps_l_fault {cdv : Value} {A : Around} {outer : List PySem.Env} {s : Shared} {H : Hp} {E : XK} (bn : Bn mg) (hr : Room k (A.deeper (PyProof.Rows.envOfC "_law_fault" (defScope s_l_fault) s.heap.objs.size f cdv))) {R_l_plan_fault : List D → (D → Prop) → Prop} {k_l_plan_fault : Nat} (C_l_plan_fault : Cal P w K mg base "_law_plan_fault" ["low", "high", "shots", "shells", "path", "plan"] (spP R_l_plan_fault) k_l_plan_fault) (h_l_plan_fault : k_l_plan_fault ≤ k) {R_l_reach : List D → (D → Prop) → Prop} {k_l_reach : Nat} (C_l_reach : Cal P w K mg base "_law_reach" ["shots", "shells"] (spP R_l_reach) k_l_reach) (h_l_reach : k_l_reach ≤ k) :
    PSs (cxOf CX0 P w K mg base N_l_fault "_law_fault" (defScope s_l_fault) f cdv A outer s H E).nox (defBody s_l_fault) (T_l_fault K R_l_plan_fault R_l_reach) :=
  have nd := sc_l_fault.nd
  (pss_cons (ps_asg (pv 2) (pg_tup (n := 2) rfl (pgs_cons (pg_name (i := 3) nd rfl (by first | exact Or.inl rfl | exact Or.inr rfl)) (pgs_cons (pg_name (i := 4) nd rfl (by first | exact Or.inl rfl | exact Or.inr rfl)) pgs_nil))))
    (pss_cons (ps_if (pt_cmpR op_lt (pv 3) pe_int (nomark _))
      (pss_one (ps_ret (pe_tup (pa_cons pe_str pa_nil))))
      pss_nil)
    (pss_cons (ps_set (i := 5) nd rfl (by first | exact Or.inl rfl | exact Or.inr rfl) (pe_cal C_l_plan_fault (hr.mono h_l_plan_fault) (by rfl) (pa_cons pe_int (pa_cons (pv 0) (pa_cons (pv 3) (pa_cons (pv 1) (pa_cons (pe_lst pa_nil) (pa_cons (pv 4) pa_nil))))))))
    (pss_cons (ps_if (pt_cmpR op_isnt (pv 5) pe_non (nomark _))
      (pss_one (ps_ret (pe_tup (pa_cons pe_str (pa_cons (pv 5) pa_nil)))))
      pss_nil)
    (pss_one (ps_ret (pe_ifExp (PW.pt (pw_or (pt_cmpR (op_eqP hr.units) (pv 3) pe_int (nomark _)) (pw_or1 (pt_cmpR op_le (pe_cal C_l_reach (hr.mono h_l_reach) (by rfl) (pa_cons (pe_op op_sub (pv 3) pe_int) (pa_cons (pv 1) pa_nil))) (pv 0) (nomark _))))) pe_non (pe_tup (pa_cons pe_str pa_nil)))))))))
theorem ok_l_fault {R : List D → (D → Prop) → Prop} (F : Fun K "_law_fault" "_law_fault" s_l_fault f fd) (bn : Bn mg) {R_l_plan_fault : List D → (D → Prop) → Prop} {k_l_plan_fault : Nat} (C_l_plan_fault : Cal P w K mg base "_law_plan_fault" ["low", "high", "shots", "shells", "path", "plan"] (spP R_l_plan_fault) k_l_plan_fault) (h_l_plan_fault : k_l_plan_fault ≤ k) {R_l_reach : List D → (D → Prop) → Prop} {k_l_reach : Nat} (C_l_reach : Cal P w K mg base "_law_reach" ["shots", "shells"] (spP R_l_reach) k_l_reach) (h_l_reach : k_l_reach ≤ k) (len : ∀ ds Z, R ds Z → ds.length = 3) (sx : ∀ ds Z, R ds Z → SX (T_l_fault K R_l_plan_fault R_l_reach) (startE N_l_fault ds) { nx := fun _ => Z .none, rt := fun d _ => Z d }) :
    FnOk P w K mg base CX0 (k + 1) f fd ["charges", "shells", "told"] (spP R) := fn_pure F sc_l_fault len fun cdv A outer s H E hr => ⟨_, ps_l_fault bn hr C_l_plan_fault h_l_plan_fault C_l_reach h_l_reach, sx⟩
theorem ps_l_least {cdv : Value} {A : Around} {outer : List PySem.Env} {s : Shared} {H : Hp} {E : XK} (bn : Bn mg) (hr : Room k (A.deeper (PyProof.Rows.envOfC "_law_least" (defScope s_l_least) s.heap.objs.size f cdv))) :
    PSs (cxOf CX0 P w K mg base N_l_least "_law_least" (defScope s_l_least) f cdv A outer s H E).nox (defBody s_l_least) (T_l_least K) :=
  have nd := sc_l_least.nd
  (pss_cons (ps_set (i := 2) nd rfl (by first | exact Or.inl rfl | exact Or.inr rfl) (pe_lst (pa_cons (pe_lc (own := [("shells", 3)]) (g := (gName 3)) (tt := tYes) rfl nd (pi_range1 (by rfl) bn.range_ (pa_cons (pe_op op_plus (pv 1) pe_int) pa_nil)) (blkOk_by (N := N_l_least) (sc := defScope s_l_least) (by decide +kernel)) (fun _ _ _ _ _ => (pg_name (i := 3) nd rfl (by first | exact Or.inl rfl | exact Or.inr rfl))) (fun _ _ _ _ _ => pts_nil) (fun _ _ _ _ _ => pe_int)) pa_nil)))
    (pss_cons (ps_for PassesOwn.never rfl (pi_range2 (by rfl) bn.range_ (pa_cons pe_int (pa_cons (pe_op op_plus (pv 0) pe_int) pa_nil))) (pg_name (i := 4) nd rfl (by first | exact Or.inl rfl | exact Or.inr rfl))
      (pss_cons (ps_set (i := 5) nd rfl (by first | exact Or.inl rfl | exact Or.inr rfl) (pe_lst (pa_cons pe_non pa_nil)))
    (pss_cons (ps_for PassesOwn.never rfl (pi_range2 (by rfl) bn.range_ (pa_cons pe_int (pa_cons (pe_op op_plus (pv 1) pe_int) pa_nil))) (pg_name (i := 3) nd rfl (by first | exact Or.inl rfl | exact Or.inr rfl))
      (pss_cons (ps_set (i := 6) nd rfl (by first | exact Or.inl rfl | exact Or.inr rfl) pe_non)
    (pss_cons (ps_for PassesOwn.never rfl (pi_range2 (by rfl) bn.range_ (pa_cons pe_int (pa_cons (pe_op op_plus (pv 4) pe_int) pa_nil))) (pg_name (i := 7) nd rfl (by first | exact Or.inl rfl | exact Or.inr rfl))
      (pss_cons (ps_set (i := 8) nd rfl (by first | exact Or.inl rfl | exact Or.inr rfl) (pe_ix ix_any (pe_ix ix_any (pv 2) (pe_op op_sub (pv 7) pe_int) (fun _ _ => rfl)) (pe_op op_sub (pv 3) pe_int) (fun _ _ => rfl)))
    (pss_cons (ps_set (i := 9) nd rfl (by first | exact Or.inl rfl | exact Or.inr rfl) (pe_ix ix_any (pe_ix ix_any (pv 2) (pe_op op_sub (pv 4) (pv 7)) (fun _ _ => rfl)) (pv 3) (fun _ _ => rfl)))
    (pss_one (ps_if (pt_cmpR op_isnt (pv 8) pe_non (nomark _))
      (pss_cons (ps_set (i := 10) nd rfl (by first | exact Or.inl rfl | exact Or.inr rfl) (pe_op op_plus pe_int (pe_callB (cb_max2 rfl) (by rfl) bn.max_ (by decide +kernel) (pa_cons (pv 8) (pa_cons (pv 9) pa_nil)))))
    (pss_one (ps_set (i := 6) nd rfl (by first | exact Or.inl rfl | exact Or.inr rfl) (pe_ifExp (PW.pt (pw_or (pt_cmpR op_is (pv 6) pe_non (nomark _)) (pw_or1 (pt_cmpR op_lt (pv 10) (pv 6) (nomark _))))) (pv 10) (pv 6)))))
      pss_nil)))))
    (pss_one (ps_expr (pe_bm PySem.F.plainAttrs_list PySem.F.slot_list_append PySem.F.type_list_append mt_append (pv 5) (pa_cons (pv 6) pa_nil)))))))
    (pss_one (ps_expr (pe_bm PySem.F.plainAttrs_list PySem.F.slot_list_append PySem.F.type_list_append mt_append (pv 2) (pa_cons (pv 5) pa_nil)))))))
    (pss_one (ps_ret (pv 2)))))
theorem ok_l_least {R : List D → (D → Prop) → Prop} (F : Fun K "_law_least" "_law_least" s_l_least f fd) (bn : Bn mg) (len : ∀ ds Z, R ds Z → ds.length = 2) (sx : ∀ ds Z, R ds Z → SX (T_l_least K) (startE N_l_least ds) { nx := fun _ => Z .none, rt := fun d _ => Z d }) :
    FnOk P w K mg base CX0 (k + 1) f fd ["charges", "most"] (spP R) := fn_pure F sc_l_least len fun cdv A outer s H E hr => ⟨_, ps_l_least bn hr, sx⟩
theorem ps_l_bent {cdv : Value} {A : Around} {outer : List PySem.Env} {s : Shared} {H : Hp} {E : XK} (bn : Bn mg) (hr : Room k (A.deeper (PyProof.Rows.envOfC "_law_bent" (defScope s_l_bent) s.heap.objs.size f cdv))) {R_l_take : Stt → List D → (D → Stt → Prop) → Prop} {k_l_take : Nat} (C_l_take : Cal P w K mg base "_law_take" ["state", "most"] (spS R_l_take) k_l_take) (h_l_take : k_l_take ≤ k) {R_l_bent : Stt → List D → (D → Stt → Prop) → Prop} {k_l_bent : Nat} (C_l_bent : Cal P w K mg base "_law_bent" ["state", "charges", "plan"] (spS R_l_bent) k_l_bent) (h_l_bent : k_l_bent ≤ k) :
    PSs (cxOf CX0 P w K mg base N_l_bent "_law_bent" (defScope s_l_bent) f cdv A outer s H E).nox (defBody s_l_bent) (T_l_bent K R_l_take R_l_bent) :=
  have nd := sc_l_bent.nd
  (pss_cons (ps_if (PW.pt (pw_and (pt_cmpR (op_eqP hr.units) (pe_ix ix_any (pv 2) pe_int (fun _ _ => rfl)) pe_str (nomark _)) (pw_and1 (pt_cmpR op_gt (pe_cal C_l_take (hr.mono h_l_take) (by rfl) (pa_cons (pv 0) (pa_cons pe_int pa_nil))) pe_int (nomark _)))))
      (pss_cons (ps_set (i := 3) nd rfl (by first | exact Or.inl rfl | exact Or.inr rfl) (pe_op op_plus pe_int (pe_cal C_l_take (hr.mono h_l_take) (by rfl) (pa_cons (pv 0) (pa_cons pe_int pa_nil)))))
    (pss_one (ps_ret (pe_op op_plus (pe_op op_plus (pe_slice sl_any (pv 2) po_none (po_some (pv 3))) (pe_tup (pa_cons (pe_cal C_l_bent (hr.mono h_l_bent) (by rfl) (pa_cons (pv 0) (pa_cons (pv 1) (pa_cons (pe_ix ix_any (pv 2) (pv 3) (fun _ _ => rfl)) pa_nil)))) pa_nil))) (pe_slice sl_any (pv 2) (po_some (pe_op op_plus (pv 3) pe_int)) po_none)))))
      pss_nil)
    (pss_cons (ps_if (pt_cmpR (op_eqP hr.units) (pe_ix ix_any (pv 2) pe_int (fun _ _ => rfl)) pe_str (nomark _))
      (pss_one (ps_ret (pe_ix ix_any (pe_lst (pa_cons (pe_tup (pa_cons pe_str (pa_cons (pe_op op_plus (pe_ix ix_any (pv 2) pe_int (fun _ _ => rfl)) pe_int) pa_nil))) (pa_cons (pe_tup (pa_cons pe_str (pa_cons (pe_ix ix_any (pv 2) pe_int (fun _ _ => rfl)) (pa_cons (pv 2) (pa_cons (pv 2) pa_nil))))) pa_nil))) (pe_cal C_l_take (hr.mono h_l_take) (by rfl) (pa_cons (pv 0) (pa_cons pe_int pa_nil))) (fun _ _ => rfl))))
      pss_nil)
    (pss_one (ps_ret (pe_ix ix_any (pe_lst (pa_cons (pe_op op_plus (pe_tup (pa_cons pe_str (pa_cons (pe_op op_plus (pe_ix ix_any (pv 2) pe_int (fun _ _ => rfl)) pe_int) pa_nil))) (pe_slice sl_any (pv 2) (po_some pe_int) po_none)) (pa_cons (pe_op op_plus (pe_slice sl_any (pv 2) po_none (po_some pe_int)) (pe_tup (pa_cons (pe_ix ix_any (pv 2) pe_int (fun _ _ => rfl)) (pa_cons (pe_ix ix_any (pv 2) pe_int (fun _ _ => rfl)) pa_nil)))) (pa_cons (pe_ix ix_any (pv 2) pe_int (fun _ _ => rfl)) (pa_cons (pe_op op_plus (pe_tup (pa_cons pe_str (pa_cons (pe_cal C_l_take (hr.mono h_l_take) (by rfl) (pa_cons (pv 0) (pa_cons (pe_op op_plus (pv 1) pe_int) pa_nil))) pa_nil))) (pe_slice sl_any (pv 2) (po_some pe_int) po_none)) pa_nil))))) (pe_cal C_l_take (hr.mono h_l_take) (by rfl) (pa_cons (pv 0) (pa_cons pe_int pa_nil))) (fun _ _ => rfl))))))
theorem ok_l_bent {R : Stt → List D → (D → Stt → Prop) → Prop} (F : Fun K "_law_bent" "_law_bent" s_l_bent f fd) (bn : Bn mg) {R_l_take : Stt → List D → (D → Stt → Prop) → Prop} {k_l_take : Nat} (C_l_take : Cal P w K mg base "_law_take" ["state", "most"] (spS R_l_take) k_l_take) (h_l_take : k_l_take ≤ k) {R_l_bent : Stt → List D → (D → Stt → Prop) → Prop} {k_l_bent : Nat} (C_l_bent : Cal P w K mg base "_law_bent" ["state", "charges", "plan"] (spS R_l_bent) k_l_bent) (h_l_bent : k_l_bent ≤ k) (len : ∀ S ds Z, R S ds Z → ds.length + 1 = 3) (sx : ∀ S ds Z, R S ds Z → SX (T_l_bent K R_l_take R_l_bent) (.st S :: (ds.map .val ++ List.replicate (N_l_bent.length - (ds.length + 1)) .emp)) { nx := fun ρ' => ∃ S', ρ'[0]? = some (.st S') ∧ Z .none S', rt := fun d ρ' => ∃ S', ρ'[0]? = some (.st S') ∧ Z d S' }) :
    FnOk P w K mg base CX0 (k + 1) f fd ["state", "charges", "plan"] (spS R) := fn_state F sc_l_bent len fun cdv A outer s H E hr => ⟨_, ps_l_bent bn hr C_l_take h_l_take C_l_bent h_l_bent, sx⟩
theorem ps_law {cdv : Value} {A : Around} {outer : List PySem.Env} {s : Shared} {H : Hp} {E : XK} (bn : Bn mg) (hr : Room k (A.deeper (PyProof.Rows.envOfC "law" (defScope s_law) s.heap.objs.size f cdv))) {R_l_state : List D → (Stt → Prop) → Prop} {k_l_state : Nat} (C_l_state : Cal P w K mg base "_law_state" ["script"] (spN R_l_state) k_l_state) (h_l_state : k_l_state ≤ k) {R_l_least : List D → (D → Prop) → Prop} {k_l_least : Nat} (C_l_least : Cal P w K mg base "_law_least" ["charges", "most"] (spP R_l_least) k_l_least) (h_l_least : k_l_least ≤ k) {R_trial : List D → (D → Prop) → Prop} {k_trial : Nat} (C_trial : Cal P w K mg base "trial" ["charges", "shells"] (spP R_trial) k_trial) (h_trial : k_trial ≤ k) {R_l_take : Stt → List D → (D → Stt → Prop) → Prop} {k_l_take : Nat} (C_l_take : Cal P w K mg base "_law_take" ["state", "most"] (spS R_l_take) k_l_take) (h_l_take : k_l_take ≤ k) {R_shot : List D → (D → Prop) → Prop} {k_shot : Nat} (C_shot : Cal P w K mg base "shot" ["plan", "holds"] (spP R_shot) k_shot) (h_shot : k_shot ≤ k) {R_worth_it : List D → (D → Prop) → Prop} {k_worth_it : Nat} (C_worth_it : Cal P w K mg base "worth_it" ["charges", "price", "cost"] (spP R_worth_it) k_worth_it) (h_worth_it : k_worth_it ≤ k) {R_least_shots : List D → (D → Prop) → Prop} {k_least_shots : Nat} (C_least_shots : Cal P w K mg base "least_shots" ["charges", "shells"] (spP R_least_shots) k_least_shots) (h_least_shots : k_least_shots ≤ k) {R_l_fault : List D → (D → Prop) → Prop} {k_l_fault : Nat} (C_l_fault : Cal P w K mg base "_law_fault" ["charges", "shells", "told"] (spP R_l_fault) k_l_fault) (h_l_fault : k_l_fault ≤ k) {R_trial_fault : List D → (D → Prop) → Prop} {k_trial_fault : Nat} (C_trial_fault : Cal P w K mg base "trial_fault" ["charges", "shells", "told"] (spP R_trial_fault) k_trial_fault) (h_trial_fault : k_trial_fault ≤ k) {R_broken_by : List D → (D → Prop) → Prop} {k_broken_by : Nat} (C_broken_by : Cal P w K mg base "broken_by" ["plan", "holds"] (spP R_broken_by) k_broken_by) (h_broken_by : k_broken_by ≤ k) {R_reach : List D → (D → Prop) → Prop} {k_reach : Nat} (C_reach : Cal P w K mg base "reach" ["shots", "shells"] (spP R_reach) k_reach) (h_reach : k_reach ≤ k) {R_l_reach : List D → (D → Prop) → Prop} {k_l_reach : Nat} (C_l_reach : Cal P w K mg base "_law_reach" ["shots", "shells"] (spP R_l_reach) k_l_reach) (h_l_reach : k_l_reach ≤ k) {R_l_bent : Stt → List D → (D → Stt → Prop) → Prop} {k_l_bent : Nat} (C_l_bent : Cal P w K mg base "_law_bent" ["state", "charges", "plan"] (spS R_l_bent) k_l_bent) (h_l_bent : k_l_bent ≤ k) :
    PSs (cxOf CX0 P w K mg base N_law "law" (defScope s_law) f cdv A outer s H E).nox (defBody s_law) (T_law K R_l_state R_l_least R_trial R_l_take R_shot R_worth_it R_least_shots R_l_fault R_trial_fault R_broken_by R_reach R_l_reach R_l_bent) :=
  have nd := sc_law.nd
  (pss_cons (ps_set (i := 1) nd rfl (by first | exact Or.inl rfl | exact Or.inr rfl) (pe_cal C_l_state (hr.mono h_l_state) (by rfl) (pa_cons (pv 0) pa_nil)))
    (pss_cons (ps_asg (pe_tup (pa_cons (pe_cal C_l_take (hr.mono h_l_take) (by rfl) (pa_cons (pv 1) (pa_cons pe_int pa_nil))) (pa_cons (pe_op op_plus pe_int (pe_cal C_l_take (hr.mono h_l_take) (by rfl) (pa_cons (pv 1) (pa_cons pe_int pa_nil)))) pa_nil))) (pg_tup (n := 2) rfl (pgs_cons (pg_name (i := 2) nd rfl (by first | exact Or.inl rfl | exact Or.inr rfl)) (pgs_cons (pg_name (i := 3) nd rfl (by first | exact Or.inl rfl | exact Or.inr rfl)) pgs_nil))))
    (pss_cons (ps_set (i := 4) nd rfl (by first | exact Or.inl rfl | exact Or.inr rfl) (pe_cal C_l_least (hr.mono h_l_least) (by rfl) (pa_cons (pv 2) (pa_cons (pe_callB (cb_max2 rfl) (by rfl) bn.max_ (by decide +kernel) (pa_cons (pv 3) (pa_cons (pv 2) pa_nil))) pa_nil))))
    (pss_cons (ps_set (i := 5) nd rfl (by first | exact Or.inl rfl | exact Or.inr rfl) (pe_cal C_trial (hr.mono h_trial) (by rfl) (pa_cons (pv 2) (pa_cons (pv 3) pa_nil))))
    (pss_cons (ps_if (PW.pt (pw_or (pt_not (pt_val (pe_callB RZ.call_isTy (by rfl) bn.isinstance_ (by decide +kernel) (pa_cons (pv 5) (pa_cons (pe_bltn (v := .ty "tuple") (u := .type "tuple") (by rfl) bn.tuple_ (by decide +kernel) rfl) pa_nil))))) (pw_or (pt_cmpR (op_neP hr.units) (pe_ix ix_any (pv 5) pe_int (fun _ _ => rfl)) (pe_ix ix_any (pe_ix ix_any (pv 4) (pv 2) (fun _ _ => rfl)) (pv 3) (fun _ _ => rfl)) (nomark _)) (pw_or1 (pt_cmpR (op_neP hr.units) (pe_cal C_least_shots (hr.mono h_least_shots) (by rfl) (pa_cons (pv 2) (pa_cons (pv 3) pa_nil))) (pe_ix ix_any (pv 5) pe_int (fun _ _ => rfl)) (nomark _))))))
      (pss_one (ps_ret pe_bl))
      pss_nil)
    (pss_cons (ps_if (PW.pt (pw_or (pt_cmpR op_isnt (pe_cal C_l_fault (hr.mono h_l_fault) (by rfl) (pa_cons (pv 2) (pa_cons (pv 3) (pa_cons (pv 5) pa_nil)))) pe_non (nomark _)) (pw_or1 (pt_cmpR op_isnt (pe_cal C_trial_fault (hr.mono h_trial_fault) (by rfl) (pa_cons (pv 2) (pa_cons (pv 3) (pa_cons (pv 5) pa_nil)))) pe_non (nomark _)))))
      (pss_one (ps_ret pe_bl))
      pss_nil)
    (pss_cons (ps_for PassesOwn.never rfl (pi_range1 (by rfl) bn.range_ (pa_cons (pe_op op_plus (pv 2) pe_int) pa_nil)) (pg_name (i := 6) nd rfl (by first | exact Or.inl rfl | exact Or.inr rfl))
      (pss_cons (ps_asg (pe_cal C_shot (hr.mono h_shot) (by rfl) (pa_cons (pe_ix ix_any (pv 5) pe_int (fun _ _ => rfl)) (pa_cons (pv 6) pa_nil))) (pg_tup (n := 2) rfl (pgs_cons (pg_name (i := 7) nd rfl (by first | exact Or.inl rfl | exact Or.inr rfl)) (pgs_cons (pg_name (i := 8) nd rfl (by first | exact Or.inl rfl | exact Or.inr rfl)) pgs_nil))))
    (pss_cons (ps_if (PW.pt (pw_or (pt_cmpR (op_neP hr.units) (pv 8) (pv 6) (nomark _)) (pw_or (pt_cmpR op_gt (pe_callB cb_len (by rfl) bn.len_ (by decide +kernel) (pa_cons (pv 7) pa_nil)) (pe_ix ix_any (pv 5) pe_int (fun _ _ => rfl)) (nomark _)) (pw_or1 (pt_cmpR (op_neP hr.units) (pe_cal C_broken_by (hr.mono h_broken_by) (by rfl) (pa_cons (pe_ix ix_any (pv 5) pe_int (fun _ _ => rfl)) (pa_cons (pv 6) pa_nil))) (pe_callB cb_len (by rfl) bn.len_ (by decide +kernel) (pa_cons (pe_lc (own := [("one", 9)]) (g := (gName 9)) (tt := (tTest (tOp (rI0 fun i j => .bl (decide (j < i))) (tVar 9) (tVar 6)))) rfl nd (pi_list (pv 7)) (blkOk_by (N := N_law) (sc := defScope s_law) (by decide +kernel)) (fun _ _ _ _ _ => (pg_name (i := 9) nd rfl (by first | exact Or.inl rfl | exact Or.inr rfl))) (fun _ _ _ _ _ => (pts_one (pt_cmpR op_gt (pv 9) (pv 6) (nomark _)))) (fun _ _ _ _ _ => (pv 9))) pa_nil)) (nomark _))))))
      (pss_one (ps_ret pe_bl))
      pss_nil)
    (pss_one (ps_if (pt_cmpR op_gt (pe_cal C_broken_by (hr.mono h_broken_by) (by rfl) (pa_cons (pe_ix ix_any (pv 5) pe_int (fun _ _ => rfl)) (pa_cons (pv 6) pa_nil))) (pv 3) (nomark _))
      (pss_one (ps_ret pe_bl))
      pss_nil)))))
    (pss_cons (ps_for PassesOwn.never rfl (pi_range1 (by rfl) bn.range_ (pa_cons pe_int pa_nil)) (pg_name (i := 10) nd rfl (by first | exact Or.inl rfl | exact Or.inr rfl))
      (pss_one (ps_if (pt_cmpR (op_neP hr.units) (pe_cal C_reach (hr.mono h_reach) (by rfl) (pa_cons (pv 10) (pa_cons (pv 3) pa_nil))) (pe_cal C_l_reach (hr.mono h_l_reach) (by rfl) (pa_cons (pv 10) (pa_cons (pv 3) pa_nil))) (nomark _))
      (pss_one (ps_ret pe_bl))
      pss_nil)))
    (pss_cons (ps_asg (pe_tup (pa_cons (pe_cal C_l_take (hr.mono h_l_take) (by rfl) (pa_cons (pv 1) (pa_cons pe_int pa_nil))) (pa_cons (pe_cal C_l_take (hr.mono h_l_take) (by rfl) (pa_cons (pv 1) (pa_cons pe_int pa_nil))) pa_nil))) (pg_tup (n := 2) rfl (pgs_cons (pg_name (i := 11) nd rfl (by first | exact Or.inl rfl | exact Or.inr rfl)) (pgs_cons (pg_name (i := 12) nd rfl (by first | exact Or.inl rfl | exact Or.inr rfl)) pgs_nil))))
    (pss_cons (ps_setLc (i := 13) (own := [("k", 14)]) (g := (gName 14)) (tt := tYes) rfl nd rfl rfl (sw_true rfl rfl rfl (by decide +kernel)) (pi_range2 (by rfl) bn.range_ (pa_cons pe_int (pa_cons (pe_op op_plus (pv 2) pe_int) pa_nil))) (blkOk_by (N := N_law) (sc := defScope s_law) (by decide +kernel)) (fun _ _ _ _ _ => (pg_name (i := 14) nd rfl (by first | exact Or.inl rfl | exact Or.inr rfl))) (fun _ _ _ _ _ => pts_nil) (fun _ _ _ _ _ => (pe_tup (pa_cons (pe_op op_plus (pe_op op_mul (pe_ix ix_any (pe_ix ix_any (pv 4) (pv 2) (fun _ _ => rfl)) (pv 14) (fun _ _ => rfl)) (pv 12)) (pe_op op_mul (pe_callB (cb_min2 rfl) (by rfl) bn.min_ (by decide +kernel) (pa_cons (pv 14) (pa_cons (pe_ix ix_any (pe_ix ix_any (pv 4) (pv 2) (fun _ _ => rfl)) (pv 14) (fun _ _ => rfl)) pa_nil))) (pv 11))) (pa_cons (pv 14) pa_nil)))))
    (pss_cons (ps_if (pt_cmpR (op_neP hr.units) (pe_cal C_worth_it (hr.mono h_worth_it) (by rfl) (pa_cons (pv 2) (pa_cons (pv 11) (pa_cons (pv 12) pa_nil)))) (pe_ifExp (pt_cmpR op_gt (pe_callB cb_len (by rfl) bn.len_ (by decide +kernel) (pa_cons (pv 13) pa_nil)) pe_int (nomark _)) (pe_tup (pa_cons (pe_ix ix_any (pe_callB (cb_minD rfl hr.units) (by rfl) bn.min_ (by decide +kernel) (pa_cons (pv 13) pa_nil)) pe_int (fun _ _ => rfl)) (pa_cons (pe_ix ix_any (pe_ix ix_any (pv 4) (pv 2) (fun _ _ => rfl)) (pe_ix ix_any (pe_callB (cb_minD rfl hr.units) (by rfl) bn.min_ (by decide +kernel) (pa_cons (pv 13) pa_nil)) pe_int (fun _ _ => rfl)) (fun _ _ => rfl)) (pa_cons (pe_ix ix_any (pe_callB (cb_minD rfl hr.units) (by rfl) bn.min_ (by decide +kernel) (pa_cons (pv 13) pa_nil)) pe_int (fun _ _ => rfl)) pa_nil)))) pe_non) (nomark _))
      (pss_one (ps_ret pe_bl))
      pss_nil)
    (pss_cons (ps_for PassesOwn.never rfl (pi_range1 (by rfl) bn.range_ (pa_cons pe_int pa_nil)) (pg_name (i := 15) nd rfl (by first | exact Or.inl rfl | exact Or.inr rfl))
      (pss_cons (ps_set (i := 16) nd rfl (by first | exact Or.inl rfl | exact Or.inr rfl) (pe_ifExp (pt_cmpR op_gt (pe_cal C_l_take (hr.mono h_l_take) (by rfl) (pa_cons (pv 1) (pa_cons pe_int pa_nil))) pe_int (nomark _)) (pe_tup (pa_cons (pe_ix ix_any (pv 5) pe_int (fun _ _ => rfl)) (pa_cons (pe_cal C_l_bent (hr.mono h_l_bent) (by rfl) (pa_cons (pv 1) (pa_cons (pv 2) (pa_cons (pe_ix ix_any (pv 5) pe_int (fun _ _ => rfl)) pa_nil)))) pa_nil))) (pe_tup (pa_cons (pe_op op_sub (pe_op op_plus (pe_ix ix_any (pv 5) pe_int (fun _ _ => rfl)) (pe_cal C_l_take (hr.mono h_l_take) (by rfl) (pa_cons (pv 1) (pa_cons pe_int pa_nil)))) pe_int) (pa_cons (pe_ix ix_any (pv 5) pe_int (fun _ _ => rfl)) pa_nil)))))
    (pss_one (ps_if (pt_cmpR (op_neP hr.units) (pe_cal C_trial_fault (hr.mono h_trial_fault) (by rfl) (pa_cons (pv 2) (pa_cons (pv 3) (pa_cons (pv 16) pa_nil)))) (pe_cal C_l_fault (hr.mono h_l_fault) (by rfl) (pa_cons (pv 2) (pa_cons (pv 3) (pa_cons (pv 16) pa_nil)))) (nomark _))
      (pss_one (ps_ret pe_bl))
      pss_nil))))
    (pss_one (ps_ret pe_bl))))))))))))))
theorem ok_law {R : List D → (D → Prop) → Prop} (F : Fun K "law" "law" s_law f fd) (bn : Bn mg) {R_l_state : List D → (Stt → Prop) → Prop} {k_l_state : Nat} (C_l_state : Cal P w K mg base "_law_state" ["script"] (spN R_l_state) k_l_state) (h_l_state : k_l_state ≤ k) {R_l_least : List D → (D → Prop) → Prop} {k_l_least : Nat} (C_l_least : Cal P w K mg base "_law_least" ["charges", "most"] (spP R_l_least) k_l_least) (h_l_least : k_l_least ≤ k) {R_trial : List D → (D → Prop) → Prop} {k_trial : Nat} (C_trial : Cal P w K mg base "trial" ["charges", "shells"] (spP R_trial) k_trial) (h_trial : k_trial ≤ k) {R_l_take : Stt → List D → (D → Stt → Prop) → Prop} {k_l_take : Nat} (C_l_take : Cal P w K mg base "_law_take" ["state", "most"] (spS R_l_take) k_l_take) (h_l_take : k_l_take ≤ k) {R_shot : List D → (D → Prop) → Prop} {k_shot : Nat} (C_shot : Cal P w K mg base "shot" ["plan", "holds"] (spP R_shot) k_shot) (h_shot : k_shot ≤ k) {R_worth_it : List D → (D → Prop) → Prop} {k_worth_it : Nat} (C_worth_it : Cal P w K mg base "worth_it" ["charges", "price", "cost"] (spP R_worth_it) k_worth_it) (h_worth_it : k_worth_it ≤ k) {R_least_shots : List D → (D → Prop) → Prop} {k_least_shots : Nat} (C_least_shots : Cal P w K mg base "least_shots" ["charges", "shells"] (spP R_least_shots) k_least_shots) (h_least_shots : k_least_shots ≤ k) {R_l_fault : List D → (D → Prop) → Prop} {k_l_fault : Nat} (C_l_fault : Cal P w K mg base "_law_fault" ["charges", "shells", "told"] (spP R_l_fault) k_l_fault) (h_l_fault : k_l_fault ≤ k) {R_trial_fault : List D → (D → Prop) → Prop} {k_trial_fault : Nat} (C_trial_fault : Cal P w K mg base "trial_fault" ["charges", "shells", "told"] (spP R_trial_fault) k_trial_fault) (h_trial_fault : k_trial_fault ≤ k) {R_broken_by : List D → (D → Prop) → Prop} {k_broken_by : Nat} (C_broken_by : Cal P w K mg base "broken_by" ["plan", "holds"] (spP R_broken_by) k_broken_by) (h_broken_by : k_broken_by ≤ k) {R_reach : List D → (D → Prop) → Prop} {k_reach : Nat} (C_reach : Cal P w K mg base "reach" ["shots", "shells"] (spP R_reach) k_reach) (h_reach : k_reach ≤ k) {R_l_reach : List D → (D → Prop) → Prop} {k_l_reach : Nat} (C_l_reach : Cal P w K mg base "_law_reach" ["shots", "shells"] (spP R_l_reach) k_l_reach) (h_l_reach : k_l_reach ≤ k) {R_l_bent : Stt → List D → (D → Stt → Prop) → Prop} {k_l_bent : Nat} (C_l_bent : Cal P w K mg base "_law_bent" ["state", "charges", "plan"] (spS R_l_bent) k_l_bent) (h_l_bent : k_l_bent ≤ k) (len : ∀ ds Z, R ds Z → ds.length = 1) (sx : ∀ ds Z, R ds Z → SX (T_law K R_l_state R_l_least R_trial R_l_take R_shot R_worth_it R_least_shots R_l_fault R_trial_fault R_broken_by R_reach R_l_reach R_l_bent) (startE N_law ds) { nx := fun _ => Z .none, rt := fun d _ => Z d }) :
    FnOk P w K mg base CX0 (k + 1) f fd ["script"] (spP R) := fn_pure F sc_law len fun cdv A outer s H E hr => ⟨_, ps_law bn hr C_l_state h_l_state C_l_least h_l_least C_trial h_trial C_l_take h_l_take C_shot h_shot C_worth_it h_worth_it C_least_shots h_least_shots C_l_fault h_l_fault C_trial_fault h_trial_fault C_broken_by h_broken_by C_reach h_reach C_l_reach h_l_reach C_l_bent h_l_bent, sx⟩
end
end Law_k70
namespace Law_k70
open PySem L2 Pu
section
variable {P : Program} {w : World} {K : PySem.W.Frag} {mg : Str → Option Value} {base : Heap} {f : Addr} {fd : FuncData} {k : Nat}
theorem len_l_least : ∀ ds Z, R_l_least ds Z → ds.length = 2 := by
  intro ds Z h
  unfold R_l_least at h
  repeat (obtain ⟨e, h⟩ := h; try subst e)
  all_goals rfl
theorem len_reach : ∀ ds Z, R_reach ds Z → ds.length = 2 := by
  intro ds Z h
  unfold R_reach at h
  repeat (obtain ⟨e, h⟩ := h; try subst e)
  all_goals rfl
theorem len_least_shots : ∀ ds Z, R_least_shots ds Z → ds.length = 2 := by
  intro ds Z h
  unfold R_least_shots at h
  repeat (obtain ⟨e, h⟩ := h; try subst e)
  all_goals rfl
theorem len_plan_for : ∀ (n : Nat) ds Z, R_plan_for n ds Z → ds.length = 4 := by
  intro n ds Z h
  unfold R_plan_for at h
  repeat (obtain ⟨e, h⟩ := h; try subst e)
  all_goals rfl
theorem len_trial : ∀ ds Z, R_trial ds Z → ds.length = 2 := by
  intro ds Z h
  unfold R_trial at h
  repeat (obtain ⟨e, h⟩ := h; try subst e)
  all_goals rfl
theorem len_shot : ∀ ds Z, R_shot ds Z → ds.length = 2 := by
  intro ds Z h
  unfold R_shot at h
  repeat (obtain ⟨e, h⟩ := h; try subst e)
  all_goals rfl
theorem len_worth_it : ∀ ds Z, R_worth_it ds Z → ds.length = 3 := by
  intro ds Z h
  unfold R_worth_it at h
  repeat (obtain ⟨e, h⟩ := h; try subst e)
  all_goals rfl
theorem len_l_plan_fault : ∀ (n : Nat) ds Z, R_pf n ds Z → ds.length = 6 := by
  intro n ds Z h
  unfold R_pf at h
  repeat (obtain ⟨e, h⟩ := h; try subst e)
  all_goals rfl
theorem len_l_reach : ∀ ds Z, R_reach ds Z → ds.length = 2 := by
  intro ds Z h
  unfold R_reach at h
  repeat (obtain ⟨e, h⟩ := h; try subst e)
  all_goals rfl
theorem len_l_fault : ∀ ds Z, R_trial_fault ds Z → ds.length = 3 := by
  intro ds Z h
  unfold R_trial_fault at h
  repeat (obtain ⟨e, h⟩ := h; try subst e)
  all_goals rfl
theorem len_plan_fault : ∀ (n : Nat) ds Z, R_pf n ds Z → ds.length = 6 := by
  intro n ds Z h
  unfold R_pf at h
  repeat (obtain ⟨e, h⟩ := h; try subst e)
  all_goals rfl
theorem len_trial_fault : ∀ ds Z, R_trial_fault ds Z → ds.length = 3 := by
  intro ds Z h
  unfold R_trial_fault at h
  repeat (obtain ⟨e, h⟩ := h; try subst e)
  all_goals rfl
theorem len_broken_by : ∀ ds Z, R_broken_by ds Z → ds.length = 2 := by
  intro ds Z h
  unfold R_broken_by at h
  repeat (obtain ⟨e, h⟩ := h; try subst e)
  all_goals rfl
theorem len_l_bent : ∀ (n : Nat) S ds Z, R_l_bent n S ds Z → ds.length + 1 = 3 := by
  intro n S ds Z h
  unfold R_l_bent at h
  repeat (obtain ⟨e, h⟩ := h; try subst e)
  all_goals rfl
theorem len_law : ∀ ds Z, R_law ds Z → ds.length = 1 := by
  intro ds Z h
  unfold R_law at h
  repeat (obtain ⟨e, h⟩ := h; try subst e)
  all_goals rfl
theorem rec_plan_for (F : Fun K "plan_for" "plan_for" s_plan_for f fd) (hm : mg "plan_for" = some (.ref f)) (bd : Binds K fd ["low", "high", "shots", "shells"] []) (bn : Bn mg) {j : Nat} {k_reach : Nat} (C_reach : Cal P w K mg base "reach" ["shots", "shells"] (spP R_reach) k_reach) (h_reach : k_reach ≤ j) : ∀ n : Nat, FnOk P w K mg base CX0 (j + n) f fd ["low", "high", "shots", "shells"] (spP (R_plan_for n))
  | 0 => fn_noP (no_plan_for)
  | n + 1 => by
    have ih := rec_plan_for F hm bd bn (j := j) C_reach h_reach n
    exact ok_plan_for (k := j + n) F bn ⟨_, _, ih, hm, F.kp, bd⟩ (Nat.le_refl _) C_reach (Nat.le_trans h_reach (Nat.le_add_right j n)) (len_plan_for (n + 1)) (sx_plan_for K n)
theorem rec_l_plan_fault (F : Fun K "_law_plan_fault" "_law_plan_fault" s_l_plan_fault f fd) (hm : mg "_law_plan_fault" = some (.ref f)) (bd : Binds K fd ["low", "high", "shots", "shells", "path", "plan"] []) (bn : Bn mg) {j : Nat} : ∀ n : Nat, FnOk P w K mg base CX0 (j + n) f fd ["low", "high", "shots", "shells", "path", "plan"] (spP (R_pf n))
  | 0 => fn_noP (no_pf)
  | n + 1 => by
    have ih := rec_l_plan_fault F hm bd bn (j := j) n
    exact ok_l_plan_fault (k := j + n) F bn ⟨_, _, ih, hm, F.kp, bd⟩ (Nat.le_refl _) (len_l_plan_fault (n + 1)) (sx_l_plan_fault K n)
theorem rec_plan_fault (F : Fun K "plan_fault" "plan_fault" s_plan_fault f fd) (hm : mg "plan_fault" = some (.ref f)) (bd : Binds K fd ["low", "high", "shots", "shells", "path", "plan"] []) (bn : Bn mg) {j : Nat} : ∀ n : Nat, FnOk P w K mg base CX0 (j + n) f fd ["low", "high", "shots", "shells", "path", "plan"] (spP (R_pf n))
  | 0 => fn_noP (no_pf)
  | n + 1 => by
    have ih := rec_plan_fault F hm bd bn (j := j) n
    exact ok_plan_fault (k := j + n) F bn ⟨_, _, ih, hm, F.kp, bd⟩ (Nat.le_refl _) (len_plan_fault (n + 1)) (sx_plan_fault K n)
theorem rec_l_bent (F : Fun K "_law_bent" "_law_bent" s_l_bent f fd) (hm : mg "_law_bent" = some (.ref f)) (bd : Binds K fd ["state", "charges", "plan"] []) (bn : Bn mg) {j : Nat} {k_l_take : Nat} (C_l_take : Cal P w K mg base "_law_take" ["state", "most"] (spS R_take) k_l_take) (h_l_take : k_l_take ≤ j) : ∀ n : Nat, FnOk P w K mg base CX0 (j + n) f fd ["state", "charges", "plan"] (spS (R_l_bent n))
  | 0 => fn_noS (no_l_bent)
  | n + 1 => by
    have ih := rec_l_bent F hm bd bn (j := j) C_l_take h_l_take n
    exact ok_l_bent (k := j + n) F bn C_l_take (Nat.le_trans h_l_take (Nat.le_add_right j n)) ⟨_, _, ih, hm, F.kp, bd⟩ (Nat.le_refl _) (len_l_bent (n + 1)) (sx_l_bent K n)
end
theorem all_mk {l : PySem.W.OpenLaw} {w : World} {K : PySem.W.Frag} {h : Heap} {mg : Str → Option Value} {fa f1 f2 f3 f4 f5 f6 f7 f8 f9 f10 f11 f12 f13 f14 f15 f16 f17 : Addr} (X : K.In h) (G : h.Ns mainGlobals mg) (hfa : mg "law" = some (.ref fa))
    {od1 an1 od2 an2 od3 an3 od4 an4 od5 an5 od6 an6 od7 an7 od8 an8 od9 an9 od10 an10 od11 an11 od12 an12 od13 an13 od14 an14 od15 an15 od16 an16 od17 an17 : Option Addr} {sl1 sl2 sl3 sl4 sl5 sl6 sl7 sl8 sl9 sl10 sl11 sl12 sl13 sl14 sl15 sl16 sl17 : Array (Option Value)}
    {oc1 kV1 dc1 pm1 cd1 ct1 oc2 kV2 dc2 pm2 cd2 ct2 oc3 kV3 dc3 pm3 cd3 ct3 oc4 kV4 dc4 pm4 cd4 ct4 oc5 kV5 dc5 pm5 cd5 ct5 oc6 kV6 dc6 pm6 cd6 ct6 oc7 kV7 dc7 pm7 cd7 ct7 oc8 kV8 dc8 pm8 cd8 ct8 oc9 kV9 dc9 pm9 cd9 ct9 oc10 kV10 dc10 pm10 cd10 ct10 oc11 kV11 dc11 pm11 cd11 ct11 oc12 kV12 dc12 pm12 cd12 ct12 oc13 kV13 dc13 pm13 cd13 ct13 oc14 kV14 dc14 pm14 cd14 ct14 oc15 kV15 dc15 pm15 cd15 ct15 oc16 kV16 dc16 pm16 cd16 ct16 oc17 kV17 dc17 pm17 cd17 ct17 : Value}
    (a1 : PySem.W.nsIn K mainGlobals "reach" = some (some (.ref f1))) (l1 : K.lookup f1 = some ⟨oc1, od1, .func (PySem.W.fnOf "reach" "reach" (defArgs s_reach) (defBody s_reach) (defScope s_reach) .none kV1 dc1 pm1 an1 cd1 ct1), sl1⟩) (c1 : PySem.W.codeIn K cd1 "reach" = true) (k1 : PySem.W.keepIn K (.ref f1) = true)
    (a2 : PySem.W.nsIn K mainGlobals "least_shots" = some (some (.ref f2))) (l2 : K.lookup f2 = some ⟨oc2, od2, .func (PySem.W.fnOf "least_shots" "least_shots" (defArgs s_least_shots) (defBody s_least_shots) (defScope s_least_shots) .none kV2 dc2 pm2 an2 cd2 ct2), sl2⟩) (c2 : PySem.W.codeIn K cd2 "least_shots" = true) (k2 : PySem.W.keepIn K (.ref f2) = true)
    (a3 : PySem.W.nsIn K mainGlobals "plan_for" = some (some (.ref f3))) (l3 : K.lookup f3 = some ⟨oc3, od3, .func (PySem.W.fnOf "plan_for" "plan_for" (defArgs s_plan_for) (defBody s_plan_for) (defScope s_plan_for) .none kV3 dc3 pm3 an3 cd3 ct3), sl3⟩) (c3 : PySem.W.codeIn K cd3 "plan_for" = true) (k3 : PySem.W.keepIn K (.ref f3) = true)
    (a4 : PySem.W.nsIn K mainGlobals "trial" = some (some (.ref f4))) (l4 : K.lookup f4 = some ⟨oc4, od4, .func (PySem.W.fnOf "trial" "trial" (defArgs s_trial) (defBody s_trial) (defScope s_trial) .none kV4 dc4 pm4 an4 cd4 ct4), sl4⟩) (c4 : PySem.W.codeIn K cd4 "trial" = true) (k4 : PySem.W.keepIn K (.ref f4) = true)
    (a5 : PySem.W.nsIn K mainGlobals "plan_fault" = some (some (.ref f5))) (l5 : K.lookup f5 = some ⟨oc5, od5, .func (PySem.W.fnOf "plan_fault" "plan_fault" (defArgs s_plan_fault) (defBody s_plan_fault) (defScope s_plan_fault) .none kV5 dc5 pm5 an5 cd5 ct5), sl5⟩) (c5 : PySem.W.codeIn K cd5 "plan_fault" = true) (k5 : PySem.W.keepIn K (.ref f5) = true)
    (a6 : PySem.W.nsIn K mainGlobals "trial_fault" = some (some (.ref f6))) (l6 : K.lookup f6 = some ⟨oc6, od6, .func (PySem.W.fnOf "trial_fault" "trial_fault" (defArgs s_trial_fault) (defBody s_trial_fault) (defScope s_trial_fault) .none kV6 dc6 pm6 an6 cd6 ct6), sl6⟩) (c6 : PySem.W.codeIn K cd6 "trial_fault" = true) (k6 : PySem.W.keepIn K (.ref f6) = true)
    (a7 : PySem.W.nsIn K mainGlobals "shot" = some (some (.ref f7))) (l7 : K.lookup f7 = some ⟨oc7, od7, .func (PySem.W.fnOf "shot" "shot" (defArgs s_shot) (defBody s_shot) (defScope s_shot) .none kV7 dc7 pm7 an7 cd7 ct7), sl7⟩) (c7 : PySem.W.codeIn K cd7 "shot" = true) (k7 : PySem.W.keepIn K (.ref f7) = true)
    (a8 : PySem.W.nsIn K mainGlobals "broken_by" = some (some (.ref f8))) (l8 : K.lookup f8 = some ⟨oc8, od8, .func (PySem.W.fnOf "broken_by" "broken_by" (defArgs s_broken_by) (defBody s_broken_by) (defScope s_broken_by) .none kV8 dc8 pm8 an8 cd8 ct8), sl8⟩) (c8 : PySem.W.codeIn K cd8 "broken_by" = true) (k8 : PySem.W.keepIn K (.ref f8) = true)
    (a9 : PySem.W.nsIn K mainGlobals "worth_it" = some (some (.ref f9))) (l9 : K.lookup f9 = some ⟨oc9, od9, .func (PySem.W.fnOf "worth_it" "worth_it" (defArgs s_worth_it) (defBody s_worth_it) (defScope s_worth_it) .none kV9 dc9 pm9 an9 cd9 ct9), sl9⟩) (c9 : PySem.W.codeIn K cd9 "worth_it" = true) (k9 : PySem.W.keepIn K (.ref f9) = true)
    (a10 : PySem.W.nsIn K mainGlobals "_law_state" = some (some (.ref f10))) (l10 : K.lookup f10 = some ⟨oc10, od10, .func (PySem.W.fnOf "_law_state" "_law_state" (defArgs s_l_state) (defBody s_l_state) (defScope s_l_state) .none kV10 dc10 pm10 an10 cd10 ct10), sl10⟩) (c10 : PySem.W.codeIn K cd10 "_law_state" = true) (k10 : PySem.W.keepIn K (.ref f10) = true)
    (a11 : PySem.W.nsIn K mainGlobals "_law_take" = some (some (.ref f11))) (l11 : K.lookup f11 = some ⟨oc11, od11, .func (PySem.W.fnOf "_law_take" "_law_take" (defArgs s_l_take) (defBody s_l_take) (defScope s_l_take) .none kV11 dc11 pm11 an11 cd11 ct11), sl11⟩) (c11 : PySem.W.codeIn K cd11 "_law_take" = true) (k11 : PySem.W.keepIn K (.ref f11) = true)
    (a12 : PySem.W.nsIn K mainGlobals "_law_reach" = some (some (.ref f12))) (l12 : K.lookup f12 = some ⟨oc12, od12, .func (PySem.W.fnOf "_law_reach" "_law_reach" (defArgs s_l_reach) (defBody s_l_reach) (defScope s_l_reach) .none kV12 dc12 pm12 an12 cd12 ct12), sl12⟩) (c12 : PySem.W.codeIn K cd12 "_law_reach" = true) (k12 : PySem.W.keepIn K (.ref f12) = true)
    (a13 : PySem.W.nsIn K mainGlobals "_law_plan_fault" = some (some (.ref f13))) (l13 : K.lookup f13 = some ⟨oc13, od13, .func (PySem.W.fnOf "_law_plan_fault" "_law_plan_fault" (defArgs s_l_plan_fault) (defBody s_l_plan_fault) (defScope s_l_plan_fault) .none kV13 dc13 pm13 an13 cd13 ct13), sl13⟩) (c13 : PySem.W.codeIn K cd13 "_law_plan_fault" = true) (k13 : PySem.W.keepIn K (.ref f13) = true)
    (a14 : PySem.W.nsIn K mainGlobals "_law_fault" = some (some (.ref f14))) (l14 : K.lookup f14 = some ⟨oc14, od14, .func (PySem.W.fnOf "_law_fault" "_law_fault" (defArgs s_l_fault) (defBody s_l_fault) (defScope s_l_fault) .none kV14 dc14 pm14 an14 cd14 ct14), sl14⟩) (c14 : PySem.W.codeIn K cd14 "_law_fault" = true) (k14 : PySem.W.keepIn K (.ref f14) = true)
    (a15 : PySem.W.nsIn K mainGlobals "_law_least" = some (some (.ref f15))) (l15 : K.lookup f15 = some ⟨oc15, od15, .func (PySem.W.fnOf "_law_least" "_law_least" (defArgs s_l_least) (defBody s_l_least) (defScope s_l_least) .none kV15 dc15 pm15 an15 cd15 ct15), sl15⟩) (c15 : PySem.W.codeIn K cd15 "_law_least" = true) (k15 : PySem.W.keepIn K (.ref f15) = true)
    (a16 : PySem.W.nsIn K mainGlobals "_law_bent" = some (some (.ref f16))) (l16 : K.lookup f16 = some ⟨oc16, od16, .func (PySem.W.fnOf "_law_bent" "_law_bent" (defArgs s_l_bent) (defBody s_l_bent) (defScope s_l_bent) .none kV16 dc16 pm16 an16 cd16 ct16), sl16⟩) (c16 : PySem.W.codeIn K cd16 "_law_bent" = true) (k16 : PySem.W.keepIn K (.ref f16) = true)
    (a17 : PySem.W.nsIn K mainGlobals "law" = some (some (.ref f17))) (l17 : K.lookup f17 = some ⟨oc17, od17, .func (PySem.W.fnOf "law" "law" (defArgs s_law) (defBody s_law) (defScope s_law) .none kV17 dc17 pm17 an17 cd17 ct17), sl17⟩) (c17 : PySem.W.codeIn K cd17 "law" = true) (k17 : PySem.W.keepIn K (.ref f17) = true)
    (z1 : PySem.W.nsIn K mainGlobals "len" = some none) (z2 : PySem.W.nsIn K mainGlobals "range" = some none) (z3 : PySem.W.nsIn K mainGlobals "min" = some none) (z4 : PySem.W.nsIn K mainGlobals "max" = some none) (z5 : PySem.W.nsIn K mainGlobals "abs" = some none) (z6 : PySem.W.nsIn K mainGlobals "sum" = some none) (z7 : PySem.W.nsIn K mainGlobals "int" = some none) (z8 : PySem.W.nsIn K mainGlobals "list" = some none) (z9 : PySem.W.nsIn K mainGlobals "tuple" = some none) (z10 : PySem.W.nsIn K mainGlobals "sorted" = some none) (z11 : PySem.W.nsIn K mainGlobals "isinstance" = some none) (z12 : PySem.W.nsIn K mainGlobals "enumerate" = some none) (z13 : PySem.W.nsIn K mainGlobals "zip" = some none) (z14 : PySem.W.nsIn K mainGlobals "set" = some none) (z15 : PySem.W.nsIn K mainGlobals "repr" = some none) (z16 : PySem.W.nsIn K mainGlobals "all" = some none) (z17 : PySem.W.nsIn K mainGlobals "any" = some none) (z18 : PySem.W.nsIn K mainGlobals "dict" = some none) (z19 : PySem.W.nsIn K mainGlobals "reversed" = some none) (z20 : PySem.W.nsIn K mainGlobals "str" = some none) :
    ∃ fd : FuncData, (∀ (s : Shared) (v : Value), BindsTo s fd ⟨[v], []⟩ [("script", v)]) ∧ ∀ base : Heap, K.In base → base.Ns mainGlobals mg → FnOk l.prog w K mg base CX0 42 fa fd ["script"] (spP R_law) := by
  have e := hfa.symm.trans (PySem.W.mg_of X G a17)
  cases e
  have bn : Bn mg := ⟨PySem.W.mg_none_of X G z1, PySem.W.mg_none_of X G z2, PySem.W.mg_none_of X G z3, PySem.W.mg_none_of X G z4, PySem.W.mg_none_of X G z5, PySem.W.mg_none_of X G z6, PySem.W.mg_none_of X G z7, PySem.W.mg_none_of X G z8, PySem.W.mg_none_of X G z9, PySem.W.mg_none_of X G z10, PySem.W.mg_none_of X G z11, PySem.W.mg_none_of X G z12, PySem.W.mg_none_of X G z13, PySem.W.mg_none_of X G z14, PySem.W.mg_none_of X G z15, PySem.W.mg_none_of X G z16, PySem.W.mg_none_of X G z17, PySem.W.mg_none_of X G z18, PySem.W.mg_none_of X G z19, PySem.W.mg_none_of X G z20⟩
  have F1 := fun_mk (st := s_reach) l1 c1 k1
  have b1 := F1.binds (ps := ["shots", "shells"]) fun _ _ _ _ _ _ us hl => match us, hl with | [_, _], _ => rfl
  have F2 := fun_mk (st := s_least_shots) l2 c2 k2
  have b2 := F2.binds (ps := ["charges", "shells"]) fun _ _ _ _ _ _ us hl => match us, hl with | [_, _], _ => rfl
  have F3 := fun_mk (st := s_plan_for) l3 c3 k3
  have b3 := F3.binds (ps := ["low", "high", "shots", "shells"]) fun _ _ _ _ _ _ us hl => match us, hl with | [_, _, _, _], _ => rfl
  have F4 := fun_mk (st := s_trial) l4 c4 k4
  have b4 := F4.binds (ps := ["charges", "shells"]) fun _ _ _ _ _ _ us hl => match us, hl with | [_, _], _ => rfl
  have F5 := fun_mk (st := s_plan_fault) l5 c5 k5
  have b5 := F5.binds (ps := ["low", "high", "shots", "shells", "path", "plan"]) fun _ _ _ _ _ _ us hl => match us, hl with | [_, _, _, _, _, _], _ => rfl
  have F6 := fun_mk (st := s_trial_fault) l6 c6 k6
  have b6 := F6.binds (ps := ["charges", "shells", "told"]) fun _ _ _ _ _ _ us hl => match us, hl with | [_, _, _], _ => rfl
  have F7 := fun_mk (st := s_shot) l7 c7 k7
  have b7 := F7.binds (ps := ["plan", "holds"]) fun _ _ _ _ _ _ us hl => match us, hl with | [_, _], _ => rfl
  have F8 := fun_mk (st := s_broken_by) l8 c8 k8
  have b8 := F8.binds (ps := ["plan", "holds"]) fun _ _ _ _ _ _ us hl => match us, hl with | [_, _], _ => rfl
  have F9 := fun_mk (st := s_worth_it) l9 c9 k9
  have b9 := F9.binds (ps := ["charges", "price", "cost"]) fun _ _ _ _ _ _ us hl => match us, hl with | [_, _, _], _ => rfl
  have F10 := fun_mk (st := s_l_state) l10 c10 k10
  have b10 := F10.binds (ps := ["script"]) fun _ _ _ _ _ _ us hl => match us, hl with | [_], _ => rfl
  have F11 := fun_mk (st := s_l_take) l11 c11 k11
  have b11 := F11.binds (ps := ["state", "most"]) fun _ _ _ _ _ _ us hl => match us, hl with | [_, _], _ => rfl
  have F12 := fun_mk (st := s_l_reach) l12 c12 k12
  have b12 := F12.binds (ps := ["shots", "shells"]) fun _ _ _ _ _ _ us hl => match us, hl with | [_, _], _ => rfl
  have F13 := fun_mk (st := s_l_plan_fault) l13 c13 k13
  have b13 := F13.binds (ps := ["low", "high", "shots", "shells", "path", "plan"]) fun _ _ _ _ _ _ us hl => match us, hl with | [_, _, _, _, _, _], _ => rfl
  have F14 := fun_mk (st := s_l_fault) l14 c14 k14
  have b14 := F14.binds (ps := ["charges", "shells", "told"]) fun _ _ _ _ _ _ us hl => match us, hl with | [_, _, _], _ => rfl
  have F15 := fun_mk (st := s_l_least) l15 c15 k15
  have b15 := F15.binds (ps := ["charges", "most"]) fun _ _ _ _ _ _ us hl => match us, hl with | [_, _], _ => rfl
  have F16 := fun_mk (st := s_l_bent) l16 c16 k16
  have b16 := F16.binds (ps := ["state", "charges", "plan"]) fun _ _ _ _ _ _ us hl => match us, hl with | [_, _, _], _ => rfl
  have F17 := fun_mk (st := s_law) l17 c17 k17
  have b17 := F17.binds (ps := ["script"]) fun _ _ _ _ _ _ us hl => match us, hl with | [_], _ => rfl
  refine ⟨PySem.W.fnOf "law" "law" (defArgs s_law) (defBody s_law) (defScope s_law) .none kV17 dc17 pm17 an17 cd17 ct17, fun s v => .of_eq rfl, fun base _ _ => ?_⟩
  have C_l_state : Cal l.prog w K mg base "_law_state" ["script"] (spN R_state) 1 := ⟨_, _, fn_newstate (k := 0) F10 sc_l_state fun cdv A outer s H E hr => ps_l_state bn hr, PySem.W.mg_of X G a10, F10.kp, b10⟩
  have C_l_least : Cal l.prog w K mg base "_law_least" ["charges", "most"] (spP R_l_least) 1 := ⟨_, _, ok_l_least (k := 0) F15 bn len_l_least (sx_l_least K), PySem.W.mg_of X G a15, F15.kp, b15⟩
  have C_reach : Cal l.prog w K mg base "reach" ["shots", "shells"] (spP R_reach) 1 := ⟨_, _, ok_reach (k := 0) F1 bn len_reach (sx_reach K), PySem.W.mg_of X G a1, F1.kp, b1⟩
  have C_least_shots : Cal l.prog w K mg base "least_shots" ["charges", "shells"] (spP R_least_shots) 2 := ⟨_, _, ok_least_shots (k := 1) F2 bn C_reach (by decide) len_least_shots (sx_least_shots K), PySem.W.mg_of X G a2, F2.kp, b2⟩
  have C_plan_for : Cal l.prog w K mg base "plan_for" ["low", "high", "shots", "shells"] (spP (R_plan_for 16)) 17 := ⟨_, _, rec_plan_for F3 (PySem.W.mg_of X G a3) b3 bn (j := 1) C_reach (by decide) 16, PySem.W.mg_of X G a3, F3.kp, b3⟩
  have C_trial : Cal l.prog w K mg base "trial" ["charges", "shells"] (spP R_trial) 18 := ⟨_, _, ok_trial (k := 17) F4 bn C_least_shots (by decide) C_plan_for (by decide) len_trial (sx_trial K), PySem.W.mg_of X G a4, F4.kp, b4⟩
  have C_l_take : Cal l.prog w K mg base "_law_take" ["state", "most"] (spS R_take) 1 := ⟨_, _, fn_take (k := 0) F11 sc_l_take fun cdv A outer s H E hr => ps_l_take bn hr, PySem.W.mg_of X G a11, F11.kp, b11⟩
  have C_shot : Cal l.prog w K mg base "shot" ["plan", "holds"] (spP R_shot) 1 := ⟨_, _, ok_shot (k := 0) F7 bn len_shot (sx_shot K), PySem.W.mg_of X G a7, F7.kp, b7⟩
  have C_worth_it : Cal l.prog w K mg base "worth_it" ["charges", "price", "cost"] (spP R_worth_it) 3 := ⟨_, _, ok_worth_it (k := 2) F9 bn C_least_shots (by decide) len_worth_it (sx_worth_it K), PySem.W.mg_of X G a9, F9.kp, b9⟩
  have C_l_plan_fault : Cal l.prog w K mg base "_law_plan_fault" ["low", "high", "shots", "shells", "path", "plan"] (spP (R_pf 40)) 40 := ⟨_, _, rec_l_plan_fault F13 (PySem.W.mg_of X G a13) b13 bn (j := 0) 40, PySem.W.mg_of X G a13, F13.kp, b13⟩
  have C_l_reach : Cal l.prog w K mg base "_law_reach" ["shots", "shells"] (spP R_reach) 1 := ⟨_, _, ok_l_reach (k := 0) F12 bn len_l_reach (sx_l_reach K), PySem.W.mg_of X G a12, F12.kp, b12⟩
  have C_l_fault : Cal l.prog w K mg base "_law_fault" ["charges", "shells", "told"] (spP R_trial_fault) 41 := ⟨_, _, ok_l_fault (k := 40) F14 bn C_l_plan_fault (by decide) C_l_reach (by decide) len_l_fault (sx_l_fault K), PySem.W.mg_of X G a14, F14.kp, b14⟩
  have C_plan_fault : Cal l.prog w K mg base "plan_fault" ["low", "high", "shots", "shells", "path", "plan"] (spP (R_pf 40)) 40 := ⟨_, _, rec_plan_fault F5 (PySem.W.mg_of X G a5) b5 bn (j := 0) 40, PySem.W.mg_of X G a5, F5.kp, b5⟩
  have C_trial_fault : Cal l.prog w K mg base "trial_fault" ["charges", "shells", "told"] (spP R_trial_fault) 41 := ⟨_, _, ok_trial_fault (k := 40) F6 bn C_plan_fault (by decide) C_reach (by decide) len_trial_fault (sx_trial_fault K), PySem.W.mg_of X G a6, F6.kp, b6⟩
  have C_broken_by : Cal l.prog w K mg base "broken_by" ["plan", "holds"] (spP R_broken_by) 2 := ⟨_, _, ok_broken_by (k := 1) F8 bn C_shot (by decide) len_broken_by (sx_broken_by K), PySem.W.mg_of X G a8, F8.kp, b8⟩
  have C_l_bent : Cal l.prog w K mg base "_law_bent" ["state", "charges", "plan"] (spS (R_l_bent 20)) 21 := ⟨_, _, rec_l_bent F16 (PySem.W.mg_of X G a16) b16 bn (j := 1) C_l_take (by decide) 20, PySem.W.mg_of X G a16, F16.kp, b16⟩
  exact ok_law (k := 41) F17 bn C_l_state (by decide) C_l_least (by decide) C_trial (by decide) C_l_take (by decide) C_shot (by decide) C_worth_it (by decide) C_least_shots (by decide) C_l_fault (by decide) C_trial_fault (by decide) C_broken_by (by decide) C_reach (by decide) C_l_reach (by decide) C_l_bent (by decide) len_law (sx_law K)
theorem walk {l : PySem.W.OpenLaw} {q : Program} {loose : List Str} {XP : (Str → Option Value) → Heap → Prop} {YP : World → Heap → Prop} {d : DefRec} {K : Params → PySem.W.Frag} (hn : l.most = some 63) (hdf : d.params.defaults = [])
    (hY : ∀ (w : World) (h : Heap), YP w h → (K w.params).In h) (nl : ∀ w : World, noLs (K w.params) = true)
    (F : ∀ (w : World) (mg : Str → Option Value) (fa : Addr) (h : Heap), (K w.params).In h → h.Ns mainGlobals mg → mg d.name = some (.ref fa) →
      ∃ fd : FuncData, (∀ (s : Shared) (u : Value), BindsTo s fd ⟨[u], []⟩ [("script", u)]) ∧ ∀ base : Heap, (K w.params).In base → base.Ns mainGlobals mg → FnOk l.prog w (K w.params) mg base CX0 42 fa fd ["script"] (spP R_law)) :
    PySem.W.WalkO q loose XP YP l.row.toRowW d [] (fun f vs => PySem.call f vs) :=
  L2.walk_of (n := 63) (k := 42) (x := "script") (CX := fun _ => CX0) (sp := fun w => spP R_law) hn (by decide) hdf ⟨rfl, by decide, by decide⟩ hY F (fun w _ a ns hl _ hS => sp_law (nl w) hS ⟨ns, rfl, rfl⟩) fun _ _ _ _ _ z => z
end Law_k70
open PySem PySem.W PyProof.Rows
set_option maxHeartbeats 0 in
theorem PySem.Challenge.cw_firescore_k70_trials_by_all_plans_holds : PySem.Challenge.rw_firescore_k70_trials_by_all_plans.Holds := by
  w_on; o_law; k_head; (case hw => w_witness2)
  k_fill
  refine Law_k70.walk (l := PySem.Challenge.rw_firescore_k70_trials_by_all_plans) rfl rfl (fun w h Y => PySem.W.kIn_of Y) (fun w => ?NL) ?F
  case NL => rfl
  case F =>
    intro w mg fa h KX G hmg
    refine' Law_k70.all_mk KX G hmg ?a1 ?l1 ?c1 ?k1 ?a2 ?l2 ?c2 ?k2 ?a3 ?l3 ?c3 ?k3 ?a4 ?l4 ?c4 ?k4 ?a5 ?l5 ?c5 ?k5 ?a6 ?l6 ?c6 ?k6 ?a7 ?l7 ?c7 ?k7 ?a8 ?l8 ?c8 ?k8 ?a9 ?l9 ?c9 ?k9 ?a10 ?l10 ?c10 ?k10 ?a11 ?l11 ?c11 ?k11 ?a12 ?l12 ?c12 ?k12 ?a13 ?l13 ?c13 ?k13 ?a14 ?l14 ?c14 ?k14 ?a15 ?l15 ?c15 ?k15 ?a16 ?l16 ?c16 ?k16 ?a17 ?l17 ?c17 ?k17 ?z1 ?z2 ?z3 ?z4 ?z5 ?z6 ?z7 ?z8 ?z9 ?z10 ?z11 ?z12 ?z13 ?z14 ?z15 ?z16 ?z17 ?z18 ?z19 ?z20
    (case a1 => k_is); (case l1 => k_is); (case c1 => k_is); (case k1 => k_is)
    (case a2 => k_is); (case l2 => k_is); (case c2 => k_is); (case k2 => k_is)
    (case a3 => k_is); (case l3 => k_is); (case c3 => k_is); (case k3 => k_is)
    (case a4 => k_is); (case l4 => k_is); (case c4 => k_is); (case k4 => k_is)
    (case a5 => k_is); (case l5 => k_is); (case c5 => k_is); (case k5 => k_is)
    (case a6 => k_is); (case l6 => k_is); (case c6 => k_is); (case k6 => k_is)
    (case a7 => k_is); (case l7 => k_is); (case c7 => k_is); (case k7 => k_is)
    (case a8 => k_is); (case l8 => k_is); (case c8 => k_is); (case k8 => k_is)
    (case a9 => k_is); (case l9 => k_is); (case c9 => k_is); (case k9 => k_is)
    (case a10 => k_is); (case l10 => k_is); (case c10 => k_is); (case k10 => k_is)
    (case a11 => k_is); (case l11 => k_is); (case c11 => k_is); (case k11 => k_is)
    (case a12 => k_is); (case l12 => k_is); (case c12 => k_is); (case k12 => k_is)
    (case a13 => k_is); (case l13 => k_is); (case c13 => k_is); (case k13 => k_is)
    (case a14 => k_is); (case l14 => k_is); (case c14 => k_is); (case k14 => k_is)
    (case a15 => k_is); (case l15 => k_is); (case c15 => k_is); (case k15 => k_is)
    (case a16 => k_is); (case l16 => k_is); (case c16 => k_is); (case k16 => k_is)
    (case a17 => k_is); (case l17 => k_is); (case c17 => k_is); (case k17 => k_is)
    (case z1 => k_is)
    (case z2 => k_is)
    (case z3 => k_is)
    (case z4 => k_is)
    (case z5 => k_is)
    (case z6 => k_is)
    (case z7 => k_is)
    (case z8 => k_is)
    (case z9 => k_is)
    (case z10 => k_is)
    (case z11 => k_is)
    (case z12 => k_is)
    (case z13 => k_is)
    (case z14 => k_is)
    (case z15 => k_is)
    (case z16 => k_is)
    (case z17 => k_is)
    (case z18 => k_is)
    (case z19 => k_is)
    (case z20 => k_is)
