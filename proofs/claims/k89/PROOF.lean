import PyProof.Rows.All
import Wide.All
import OpenK.AllK
import Wide.FinOn
import HandS.ForMost
import HandS.TupAny
import HandS.Zip
import KE.SortData
import KE.DataMinMax
import KE.DataEq
import KE.DataFind
import HandS.Style
import HandS.Dict
import KE.DatumIndex
import HandS.Deep
import HandS.Set
import HandS.SetFor
import KE.DataAny
import HandS.Conv
import HandS.NoneIn
import PySem.Challenge.RW_firescore_k89_holds_by_all_waits
set_option Elab.async false
set_option linter.all false
set_option autoImplicit false
set_option maxRecDepth 100000
set_option maxHeartbeats 4000000
/-! Pu: the hand layer's readings over pure data: slots hold data, own lists, a state; no addresses. -/
namespace Pu
open PySem L2

abbrev D := PyData
mutual
/-- the value v reads as the datum d in the frozen part F of the heap -/
inductive Rp (F : Hp) : V → D → Prop
  | non : Rp F .non .none
  | bl (b : Bool) : Rp F (.bl b) (.bool b)
  | int (i : Int) : Rp F (.int i) (.int i)
  | str (x : Str) : Rp F (.str x) (.str x)
  | lst {a : Addr} {xs : List V} {ds : List D} : Rd F a (.lst xs) → RpA F xs ds → Rp F (.ref a) (.list ds)
  | tup {a : Addr} {xs : List V} {ds : List D} : F a = some (.tup xs) → RpA F xs ds → Rp F (.ref a) (.tuple ds)
inductive RpA (F : Hp) : List V → List D → Prop
  | nil : RpA F [] []
  | cons {v : V} {vs : List V} {d : D} {ds : List D} : Rp F v d → RpA F vs ds → RpA F (v :: vs) (d :: ds)
end
theorem rd_mono {F G : Hp} {a : Addr} {u : HO} (e : Same F G) (h : Rd F a u) : Rd G a u := by
  rcases h with h | ⟨o, h⟩
  · exact .inl (e _ _ h)
  · exact .inr ⟨o, e _ _ h⟩
mutual
theorem Rp.mono {F G : Hp} (e : Same F G) : ∀ (d : D) {v : V}, Rp F v d → Rp G v d
  | .none, _, h => by cases h; exact .non
  | .bool b, _, h => by cases h; exact .bl b
  | .int i, _, h => by cases h; exact .int i
  | .str x, _, h => by cases h; exact .str x
  | .list ds, _, h => by
    cases h with
    | lst h1 h2 => exact .lst (rd_mono e h1) (RpA.mono e ds h2)
  | .tuple ds, _, h => by
    cases h with
    | tup h1 h2 => exact .tup (e _ _ h1) (RpA.mono e ds h2)
  | .dict _, _, h => by cases h
theorem RpA.mono {F G : Hp} (e : Same F G) : ∀ (ds : List D) {vs : List V}, RpA F vs ds → RpA G vs ds
  | [], _, h => by cases h; exact .nil
  | d :: ds, _, h => by
    cases h with
    | cons h1 h2 => exact .cons (Rp.mono e d h1) (RpA.mono e ds h2)
end
theorem Rp.up {F G : Hp} {d : D} {v : V} (h : Rp F v d) (e : Same F G) : Rp G v d := Rp.mono e d h
theorem RpA.up {F G : Hp} {ds : List D} {vs : List V} (h : RpA F vs ds) (e : Same F G) : RpA G vs ds := RpA.mono e ds h
theorem sqL_rd {K : PySem.W.Frag} {F H : Hp} {a : Addr} {xs : List V} (h : Rd F a (.lst xs)) (e : Same F H) : SqL K H a xs := .inl (rd_mono e h)
theorem sqT_rd {K : PySem.W.Frag} {F H : Hp} {a : Addr} {xs : List V} (h : F a = some (.tup xs)) (e : Same F H) : SqT K H a xs := .inl (.inl (e _ _ h))
mutual
theorem Rp.dp {K : PySem.W.Frag} {F H : Hp} (e : Same F H) : ∀ (d : D) {v : V}, Rp F v d → Dp K H v d
  | .none, _, h => by cases h; exact .non
  | .bool b, _, h => by cases h; exact .bl b
  | .int i, _, h => by cases h; exact .int i
  | .str x, _, h => by cases h; exact .str x
  | .list ds, _, h => by
    cases h with
    | lst h1 h2 => exact .lst (sqL_rd h1 e) (RpA.dp e ds h2)
  | .tuple ds, _, h => by
    cases h with
    | tup h1 h2 => exact .tup (sqT_rd h1 e) (RpA.dp e ds h2)
  | .dict _, _, h => by cases h
theorem RpA.dp {K : PySem.W.Frag} {F H : Hp} (e : Same F H) : ∀ (ds : List D) {vs : List V}, RpA F vs ds → DpAll K H vs ds
  | [], _, h => by cases h; exact .nil
  | d :: ds, _, h => by
    cases h with
    | cons h1 h2 => exact .cons (Rp.dp e d h1) (RpA.dp e ds h2)
end
section
variable {F : Hp}
theorem Rp.int_inv {v : V} {i : Int} (h : Rp F v (.int i)) : v = .int i := by cases h; rfl
theorem Rp.bl_inv {v : V} {b : Bool} (h : Rp F v (.bool b)) : v = .bl b := by cases h; rfl
theorem Rp.str_inv {v : V} {x : Str} (h : Rp F v (.str x)) : v = .str x := by cases h; rfl
theorem Rp.non_inv {v : V} (h : Rp F v .none) : v = .non := by cases h; rfl
theorem Rp.lst_inv {v : V} {ds : List D} (h : Rp F v (.list ds)) : ∃ a xs, v = .ref a ∧ Rd F a (.lst xs) ∧ RpA F xs ds := by
  cases h with
  | lst h1 h2 => exact ⟨_, _, rfl, h1, h2⟩
theorem Rp.tup_inv {v : V} {ds : List D} (h : Rp F v (.tuple ds)) : ∃ a xs, v = .ref a ∧ F a = some (.tup xs) ∧ RpA F xs ds := by
  cases h with
  | tup h1 h2 => exact ⟨_, _, rfl, h1, h2⟩
theorem RpA.len : ∀ {vs : List V} {ds : List D}, RpA F vs ds → vs.length = ds.length
  | _, [], h => by cases h; rfl
  | _, d :: ds, h => by
    cases h with
    | cons h1 h2 => simp [RpA.len h2]
theorem RpA.get : ∀ {vs : List V} {ds : List D} {k : Nat} {d : D}, RpA F vs ds → ds[k]? = some d → ∃ v, vs[k]? = some v ∧ Rp F v d
  | _, [], k, d, h, e => by simp at e
  | _, a :: ds, 0, d, h, e => by
    cases h with
    | cons h1 h2 =>
      simp at e
      subst e
      exact ⟨_, rfl, h1⟩
  | _, a :: ds, k + 1, d, h, e => by
    cases h with
    | cons h1 h2 =>
      obtain ⟨v, e1, e2⟩ := RpA.get (k := k) h2 (by simpa using e)
      exact ⟨v, by simpa using e1, e2⟩
theorem RpA.get' : ∀ {vs : List V} {ds : List D} {k : Nat} {v : V}, RpA F vs ds → vs[k]? = some v → ∃ d, ds[k]? = some d ∧ Rp F v d := fun {vs ds k v} h e => by
  have hk : k < ds.length := by rw [← h.len]; exact (List.getElem?_eq_some_iff.mp e).1
  obtain ⟨w, e1, e2⟩ := h.get (List.getElem?_eq_getElem hk)
  rw [e] at e1
  cases e1
  exact ⟨_, List.getElem?_eq_getElem hk, e2⟩
theorem RpA.app : ∀ {vs ws : List V} {ds es : List D}, RpA F vs ds → RpA F ws es → RpA F (vs ++ ws) (ds ++ es)
  | _, _, [], es, h, g => by cases h; exact g
  | _, _, d :: ds, es, h, g => by
    cases h with
    | cons h1 h2 => exact .cons h1 (RpA.app h2 g)
theorem RpA.take : ∀ {vs : List V} {ds : List D} (n : Nat), RpA F vs ds → RpA F (vs.take n) (ds.take n)
  | _, _, 0, h => by simp; exact .nil
  | _, [], n + 1, h => by cases h; exact .nil
  | _, d :: ds, n + 1, h => by
    cases h with
    | cons h1 h2 => exact .cons h1 (RpA.take n h2)
theorem RpA.drop : ∀ {vs : List V} {ds : List D} (n : Nat), RpA F vs ds → RpA F (vs.drop n) (ds.drop n)
  | _, _, 0, h => by simpa using h
  | _, [], n + 1, h => by cases h; exact .nil
  | _, d :: ds, n + 1, h => by
    cases h with
    | cons h1 h2 => exact RpA.drop n h2
theorem RpA.set : ∀ {vs : List V} {ds : List D} {v : V} {d : D} (n : Nat), RpA F vs ds → Rp F v d → RpA F (vs.set n v) (ds.set n d)
  | _, [], _, _, n, h, g => by cases h; exact .nil
  | _, e :: ds, _, _, 0, h, g => by
    cases h with
    | cons h1 h2 => exact .cons g h2
  | _, e :: ds, _, _, n + 1, h, g => by
    cases h with
    | cons h1 h2 => exact .cons h1 (RpA.set n h2 g)
theorem RpA.ints : ∀ (ns : List Int), RpA F (ns.map V.int) (ns.map PyData.int)
  | [] => .nil
  | n :: ns => .cons (.int n) (RpA.ints ns)
theorem RpA.ints_inv : ∀ {ns : List Int} {vs : List V}, RpA F vs (ns.map PyData.int) → vs = ns.map V.int
  | [], _, h => by cases h; rfl
  | n :: ns, _, h => by
    cases h with
    | cons h1 h2 =>
      rw [h1.int_inv, RpA.ints_inv h2]
      rfl
theorem RpA.rev {vs : List V} {ds : List D} (h : RpA F vs ds) : RpA F vs.reverse ds.reverse := by
  induction ds generalizing vs with
  | nil => cases h; exact .nil
  | cons d ds ih =>
    cases h with
    | cons h1 h2 =>
      rw [List.reverse_cons, List.reverse_cons]
      exact (ih h2).app (.cons h1 .nil)
end

/-! ### state, slots, the world -/
inductive Stt where
  | two (a b : Int)
  | cel (a : Int) (cs : List Int)
  | dct (kvs : List (Int × Int))
  /-- a list of lists of ints and None that nobody else has -/
  | grd (rows : List (List (Option Int)))
def ov : Option Int → V
  | none => .non
  | some i => .int i
/-- the inner lists -/
def GrA (H : Hp) : List Addr → List (List (Option Int)) → Prop
  | [], [] => True
  | q :: qs, r :: rows => H q = some (.lst (r.map ov)) ∧ GrA H qs rows
  | _, _ => False
def StAt (H : Hp) : Stt → Addr → List Addr → Prop
  | .two a b, s, as => as = [s] ∧ H s = some (.lst [.int a, .int b])
  | .cel a cs, s, as => ∃ c, as = [s, c] ∧ s ≠ c ∧ H s = some (.lst [.int a, .ref c]) ∧ H c = some (.lst (cs.map V.int))
  | .dct kvs, s, as => as = [s] ∧ H s = some (.dK (kvs.map fun p => ((.inl p.1 : Key), V.int p.2)))
  | .grd rows, s, as => ∃ qs, as = s :: qs ∧ (s :: qs).Nodup ∧ H s = some (.lst (qs.map V.ref)) ∧ GrA H qs rows
theorem GrA.mem {H : Hp} : ∀ {qs : List Addr} {rows : List (List (Option Int))}, GrA H qs rows → ∀ q ∈ qs, H q ≠ none
  | q :: qs, r :: rows, h, x, hx => by
    rcases List.mem_cons.mp hx with rfl | hx
    · rw [h.1]; intro z; cases z
    · exact GrA.mem h.2 x hx
  | [], _, _, x, hx => by cases hx
  | _ :: _, [], h, _, _ => h.elim
theorem GrA.keep {H H' : Hp} : ∀ {qs : List Addr} {rows : List (List (Option Int))}, GrA H qs rows → (∀ q ∈ qs, ∀ o, H q = some o → H' q = some o) → GrA H' qs rows
  | q :: qs, r :: rows, h, k => ⟨k q (by simp) _ h.1, GrA.keep h.2 fun x hx => k x (by simp [hx])⟩
  | [], [], _, _ => trivial
  | [], _ :: _, h, _ => h.elim
  | _ :: _, [], h, _ => h.elim
theorem StAt.mem {H : Hp} {S : Stt} {s : Addr} {as : List Addr} (h : StAt H S s as) : s ∈ as ∧ ∀ a ∈ as, H a ≠ none := by
  cases S with
  | two a b =>
    obtain ⟨rfl, h⟩ := h
    exact ⟨by simp, fun x hx => by
      have e : x = s := by simpa using hx
      rw [e, h]; intro z; cases z⟩
  | dct kvs =>
    obtain ⟨rfl, h⟩ := h
    exact ⟨by simp, fun x hx => by
      have e : x = s := by simpa using hx
      rw [e, h]; intro z; cases z⟩
  | cel a cs =>
    obtain ⟨c, rfl, _, h1, h2⟩ := h
    exact ⟨by simp, fun x hx => by
      have e : x = s ∨ x = c := by simpa using hx
      rcases e with e | e
      · rw [e, h1]; intro z; cases z
      · rw [e, h2]; intro z; cases z⟩
  | grd rows =>
    obtain ⟨qs, rfl, _, h1, h2⟩ := h
    exact ⟨by simp, fun x hx => by
      rcases List.mem_cons.mp hx with rfl | hx
      · rw [h1]; intro z; cases z
      · exact h2.mem x hx⟩
theorem StAt.keep {H H' : Hp} {S : Stt} {s : Addr} {as : List Addr} (h : StAt H S s as) (k : ∀ a ∈ as, ∀ o, H a = some o → H' a = some o) : StAt H' S s as := by
  cases S with
  | two a b =>
    obtain ⟨rfl, h⟩ := h
    exact ⟨rfl, k s (by simp) _ h⟩
  | dct kvs =>
    obtain ⟨rfl, h⟩ := h
    exact ⟨rfl, k s (by simp) _ h⟩
  | cel a cs =>
    obtain ⟨c, rfl, ne, h1, h2⟩ := h
    exact ⟨c, rfl, ne, k s (by simp) _ h1, k c (by simp) _ h2⟩
  | grd rows =>
    obtain ⟨qs, rfl, nd, h1, h2⟩ := h
    exact ⟨qs, rfl, nd, k s (by simp) _ h1, h2.keep fun q hq => k q (by simp [hq])⟩
inductive Slot where
  | emp
  | val (d : D)
  | own (ds : List D)
  | st (S : Stt)
abbrev Env := List Slot
structure Base where
  F0 : Hp
  H0 : Hp
  M : Addr → Prop
  pin : Option (Addr × List Addr) := none
/-- from (F, H) to (F', H'): all is kept but what M has -/
structure Gr (M : Addr → Prop) (F H F' H' : Hp) : Prop where
  ff : Same F F'
  fh : Same F' H'
  kp : ∀ a o, H a = some o → ¬ M a → H' a = some o
  al : ∀ a, H a ≠ none → H' a ≠ none
  fr : ∀ a, H a ≠ none → F a = none → F' a = none
theorem Gr.refl {M : Addr → Prop} {F H : Hp} (e : Same F H) : Gr M F H F H := ⟨Same.refl F, e, fun _ _ h _ => h, fun _ h => h, fun _ _ h => h⟩
theorem Gr.trans {M M1 M2 : Addr → Prop} {F H F1 H1 F2 H2 : Hp} (a : Gr M1 F H F1 H1) (b : Gr M2 F1 H1 F2 H2) (i1 : ∀ x, H x ≠ none → M1 x → M x) (i2 : ∀ x, H x ≠ none → M2 x → M x) : Gr M F H F2 H2 :=
  ⟨a.ff.trans b.ff, b.fh, fun x o h m => b.kp x o (a.kp x o h fun z => m (i1 x (by rw [h]; intro q; cases q) z)) fun z => m (i2 x (by rw [h]; intro q; cases q) z), fun x h => b.al x (a.al x h), fun x h e => b.fr x (a.al x h) (a.fr x h e)⟩
/-- nothing changes -/
abbrev Non : Addr → Prop := fun _ => False

def SlotOk (B : Base) (F H : Hp) : Slot → Option (Option V) → List Addr → Prop
  | .emp, _, as => as = []
  | .val d, x, as => as = [] ∧ ∃ v, x = some (some v) ∧ Rp F v d
  | .own ds, x, as => ∃ p vs, as = [p] ∧ B.H0 p = none ∧ x = some (some (.ref p)) ∧ H p = some (.lst vs) ∧ RpA F vs ds
  | .st S, x, as => ∃ s, x = some (some (.ref s)) ∧ StAt H S s as
/-- a state that came as the first argument stays where it is -/
def PinOk (B : Base) (ad : Nat → List Addr) (ρ : Env) (σ : St) : Prop := ∀ s as, B.pin = some (s, as) → ∀ S, ρ[0]? = some (Slot.st S) → σ[0]? = some (some (.ref s)) ∧ ad 0 = as
theorem PinOk.to {B : Base} {ad ad' : Nat → List Addr} {ρ ρ' : Env} {σ σ' : St} (h : PinOk B ad ρ σ) (k : ∀ S, ρ'[0]? = some (Slot.st S) → (∃ S', ρ[0]? = some (Slot.st S')) ∧ σ'[0]? = σ[0]? ∧ ad' 0 = ad 0) : PinOk B ad' ρ' σ' := fun s as e S q => by
  obtain ⟨⟨S', e1⟩, e2, e3⟩ := k S q
  rw [e2, e3]
  exact h s as e S' e1
structure WA (B : Base) (ad : Nat → List Addr) (ρ : Env) (σ : St) (F H : Hp) : Prop where
  gr : Gr B.M B.F0 B.H0 F H
  len : σ.length = ρ.length
  sl : ∀ i s, ρ[i]? = some s → SlotOk B F H s σ[i]? (ad i)
  fz : ∀ i p, p ∈ ad i → F p = none ∧ (B.H0 p = none ∨ (B.M p ∧ i = 0))
  dj : ∀ i j p, p ∈ ad i → p ∈ ad j → i = j
  out : ∀ i, ρ[i]? = none → ad i = []
  pin : PinOk B ad ρ σ
def W (B : Base) (ρ : Env) (σ : St) (F H : Hp) : Prop := ∃ ad, WA B ad ρ σ F H
/-- the addresses of the states -/
def MS (ad : Nat → List Addr) (ρ : Env) (a : Addr) : Prop := ∃ (i : Nat) (S : Stt), ρ[i]? = some (Slot.st S) ∧ a ∈ ad i
/-- behind an expression -/
structure Post (B : Base) (ad : Nat → List Addr) (σ : St) (ρ : Env) (F H : Hp) (ρ' : Env) (F' H' : Hp) : Prop where
  wa : WA B ad ρ' σ F' H'
  gr : Gr (MS ad ρ) F H F' H'
  sh : ∀ (i : Nat) (S' : Stt), ρ'[i]? = some (Slot.st S') → ∃ S, ρ[i]? = some (Slot.st S)
section
variable {B : Base} {ad : Nat → List Addr} {ρ ρ' ρ1 ρ2 : Env} {σ : St} {F H F' H' F1 H1 F2 H2 : Hp}
theorem Post.refl (w : WA B ad ρ σ F H) : Post B ad σ ρ F H ρ F H := ⟨w, Gr.refl w.gr.fh, fun i S h => ⟨S, h⟩⟩
theorem Post.trans (a : Post B ad σ ρ F H ρ1 F1 H1) (b : Post B ad σ ρ1 F1 H1 ρ2 F2 H2) : Post B ad σ ρ F H ρ2 F2 H2 :=
  ⟨b.wa, a.gr.trans b.gr (fun _ _ h => h) fun x _ ⟨i, S, h, m⟩ => let ⟨S', h'⟩ := a.sh i S h; ⟨i, S', h', m⟩, fun i S h => let ⟨S1, h1⟩ := b.sh i S h; a.sh i S1 h1⟩
theorem WA.lv (w : WA B ad ρ σ F H) {i : Nat} {p : Addr} (h : p ∈ ad i) : H p ≠ none := by
  cases e : ρ[i]? with
  | none => rw [w.out i e] at h; cases h
  | some s =>
    have k := w.sl i s e
    cases s with
    | emp => have k : ad i = [] := k; rw [k] at h; cases h
    | val d => have k : ad i = [] := k.1; rw [k] at h; cases h
    | own ds =>
      obtain ⟨q, vs, k, _, _, k2, _⟩ := k
      rw [k] at h
      have e : p = q := by simpa using h
      rw [e, k2]
      intro z; cases z
    | st S =>
      obtain ⟨s, _, k⟩ := k
      exact k.mem.2 p h
/-- nothing tracked changes, F grows -/
theorem WA.grow (w : WA B ad ρ σ F H) (g : Gr Non F H F' H') : WA B ad ρ σ F' H' where
  gr := w.gr.trans g (fun _ _ h => h) fun _ _ h => h.elim
  len := w.len
  sl := fun i s h => by
    have k := w.sl i s h
    cases s with
    | emp => exact k
    | val d =>
      obtain ⟨k, v, e, r⟩ := k
      exact ⟨k, v, e, r.up g.ff⟩
    | own ds =>
      obtain ⟨p, vs, k, k0, k1, k2, r⟩ := k
      exact ⟨p, vs, k, k0, k1, g.kp _ _ k2 id, r.up g.ff⟩
    | st S =>
      obtain ⟨s, k1, k⟩ := k
      exact ⟨s, k1, k.keep fun a _ o e => g.kp a o e id⟩
  fz := fun i p h => ⟨g.fr p (w.lv h) (w.fz i p h).1, (w.fz i p h).2⟩
  dj := w.dj
  out := w.out
  pin := w.pin
theorem Post.of (w : WA B ad ρ σ F H) (g : Gr Non F H F' H') : Post B ad σ ρ F H ρ F' H' := ⟨w.grow g, ⟨g.ff, g.fh, fun a o h _ => g.kp a o h id, g.al, g.fr⟩, fun i S h => ⟨S, h⟩⟩
theorem Gr.heap (e : Same F H) (g : Same H H') : Gr Non F H F H' where
  ff := Same.refl F
  fh := e.trans g
  kp := fun a o h _ => g a o h
  al := fun a h => by
    cases q : H a with
    | none => exact absurd q h
    | some o =>
      rw [g a o q]
      intro z
      cases z
  fr := fun _ _ h => h
theorem same_upd {p : Addr} {o : HO} (h : H p = none) : Same H (upd H p o) := fun b u q => by rw [upd_ne (ne_of_none q h)]; exact q
/-- a new object is laid and frozen -/
theorem Gr.new {p : Addr} {o : HO} (e : Same F H) (h : H p = none) : Gr Non F H (upd F p o) (upd H p o) where
  ff := same_upd (by
    cases q : F p with
    | none => rfl
    | some u => rw [e p u q] at h; cases h)
  fh := fun a u q => by
    by_cases ha : a = p
    · subst ha; rw [upd_same] at q ⊢; exact q
    · rw [upd_ne ha] at q ⊢; exact e a u q
  kp := fun a u q _ => by rw [upd_ne (ne_of_none q h)]; exact q
  al := fun a q => by
    by_cases ha : a = p
    · subst ha; rw [upd_same]; intro z; cases z
    · rw [upd_ne ha]; exact q
  fr := fun a q z => by
    have ha : a ≠ p := fun z => q (z ▸ h)
    rw [upd_ne ha]
    exact z
end

/-! ### expressions over pure data -/
def EX (te : TE) (ρ : Env) (Q : D → Env → Prop) : Prop := ∀ B ad σ F H, WA B ad ρ σ F H → ∀ Z : VK, (∀ d ρ' v F' H', Q d ρ' → Post B ad σ ρ F H ρ' F' H' → Rp F' v d → Z v H') → te σ H Z
def EA (ta : TA) (ρ : Env) (Q : List D → Env → Prop) : Prop := ∀ B ad σ F H, WA B ad ρ σ F H → ∀ Z : List V → Hp → Prop, (∀ ds ρ' vs F' H', Q ds ρ' → Post B ad σ ρ F H ρ' F' H' → RpA F' vs ds → Z vs H') → ta σ H Z
def ET (tt : TT) (ρ : Env) (Q : Bool → Env → Prop) : Prop := ∀ B ad σ F H, WA B ad ρ σ F H → ∀ Z : Bool → Hp → Prop, (∀ b ρ' F' H', Q b ρ' → Post B ad σ ρ F H ρ' F' H' → Z b H') → tt σ H Z
/-- a new list, not yet frozen -/
def EO (te : TE) (ρ : Env) (Q : List D → Env → Prop) : Prop := ∀ B ad σ F H, WA B ad ρ σ F H → ∀ Z : VK,
  (∀ ds ρ' p vs F' H', Q ds ρ' → Post B ad σ ρ F H ρ' F' H' → F' p = none → H p = none → H' p = some (.lst vs) → RpA F' vs ds → Z (.ref p) H') → te σ H Z
def EPt (to : TO) (ρ : Env) (Q : Option Int → Env → Prop) : Prop := ∀ B ad σ F H, WA B ad ρ σ F H → ∀ Z : Option Int → Hp → Prop, (∀ o ρ' F' H', Q o ρ' → Post B ad σ ρ F H ρ' F' H' → Z o H') → to σ H Z
/-- operations by data -/
def OpD (r : R2) (d1 d2 : D) (K : D → Prop) : Prop := ∀ F H x y, Same F H → Rp F x d1 → Rp F y d2 → ∀ Z : VK, (∀ d v F' H', K d → Gr Non F H F' H' → Rp F' v d → Z v H') → r x y H Z
def OpO (r : R2) (d1 d2 : D) (K : List D → Prop) : Prop := ∀ F H x y, Same F H → Rp F x d1 → Rp F y d2 → ∀ Z : VK, (∀ ds p vs H', K ds → Same H H' → H p = none → H' p = some (.lst vs) → RpA F vs ds → Z (.ref p) H') → r x y H Z
def UnD (r : V → Hp → VK → Prop) (d1 : D) (K : D → Prop) : Prop := ∀ F H x, Same F H → Rp F x d1 → ∀ Z : VK, (∀ d v F' H', K d → Gr Non F H F' H' → Rp F' v d → Z v H') → r x H Z
def CbD (r : List V → Hp → VK → Prop) (ds : List D) (K : D → Prop) : Prop := ∀ F H vs, Same F H → RpA F vs ds → ∀ Z : VK, (∀ d v F' H', K d → Gr Non F H F' H' → Rp F' v d → Z v H') → r vs H Z
def CbO (r : List V → Hp → VK → Prop) (ds : List D) (K : List D → Prop) : Prop := ∀ F H vs, Same F H → RpA F vs ds → ∀ Z : VK, (∀ es p ws H', K es → Same H H' → H p = none → H' p = some (.lst ws) → RpA F ws es → Z (.ref p) H') → r vs H Z
def SlD (r : V → Option Int → Option Int → Hp → VK → Prop) (d1 : D) (lo hi : Option Int) (K : D → Prop) : Prop := ∀ F H x, Same F H → Rp F x d1 → ∀ Z : VK, (∀ d v F' H', K d → Gr Non F H F' H' → Rp F' v d → Z v H') → r x lo hi H Z
def SlO (r : V → Option Int → Option Int → Hp → VK → Prop) (d1 : D) (lo hi : Option Int) (K : List D → Prop) : Prop := ∀ F H x, Same F H → Rp F x d1 → ∀ Z : VK, (∀ ds p vs H', K ds → Same H H' → H p = none → H' p = some (.lst vs) → RpA F vs ds → Z (.ref p) H') → r x lo hi H Z

section
variable {B : Base} {ad : Nat → List Addr} {ρ ρ' ρ1 ρ2 : Env} {σ : St} {F H F' H' F1 H1 F2 H2 : Hp} {te ta tb tc : TE} {tt tu : TT} {t : TA} {Q Q' : D → Env → Prop}
theorem WA.newp (w : WA B ad ρ σ F H) {p : Addr} (h : H p = none) : F p = none ∧ B.H0 p = none ∧ ∀ i, p ∉ ad i := by
  refine ⟨w.gr.fh.free h, ?_, fun i m => w.lv m h⟩
  cases q : B.H0 p with
  | none => rfl
  | some o => exact absurd h (w.gr.al p (by rw [q]; intro z; cases z))
/-- a list that nobody owns is frozen -/
theorem WA.freeze (w : WA B ad ρ σ F H) {p : Addr} {vs : List V} (hF : F p = none) (h0 : B.H0 p = none) (hn : ∀ i, p ∉ ad i) (hp : H p = some (.lst vs)) : WA B ad ρ σ (upd F p (.lst vs)) H where
  gr := ⟨w.gr.ff.trans (same_upd hF), fun a o e => by
    by_cases ha : a = p
    · subst ha; rw [upd_same] at e; rw [hp]; exact e
    · rw [upd_ne ha] at e; exact w.gr.fh a o e, w.gr.kp, w.gr.al, fun a e z => by
    have ha : a ≠ p := fun q => e (by rw [q]; exact h0)
    rw [upd_ne ha]
    exact w.gr.fr a e z⟩
  len := w.len
  sl := fun i s e => by
    have k := w.sl i s e
    have up := same_upd (o := .lst vs) hF
    cases s with
    | emp => exact k
    | val d =>
      obtain ⟨k, v, e, r⟩ := k
      exact ⟨k, v, e, r.up up⟩
    | own ds =>
      obtain ⟨q, ws, k, k0, k1, k2, r⟩ := k
      exact ⟨q, ws, k, k0, k1, k2, r.up up⟩
    | st S => exact k
  fz := fun i q m => by
    have ne : q ≠ p := fun z => hn i (z ▸ m)
    rw [upd_ne ne]
    exact w.fz i q m
  dj := w.dj
  out := w.out
  pin := w.pin
theorem Post.freeze (w : Post B ad σ ρ F H ρ' F' H') (w0 : WA B ad ρ σ F H) {p : Addr} {vs : List V} (hF : F' p = none) (hH : H p = none) (hp : H' p = some (.lst vs)) : Post B ad σ ρ F H ρ' (upd F' p (.lst vs)) H' :=
  have n := w0.newp hH
  have f := w.wa.freeze hF n.2.1 n.2.2 hp
  ⟨f, ⟨w.gr.ff.trans (same_upd hF), f.gr.fh, w.gr.kp, w.gr.al, fun a e z => by
    have ha : a ≠ p := fun q => e (by rw [q]; exact hH)
    rw [upd_ne ha]
    exact w.gr.fr a e z⟩, w.sh⟩

/-! #### the rules -/
theorem EX.imp (h : EX te ρ Q) (k : ∀ d ρ', Q d ρ' → Q' d ρ') : EX te ρ Q' := fun B ad σ F H w Z z => h B ad σ F H w Z fun d ρ' v F' H' q p r => z d ρ' v F' H' (k d ρ' q) p r
theorem ex_of {Q : D → Env → Prop} (h : EO te ρ fun ds ρ' => Q (.list ds) ρ') : EX te ρ Q := fun B ad σ F H w Z z => h B ad σ F H w Z fun ds ρ' p vs F' H' q P hF hH hp r =>
  z _ ρ' _ (upd F' p (.lst vs)) H' q (P.freeze w hF hH hp) (.lst (.inl upd_same) (r.up (same_upd hF)))
theorem ex_var {i : Nat} {d : D} (h : ρ[i]? = some (.val d)) (q : Q d ρ) : EX (tVar i) ρ Q := fun B ad σ F H w Z z => by
  obtain ⟨_, v, e, r⟩ := w.sl i _ h
  exact ⟨v, e, z d ρ v F H q (Post.refl w) r⟩
theorem ex_c {v : V} {d : D} (r : ∀ F, Rp F v d) (q : Q d ρ) : EX (tC v) ρ Q := fun B ad σ F H w Z z => z d ρ v F H q (Post.refl w) (r F)
theorem ex_int {i : Int} (q : Q (.int i) ρ) : EX (tC (.int i)) ρ Q := ex_c (fun _ => .int i) q
theorem ex_str {x : Str} (q : Q (.str x) ρ) : EX (tC (.str x)) ρ Q := ex_c (fun _ => .str x) q
theorem ex_bl {b : Bool} (q : Q (.bool b) ρ) : EX (tC (.bl b)) ρ Q := ex_c (fun _ => .bl b) q
theorem ex_non (q : Q .none ρ) : EX (tC .non) ρ Q := ex_c (fun _ => .non) q
theorem ex_op {r : R2} (h : EX ta ρ fun d1 ρ1 => EX tb ρ1 fun d2 ρ2 => OpD r d1 d2 fun d => Q d ρ2) : EX (tOp r ta tb) ρ Q := fun B ad σ F H w Z z =>
  h B ad σ F H w _ fun d1 ρ1 x F1 H1 q1 p1 r1 => q1 B ad σ F1 H1 p1.wa _ fun d2 ρ2 y F2 H2 q2 p2 r2 =>
    q2 F2 H2 x y p2.wa.gr.fh (r1.up p2.gr.ff) r2 Z fun d v F' H' kd g rv => z d ρ2 v F' H' kd ((p1.trans p2).trans (Post.of p2.wa g)) rv
theorem eo_op {r : R2} {Q : List D → Env → Prop} (h : EX ta ρ fun d1 ρ1 => EX tb ρ1 fun d2 ρ2 => OpO r d1 d2 fun d => Q d ρ2) : EO (tOp r ta tb) ρ Q := fun B ad σ F H w Z z =>
  h B ad σ F H w _ fun d1 ρ1 x F1 H1 q1 p1 r1 => q1 B ad σ F1 H1 p1.wa _ fun d2 ρ2 y F2 H2 q2 p2 r2 =>
    q2 F2 H2 x y p2.wa.gr.fh (r1.up p2.gr.ff) r2 Z fun ds p vs H' kd e hn hp rv => z ds ρ2 p vs F2 H' kd ((p1.trans p2).trans (Post.of p2.wa (Gr.heap p2.wa.gr.fh e))) (p2.wa.newp hn).1 (by
      cases q : H p with
      | none => rfl
      | some o => exact absurd hn (p2.gr.al p (p1.gr.al p (by rw [q]; intro z; cases z)))) hp rv
theorem ex_un {r : V → Hp → VK → Prop} (h : EX ta ρ fun d1 ρ1 => UnD r d1 fun d => Q d ρ1) : EX (tUn r ta) ρ Q := fun B ad σ F H w Z z =>
  h B ad σ F H w _ fun d1 ρ1 x F1 H1 q1 p1 r1 => q1 F1 H1 x p1.wa.gr.fh r1 Z fun d v F' H' kd g rv => z d ρ1 v F' H' kd (p1.trans (Post.of p1.wa g)) rv
theorem ea_nil {Q : List D → Env → Prop} (q : Q [] ρ) : EA tNil ρ Q := fun B ad σ F H w Z z => z [] ρ [] F H q (Post.refl w) .nil
theorem ea_cons {Q : List D → Env → Prop} (h : EX te ρ fun d ρ1 => EA t ρ1 fun ds ρ2 => Q (d :: ds) ρ2) : EA (tCons te t) ρ Q := fun B ad σ F H w Z z =>
  h B ad σ F H w _ fun d ρ1 v F1 H1 q1 p1 r1 => q1 B ad σ F1 H1 p1.wa _ fun ds ρ2 vs F2 H2 q2 p2 r2 => z (d :: ds) ρ2 (v :: vs) F2 H2 q2 (p1.trans p2) (.cons (r1.up p2.gr.ff) r2)
theorem ex_cb {r : List V → Hp → VK → Prop} (h : EA t ρ fun ds ρ1 => CbD r ds fun d => Q d ρ1) : EX (tCB r t) ρ Q := fun B ad σ F H w Z z =>
  h B ad σ F H w _ fun ds ρ1 vs F1 H1 q1 p1 r1 => q1 F1 H1 vs p1.wa.gr.fh r1 Z fun d v F' H' kd g rv => z d ρ1 v F' H' kd (p1.trans (Post.of p1.wa g)) rv
theorem eo_cb {r : List V → Hp → VK → Prop} {Q : List D → Env → Prop} (h : EA t ρ fun ds ρ1 => CbO r ds fun d => Q d ρ1) : EO (tCB r t) ρ Q := fun B ad σ F H w Z z =>
  h B ad σ F H w _ fun ds ρ1 vs F1 H1 q1 p1 r1 => q1 F1 H1 vs p1.wa.gr.fh r1 Z fun es p ws H' kd e hn hp rv => z es ρ1 p ws F1 H' kd (p1.trans (Post.of p1.wa (Gr.heap p1.wa.gr.fh e))) (p1.wa.newp hn).1 (by
      cases q : H p with
      | none => rfl
      | some o => exact absurd hn (p1.gr.al p (by rw [q]; intro z; cases z))) hp rv
theorem ex_tup (h : EA t ρ fun ds ρ1 => ds.length ≤ 100000 ∧ Q (.tuple ds) ρ1) : EX (tTup t) ρ Q := fun B ad σ F H w Z z =>
  h B ad σ F H w _ fun ds ρ1 vs F1 H1 q1 p1 r1 => ⟨Nat.le_trans (by rw [r1.len]; exact q1.1) (by decide), fun p hp =>
    z _ ρ1 _ (upd F1 p (.tup vs)) _ q1.2 (p1.trans (Post.of p1.wa (Gr.new p1.wa.gr.fh hp))) (.tup upd_same (r1.up (Gr.new p1.wa.gr.fh hp).ff))⟩
theorem eo_lst {Q : List D → Env → Prop} (h : EA t ρ fun ds ρ1 => ds.length ≤ 100000 ∧ Q ds ρ1) : EO (tLst t) ρ Q := fun B ad σ F H w Z z =>
  h B ad σ F H w _ fun ds ρ1 vs F1 H1 q1 p1 r1 => ⟨Nat.le_trans (by rw [r1.len]; exact q1.1) (by decide), fun p hp =>
    z _ ρ1 p vs F1 _ q1.2 (p1.trans (Post.of p1.wa (Gr.heap p1.wa.gr.fh (same_upd hp)))) (p1.wa.newp hp).1 (by
      cases q : H p with
      | none => rfl
      | some o => exact absurd hp (p1.gr.al p (by rw [q]; intro z; cases z))) upd_same r1⟩
/-! slices -/
theorem ep_no {Q : Option Int → Env → Prop} (q : Q none ρ) : EPt tNoPart ρ Q := fun B ad σ F H w Z z => z none ρ F H q (Post.refl w)
theorem ep_some {Q : Option Int → Env → Prop} (h : EX te ρ fun d ρ1 => ∃ i, d = .int i ∧ Q (some i) ρ1) : EPt (tPart te) ρ Q := fun B ad σ F H w Z z =>
  h B ad σ F H w _ fun d ρ1 v F1 H1 q1 p1 r1 => by
    obtain ⟨i, rfl, q⟩ := q1
    exact ⟨i, r1.int_inv, z _ ρ1 F1 H1 q p1⟩
theorem ex_sl {r : V → Option Int → Option Int → Hp → VK → Prop} {tl th : TO} (h : EX te ρ fun d1 ρ1 => EPt tl ρ1 fun lo ρ2 => EPt th ρ2 fun hi ρ3 => SlD r d1 lo hi fun d => Q d ρ3) : EX (tSl r te tl th) ρ Q := fun B ad σ F H w Z z =>
  h B ad σ F H w _ fun d1 ρ1 x F1 H1 q1 p1 r1 => q1 B ad σ F1 H1 p1.wa _ fun lo ρ2 F2 H2 q2 p2 => q2 B ad σ F2 H2 p2.wa _ fun hi ρ3 F3 H3 q3 p3 =>
    q3 F3 H3 x p3.wa.gr.fh ((r1.up p2.gr.ff).up p3.gr.ff) Z fun d v F' H' kd g rv => z d ρ3 v F' H' kd (((p1.trans p2).trans p3).trans (Post.of p3.wa g)) rv
theorem eo_sl {r : V → Option Int → Option Int → Hp → VK → Prop} {tl th : TO} {Q : List D → Env → Prop} (h : EX te ρ fun d1 ρ1 => EPt tl ρ1 fun lo ρ2 => EPt th ρ2 fun hi ρ3 => SlO r d1 lo hi fun d => Q d ρ3) : EO (tSl r te tl th) ρ Q := fun B ad σ F H w Z z =>
  h B ad σ F H w _ fun d1 ρ1 x F1 H1 q1 p1 r1 => q1 B ad σ F1 H1 p1.wa _ fun lo ρ2 F2 H2 q2 p2 => q2 B ad σ F2 H2 p2.wa _ fun hi ρ3 F3 H3 q3 p3 =>
    q3 F3 H3 x p3.wa.gr.fh ((r1.up p2.gr.ff).up p3.gr.ff) Z fun ds p vs H' kd e hn hp rv => z ds ρ3 p vs F3 H' kd (((p1.trans p2).trans p3).trans (Post.of p3.wa (Gr.heap p3.wa.gr.fh e))) (p3.wa.newp hn).1 (by
      cases q : H p with
      | none => rfl
      | some o => exact absurd hn (p3.gr.al p (p2.gr.al p (p1.gr.al p (by rw [q]; intro z; cases z))))) hp rv
/-! tests -/
theorem et_imp {Q Q' : Bool → Env → Prop} (h : ET tt ρ Q) (k : ∀ b ρ', Q b ρ' → Q' b ρ') : ET tt ρ Q' := fun B ad σ F H w Z z => h B ad σ F H w Z fun b ρ' F' H' q p => z b ρ' F' H' (k b ρ' q) p
theorem et_test {Q : Bool → Env → Prop} (h : EX te ρ fun d ρ1 => ∃ b, d = .bool b ∧ Q b ρ1) : ET (tTest te) ρ Q := fun B ad σ F H w Z z =>
  h B ad σ F H w _ fun d ρ1 v F1 H1 q1 p1 r1 => by
    obtain ⟨b, rfl, q⟩ := q1
    exact ⟨b, r1.bl_inv, z b ρ1 F1 H1 q p1⟩
theorem et_B {Q : Bool → Env → Prop} (h : EX te ρ fun d ρ1 => ∃ b, d = .bool b ∧ Q b ρ1) : ET (tB te) ρ Q := et_test h
theorem et_and {Q : Bool → Env → Prop} (h : ET tt ρ fun b ρ1 => (b = true → ET tu ρ1 Q) ∧ (b = false → Q false ρ1)) : ET (tAnd tt tu) ρ Q := fun B ad σ F H w Z z =>
  h B ad σ F H w _ fun b ρ1 F1 H1 q1 p1 => by
    cases b with
    | true =>
      show tu σ H1 Z
      exact q1.1 rfl B ad σ F1 H1 p1.wa Z fun b ρ' F' H' q p => z b ρ' F' H' q (p1.trans p)
    | false =>
      show Z false H1
      exact z false ρ1 F1 H1 (q1.2 rfl) p1
theorem et_or {Q : Bool → Env → Prop} (h : ET tt ρ fun b ρ1 => (b = true → Q true ρ1) ∧ (b = false → ET tu ρ1 Q)) : ET (tOr tt tu) ρ Q := fun B ad σ F H w Z z =>
  h B ad σ F H w _ fun b ρ1 F1 H1 q1 p1 => by
    cases b with
    | true =>
      show Z true H1
      exact z true ρ1 F1 H1 (q1.1 rfl) p1
    | false =>
      show tu σ H1 Z
      exact q1.2 rfl B ad σ F1 H1 p1.wa Z fun b ρ' F' H' q p => z b ρ' F' H' q (p1.trans p)
theorem et_not {Q : Bool → Env → Prop} (h : ET tt ρ fun b ρ1 => Q (!b) ρ1) : ET (tNot tt) ρ Q := fun B ad σ F H w Z z => h B ad σ F H w _ fun b ρ1 F1 H1 q p => z (!b) ρ1 F1 H1 q p
theorem ex_andV (h : EX ta ρ fun d ρ1 => ∃ b, d = .bool b ∧ (b = true → EX tb ρ1 Q) ∧ (b = false → Q (.bool false) ρ1)) : EX (tAndV ta tb) ρ Q := fun B ad σ F H w Z z =>
  h B ad σ F H w _ fun d ρ1 v F1 H1 q1 p1 r1 => by
    obtain ⟨b, rfl, k1, k2⟩ := q1
    refine ⟨b, r1.bl_inv, ?_⟩
    cases b with
    | true =>
      show tb σ H1 Z
      exact k1 rfl B ad σ F1 H1 p1.wa Z fun d ρ' v F' H' q p r => z d ρ' v F' H' q (p1.trans p) r
    | false =>
      show Z (.bl false) H1
      exact z _ ρ1 _ F1 H1 (k2 rfl) p1 (.bl false)
theorem ex_orV (h : EX ta ρ fun d ρ1 => ∃ b, d = .bool b ∧ (b = true → Q (.bool true) ρ1) ∧ (b = false → EX tb ρ1 Q)) : EX (tOrV ta tb) ρ Q := fun B ad σ F H w Z z =>
  h B ad σ F H w _ fun d ρ1 v F1 H1 q1 p1 r1 => by
    obtain ⟨b, rfl, k1, k2⟩ := q1
    refine ⟨b, r1.bl_inv, ?_⟩
    cases b with
    | true =>
      show Z (.bl true) H1
      exact z _ ρ1 _ F1 H1 (k1 rfl) p1 (.bl true)
    | false =>
      show tb σ H1 Z
      exact k2 rfl B ad σ F1 H1 p1.wa Z fun d ρ' v F' H' q p r => z d ρ' v F' H' q (p1.trans p) r
theorem ex_notV (h : EX ta ρ fun d ρ1 => ∃ b, d = .bool b ∧ Q (.bool !b) ρ1) : EX (tNotV ta) ρ Q := fun B ad σ F H w Z z =>
  h B ad σ F H w _ fun d ρ1 v F1 H1 q1 p1 r1 => by
    obtain ⟨b, rfl, k⟩ := q1
    exact ⟨b, r1.bl_inv, z _ ρ1 _ F1 H1 k p1 (.bl _)⟩
theorem ex_if (h : ET tt ρ fun b ρ1 => (b = true → EX ta ρ1 Q) ∧ (b = false → EX tb ρ1 Q)) : EX (tIf tt ta tb) ρ Q := fun B ad σ F H w Z z =>
  h B ad σ F H w _ fun b ρ1 F1 H1 q1 p1 => by
    cases b with
    | true =>
      show ta σ H1 Z
      exact q1.1 rfl B ad σ F1 H1 p1.wa Z fun d ρ' v F' H' q p r => z d ρ' v F' H' q (p1.trans p) r
    | false =>
      show tb σ H1 Z
      exact q1.2 rfl B ad σ F1 H1 p1.wa Z fun d ρ' v F' H' q p r => z d ρ' v F' H' q (p1.trans p) r
theorem ex_chain {r r' : R2} (h : EX ta ρ fun d1 ρ1 => EX tb ρ1 fun d2 ρ2 => OpD r d1 d2 fun d => ∃ b, d = .bool b ∧ (b = true → EX tc ρ2 fun d3 ρ3 => OpD r' d2 d3 fun d => Q d ρ3) ∧ (b = false → Q (.bool false) ρ2)) : EX (tChain r r' ta tb tc) ρ Q := fun B ad σ F H w Z z =>
  h B ad σ F H w _ fun d1 ρ1 x F1 H1 q1 p1 r1 => q1 B ad σ F1 H1 p1.wa _ fun d2 ρ2 y F2 H2 q2 p2 r2 =>
    q2 F2 H2 x y p2.wa.gr.fh (r1.up p2.gr.ff) r2 _ fun d v F3 H3 kd g rv => by
      obtain ⟨b, rfl, k1, k2⟩ := kd
      refine ⟨b, rv.bl_inv, ?_⟩
      have p3 := (p1.trans p2).trans (Post.of p2.wa g)
      cases b with
      | true =>
        show tc σ H3 fun w' H4 => r' y w' H4 Z
        exact k1 rfl B ad σ F3 H3 p3.wa _ fun d3 ρ3 u F4 H4 q4 p4 r4 => q4 F4 H4 y u p4.wa.gr.fh ((r2.up g.ff).up p4.gr.ff) r4 Z fun d v F' H' kd g rv => z d ρ3 v F' H' kd ((p3.trans p4).trans (Post.of p4.wa g)) rv
      | false =>
        show Z (.bl false) H3
        exact z _ ρ2 _ F3 H3 (k2 rfl) p3 (.bl false)
end
/-! ### operations -/
section
variable {K : PySem.W.Frag} {Q : D → Prop} {i j : Int} {d d1 d2 : D} {ds es : List D}
theorem opd_I0 {g : Int → Int → Int} (k : Q (.int (g i j))) : OpD (rI0 fun i j => .int (g i j)) (.int i) (.int j) Q := fun F H x y e rx ry Z z => ⟨i, j, rx.int_inv, ry.int_inv, z _ _ F H k (Gr.refl e) (.int _)⟩
theorem opd_B0 {g : Int → Int → Bool} (k : Q (.bool (g i j))) : OpD (rI0 fun i j => .bl (g i j)) (.int i) (.int j) Q := fun F H x y e rx ry Z z => ⟨i, j, rx.int_inv, ry.int_inv, z _ _ F H k (Gr.refl e) (.bl _)⟩
theorem opd_I {C : Int → Int → Prop} {g : Int → Int → Int} (c : C i j) (k : Q (.int (g i j))) : OpD (rI C fun i j => .int (g i j)) (.int i) (.int j) Q := fun F H x y e rx ry Z z => ⟨i, j, rx.int_inv, ry.int_inv, c, z _ _ F H k (Gr.refl e) (.int _)⟩
theorem und_neg (k : Q (.int (-i))) : UnD (rU fun i => .int (-i)) (.int i) Q := fun F H x e rx Z z => ⟨i, rx.int_inv, z _ _ F H k (Gr.refl e) (.int _)⟩
theorem opd_eq (s1 : SeqAt.shaped d1 = true) (s2 : SeqAt.shaped d2 = true) (k : Q (.bool (PyData.eqv d1 d2))) : OpD (rEqD K) d1 d2 Q := fun F H x y e rx ry Z z => ⟨d1, d2, rx.dp e, ry.dp e, s1, s2, z _ _ F H k (Gr.refl e) (.bl _)⟩
theorem opd_ne (s1 : SeqAt.shaped d1 = true) (s2 : SeqAt.shaped d2 = true) (k : Q (.bool (!PyData.eqv d1 d2))) : OpD (rNeD K) d1 d2 Q := fun F H x y e rx ry Z z => ⟨d1, d2, rx.dp e, ry.dp e, s1, s2, z _ _ F H k (Gr.refl e) (.bl _)⟩
def isN : D → Bool
  | .none => true
  | _ => false
theorem isN_of {F : Hp} {x : V} (r : Rp F x d) : decide (x = .non) = isN d := by cases r <;> rfl
def rIs : R2 := fun x y H Q => y = .non ∧ Q (.bl (decide (x = .non))) H
def rIsnt : R2 := fun x y H Q => y = .non ∧ Q (.bl (!decide (x = .non))) H
theorem op_is {X : Cx} : OpR X (compareOp .Is) rIs := op_isN
theorem op_isnt {X : Cx} : OpR X (compareOp .IsNot) rIsnt := op_notN
theorem opd_is (k : Q (.bool (isN d))) : OpD rIs d .none Q := fun F H x y e rx ry Z z => ⟨ry.non_inv, by rw [isN_of rx]; exact z _ _ F H k (Gr.refl e) (.bl _)⟩
theorem opd_isnt (k : Q (.bool (!isN d))) : OpD rIsnt d .none Q := fun F H x y e rx ry Z z => ⟨ry.non_inv, by rw [isN_of rx]; exact z _ _ F H k (Gr.refl e) (.bl _)⟩
/-! an item -/
theorem RpA.at_ {F : Hp} {vs : List V} (r : RpA F vs ds) (h : atI ds i = some d) : ∃ v, atI vs i = some v ∧ Rp F v d := by
  unfold atI at h ⊢
  rw [r.len]
  cases e : ixN ds.length i with
  | none => rw [e] at h; cases h
  | some k =>
    rw [e] at h
    exact r.get (k := k) h
def rIxA (K : PySem.W.Frag) : R2 := fun x y H Q => rIxL K x y H Q ∨ rIxT K x y H Q
theorem ix_any {X : Cx} : IxR X (rIxA X.K) := IxR.or ix_list ix_tup
theorem opd_ixL (h : atI ds i = some d) (k : Q d) : OpD (rIxA K) (.list ds) (.int i) Q := fun F H x y e rx ry Z z => by
  obtain ⟨a, xs, rfl, h1, h2⟩ := rx.lst_inv
  obtain ⟨v, hv, rv⟩ := h2.at_ h
  exact .inl ⟨a, xs, i, v, rfl, ry.int_inv, sqL_rd h1 e, hv, z _ _ F H k (Gr.refl e) rv⟩
theorem opd_ixT (h : atI ds i = some d) (k : Q d) : OpD (rIxA K) (.tuple ds) (.int i) Q := fun F H x y e rx ry Z z => by
  obtain ⟨a, xs, rfl, h1, h2⟩ := rx.tup_inv
  obtain ⟨v, hv, rv⟩ := h2.at_ h
  exact .inr ⟨a, xs, i, v, rfl, ry.int_inv, sqT_rd h1 e, hv, z _ _ F H k (Gr.refl e) rv⟩
/-! + -/
def rCatR : R2 := fun x y H Q => ∃ l b xs zs, x = .ref l ∧ y = .ref b ∧ Rd H l (.lst xs) ∧ Rd H b (.lst zs) ∧ xs.length + zs.length ≤ sizeLine ∧ ∀ p, H p = none → Q (.ref p) (upd H p (.lst (xs ++ zs)))
theorem op_catR {X : Cx} : OpR X (binaryOp .Add) rCatR := by
  intro pins s σ H x y v u Q I rx ry h
  obtain ⟨l, b, xs, zs, rfl, rfl, hH, hB, hz, q⟩ := h
  cases rx
  cases ry
  obtain ⟨z, its, n, r, e⟩ := hH.ok I.hok
  obtain ⟨z2, its2, n2, r2, e2⟩ := hB.ok I.hok
  have hl := r.length
  have hl2 := r2.length
  refine PySem.P.add_list e e2 ?_ (by rw [List.size_toArray, List.size_toArray]; omega)
  have ea : its.toArray ++ its2.toArray = (its ++ its2).toArray := by simp
  rw [ea]
  exact ⟨.ref _, _, I.lnew (t' := s.toks) (r.append r2) (by rw [List.length_append]; omega), rfl, q _ I.fresh⟩
def rPlus (K : PySem.W.Frag) : R2 := fun x y H Q => (fun x y H Q => rI0 (fun i j => .int (i + j)) x y H Q ∨ rCatR x y H Q) x y H Q ∨ rCatA K x y H Q
theorem op_plus {X : Cx} : OpR X (binaryOp .Add) (rPlus X.K) := OpR.or (OpR.or op_add op_catR) op_catA
theorem opd_plusI (k : Q (.int (i + j))) : OpD (rPlus K) (.int i) (.int j) Q := fun F H x y e rx ry Z z => .inl (.inl (opd_I0 k F H x y e rx ry Z z))
theorem opo_plusL {Q : List D → Prop} (hz : ds.length + es.length ≤ 1000000) (k : Q (ds ++ es)) : OpO (rPlus K) (.list ds) (.list es) Q := fun F H x y e rx ry Z z => by
  obtain ⟨a, xs, rfl, h1, h2⟩ := rx.lst_inv
  obtain ⟨b, ys, rfl, g1, g2⟩ := ry.lst_inv
  exact .inl (.inr ⟨a, b, xs, ys, rfl, rfl, rd_mono e h1, rd_mono e g1, Nat.le_trans (by rw [h2.len, g2.len]; exact hz) (by decide), fun p hp => z _ p _ _ k (same_upd hp) hp upd_same (h2.app g2)⟩)
theorem opd_plusT (hz : ds.length + es.length ≤ 1000000) (k : Q (.tuple (ds ++ es))) : OpD (rPlus K) (.tuple ds) (.tuple es) Q := fun F H x y e rx ry Z z => by
  obtain ⟨a, xs, rfl, h1, h2⟩ := rx.tup_inv
  obtain ⟨b, ys, rfl, g1, g2⟩ := ry.tup_inv
  refine .inr ⟨a, b, xs, ys, rfl, rfl, sqT_rd h1 e, sqT_rd g1 e, Nat.le_trans (by rw [h2.len, g2.len]; exact hz) (by decide), fun q => ?_, fun _ q => ?_, fun _ _ p hp => ?_⟩
  · subst q
    cases h2
    exact z _ _ F H k (Gr.refl e) ry
  · subst q
    cases g2
    rw [List.append_nil] at k
    exact z _ _ F H k (Gr.refl e) rx
  · exact z _ _ _ _ k (Gr.new e hp) (.tup upd_same ((h2.app g2).up (Gr.new e hp).ff))
/-! slices -/
def rSl (K : PySem.W.Frag) : V → Option Int → Option Int → Hp → VK → Prop := fun x lo hi H Q => rSlL K x lo hi H Q ∨ rSlA K x lo hi H Q
theorem sl_any {X : Cx} : SlR X (rSl X.K) := SlR.or sl_list sl_tupA
def cutD (xs : List D) (lo hi : Option Int) : List D := (xs.drop (HT.sIx xs.length 0 lo)).take (HT.sIx xs.length xs.length hi - HT.sIx xs.length 0 lo)
theorem RpA.cut {F : Hp} {vs : List V} (r : RpA F vs ds) (lo hi : Option Int) : RpA F (cutV vs lo hi) (cutD ds lo hi) := by
  unfold cutV cutD
  rw [r.len]
  exact (r.drop _).take _
theorem slo_L {Q : List D → Prop} {lo hi : Option Int} (k : Q (cutD ds lo hi)) : SlO (rSl K) (.list ds) lo hi Q := fun F H x e rx Z z => by
  obtain ⟨a, xs, rfl, h1, h2⟩ := rx.lst_inv
  exact .inl ⟨a, xs, rfl, sqL_rd h1 e, fun p hp => z _ p _ _ k (same_upd hp) hp upd_same (h2.cut lo hi)⟩
theorem sld_T {lo hi : Option Int} (k : Q (.tuple (cutD ds lo hi))) : SlD (rSl K) (.tuple ds) lo hi Q := fun F H x e rx Z z => by
  obtain ⟨a, xs, rfl, h1, h2⟩ := rx.tup_inv
  refine .inr ⟨a, xs, rfl, sqT_rd h1 e, fun w => ?_, fun w p hp => z _ _ _ _ k (Gr.new e hp) (.tup upd_same ((h2.cut lo hi).up (Gr.new e hp).ff))⟩
  have ec : cutD ds lo hi = ds := by
    rw [h2.len] at w
    unfold cutD
    rw [w.1, w.2, List.drop_zero, Nat.sub_zero, List.take_length]
  rw [ec] at k
  exact z _ _ F H k (Gr.refl e) rx
/-! built-ins -/
def rLen (K : PySem.W.Frag) : List V → Hp → VK → Prop := fun xs H Q => ∃ x n, xs = [x] ∧ LenV K x H n ∧ Q (.int (n : Int)) H
theorem cb_len {X : Cx} : CallR X (.builtin "len") (rLen X.K) := call_len
theorem RpA.one {F : Hp} {vs : List V} (h : RpA F vs [d]) : ∃ v, vs = [v] ∧ Rp F v d := by
  cases h with
  | cons h1 h2 => cases h2; exact ⟨_, rfl, h1⟩
theorem RpA.two {F : Hp} {vs : List V} (h : RpA F vs [d1, d2]) : ∃ v u, vs = [v, u] ∧ Rp F v d1 ∧ Rp F u d2 := by
  cases h with
  | cons h1 h2 => obtain ⟨u, rfl, r⟩ := h2.one; exact ⟨_, _, rfl, h1, r⟩
theorem cbd_lenL (k : Q (.int (ds.length : Int))) : CbD (rLen K) [.list ds] Q := fun F H vs e r Z z => by
  obtain ⟨v, rfl, rv⟩ := r.one
  obtain ⟨a, xs, rfl, h1, h2⟩ := rv.lst_inv
  exact ⟨_, ds.length, rfl, .inl ⟨xs, sqL_rd h1 e, h2.len.symm⟩, z _ _ F H k (Gr.refl e) (.int _)⟩
theorem cbd_lenT (k : Q (.int (ds.length : Int))) : CbD (rLen K) [.tuple ds] Q := fun F H vs e r Z z => by
  obtain ⟨v, rfl, rv⟩ := r.one
  obtain ⟨a, xs, rfl, h1, h2⟩ := rv.tup_inv
  exact ⟨_, ds.length, rfl, .inr ⟨xs, sqT_rd h1 e, h2.len.symm⟩, z _ _ F H k (Gr.refl e) (.int _)⟩
def rAbs : List V → Hp → VK → Prop := fun xs H Q => ∃ i, xs = [.int i] ∧ Q (.int (if i < 0 then -i else i)) H
theorem cb_abs {X : Cx} : CallR X (.builtin "abs") rAbs := call_abs
theorem cbd_abs (k : Q (.int (i.natAbs : Int))) : CbD rAbs [.int i] Q := fun F H vs e r Z z => by
  obtain ⟨v, rfl, rv⟩ := r.one
  refine ⟨i, by rw [rv.int_inv], ?_⟩
  have e2 : (if i < 0 then -i else i) = (i.natAbs : Int) := by
    by_cases h : i < 0
    · rw [if_pos h]; omega
    · rw [if_neg h]; omega
  rw [e2]
  exact z _ _ F H k (Gr.refl e) (.int _)
def rMx2 : List V → Hp → VK → Prop := fun xs H Q => ∃ i j, xs = [.int i, .int j] ∧ Q (.int (if j > i then j else i)) H
def rMn2 : List V → Hp → VK → Prop := fun xs H Q => ∃ i j, xs = [.int i, .int j] ∧ Q (.int (if j < i then j else i)) H
theorem cb_max2 {X : Cx} (hc : X.calm = true) : CallR X (.builtin "max") rMx2 := call_max2 hc
theorem cb_min2 {X : Cx} (hc : X.calm = true) : CallR X (.builtin "min") rMn2 := call_min2 hc
theorem cbd_max2 (k : Q (.int (max i j))) : CbD rMx2 [.int i, .int j] Q := fun F H vs e r Z z => by
  obtain ⟨v, u, rfl, rv, ru⟩ := r.two
  refine ⟨i, j, by rw [rv.int_inv, ru.int_inv], ?_⟩
  have e2 : (if j > i then j else i) = max i j := by
    by_cases h : j > i
    · rw [if_pos h]; omega
    · rw [if_neg h]; omega
  rw [e2]
  exact z _ _ F H k (Gr.refl e) (.int _)
theorem cbd_min2 (k : Q (.int (min i j))) : CbD rMn2 [.int i, .int j] Q := fun F H vs e r Z z => by
  obtain ⟨v, u, rfl, rv, ru⟩ := r.two
  refine ⟨i, j, by rw [rv.int_inv, ru.int_inv], ?_⟩
  have e2 : (if j < i then j else i) = min i j := by
    by_cases h : j < i
    · rw [if_pos h]; omega
    · rw [if_neg h]; omega
  rw [e2]
  exact z _ _ F H k (Gr.refl e) (.int _)
def rInt : List V → Hp → VK → Prop := fun xs H Q => (∃ i, xs = [.int i] ∧ Q (.int i) H) ∨ ∃ k, xs = [.bl k] ∧ Q (.int (if k then 1 else 0)) H
theorem cb_int {X : Cx} : CallR X (.type "int") rInt := call_int1
theorem cbd_int (k : Q (.int i)) : CbD rInt [.int i] Q := fun F H vs e r Z z => by
  obtain ⟨v, rfl, rv⟩ := r.one
  exact .inl ⟨i, by rw [rv.int_inv], z _ _ F H k (Gr.refl e) (.int _)⟩
def rList (K : PySem.W.Frag) : List V → Hp → VK → Prop := fun xs H Q => ∃ p ys, xs = [.ref p] ∧ (SqL K H p ys ∨ SqT K H p ys) ∧ ∀ l, H l = none → Q (.ref l) (upd H l (.lst ys))
theorem cb_list {X : Cx} : CallR X (.type "list") (rList X.K) := call_list_of
theorem cbo_listL {Q : List D → Prop} (k : Q ds) : CbO (rList K) [.list ds] Q := fun F H vs e r Z z => by
  obtain ⟨v, rfl, rv⟩ := r.one
  obtain ⟨a, xs, rfl, h1, h2⟩ := rv.lst_inv
  exact ⟨a, xs, rfl, .inl (sqL_rd h1 e), fun p hp => z _ p _ _ k (same_upd hp) hp upd_same h2⟩
theorem cbo_listT {Q : List D → Prop} (k : Q ds) : CbO (rList K) [.tuple ds] Q := fun F H vs e r Z z => by
  obtain ⟨v, rfl, rv⟩ := r.one
  obtain ⟨a, xs, rfl, h1, h2⟩ := rv.tup_inv
  exact ⟨a, xs, rfl, .inr (sqT_rd h1 e), fun p hp => z _ p _ _ k (same_upd hp) hp upd_same h2⟩
def rTup (K : PySem.W.Frag) : List V → Hp → VK → Prop := fun xs H Q => ∃ p ys, xs = [.ref p] ∧ ((SqL K H p ys ∧ ∀ l, H l = none → Q (.ref l) (upd H l (.tup ys))) ∨ (SqT K H p ys ∧ Q (.ref p) H))
theorem cb_tuple {X : Cx} : CallR X (.type "tuple") (rTup X.K) := call_tuple_of
theorem cbd_tupL (k : Q (.tuple ds)) : CbD (rTup K) [.list ds] Q := fun F H vs e r Z z => by
  obtain ⟨v, rfl, rv⟩ := r.one
  obtain ⟨a, xs, rfl, h1, h2⟩ := rv.lst_inv
  exact ⟨a, xs, rfl, .inl ⟨sqL_rd h1 e, fun p hp => z _ _ _ _ k (Gr.new e hp) (.tup upd_same (h2.up (Gr.new e hp).ff))⟩⟩
theorem cbd_sum {ns : List Int} (k : Q (.int ns.sum)) : CbD (rSum K) [.list (ns.map .int)] Q := fun F H vs e r Z z => by
  obtain ⟨v, rfl, rv⟩ := r.one
  obtain ⟨a, xs, rfl, h1, h2⟩ := rv.lst_inv
  exact ⟨a, ns, rfl, by rw [← h2.ints_inv]; exact sqL_rd h1 e, z _ _ F H k (Gr.refl e) (.int _)⟩
/-- isinstance(x, tuple) -/
theorem ex_isT {te : TE} {ρ : Env} {Q : D → Env → Prop} (h : EX te ρ fun d ρ1 => ∃ ds, d = .tuple ds ∧ Q (.bool true) ρ1) : EX (tCB RZ.rIsTy (tCons te (tCons (tC (.ty "tuple")) tNil))) ρ Q := fun B ad σ F H w Z z =>
  h B ad σ F H w _ fun d ρ1 v F1 H1 q1 p1 r1 => by
    obtain ⟨ds, rfl, q⟩ := q1
    obtain ⟨a, xs, rfl, h1, h2⟩ := r1.tup_inv
    exact ⟨.ref a, "tuple", rfl, .tup (p1.wa.gr.fh _ _ h1), z _ ρ1 _ F1 H1 q p1 (.bl true)⟩
end

/-! ### own lists -/
section
variable {B : Base} {ad : Nat → List Addr} {ρ ρ' : Env} {σ : St} {F H F' H' : Hp} {te tb : TE} {Q : D → Env → Prop}
theorem get_set {α : Type} {l : List α} {i j : Nat} {x y : α} (h : (l.set i x)[j]? = some y) : (j = i ∧ y = x) ∨ (j ≠ i ∧ l[j]? = some y) := by
  by_cases e : j = i
  · subst e
    by_cases hl : j < l.length
    · rw [List.getElem?_set_self hl] at h
      exact .inl ⟨rfl, (Option.some.inj h).symm⟩
    · rw [List.getElem?_eq_none (by simpa using hl)] at h
      cases h
  · rw [List.getElem?_set_ne (Ne.symm e)] at h
    exact .inr ⟨e, h⟩
theorem get_set' {α : Type} {l : List α} {i j : Nat} {x : α} (h : (l.set i x)[j]? = none) : l[j]? = none := by
  rw [List.getElem?_eq_none_iff] at h ⊢
  simpa using h
/-- slot i's own list is frozen where it stands -/
theorem WA.lend (w : WA B ad ρ σ F H) {i : Nat} {ds : List D} (h : ρ[i]? = some (.own ds)) : ∃ p vs, ad i = [p] ∧ F p = none ∧ H p = some (.lst vs) ∧ RpA F vs ds ∧ B.H0 p = none ∧ σ[i]? = some (some (.ref p)) ∧
    WA B (fun k => if k = i then [] else ad k) (ρ.set i (.val (.list ds))) σ (upd F p (.lst vs)) H := by
  obtain ⟨p, vs, k, k0, k1, k2, r⟩ := w.sl i _ h
  have hF : F p = none := (w.fz i p (by rw [k]; simp)).1
  have up := same_upd (o := .lst vs) hF
  refine ⟨p, vs, k, hF, k2, r, k0, k1, ?_⟩
  have hn : ∀ j, j ≠ i → p ∉ ad j := fun j hj m => hj (w.dj j i p m (by rw [k]; simp))
  refine ⟨⟨w.gr.ff.trans up, fun a o e => ?_, w.gr.kp, w.gr.al, fun a e z => ?_⟩, by rw [List.length_set]; exact w.len, fun j s e => ?_, fun j q m => ?_, fun j1 j2 q m1 m2 => ?_, fun j e => ?_, w.pin.to fun S e => by
    rcases get_set e with ⟨_, q⟩ | ⟨hj, e⟩
    · cases q
    · exact ⟨⟨S, e⟩, rfl, if_neg hj⟩⟩
  · by_cases ha : a = p
    · subst ha; rw [upd_same] at e; rw [k2]; exact e
    · rw [upd_ne ha] at e; exact w.gr.fh a o e
  · have ha : a ≠ p := fun q => e (by rw [q]; exact k0)
    rw [upd_ne ha]
    exact w.gr.fr a e z
  · rcases get_set e with ⟨rfl, rfl⟩ | ⟨hj, e⟩
    · exact ⟨if_pos rfl, _, k1, .lst (.inl upd_same) (r.up up)⟩
    · have q := w.sl j s e
      rw [if_neg hj]
      cases s with
      | emp => exact q
      | val d =>
        obtain ⟨k, v, e, r⟩ := q
        exact ⟨k, v, e, r.up up⟩
      | own es =>
        obtain ⟨q, ws, k, k0, k1, k2, r⟩ := q
        exact ⟨q, ws, k, k0, k1, k2, r.up up⟩
      | st S => exact q
  · by_cases hj : j = i
    · simp [hj] at m
    · simp only [if_neg hj] at m
      have ne : q ≠ p := fun z => hn j hj (z ▸ m)
      rw [upd_ne ne]
      exact w.fz j q m
  · by_cases h1 : j1 = i
    · simp [h1] at m1
    · by_cases h2 : j2 = i
      · simp [h2] at m2
      · simp only [if_neg h1] at m1
        simp only [if_neg h2] at m2
        exact w.dj j1 j2 q m1 m2
  · by_cases hj : j = i
    · show (if j = i then [] else ad j) = []
      rw [if_pos hj]
    · show (if j = i then [] else ad j) = []
      rw [if_neg hj]
      exact w.out j (get_set' e)
def scalD : D → Bool
  | .none => true
  | .bool _ => true
  | .int _ => true
  | .str _ => true
  | _ => false
theorem scal_any {d : D} {v : V} (h : scalD d = true) (r : Rp F v d) : Rp F' v d := by
  cases r with
  | non => exact .non
  | bl b => exact .bl b
  | int i => exact .int i
  | str x => exact .str x
  | lst _ _ => cases h
  | tup _ _ => cases h
/-- behind a loan, with nothing changed but the heap's new objects -/
theorem WA.back (w : WA B ad ρ σ F H) {i : Nat} {ds : List D} (h : ρ[i]? = some (.own ds)) {F1 : Hp} {ad1 : Nat → List Addr} {ρ1 : Env} (e1 : ρ1 = ρ.set i (.val (.list ds))) (ea : ad1 = fun k => if k = i then [] else ad k)
    (hF1 : Same F F1) (p : Post B ad1 σ ρ1 F1 H ρ1 F' H') : Post B ad σ ρ F H ρ F H' := by
  subst e1 ea
  have hi : i < ρ.length := (List.getElem?_eq_some_iff.mp h).1
  have ms : ∀ a, MS (fun k => if k = i then [] else ad k) (ρ.set i (.val (.list ds))) a → MS ad ρ a := fun a ⟨j, S, e, m⟩ => by
    rcases get_set e with ⟨_, q⟩ | ⟨hj, e⟩
    · cases q
    · simp only [if_neg hj] at m
      exact ⟨j, S, e, m⟩
  have fh : Same F H' := (hF1.trans p.gr.ff).trans p.gr.fh
  have nms : ∀ j q, q ∈ ad j → (∀ S, ρ[j]? ≠ some (Slot.st S)) → ¬ MS ad ρ q := fun j q m hj ⟨j', S, e, m'⟩ => by
    have := w.dj j j' q m m'
    subst this
    exact hj S e
  refine ⟨⟨⟨w.gr.ff, fh, p.wa.gr.kp, p.wa.gr.al, w.gr.fr⟩, w.len, fun j s e => ?_, w.fz, w.dj, w.out, w.pin⟩, ⟨Same.refl F, fh, fun a o e m => p.gr.kp a o e fun z => m (ms a z), p.gr.al, fun _ _ z => z⟩, fun j S e => ⟨S, e⟩⟩
  have k := w.sl j s e
  cases s with
  | emp => exact k
  | val d => exact k
  | own es =>
    obtain ⟨q, ws, k, k0, k1, k2, r⟩ := k
    refine ⟨q, ws, k, k0, k1, p.gr.kp q _ k2 fun z => nms j q (by rw [k]; simp) (fun S z => by rw [e] at z; cases z) (ms q z), r⟩
  | st S =>
    have hj : j ≠ i := fun z => by subst z; rw [h] at e; cases e
    have k' := p.wa.sl j (.st S) (by rw [List.getElem?_set_ne (Ne.symm hj)]; exact e)
    simp only [if_neg hj] at k'
    exact k'
theorem ex_lend (i : Nat) {ds : List D} (h : ρ[i]? = some (.own ds)) (k : EX te (ρ.set i (.val (.list ds))) fun d ρ' => ρ' = ρ.set i (.val (.list ds)) ∧ scalD d = true ∧ Q d ρ) : EX te ρ Q := fun B ad σ F H w Z z => by
  obtain ⟨p, vs, k1, k2, k3, k4, k5, k6, w2⟩ := w.lend h
  refine k B _ σ _ H w2 Z fun d ρ' v F' H' q P r => ?_
  obtain ⟨rfl, sc, q⟩ := q
  exact z d ρ v F H' q (w.back h rfl rfl (same_upd k2) P) (scal_any sc r)
theorem et_lend (i : Nat) {tt : TT} {Q : Bool → Env → Prop} {ds : List D} (h : ρ[i]? = some (.own ds)) (k : ET tt (ρ.set i (.val (.list ds))) fun b ρ' => ρ' = ρ.set i (.val (.list ds)) ∧ Q b ρ) : ET tt ρ Q := fun B ad σ F H w Z z => by
  obtain ⟨p, vs, k1, k2, k3, k4, k5, k6, w2⟩ := w.lend h
  refine k B _ σ _ H w2 Z fun d ρ' F' H' q P => ?_
  obtain ⟨rfl, q⟩ := q
  exact z d ρ F H' q (w.back h rfl rfl (same_upd k2) P)
/-- x[k], x an own list -/
theorem ex_ixO {K : PySem.W.Frag} {i : Nat} {es : List D} (h : ρ[i]? = some (.own es)) (k : EX tb ρ fun d ρ2 => ∃ ds j e, ρ2[i]? = some (.own ds) ∧ d = .int j ∧ atI ds j = some e ∧ Q e ρ2) : EX (tOp (rIxA K) (tVar i) tb) ρ Q := fun B ad σ F H w Z z => by
  obtain ⟨p0, _, _, _, k1, _⟩ := w.sl i _ h
  refine ⟨_, k1, k B ad σ F H w _ fun d ρ2 y F2 H2 q2 p2 r2 => ?_⟩
  obtain ⟨ds, j, e, h2, rfl, hj, q⟩ := q2
  obtain ⟨p, vs, _, _, k2, k3, rr⟩ := p2.wa.sl i _ h2
  rw [k1] at k2
  cases k2
  obtain ⟨v, hv, rv⟩ := rr.at_ hj
  exact .inl ⟨_, vs, j, v, rfl, r2.int_inv, .inl (.inl k3), hv, z e ρ2 v F2 H2 q p2 rv⟩
theorem ex_lenO {K : PySem.W.Frag} {i : Nat} {ds : List D} (h : ρ[i]? = some (.own ds)) (q : Q (.int (ds.length : Int)) ρ) : EX (tCB (rLen K) (tCons (tVar i) tNil)) ρ Q := fun B ad σ F H w Z z => by
  obtain ⟨p, vs, _, _, k1, k3, rr⟩ := w.sl i _ h
  exact ⟨_, k1, _, ds.length, rfl, .inl ⟨vs, .inl (.inl k3), rr.len.symm⟩, z _ ρ _ F H q (Post.refl w) (.int _)⟩
end

/-! ### statements -/
structure Po where
  nx : Env → Prop
  rt : D → Env → Prop
  bk : Env → Prop := fun _ => False
  ct : Env → Prop := fun _ => False
def SX (ts : TS) (ρ : Env) (P : Po) : Prop := ∀ B σ F H, W B ρ σ F H → ∀ Dn : Ends, (∀ ρ' σ' F' H', P.nx ρ' → W B ρ' σ' F' H' → Dn.nx σ' H') → (∀ d ρ' σ' v F' H', P.rt d ρ' → W B ρ' σ' F' H' → Rp F' v d → Dn.rt v H') →
  (∀ ρ' σ' F' H', P.bk ρ' → W B ρ' σ' F' H' → Dn.bk σ' H') → (∀ ρ' σ' F' H', P.ct ρ' → W B ρ' σ' F' H' → Dn.ct σ' H') → ts Dn σ H
/-- ρ' knows no more than ρ -/
inductive LeE : Env → Env → Prop
  | nil : LeE [] []
  | emp {s : Slot} {ρ' ρ : Env} : LeE ρ' ρ → LeE (.emp :: ρ') (s :: ρ)
  | eq {s s' : Slot} {ρ' ρ : Env} : s = s' → LeE ρ' ρ → LeE (s :: ρ') (s' :: ρ)
theorem LeE.refl : ∀ ρ, LeE ρ ρ
  | [] => .nil
  | _ :: ρ => .eq rfl (LeE.refl ρ)
theorem LeE.len {ρ' ρ : Env} (h : LeE ρ' ρ) : ρ'.length = ρ.length := by
  induction h with
  | nil => rfl
  | emp _ ih => simp [ih]
  | eq _ _ ih => simp [ih]
theorem LeE.get {ρ' ρ : Env} (h : LeE ρ' ρ) : ∀ {i : Nat} {s : Slot}, ρ'[i]? = some s → s = .emp ∨ ρ[i]? = some s := by
  induction h with
  | nil => intro i s e; simp at e
  | emp _ ih =>
    intro i s e
    cases i with
    | zero => simp at e; exact .inl e.symm
    | succ i => exact ih (by simpa using e)
  | eq q _ ih =>
    intro i s e
    cases i with
    | zero => simp at e; subst e; subst q; exact .inr rfl
    | succ i => exact ih (by simpa using e)
theorem WA.weak {B : Base} {ad : Nat → List Addr} {ρ ρ' : Env} {σ : St} {F H : Hp} (w : WA B ad ρ σ F H) (l : LeE ρ' ρ) : W B ρ' σ F H := by
  refine ⟨fun i => match ρ'[i]? with | some .emp => [] | _ => ad i, w.gr, by rw [l.len]; exact w.len, fun i s e => ?_, fun i p m => ?_, fun i j p m1 m2 => ?_, fun i e => ?_, w.pin.to fun S e => by
    rcases l.get e with h | h
    · cases h
    · exact ⟨⟨S, h⟩, rfl, by
        show (match ρ'[0]? with | some .emp => [] | _ => ad 0) = ad 0
        rw [e]⟩⟩
  · rcases l.get e with h | h
    · subst h
      show (match ρ'[i]? with | some .emp => [] | _ => ad i) = []
      rw [e]
    · have k := w.sl i s h
      show SlotOk B F H s σ[i]? (match ρ'[i]? with | some .emp => [] | _ => ad i)
      rw [e]
      cases s with
      | emp => rfl
      | _ => exact k
  · exact w.fz i p (by
      revert m
      show p ∈ (match ρ'[i]? with | some .emp => [] | _ => ad i) → p ∈ ad i
      split <;> simp)
  · have g : ∀ i, p ∈ (match ρ'[i]? with | some .emp => [] | _ => ad i) → p ∈ ad i := fun i => by split <;> simp
    exact w.dj i j p (g i m1) (g j m2)
  · show (match ρ'[i]? with | some .emp => [] | _ => ad i) = []
    rw [e]
    exact w.out i (by
      rw [List.getElem?_eq_none_iff] at e ⊢
      rw [← l.len]; exact e)
theorem W.weak {B : Base} {ρ ρ' : Env} {σ : St} {F H : Hp} (w : W B ρ σ F H) (l : LeE ρ' ρ) : W B ρ' σ F H := let ⟨_, w⟩ := w; w.weak l
/-- a slot is stored -/
theorem WA.setVal {B : Base} {ad : Nat → List Addr} {ρ : Env} {σ : St} {F H : Hp} (w : WA B ad ρ σ F H) (i : Nat) {d : D} {v : V} (r : Rp F v d) : W B (ρ.set i (.val d)) (σ.set i (some v)) F H := by
  refine ⟨fun k => if k = i then [] else ad k, w.gr, by rw [List.length_set, List.length_set]; exact w.len, fun j s e => ?_, fun j p m => ?_, fun j1 j2 q m1 m2 => ?_, fun j e => ?_, w.pin.to fun S e => by
    rcases get_set e with ⟨_, q⟩ | ⟨hj, e⟩
    · cases q
    · exact ⟨⟨S, e⟩, List.getElem?_set_ne (Ne.symm hj), if_neg hj⟩⟩
  · rcases get_set e with ⟨rfl, rfl⟩ | ⟨hj, e'⟩
    · have hi : j < σ.length := by
        have := (List.getElem?_eq_some_iff.mp e).1
        rw [List.length_set] at this
        rw [w.len]; exact this
      exact ⟨if_pos rfl, v, List.getElem?_set_self hi, r⟩
    · rw [if_neg hj, List.getElem?_set_ne (Ne.symm hj)]
      exact w.sl j s e'
  · by_cases hj : j = i
    · simp [hj] at m
    · simp only [if_neg hj] at m
      exact w.fz j p m
  · by_cases h1 : j1 = i
    · simp [h1] at m1
    · by_cases h2 : j2 = i
      · simp [h2] at m2
      · simp only [if_neg h1] at m1
        simp only [if_neg h2] at m2
        exact w.dj j1 j2 q m1 m2
  · show (if j = i then [] else ad j) = []
    by_cases hj : j = i
    · rw [if_pos hj]
    · rw [if_neg hj]
      exact w.out j (get_set' e)
theorem WA.setOwn {B : Base} {ad : Nat → List Addr} {ρ : Env} {σ : St} {F H : Hp} (w : WA B ad ρ σ F H) (i : Nat) {ds : List D} {p : Addr} {vs : List V} (hF : F p = none) (h0 : B.H0 p = none) (hn : ∀ i, p ∉ ad i) (hp : H p = some (.lst vs)) (r : RpA F vs ds) :
    W B (ρ.set i (.own ds)) (σ.set i (some (.ref p))) F H := by
  refine ⟨fun k => if k = i then (if i < ρ.length then [p] else []) else ad k, w.gr, by rw [List.length_set, List.length_set]; exact w.len, fun j s e => ?_, fun j q m => ?_, fun j1 j2 q m1 m2 => ?_, fun j e => ?_, w.pin.to fun S e => by
    rcases get_set e with ⟨_, q⟩ | ⟨hj, e⟩
    · cases q
    · exact ⟨⟨S, e⟩, List.getElem?_set_ne (Ne.symm hj), if_neg hj⟩⟩
  · rcases get_set e with ⟨rfl, rfl⟩ | ⟨hj, e'⟩
    · have hi : j < ρ.length := by
        have := (List.getElem?_eq_some_iff.mp e).1
        rwa [List.length_set] at this
      exact ⟨p, vs, by rw [if_pos rfl, if_pos hi], h0, List.getElem?_set_self (by rw [w.len]; exact hi), hp, r⟩
    · rw [if_neg hj, List.getElem?_set_ne (Ne.symm hj)]
      exact w.sl j s e'
  · by_cases hj : j = i
    · simp only [if_pos hj] at m
      by_cases hi : i < ρ.length
      · simp only [if_pos hi, List.mem_singleton] at m
        subst m
        exact ⟨hF, .inl h0⟩
      · simp [if_neg hi] at m
    · simp only [if_neg hj] at m
      exact w.fz j q m
  · have g : ∀ j, q ∈ (if j = i then (if i < ρ.length then [p] else []) else ad j) → (j = i ∧ q = p) ∨ (j ≠ i ∧ q ∈ ad j) := fun j m => by
      by_cases hj : j = i
      · simp only [if_pos hj] at m
        by_cases hi : i < ρ.length
        · simp only [if_pos hi, List.mem_singleton] at m
          exact .inl ⟨hj, m⟩
        · simp [if_neg hi] at m
      · simp only [if_neg hj] at m
        exact .inr ⟨hj, m⟩
    rcases g j1 m1 with ⟨a1, b1⟩ | ⟨a1, b1⟩ <;> rcases g j2 m2 with ⟨a2, b2⟩ | ⟨a2, b2⟩
    · rw [a1, a2]
    · exact absurd (b1 ▸ b2) (hn j2)
    · exact absurd (b2 ▸ b1) (hn j1)
    · exact w.dj j1 j2 q b1 b2
  · show (if j = i then (if i < ρ.length then [p] else []) else ad j) = []
    have e' := get_set' e
    by_cases hj : j = i
    · subst hj
      rw [if_pos rfl, if_neg (by rw [List.getElem?_eq_none_iff] at e'; omega)]
    · rw [if_neg hj]
      exact w.out j e'
/-- an own list is changed in place -/
theorem WA.mut {B : Base} {ad : Nat → List Addr} {ρ : Env} {σ : St} {F H : Hp} (w : WA B ad ρ σ F H) {i : Nat} {ds es : List D} {p : Addr} {ws : List V} (h : ρ[i]? = some (.own ds)) (hp : σ[i]? = some (some (.ref p))) (r : RpA F ws es) :
    W B (ρ.set i (.own es)) σ F (upd H p (.lst ws)) := by
  obtain ⟨p', vs, k, k0, k1, k2, _⟩ := w.sl i _ h
  rw [hp] at k1
  cases k1
  have hF : F p = none := (w.fz i p (by rw [k]; simp)).1
  have hn : ∀ j, j ≠ i → p ∉ ad j := fun j hj m => hj (w.dj j i p m (by rw [k]; simp))
  have ne0 : ∀ a o, B.H0 a = some o → a ≠ p := fun a o e z => by rw [z, k0] at e; cases e
  refine ⟨ad, ⟨w.gr.ff, fun a o e => ?_, fun a o e m => ?_, fun a e => ?_, w.gr.fr⟩, by rw [List.length_set]; exact w.len, fun j s e => ?_, w.fz, w.dj, fun j e => w.out j (get_set' e), w.pin.to fun S e => by
    rcases get_set e with ⟨_, q⟩ | ⟨hj, e⟩
    · cases q
    · exact ⟨⟨S, e⟩, rfl, rfl⟩⟩
  · rw [upd_ne (fun z => by rw [z, hF] at e; cases e)]
    exact w.gr.fh a o e
  · rw [upd_ne (ne0 a o e)]
    exact w.gr.kp a o e m
  · by_cases ha : a = p
    · rw [ha, upd_same]; intro z; cases z
    · rw [upd_ne ha]; exact w.gr.al a e
  · rcases get_set e with ⟨rfl, rfl⟩ | ⟨hj, e⟩
    · exact ⟨p, ws, k, k0, hp, upd_same, r⟩
    · have q := w.sl j s e
      cases s with
      | emp => exact q
      | val d => exact q
      | own es =>
        obtain ⟨q, vs, k1, k2, k3, k4, k5⟩ := q
        refine ⟨q, vs, k1, k2, k3, ?_, k5⟩
        rw [upd_ne (fun z => hn j hj (by rw [k1, z]; simp))]
        exact k4
      | st S =>
        obtain ⟨s, k1, q⟩ := q
        exact ⟨s, k1, q.keep fun a m o e => by
          rw [upd_ne (fun z => hn j hj (by rw [← z]; exact m))]
          exact e⟩

/-! #### the rules for statements -/
section
variable {ρ ρ' : Env} {P : Po} {te ta tb : TE} {tt : TT} {t u : TS}
/-- what follows, perhaps with less known -/
def NX (P : Po) (ρ : Env) : Prop := ∃ ρ', LeE ρ' ρ ∧ P.nx ρ'
theorem nx_same (h : P.nx ρ) : NX P ρ := ⟨ρ, LeE.refl ρ, h⟩
theorem nx_le (l : LeE ρ' ρ) (h : P.nx ρ') : NX P ρ := ⟨ρ', l, h⟩
def CTn (P : Po) (ρ : Env) : Prop := ∃ ρ', LeE ρ' ρ ∧ P.ct ρ'
theorem sx_weak (l : LeE ρ' ρ) (h : SX t ρ' P) : SX t ρ P := fun B σ F H w => h B σ F H (w.weak l)
/-- then u -/
def Po.seq (P : Po) (u : TS) : Po := { P with nx := fun ρ' => SX u ρ' P }
theorem nx_seq (h : SX u ρ P) : NX (P.seq u) ρ := nx_same h
theorem nx_seqw (l : LeE ρ' ρ) (h : SX u ρ' P) : NX (P.seq u) ρ := nx_le l h
theorem sx_seq (h : SX t ρ (P.seq u)) : SX (tSeq t u) ρ P := fun B σ F H w Dn n r b c =>
  h B σ F H w { Dn with nx := u Dn } (fun ρ' σ' F' H' q w' => q B σ' F' H' w' Dn n r b c) r b c
theorem sx_next (h : NX P ρ) : SX tNext ρ P := fun B σ F H w Dn n r b c => let ⟨ρ', l, q⟩ := h; n ρ' σ F H q (w.weak l)
theorem sx_asg {i : Nat} (h : EX te ρ fun d ρ1 => NX P (ρ1.set i (.val d))) : SX (tAsg te (gName i)) ρ P := fun B σ F H w Dn n r b c => by
  obtain ⟨ad, w⟩ := w
  exact h B ad σ F H w _ fun d ρ1 v F1 H1 q p rv => let ⟨ρ', l, q⟩ := q; n ρ' _ F1 H1 q ((p.wa.setVal i rv).weak l)
theorem sx_asgO {i : Nat} (h : EO te ρ fun ds ρ1 => NX P (ρ1.set i (.own ds))) : SX (tAsg te (gName i)) ρ P := fun B σ F H w Dn n r b c => by
  obtain ⟨ad, w⟩ := w
  refine h B ad σ F H w _ fun ds ρ1 p vs F1 H1 q P hF hH hp rv => ?_
  obtain ⟨ρ', l, q⟩ := q
  have k := w.newp hH
  exact n ρ' _ F1 H1 q ((P.wa.setOwn i hF k.2.1 k.2.2 hp rv).weak l)
theorem sx_if (h : ET tt ρ fun b ρ1 => (b = true → SX t ρ1 P) ∧ (b = false → SX u ρ1 P)) : SX (tIfS tt t u) ρ P := fun B σ F H w Dn n r bk c => by
  obtain ⟨ad, w⟩ := w
  refine h B ad σ F H w _ fun b ρ1 F1 H1 q p => ?_
  cases b with
  | true =>
    show t Dn σ H1
    exact q.1 rfl B σ F1 H1 ⟨ad, p.wa⟩ Dn n r bk c
  | false =>
    show u Dn σ H1
    exact q.2 rfl B σ F1 H1 ⟨ad, p.wa⟩ Dn n r bk c
theorem sx_ret (h : EX te ρ fun d ρ1 => P.rt d ρ1) : SX (tRet te) ρ P := fun B σ F H w Dn n r b c => by
  obtain ⟨ad, w⟩ := w
  exact h B ad σ F H w _ fun d ρ1 v F1 H1 q p rv => r d ρ1 σ v F1 H1 q ⟨ad, p.wa⟩ rv
theorem sx_retN (h : P.rt .none ρ) : SX tRetN ρ P := fun B σ F H w Dn n r b c => r .none ρ σ .non F H h w .non
theorem sx_brk (h : P.bk ρ) : SX tBreak ρ P := fun B σ F H w Dn n r b c => b ρ σ F H h w
theorem sx_cont (h : CTn P ρ) : SX tCont ρ P := fun B σ F H w Dn n r b c => let ⟨ρ', l, q⟩ := h; c ρ' σ F H q (w.weak l)
theorem sx_drop (h : EX te ρ fun _ ρ1 => NX P ρ1) : SX (tDrop te) ρ P := fun B σ F H w Dn n r b c => by
  obtain ⟨ad, w⟩ := w
  exact h B ad σ F H w _ fun d ρ1 v F1 H1 q p rv => let ⟨ρ', l, q⟩ := q; n ρ' σ F1 H1 q (p.wa.weak l)
theorem W.freeze {B : Base} {σ : St} {F H : Hp} (w : W B ρ σ F H) {i : Nat} {ds : List D} (h : ρ[i]? = some (.own ds)) : ∃ F', W B (ρ.set i (.val (.list ds))) σ F' H := by
  obtain ⟨ad, w⟩ := w
  obtain ⟨p, vs, _, _, _, _, _, _, w2⟩ := w.lend h
  exact ⟨_, _, w2⟩
theorem sx_freeze (i : Nat) {ds : List D} (h : ρ[i]? = some (.own ds)) (k : SX t (ρ.set i (.val (.list ds))) P) : SX t ρ P := fun B σ F H w => by
  obtain ⟨F', w2⟩ := w.freeze h
  exact k B σ F' H w2
/-- x.append(e), x an own list -/
theorem sx_app {K : PySem.W.Frag} {i : Nat} {es : List D} (h : ρ[i]? = some (.own es)) (k : EX te ρ fun d ρ1 => ∃ ds, ρ1[i]? = some (.own ds) ∧ ds.length < 1000000 ∧ NX P (ρ1.set i (.own (ds ++ [d])))) : SX (tDrop (tBM K "list" rAppend (tVar i) (tCons te tNil))) ρ P := fun B σ F H w Dn n r b c => by
  obtain ⟨ad, w⟩ := w
  obtain ⟨p0, vs0, _, _, k1, k0, _⟩ := w.sl i _ h
  refine ⟨_, k1, .inl ⟨rfl, _, .inl (.inl k0)⟩, k B ad σ F H w _ fun d ρ1 v F1 H1 q1 p1 r1 => ?_⟩
  obtain ⟨ds, h1, hz, ρ', l, q⟩ := q1
  obtain ⟨p, vs, _, _, k2, k3, rr⟩ := p1.wa.sl i _ h1
  have e := k1.symm.trans k2
  cases e
  exact ⟨_, vs, v, rfl, rfl, k3, Nat.lt_of_lt_of_le (by rw [rr.len]; exact hz) (by decide), n ρ' σ F1 _ q ((p1.wa.mut h1 k2 (rr.app (.cons r1 .nil))).weak l)⟩
/-- x[j] = e, x an own list -/
theorem sx_setO {i : Nat} {es : List D} (h : EX te ρ fun d ρ1 => ρ1[i]? = some (.own es) ∧ EX tb ρ1 fun j ρ2 => ∃ ds k m, ρ2[i]? = some (.own ds) ∧ j = .int k ∧ ixN ds.length k = some m ∧ NX P (ρ2.set i (.own (ds.set m d)))) : SX (tAsg te (gSub (tVar i) tb rSetL)) ρ P := fun B σ F H w Dn n r b c => by
  obtain ⟨ad, w⟩ := w
  refine h B ad σ F H w _ fun d ρ1 v F1 H1 q1 p1 r1 => ?_
  obtain ⟨h1, q1⟩ := q1
  obtain ⟨p0, vs0, _, _, k1, k0, _⟩ := p1.wa.sl i _ h1
  refine ⟨_, k1, q1 B ad σ F1 H1 p1.wa _ fun j ρ2 y F2 H2 q2 p2 r2 => ?_⟩
  obtain ⟨ds, k, m, h2, rfl, hm, ρ', l, q⟩ := q2
  obtain ⟨p, vs, _, _, k2, k3, rr⟩ := p2.wa.sl i _ h2
  have e := k1.symm.trans k2
  cases e
  exact ⟨_, vs, k, m, rfl, r2.int_inv, k3, by rw [rr.len]; exact hm, n ρ' σ F2 _ q ((p2.wa.mut h2 k2 (rr.set m (r1.up p2.gr.ff))).weak l)⟩
/-- a, b = e, f -/
theorem sx_par {i j : Nat} {t : TA} (h : EA t ρ fun ds ρ1 => ∃ d e, ds = [d, e] ∧ NX P ((ρ1.set i (.val d)).set j (.val e))) : SX (tPar i j t) ρ P := fun B σ F H w Dn n r b c => by
  obtain ⟨ad, w⟩ := w
  refine h B ad σ F H w _ fun ds ρ1 vs F1 H1 q p rv => ?_
  obtain ⟨d, e, rfl, ρ', l, q⟩ := q
  obtain ⟨v, u, rfl, r1, r2⟩ := rv.two
  obtain ⟨ad2, w2⟩ := p.wa.setVal i r1
  exact ⟨v, u, rfl, n ρ' _ F1 H1 q ((w2.setVal j r2).weak l)⟩
/-! targets -/
def SG (J : List Nat) (g : TG) (d : D) (ρ : Env) (Qn : Env → Prop) : Prop := ∀ B ad σ F H v, WA B ad ρ σ F H → (∀ j ∈ J, ad j = []) → Rp F v d → ∀ Z : St → Hp → Prop, (∀ ρ' σ', Qn ρ' → WA B ad ρ' σ' F H → wipe σ' J = wipe σ J → (∀ i, i ∉ J → ρ'[i]? = ρ[i]?) → Z σ' H) → g v σ H Z
def SGs (J : List Nat) (g : TGs) (ds : List D) (ρ : Env) (Qn : Env → Prop) : Prop := ∀ B ad σ F H vs, WA B ad ρ σ F H → (∀ j ∈ J, ad j = []) → RpA F vs ds → ∀ Z : St → Hp → Prop, (∀ ρ' σ', Qn ρ' → WA B ad ρ' σ' F H → wipe σ' J = wipe σ J → (∀ i, i ∉ J → ρ'[i]? = ρ[i]?) → Z σ' H) → g vs σ H Z
theorem wipe_get {σ : St} {i : Nat} : ∀ {vs : List Nat}, (wipe σ vs)[i]? = if i ∈ vs ∧ i < σ.length then some none else σ[i]?
  | [] => by simp [wipe]
  | v :: vs => by
    unfold wipe
    by_cases h : i = v
    · subst h
      by_cases hl : i < σ.length
      · rw [List.getElem?_set_self (by rw [wipe_length]; exact hl)]
        simp [hl]
      · rw [List.getElem?_eq_none (by rw [List.length_set, wipe_length]; omega)]
        simp [hl]
    · rw [List.getElem?_set_ne (Ne.symm h), wipe_get]
      simp [h]
theorem wipe_set {σ : St} {i : Nat} {x : Option V} {J : List Nat} (h : i ∈ J) : wipe (σ.set i x) J = wipe σ J := by
  apply List.ext_getElem?
  intro k
  rw [wipe_get, wipe_get, List.length_set]
  by_cases hk : k ∈ J ∧ k < σ.length
  · rw [if_pos hk, if_pos hk]
  · rw [if_neg hk, if_neg hk]
    by_cases e : k = i
    · subst e
      have : ¬ k < σ.length := fun z => hk ⟨h, z⟩
      rw [List.getElem?_eq_none (by rw [List.length_set]; omega), List.getElem?_eq_none (by omega)]
    · rw [List.getElem?_set_ne (Ne.symm e)]
theorem WA.setVal' {B : Base} {ad : Nat → List Addr} {σ : St} {F H : Hp} (w : WA B ad ρ σ F H) (i : Nat) (hi : ad i = []) {d : D} {v : V} (r : Rp F v d) : WA B ad (ρ.set i (.val d)) (σ.set i (some v)) F H := by
  refine ⟨w.gr, by rw [List.length_set, List.length_set]; exact w.len, fun j s e => ?_, w.fz, w.dj, fun j e => w.out j (get_set' e), w.pin.to fun S e => by
    rcases get_set e with ⟨_, q⟩ | ⟨hj, e⟩
    · cases q
    · exact ⟨⟨S, e⟩, List.getElem?_set_ne (Ne.symm hj), rfl⟩⟩
  rcases get_set e with ⟨rfl, rfl⟩ | ⟨hj, e'⟩
  · have hl : j < σ.length := by
      have := (List.getElem?_eq_some_iff.mp e).1
      rw [List.length_set] at this
      rw [w.len]; exact this
    exact ⟨hi, v, List.getElem?_set_self hl, r⟩
  · rw [List.getElem?_set_ne (Ne.symm hj)]
    exact w.sl j s e'
theorem sg_name {J : List Nat} {i : Nat} {d : D} {Qn : Env → Prop} (hj : i ∈ J) (q : Qn (ρ.set i (.val d))) : SG J (gName i) d ρ Qn := fun B ad σ F H v w hJ r Z z => z _ _ q (w.setVal' i (hJ i hj) r) (wipe_set hj) fun k hk => List.getElem?_set_ne fun e => hk (by rw [← e]; exact hj)
theorem sgs_nil {J : List Nat} {Qn : Env → Prop} (q : Qn ρ) : SGs J gNil [] ρ Qn := fun B ad σ F H vs w hJ r Z z => by
  cases r
  exact ⟨rfl, z ρ σ q w rfl fun _ _ => rfl⟩
theorem sgs_cons {J : List Nat} {g : TG} {gs : TGs} {d : D} {ds : List D} {Qn : Env → Prop} (h : SG J g d ρ fun ρ1 => SGs J gs ds ρ1 Qn) : SGs J (gCons g gs) (d :: ds) ρ Qn := fun B ad σ F H vs w hJ r Z z => by
  cases r with
  | cons r1 r2 =>
    exact ⟨_, _, rfl, h B ad σ F H _ w hJ r1 _ fun ρ1 σ1 q w1 e1 f1 => q B ad σ1 F H _ w1 hJ r2 Z fun ρ2 σ2 q w2 e2 f2 => z ρ2 σ2 q w2 (e2.trans e1) fun i hi => (f2 i hi).trans (f1 i hi)⟩
theorem sg_tup {K : PySem.W.Frag} {J : List Nat} {n : Nat} {gs : TGs} {ds : List D} {Qn : Env → Prop} (hn : ds.length = n) (h : SGs J gs ds ρ Qn) : SG J (gTup K n gs) (.tuple ds) ρ Qn := fun B ad σ F H v w hJ r Z z => by
  obtain ⟨a, xs, rfl, h1, h2⟩ := r.tup_inv
  exact ⟨a, xs, rfl, sqT_rd h1 w.gr.fh, h2.len.trans hn, h B ad σ F H xs w hJ h2 Z z⟩
/-- the slots at vs forgotten -/
def wipeE (ρ : Env) (vs : List Nat) : Env := vs.foldl (fun r v => r.set v .emp) ρ
theorem wipeE_len (ρ : Env) (vs : List Nat) : (wipeE ρ vs).length = ρ.length := by
  unfold wipeE
  induction vs generalizing ρ with
  | nil => rfl
  | cons v vs ih => rw [List.foldl_cons, ih, List.length_set]
theorem wipeE_get : ∀ {vs : List Nat} {ρ : Env} {i : Nat}, (wipeE ρ vs)[i]? = if i ∈ vs ∧ i < ρ.length then some .emp else ρ[i]?
  | [], ρ, i => by simp [wipeE]
  | v :: vs, ρ, i => by
    have e : wipeE ρ (v :: vs) = wipeE (ρ.set v .emp) vs := rfl
    rw [e, wipeE_get, List.length_set]
    by_cases h : i ∈ vs ∧ i < ρ.length
    · rw [if_pos h, if_pos ⟨List.mem_cons_of_mem _ h.1, h.2⟩]
    · rw [if_neg h]
      by_cases hv : i = v
      · subst hv
        by_cases hl : i < ρ.length
        · rw [List.getElem?_set_self hl, if_pos ⟨by simp, hl⟩]
        · rw [List.getElem?_eq_none (by rw [List.length_set]; omega), if_neg (fun z => hl z.2), List.getElem?_eq_none (by omega)]
      · rw [List.getElem?_set_ne (Ne.symm hv)]
        rw [if_neg (fun z => h ⟨(List.mem_cons.mp z.1).resolve_left hv, z.2⟩)]
theorem WA.weakJ {B : Base} {ad : Nat → List Addr} {σ : St} {F H : Hp} (w : WA B ad ρ σ F H) (J : List Nat) : WA B (fun k => if k ∈ J then [] else ad k) (wipeE ρ J) σ F H := by
  have g : ∀ i p, p ∈ (if i ∈ J then [] else ad i) → p ∈ ad i := fun i p m => by
    by_cases h : i ∈ J
    · rw [if_pos h] at m; cases m
    · rw [if_neg h] at m; exact m
  refine ⟨w.gr, by rw [wipeE_len]; exact w.len, fun i s e => ?_, fun i p m => w.fz i p (g i p m), fun i j p m1 m2 => w.dj i j p (g i p m1) (g j p m2), fun i e => ?_, w.pin.to fun S e => by
    rw [wipeE_get] at e
    by_cases h : 0 ∈ J ∧ 0 < ρ.length
    · rw [if_pos h] at e; cases e
    · rw [if_neg h] at e
      have hi : 0 < ρ.length := (List.getElem?_eq_some_iff.mp e).1
      exact ⟨⟨S, e⟩, rfl, if_neg fun z => h ⟨z, hi⟩⟩⟩
  · rw [wipeE_get] at e
    by_cases h : i ∈ J ∧ i < ρ.length
    · rw [if_pos h] at e
      cases e
      exact if_pos h.1
    · rw [if_neg h] at e
      have hi : i < ρ.length := (List.getElem?_eq_some_iff.mp e).1
      have hJ : i ∉ J := fun z => h ⟨z, hi⟩
      simp only [if_neg hJ]
      exact w.sl i s e
  · rw [wipeE_get] at e
    by_cases hJ : i ∈ J
    · exact if_pos hJ
    · show (if i ∈ J then [] else ad i) = []
      rw [if_neg hJ]
      rw [if_neg (fun z => hJ z.1)] at e
      exact w.out i e
theorem sg_go {B : Base} {ad : Nat → List Addr} {σ : St} {F H : Hp} {J : List Nat} {g : TG} {d : D} {v : V} {Qn : Env → Prop} (h : SG J g d (wipeE ρ J) Qn) (w : WA B ad ρ σ F H) (r : Rp F v d) (Z : St → Hp → Prop) (z : ∀ ρ' σ', Qn ρ' → W B ρ' σ' F H → Z σ' H) : g v σ H Z :=
  h B _ σ F H v (w.weakJ J) (fun j hj => if_pos hj) r Z fun ρ' σ' q w' _ _ => z ρ' σ' q ⟨_, w'⟩
/-- (a, b) = e by a target -/
theorem sx_asgT {J : List Nat} {g : TG} (h : EX te ρ fun d ρ1 => SG J g d (wipeE ρ1 J) fun ρ2 => NX P ρ2) : SX (tAsg te g) ρ P := fun B σ F H w Dn n r b c => by
  obtain ⟨ad, w⟩ := w
  exact h B ad σ F H w _ fun d ρ1 v F1 H1 q p rv => sg_go q p.wa rv _ fun ρ2 σ2 q w2 => let ⟨ρ', l, q⟩ := q; n ρ' σ2 F1 H1 q (w2.weak l)
/-! loops -/
structure ItD (J : It) (F : Hp) (ds : List D) : Prop where
  go : ∀ i H, Same F H → i < ds.length → J.go i H
  stop : ∀ i H, Same F H → ds.length ≤ i → J.stop i H
  yld : ∀ i H x H' F1, Same F F1 → Same F1 H → J.yld i H x H' → i < ds.length → ∃ d F2, ds[i]? = some d ∧ Gr Non F1 H F2 H' ∧ Rp F2 x d
/-- what is walked -/
def EI (wi : TI) (ρ : Env) (Q : List D → Env → Prop) : Prop := ∀ B ad σ F H, WA B ad ρ σ F H → ∀ R : It → Hp → Prop, (∀ ds ρ' J F' H', Q ds ρ' → Post B ad σ ρ F H ρ' F' H' → ItD J F' ds → R J H') → wi σ H R
theorem W.rebase {B : Base} {σ : St} {F H : Hp} (w : W B ρ σ F H) : W { F0 := F, H0 := B.H0, M := B.M, pin := B.pin } ρ σ F H := by
  obtain ⟨ad, w⟩ := w
  refine ⟨ad, ⟨Same.refl F, w.gr.fh, w.gr.kp, w.gr.al, fun _ _ z => z⟩, w.len, fun i s e => ?_, w.fz, w.dj, w.out, w.pin⟩
  have k := w.sl i s e
  cases s <;> exact k
theorem W.unbase {B : Base} {σ σ' : St} {F H F' H' : Hp} (w : W B ρ σ F H) (w' : W { F0 := F, H0 := B.H0, M := B.M, pin := B.pin } ρ' σ' F' H') : W B ρ' σ' F' H' ∧ Same F F' := by
  obtain ⟨ad, w⟩ := w
  obtain ⟨ad', w'⟩ := w'
  refine ⟨⟨ad', ⟨w.gr.ff.trans w'.gr.ff, w'.gr.fh, w'.gr.kp, w'.gr.al, fun a e z => w'.gr.fr a e (w.gr.fr a e z)⟩, w'.len, fun i s e => ?_, w'.fz, w'.dj, w'.out, w'.pin⟩, w'.gr.ff⟩
  have k := w'.sl i s e
  cases s <;> exact k
theorem sx_for {wi : TI} {J : List Nat} {g : TG} (h : EI wi ρ fun ds ρ1 => ∃ I : Nat → Env → Prop, I 0 ρ1 ∧ (∀ k d ρ', ds[k]? = some d → I k ρ' → SG J g d (wipeE ρ' J) fun ρ2 => SX t ρ2 { nx := I (k + 1), ct := I (k + 1), bk := NX P, rt := P.rt }) ∧ ∀ ρ', I ds.length ρ' → NX P ρ') :
    SX (tFor wi g t) ρ P := fun B σ F H w Dn n r b c => by
  obtain ⟨ad, w⟩ := w
  refine h B ad σ F H w _ fun ds ρ1 J F1 H1 q1 p1 it => ?_
  obtain ⟨I, i0, turn, done⟩ := q1
  refine ⟨fun i m σ' H' => m = ds.length - i ∧ i ≤ ds.length ∧ ∃ ρ' F', I i ρ' ∧ W B ρ' σ' F' H' ∧ Same F1 F', ⟨_, rfl, Nat.zero_le _, ρ1, F1, i0, ⟨ad, p1.wa⟩, Same.refl _⟩, ?_⟩
  rintro i m σ' H' ⟨rfl, hi, ρ', F', iv, ⟨ad', w'⟩, sf⟩
  by_cases hlt : i < ds.length
  · refine .inr ⟨it.go i H' (sf.trans w'.gr.fh) hlt, fun σ2 H2 => ∃ ρ2 F2, I (i + 1) ρ2 ∧ W B ρ2 σ2 F2 H2 ∧ Same F1 F2, fun σ2 H2 ⟨ρ2, F2, a, b, c⟩ => ⟨ds.length - (i + 1), by omega, rfl, hlt, ρ2, F2, a, b, c⟩, fun x H2 y => ?_⟩
    obtain ⟨d, F2, e, gr, rx⟩ := it.yld i H' x H2 F' sf w'.gr.fh y hlt
    refine sg_go (turn i d ρ' e iv) (w'.grow gr) rx _ fun ρ2 σ2 q w2 => ?_
    exact q _ σ2 F2 H2 w2.rebase _ (fun ρ3 σ3 F3 H3 q3 w3 => let k := w2.unbase w3; ⟨ρ3, F3, q3, k.1, (sf.trans gr.ff).trans k.2⟩) (fun d ρ3 σ3 v F3 H3 q3 w3 rv => r d ρ3 σ3 v F3 H3 q3 (w2.unbase w3).1 rv) (fun ρ3 σ3 F3 H3 q3 w3 => let ⟨ρ4, l, q4⟩ := q3; n ρ4 σ3 F3 H3 q4 ((w2.unbase w3).1.weak l)) (fun ρ3 σ3 F3 H3 q3 w3 => let k := w2.unbase w3; ⟨ρ3, F3, q3, k.1, (sf.trans gr.ff).trans k.2⟩)
  · have e : i = ds.length := by omega
    subst e
    obtain ⟨ρ2, l, q⟩ := done ρ' iv
    exact .inl ⟨it.stop _ H' (sf.trans w'.gr.fh) (Nat.le_refl _), n ρ2 σ' F' H' q (w'.weak l)⟩
theorem sx_while (I : Nat → Env → Prop) (m0 : Nat) (i0 : I m0 ρ) (h : ∀ m ρ', I m ρ' → ET tt ρ' fun b ρ1 => (b = true → SX t ρ1 { nx := fun ρ2 => ∃ m', m' < m ∧ I m' ρ2, ct := fun ρ2 => ∃ m', m' < m ∧ I m' ρ2, bk := NX P, rt := P.rt }) ∧ (b = false → NX P ρ1)) : SX (tWhile tt t) ρ P := fun B σ F H w Dn n r b c => by
  refine ⟨fun m σ' H' => ∃ ρ' F', I m ρ' ∧ W B ρ' σ' F' H', ⟨m0, ρ, F, i0, w⟩, ?_⟩
  rintro m σ' H' ⟨ρ', F', iv, ⟨ad, w'⟩⟩
  refine h m ρ' iv B ad σ' F' H' w' _ fun b1 ρ1 F1 H1 q p => ?_
  cases b1 with
  | true =>
    refine ⟨fun σ2 H2 => ∃ m' ρ2 F2, m' < m ∧ I m' ρ2 ∧ W B ρ2 σ2 F2 H2, fun σ2 H2 ⟨m', ρ2, F2, a, b, c⟩ => ⟨m', a, ρ2, F2, b, c⟩, ?_⟩
    exact q.1 rfl B σ' F1 H1 ⟨ad, p.wa⟩ _ (fun ρ3 σ3 F3 H3 q3 w3 => let ⟨m', a, b⟩ := q3; ⟨m', ρ3, F3, a, b, w3⟩) r (fun ρ3 σ3 F3 H3 q3 w3 => let ⟨ρ4, l, q4⟩ := q3; n ρ4 σ3 F3 H3 q4 (w3.weak l)) (fun ρ3 σ3 F3 H3 q3 w3 => let ⟨m', a, b⟩ := q3; ⟨m', ρ3, F3, a, b, w3⟩)
  | false =>
    show Dn.nx σ' H1
    obtain ⟨ρ2, l, q2⟩ := q.2 rfl
    exact n ρ2 σ' F1 H1 q2 (W.weak ⟨ad, p.wa⟩ l)
/-! what is walked -/
theorem ei_list {K : PySem.W.Frag} {Q : List D → Env → Prop} (h : EX te ρ fun d ρ1 => ∃ ds, d = .list ds ∧ Q ds ρ1) : EI (iList K te) ρ Q := fun B ad σ F H w R z =>
  h B ad σ F H w _ fun d ρ1 v F1 H1 q p r => by
    obtain ⟨ds, rfl, q⟩ := q
    obtain ⟨a, xs, rfl, h1, h2⟩ := r.lst_inv
    refine ⟨a, rfl, ⟨xs, sqL_rd h1 p.wa.gr.fh⟩, z ds ρ1 _ F1 H1 q p ⟨fun i H' e hi => ⟨xs, xs[i]'(by rw [h2.len]; exact hi), sqL_rd h1 e, by simp⟩, fun i H' e hi => ⟨xs, sqL_rd h1 e, by rw [h2.len]; exact hi⟩, fun i H' x H2 F2 e1 e2 y hi => ?_⟩⟩
    obtain ⟨rfl, y⟩ := y
    obtain ⟨d, hd, rd⟩ := h2.get' (y xs (sqL_rd h1 (e1.trans e2)))
    exact ⟨d, F2, hd, Gr.refl e2, rd.up e1⟩
theorem ei_tup {K : PySem.W.Frag} {Q : List D → Env → Prop} (h : EX te ρ fun d ρ1 => ∃ ds, d = .tuple ds ∧ Q ds ρ1) : EI (iTup K te) ρ Q := fun B ad σ F H w R z =>
  h B ad σ F H w _ fun d ρ1 v F1 H1 q p r => by
    obtain ⟨ds, rfl, q⟩ := q
    obtain ⟨a, xs, rfl, h1, h2⟩ := r.tup_inv
    refine ⟨a, rfl, ⟨xs, sqT_rd h1 p.wa.gr.fh⟩, z ds ρ1 _ F1 H1 q p ⟨fun i H' e hi => ⟨xs, xs[i]'(by rw [h2.len]; exact hi), sqT_rd h1 e, by simp⟩, fun i H' e hi => ⟨xs, sqT_rd h1 e, by rw [h2.len]; exact hi⟩, fun i H' x H2 F2 e1 e2 y hi => ?_⟩⟩
    obtain ⟨rfl, y⟩ := y
    obtain ⟨d, hd, rd⟩ := h2.get' (y xs (sqT_rd h1 (e1.trans e2)))
    exact ⟨d, F2, hd, Gr.refl e2, rd.up e1⟩
/-- lo, lo + 1, .., n of them -/
def rngI (lo : Int) (n : Nat) : List Int := (List.range n).map fun k : Nat => lo + (k : Int)
theorem rngI_len (lo : Int) (n : Nat) : (rngI lo n).length = n := by simp [rngI]
theorem rngI_get {lo : Int} {n k : Nat} (h : k < n) : (rngI lo n)[k]? = some (lo + (k : Int)) := by simp [rngI, h]
theorem rngI_mem {lo x : Int} {n : Nat} : x ∈ rngI lo n ↔ lo ≤ x ∧ x < lo + (n : Int) := by
  unfold rngI
  rw [List.mem_map]
  constructor
  · rintro ⟨k, hk, rfl⟩
    rw [List.mem_range] at hk
    omega
  · intro h
    exact ⟨(x - lo).toNat, by rw [List.mem_range]; omega, by omega⟩
theorem itd_rng {F : Hp} (lo : Int) (n : Nat) : ItD (Itr lo n) F ((rngI lo n).map .int) where
  go := fun i H _ h => by rw [List.length_map, rngI_len] at h; exact h
  stop := fun i H _ h => by rw [List.length_map, rngI_len] at h; exact h
  yld := fun i H x H' F1 _ e2 y h => by
    rw [List.length_map, rngI_len] at h
    obtain ⟨rfl, rfl⟩ := y
    exact ⟨.int (lo + (i : Int)), F1, by rw [List.getElem?_map, rngI_get h]; rfl, Gr.refl e2, .int _⟩
theorem ei_rng1 {t : TA} {Q : List D → Env → Prop} (h : EA t ρ fun ds ρ1 => ∃ n, ds = [.int n] ∧ (-1000000000000 ≤ n ∧ n ≤ 1000000000000) ∧ Q ((rngI 0 n.toNat).map .int) ρ1) : EI (iRng1 t) ρ Q := fun B ad σ F H w R z =>
  h B ad σ F H w _ fun ds ρ1 vs F1 H1 q p r => by
    obtain ⟨n, rfl, ⟨hn1, hn2⟩, q⟩ := q
    obtain ⟨v, rfl, rv⟩ := r.one
    exact ⟨n, by rw [rv.int_inv], by omega, by omega, z _ ρ1 _ F1 H1 q p (itd_rng 0 _)⟩
theorem ei_rng2 {t : TA} {Q : List D → Env → Prop} (h : EA t ρ fun ds ρ1 => ∃ l n, ds = [.int l, .int n] ∧ (-1000000000000 ≤ l ∧ l ≤ 1000000000000 ∧ -1000000000000 ≤ n ∧ n ≤ 1000000000000) ∧ Q ((rngI l (n - l).toNat).map .int) ρ1) : EI (iRng2 t) ρ Q := fun B ad σ F H w R z =>
  h B ad σ F H w _ fun ds ρ1 vs F1 H1 q p r => by
    obtain ⟨l, n, rfl, ⟨hl1, hl2, hn1, hn2⟩, q⟩ := q
    obtain ⟨v, u, rfl, rv, ru⟩ := r.two
    exact ⟨l, n, by rw [rv.int_inv, ru.int_inv], ⟨by omega, by omega, by omega, by omega⟩, z _ ρ1 _ F1 H1 q p (itd_rng l _)⟩
/-- enumerate: pairs (index, item) -/
def enumD (k : Nat) : List D → List D
  | [] => []
  | d :: ds => .tuple [.int (k : Int), d] :: enumD (k + 1) ds
theorem enumD_len : ∀ (ds : List D) (k : Nat), (enumD k ds).length = ds.length
  | [], _ => rfl
  | d :: ds, k => by simp [enumD, enumD_len ds]
theorem enumD_get : ∀ (ds : List D) (k i : Nat) {d : D}, ds[i]? = some d → (enumD k ds)[i]? = some (.tuple [.int ((k + i : Nat) : Int), d])
  | [], _, i, _, h => by simp at h
  | e :: ds, k, 0, d, h => by simp at h; subst h; rfl
  | e :: ds, k, i + 1, d, h => by
    have q := enumD_get ds (k + 1) i (by simpa using h)
    show (enumD (k + 1) ds)[i]? = _
    rw [q, show k + 1 + i = k + (i + 1) by omega]
theorem ei_enum {K : PySem.W.Frag} {t : TA} {Q : List D → Env → Prop} (h : EA t ρ fun es ρ1 => ∃ ds, es = [.list ds] ∧ Q (enumD 0 ds) ρ1) : EI (iEnum K t) ρ Q := fun B ad σ F H w R z =>
  h B ad σ F H w _ fun es ρ1 vs F1 H1 q p r => by
    obtain ⟨ds, rfl, q⟩ := q
    obtain ⟨v, rfl, rv⟩ := r.one
    obtain ⟨a, xs, rfl, h1, h2⟩ := rv.lst_inv
    refine ⟨a, xs, rfl, sqL_rd h1 p.wa.gr.fh, z _ ρ1 _ F1 H1 q p ⟨fun i H' e hi => ?_, fun i H' e hi => ?_, fun i H' x H2 F2 e1 e2 y hi => ?_⟩⟩
    · rw [enumD_len] at hi
      exact ⟨xs, xs[i]'(by rw [h2.len]; exact hi), sqL_rd h1 e, by simp⟩
    · rw [enumD_len] at hi
      exact ⟨xs, sqL_rd h1 e, by rw [h2.len]; exact hi⟩
    · obtain ⟨T, x, rfl, hT, rfl, y⟩ := y
      obtain ⟨d, hd, rd⟩ := h2.get' (y xs (sqL_rd h1 (e1.trans e2)))
      have g := Gr.new (o := .tup [.int (i : Nat), x]) e2 hT
      refine ⟨_, upd F2 T (.tup [.int (i : Nat), x]), enumD_get ds 0 i hd, g, .tup upd_same (.cons ?_ (.cons ((rd.up e1).up g.ff) .nil))⟩
      rw [Nat.zero_add]
      exact .int _
theorem ei_zip {K : PySem.W.Frag} {t : TA} {Q : List D → Env → Prop} (h : EA t ρ fun es ρ1 => ∃ ds fs, es = [.list ds, .list fs] ∧ Q (List.zipWith (fun d f => PyData.tuple [d, f]) ds fs) ρ1) : EI (iZip K t) ρ Q := fun B ad σ F H w R z =>
  h B ad σ F H w _ fun es ρ1 vs F1 H1 q p r => by
    obtain ⟨ds, fs, rfl, q⟩ := q
    obtain ⟨v, u, rfl, rv, ru⟩ := r.two
    obtain ⟨a, xs, rfl, h1, h2⟩ := rv.lst_inv
    obtain ⟨b, ys, rfl, g1, g2⟩ := ru.lst_inv
    refine ⟨a, b, xs, ys, rfl, sqL_rd h1 p.wa.gr.fh, sqL_rd g1 p.wa.gr.fh, z _ ρ1 _ F1 H1 q p ⟨fun i H' e hi => ?_, fun i H' e hi => ?_, fun i H' x H2 F2 e1 e2 y hi => ?_⟩⟩
    · rw [List.length_zipWith] at hi
      exact ⟨xs, ys, xs[i]'(by rw [h2.len]; omega), ys[i]'(by rw [g2.len]; omega), sqL_rd h1 e, sqL_rd g1 e, by simp, by simp⟩
    · rw [List.length_zipWith] at hi
      exact ⟨xs, ys, sqL_rd h1 e, sqL_rd g1 e, by rw [h2.len, g2.len]; omega⟩
    · obtain ⟨T, x, y', rfl, hT, rfl, y1, y2⟩ := y
      obtain ⟨d, hd, rd⟩ := h2.get' (y1 xs (sqL_rd h1 (e1.trans e2)))
      obtain ⟨f, hf, rf⟩ := g2.get' (y2 ys (sqL_rd g1 (e1.trans e2)))
      have g := Gr.new (o := .tup [x, y']) e2 hT
      exact ⟨_, upd F2 T (.tup [x, y']), by rw [List.getElem?_zipWith, hd, hf], g, .tup upd_same (.cons ((rd.up e1).up g.ff) (.cons ((rf.up e1).up g.ff) .nil))⟩
end

/-! ### comprehensions -/
section
variable {ρ ρ' : Env} {te : TE} {tt : TT} {wi : TI} {g : TG}
/-- vs's slots as in the first, the others as in the second -/
def unwA : Nat → List Nat → Env → Env → Env
  | k, vs, a :: ρ, b :: ρ' => (if vs.contains k = true then a else b) :: unwA (k + 1) vs ρ ρ'
  | _, _, _, _ => []
abbrev unw (vs : List Nat) (ρ ρ' : Env) : Env := unwA 0 vs ρ ρ'
theorem unwA_len : ∀ {k : Nat} {vs : List Nat} {ρ ρ' : Env}, ρ'.length = ρ.length → (unwA k vs ρ ρ').length = ρ.length
  | _, _, [], [], _ => rfl
  | _, _, [], _ :: _, h => by simp at h
  | _, _, _ :: _, [], h => by simp at h
  | k, vs, a :: ρ, b :: ρ', h => by
    show (unwA (k + 1) vs ρ ρ').length + 1 = ρ.length + 1
    rw [unwA_len (by simpa using h)]
theorem unwA_get : ∀ {k : Nat} {vs : List Nat} {ρ ρ' : Env} {i : Nat}, ρ'.length = ρ.length → (unwA k vs ρ ρ')[i]? = if k + i ∈ vs then ρ[i]? else ρ'[i]?
  | _, _, [], [], i, _ => by simp [unwA]
  | _, _, [], _ :: _, _, h => by simp at h
  | _, _, _ :: _, [], _, h => by simp at h
  | k, vs, a :: ρ, b :: ρ', 0, h => by
    show some (if vs.contains k = true then a else b) = if k + 0 ∈ vs then some a else some b
    by_cases hk : k ∈ vs
    · rw [if_pos (by simpa using hk), if_pos (by simpa using hk)]
    · rw [if_neg (by simpa using hk), if_neg (by simpa using hk)]
  | k, vs, a :: ρ, b :: ρ', i + 1, h => by
    show (unwA (k + 1) vs ρ ρ')[i]? = if k + (i + 1) ∈ vs then ρ[i]? else ρ'[i]?
    rw [unwA_get (by simpa using h), show k + 1 + i = k + (i + 1) by omega]
/-- the slots at vs hold nothing that is owned -/
def isPl : Option Slot → Bool
  | some (.own _) => false
  | some (.st _) => false
  | _ => true
def Plain (ρ : Env) (vs : List Nat) : Prop := ∀ i ∈ vs, isPl ρ[i]? = true
theorem Plain.ad {B : Base} {ad : Nat → List Addr} {σ : St} {F H : Hp} {vs : List Nat} (w : WA B ad ρ σ F H) (pl : Plain ρ vs) : ∀ j ∈ vs, ad j = [] := fun j hj => by
  have k := pl j hj
  cases e : ρ[j]? with
  | none => exact w.out j e
  | some s =>
    have q := w.sl j s e
    rw [e] at k
    cases s with
    | emp => exact q
    | val d => exact q.1
    | own _ => cases k
    | st _ => cases k
theorem WA.wiped {B : Base} {ad : Nat → List Addr} {σ : St} {F H : Hp} {vs : List Nat} (w : WA B ad ρ σ F H) (pl : Plain ρ vs) : WA B ad (wipeE ρ vs) (wipe σ vs) F H where
  gr := w.gr
  len := by rw [wipe_length, wipeE_len]; exact w.len
  sl := fun i s e => by
    rw [wipeE_get] at e
    rw [wipe_get]
    by_cases h : i ∈ vs ∧ i < ρ.length
    · rw [if_pos h] at e
      cases e
      exact pl.ad w i h.1
    · rw [if_neg h] at e
      rw [if_neg (by rw [w.len]; exact h)]
      exact w.sl i s e
  fz := w.fz
  dj := w.dj
  out := fun i e => by
    rw [wipeE_get] at e
    by_cases h : i ∈ vs ∧ i < ρ.length
    · rw [if_pos h] at e; cases e
    · rw [if_neg h] at e; exact w.out i e
  pin := w.pin.to fun S e => by
    rw [wipeE_get] at e
    by_cases h : 0 ∈ vs ∧ 0 < ρ.length
    · rw [if_pos h] at e; cases e
    · rw [if_neg h] at e
      exact ⟨⟨S, e⟩, by rw [wipe_get, if_neg (by rw [w.len]; exact h)], rfl⟩
theorem wipe_eq {σ σ' : St} {vs : List Nat} (h : wipe σ' vs = wipe σ vs) {i : Nat} (hi : i ∉ vs) : σ'[i]? = σ[i]? := by
  have e := congrArg (fun l => l[i]?) h
  simp only [wipe_get] at e
  rwa [if_neg (fun z => hi z.1), if_neg (fun z => hi z.1)] at e
/-- behind the block's turn: the outer slots again -/
theorem Post.unwiped {B : Base} {ad : Nat → List Addr} {σ σ2 : St} {F H F' H' : Hp} {vs : List Nat} {ρ1 ρ2 : Env} (w : WA B ad ρ1 σ F H) (pl : Plain ρ1 vs)
    (hσ : wipe σ2 vs = wipe σ vs) (fr : ∀ i, i ∉ vs → ρ2[i]? = (wipeE ρ1 vs)[i]?) (w2 : WA B ad ρ2 σ2 F H) (p : Post B ad σ2 ρ2 F H ρ' F' H') : Post B ad σ ρ1 F H (unw vs ρ1 ρ') F' H' := by
  have hl : ρ'.length = ρ1.length := by
    have l1 := p.wa.len
    have l2 := congrArg List.length hσ
    rw [wipe_length, wipe_length] at l2
    rw [← l1, l2, w.len]
  have pa := pl.ad w
  have ms : ∀ a, MS ad ρ2 a → MS ad ρ1 a := fun a ⟨i, S, e, m⟩ => by
    have hi : i ∉ vs := fun z => by rw [pa i z] at m; cases m
    rw [fr i hi, wipeE_get, if_neg (fun z => hi z.1)] at e
    exact ⟨i, S, e, m⟩
  refine ⟨⟨p.wa.gr, by rw [unwA_len hl]; exact w.len, fun i s e => ?_, p.wa.fz, p.wa.dj, fun i e => ?_, fun s as hp S e => ?_⟩, ⟨p.gr.ff, p.gr.fh, fun a o e m => p.gr.kp a o e fun z => m (ms a z), p.gr.al, p.gr.fr⟩, fun i S e => ?_⟩
  · rw [unwA_get hl, Nat.zero_add] at e
    by_cases hi : i ∈ vs
    · rw [if_pos hi] at e
      have k := w.sl i s e
      have q := pl i hi
      rw [e] at q
      cases s with
      | emp => exact k
      | val d =>
        obtain ⟨k, v, e, r⟩ := k
        exact ⟨k, v, e, r.up p.gr.ff⟩
      | own _ => cases q
      | st _ => cases q
    · rw [if_neg hi] at e
      rw [← wipe_eq hσ hi]
      exact p.wa.sl i s e
  · rw [List.getElem?_eq_none_iff, unwA_len hl, ← hl, ← List.getElem?_eq_none_iff] at e
    exact p.wa.out i e
  · rw [unwA_get hl, Nat.zero_add] at e
    by_cases hi : 0 ∈ vs
    · rw [if_pos hi] at e
      have q := pl 0 hi
      rw [e] at q
      cases q
    · rw [if_neg hi] at e
      rw [← wipe_eq hσ hi]
      exact p.wa.pin s as hp S e
  · rw [unwA_get hl, Nat.zero_add] at e
    by_cases hi : i ∈ vs
    · rw [if_pos hi] at e
      exact ⟨S, e⟩
    · rw [if_neg hi] at e
      obtain ⟨S', e'⟩ := p.sh i S e
      rw [fr i hi, wipeE_get, if_neg (fun z => hi z.1)] at e'
      exact ⟨S', e'⟩
/-- [e for target in ..], by an invariant over the turn, the items made, the slots -/
theorem eo_lc {vs : List Nat} {Q : List D → Env → Prop} (h : EI wi ρ fun ds ρ1 => ∃ I : Nat → List D → Env → Prop, I 0 [] ρ1 ∧
    (∀ k d acc ρ', ds[k]? = some d → I k acc ρ' → Plain ρ' vs ∧ acc.length < 1000000 ∧ SG vs g d (wipeE ρ' vs) fun ρ2 => ET tt ρ2 fun b ρ3 => (b = true → EX te ρ3 fun e ρ4 => I (k + 1) (acc ++ [e]) (unw vs ρ' ρ4)) ∧ (b = false → I (k + 1) acc (unw vs ρ' ρ3))) ∧
    ∀ acc ρ', I ds.length acc ρ' → Q acc ρ') : EO (tLc wi g tt te vs) ρ Q := fun B ad σ F H w Z z => by
  refine h B ad σ F H w _ fun ds ρ1 J F1 H1 q1 p1 it => ?_
  obtain ⟨I, i0, turn, done⟩ := q1
  intro Dl hD
  have hDH : H Dl = none := by
    cases q : H Dl with
    | none => rfl
    | some o => exact absurd hD (p1.gr.al Dl (by rw [q]; intro z; cases z))
  have nw := p1.wa.newp hD
  -- at each turn: the outer slots, over a heap in which Dl is not seen
  let Inv := fun (i : Nat) (H' : Hp) => ∃ acc ρ' F' vs', I i acc ρ' ∧ Post B ad σ ρ1 F1 H1 ρ' F' H' ∧ F' Dl = none ∧ H' Dl = some (.lst vs') ∧ RpA F' vs' acc
  refine ⟨fun i m H' => m = ds.length - i ∧ i ≤ ds.length ∧ Inv i H', ⟨_, rfl, Nat.zero_le _, [], ρ1, F1, [], i0, Post.of p1.wa (Gr.heap p1.wa.gr.fh (same_upd hD)), nw.1, upd_same, .nil⟩, ?_⟩
  rintro i m H' ⟨rfl, hi, acc, ρ', F', vs', iv, P, hF, hH, ra⟩
  by_cases hlt : i < ds.length
  · refine .inr ⟨it.go i H' (P.gr.ff.trans P.wa.gr.fh) hlt, fun H2 => Inv (i + 1) H2, fun H2 k => ⟨ds.length - (i + 1), by omega, rfl, hlt, k⟩, fun x H2 y => ?_⟩
    obtain ⟨d, F2, e, gr, rx⟩ := it.yld i H' x H2 F' P.gr.ff P.wa.gr.fh y hlt
    obtain ⟨pl, hz, k⟩ := turn i d acc ρ' e iv
    have P2 := P.trans (Post.of P.wa gr)
    have w2 := P.wa.grow gr
    have hF2 : F2 Dl = none := gr.fr Dl (by rw [hH]; intro z; cases z) hF
    have hH2 : H2 Dl = some (.lst vs') := gr.kp Dl _ hH id
    have nms : ∀ (ρ2 : Env), ¬ MS ad ρ2 Dl := fun ρ2 ⟨j, S, _, m⟩ => nw.2.2 j m
    refine k B ad (wipe σ vs) F2 H2 x (w2.wiped pl) (pl.ad w2) rx _ fun ρ2 σ2 q wb e2 fr => ?_
    have e2' : wipe σ2 vs = wipe σ vs := by
      rw [e2]
      apply List.ext_getElem?
      intro j
      rw [wipe_get, wipe_get, wipe_length]
      split
      · rfl
      · first | rfl | rw [wipe_get, if_neg (by assumption)]
    refine ⟨e2', q B ad σ2 F2 H2 wb _ fun b ρ3 F3 H3 q3 p3 => ?_⟩
    cases b with
    | true =>
      show te σ2 H3 _
      refine q3.1 rfl B ad σ2 F3 H3 p3.wa _ fun e ρ4 v F4 H4 q4 p4 rv => ?_
      have p34 := p3.trans p4
      have pu := Post.unwiped w2 pl e2' fr wb p34
      have hH4 : H4 Dl = some (.lst vs') := p34.gr.kp Dl _ hH2 (nms _)
      have hF4 : F4 Dl = none := p34.gr.fr Dl (by rw [hH2]; intro z; cases z) hF2
      have ra4 : RpA F4 (vs' ++ [v]) (acc ++ [e]) := (ra.up (gr.ff.trans p34.gr.ff)).app (.cons rv .nil)
      refine ⟨vs', hH4, Nat.lt_of_lt_of_le (by rw [ra.len]; exact hz) (by decide), acc ++ [e], _, F4, vs' ++ [v], q4, ?_, hF4, upd_same, ra4⟩
      -- Dl grows: nobody sees it
      have pt := P2.trans pu
      have ne1 : ∀ a o, H1 a = some o → a ≠ Dl := fun a o q z => by rw [z, hD] at q; cases q
      have neF : ∀ a o, F4 a = some o → a ≠ Dl := fun a o q z => by rw [z, hF4] at q; cases q
      refine ⟨⟨⟨pt.wa.gr.ff, fun a o q => by rw [upd_ne (neF a o q)]; exact pt.wa.gr.fh a o q, fun a o q m => ?_, fun a q => ?_, pt.wa.gr.fr⟩, pt.wa.len, fun j s q => ?_, pt.wa.fz, pt.wa.dj, pt.wa.out, pt.wa.pin⟩, ⟨pt.gr.ff, fun a o q => by rw [upd_ne (neF a o q)]; exact pt.gr.fh a o q, fun a o q m => by rw [upd_ne (ne1 a o q)]; exact pt.gr.kp a o q m, fun a q => ?_, pt.gr.fr⟩, pt.sh⟩
      · rw [upd_ne (fun z => by rw [z, nw.2.1] at q; cases q)]
        exact pt.wa.gr.kp a o q m
      · by_cases ha : a = Dl
        · rw [ha, upd_same]; intro z; cases z
        · rw [upd_ne ha]; exact pt.wa.gr.al a q
      · have k := pt.wa.sl j s q
        cases s with
        | emp => exact k
        | val d => exact k
        | own es =>
          obtain ⟨p, ws, a1, a2, a3, a4, a5⟩ := k
          refine ⟨p, ws, a1, a2, a3, ?_, a5⟩
          rw [upd_ne (fun z => nw.2.2 j (by rw [a1, z]; simp))]
          exact a4
        | st S =>
          obtain ⟨s, a1, a2⟩ := k
          exact ⟨s, a1, a2.keep fun a m o e => by
            rw [upd_ne (fun z => nw.2.2 j (by rw [← z]; exact m))]
            exact e⟩
      · by_cases ha : a = Dl
        · rw [ha, upd_same]; intro z; cases z
        · rw [upd_ne ha]; exact pt.gr.al a q
    | false =>
      show Inv (i + 1) H3
      have pu := Post.unwiped w2 pl e2' fr wb p3
      exact ⟨acc, _, F3, vs', q3.2 rfl, P2.trans pu, p3.gr.fr Dl (by rw [hH2]; intro z; cases z) hF2, p3.gr.kp Dl _ hH2 (nms _), ra.up (gr.ff.trans p3.gr.ff)⟩
  · have e : i = ds.length := by omega
    subst e
    exact .inl ⟨it.stop _ H' (P.gr.ff.trans P.wa.gr.fh) (Nat.le_refl _), z acc ρ' Dl vs' F' H' (done acc ρ' iv) (p1.trans P) hF hDH hH ra⟩
theorem et_yes {Q : Bool → Env → Prop} (q : Q true ρ) : ET tYes ρ Q := fun B ad σ F H w Z z => z true ρ F H q (Post.refl w)
/-- items that read off a list of one's own; nothing changes: the filter and the map -/
theorem eo_lcP {α : Type} {vs : List Nat} {Q : List D → Env → Prop} (f : α → Bool) (gg : α → D) (h : EI wi ρ fun ds ρ1 => ∃ (xs : List α) (enc : α → D), ds = xs.map enc ∧ xs.length < 1000000 ∧ Plain ρ1 vs ∧
    (∀ x ∈ xs, SG vs g (enc x) (wipeE ρ1 vs) fun ρ2 => unw vs ρ1 ρ2 = ρ1 ∧ ET tt ρ2 fun b ρ3 => b = f x ∧ ρ3 = ρ2 ∧ (f x = true → EX te ρ2 fun e ρ4 => e = gg x ∧ ρ4 = ρ2)) ∧ Q ((xs.filter f).map gg) ρ1) : EO (tLc wi g tt te vs) ρ Q := by
  refine eo_lc fun B ad σ F H w R z => h B ad σ F H w R fun ds ρ1 J F' H' q p it => z ds ρ1 J F' H' ?_ p it
  obtain ⟨xs, enc, rfl, hz, pl, turn, q⟩ := q
  refine ⟨fun k acc ρ' => ρ' = ρ1 ∧ acc = ((xs.take k).filter f).map gg, ⟨rfl, by simp⟩, ?_, ?_⟩
  · rintro k d acc ρ' e ⟨rfl, rfl⟩
    rw [List.getElem?_map] at e
    obtain ⟨x, ex, rfl⟩ : ∃ x, xs[k]? = some x ∧ enc x = d := by
      cases hx : xs[k]? with
      | none => rw [hx] at e; cases e
      | some x => rw [hx] at e; exact ⟨x, rfl, Option.some.inj e⟩
    have hm : x ∈ xs := List.mem_of_getElem? ex
    have hk : k < xs.length := (List.getElem?_eq_some_iff.mp ex).1
    have et : xs.take (k + 1) = xs.take k ++ [x] := by
      rw [List.take_succ, ex]; rfl
    refine ⟨pl, ?_, fun B ad σ F H v w hJ r Z z => turn x hm B ad σ F H v w hJ r Z fun ρ2 σ2 q w2 a b => z ρ2 σ2 (fun B ad σ F H w Z z => q.2 B ad σ F H w Z fun b ρ3 F' H' q2 p => z b ρ3 F' H' ⟨fun hb => ?_, fun hb => ?_⟩ p) w2 a b⟩
    · rw [List.length_map]
      exact Nat.lt_of_le_of_lt (Nat.le_trans (List.length_filter_le _ _) (by rw [List.length_take]; exact Nat.min_le_right _ _)) hz
    · obtain ⟨rfl, rfl, q2⟩ := q2
      refine (q2 hb).imp fun e ρ4 q => ?_
      obtain ⟨rfl, rfl⟩ := q
      exact ⟨‹_ ∧ _›.1, by rw [et, List.filter_append, List.map_append, List.filter_cons, if_pos hb]; rfl⟩
    · obtain ⟨rfl, rfl, q2⟩ := q2
      exact ⟨‹_ ∧ _›.1, by rw [et, List.filter_append, List.filter_cons, if_neg (by rw [hb]; exact Bool.false_ne_true), List.filter_nil, List.append_nil]⟩
  · rintro acc ρ' ⟨rfl, rfl⟩
    rw [List.length_map, List.take_length]
    exact q
end

/-! ### calls -/
/-- what a def of data promises: R tells of the arguments and of what is wanted of the answer -/
def spP (R : List D → (D → Prop) → Prop) : Sp := fun vs H Q _ => ∃ F ds Z, Same F H ∧ RpA F vs ds ∧ R ds Z ∧ ∀ d v F' H', Z d → Gr Non F H F' H' → Rp F' v d → Q v H'
/-- the same with a state ahead of the arguments -/
def spS (R : Stt → List D → (D → Stt → Prop) → Prop) : Sp := fun vs H Q _ => ∃ F s as S us ds Z, vs = .ref s :: us ∧ Same F H ∧ StAt H S s as ∧ (∀ a ∈ as, F a = none) ∧ RpA F us ds ∧ R S ds Z ∧
  ∀ d S' v F' H', Z d S' → Gr (· ∈ as) F H F' H' → StAt H' S' s as → (∀ a ∈ as, F' a = none) → Rp F' v d → Q v H'
/-- a new state is handed back -/
def spN (R : List D → (Stt → Prop) → Prop) : Sp := fun vs H Q _ => ∃ F ds Z, Same F H ∧ RpA F vs ds ∧ R ds Z ∧ ∀ S s as F' H', Z S → Gr Non F H F' H' → StAt H' S s as → (∀ a ∈ as, F' a = none ∧ H a = none) → Q (.ref s) H'
section
variable {ρ ρ' : Env} {te : TE} {tt : TT} {t : TA} {E : XK}
theorem ex_call {R : List D → (D → Prop) → Prop} {Q : D → Env → Prop} (h : EA t ρ fun ds ρ1 => R ds fun d => Q d ρ1) : EX (tCall (spP R) [] E t) ρ Q := fun B ad σ F H w Z z =>
  h B ad σ F H w _ fun ds ρ1 vs F1 H1 q p r => by
    rw [List.append_nil]
    exact ⟨F1, ds, _, p.wa.gr.fh, r, q, fun d v F' H' zd g rv => z d ρ1 v F' H' zd (p.trans (Post.of p.wa g)) rv⟩
/-- f(state, ..) -/
theorem ex_callS {R : Stt → List D → (D → Stt → Prop) → Prop} {i : Nat} {S0 : Stt} {Q : D → Env → Prop} (h0 : ρ[i]? = some (.st S0)) (h : EA t ρ fun ds ρ1 => ∃ S, ρ1[i]? = some (.st S) ∧ R S ds fun d S' => Q d (ρ1.set i (.st S'))) :
    EX (tCall (spS R) [] E (tCons (tVar i) t)) ρ Q := fun B ad σ F H w Z z => by
  obtain ⟨s0, k0, _⟩ := w.sl i _ h0
  refine ⟨_, k0, h B ad σ F H w _ fun ds ρ1 vs F1 H1 q p r => ?_⟩
  obtain ⟨S, h1, q⟩ := q
  obtain ⟨s, k1, k2⟩ := p.wa.sl i _ h1
  rw [k0] at k1
  cases k1
  have hi : i < ρ1.length := (List.getElem?_eq_some_iff.mp h1).1
  rw [List.append_nil]
  refine ⟨F1, s0, ad i, S, vs, ds, _, rfl, p.wa.gr.fh, k2, fun a m => (p.wa.fz i a m).1, r, q, fun d S' v F' H' zd g st fn rv => ?_⟩
  have nm : ∀ j a, j ≠ i → a ∈ ad j → a ∉ ad i := fun j a hj m m' => hj (p.wa.dj j i a m m')
  refine z d _ v F' H' zd (p.trans ⟨⟨?_, ?_, fun j sl e => ?_, fun j a m => ?_, p.wa.dj, fun j e => p.wa.out j (get_set' e), p.wa.pin.to fun S2 e => by
    rcases get_set e with ⟨e0, _⟩ | ⟨hj, e⟩
    · exact ⟨⟨S, by rw [e0]; exact h1⟩, rfl, rfl⟩
    · exact ⟨⟨S2, e⟩, rfl, rfl⟩⟩, ⟨g.ff, g.fh, fun a o e m => g.kp a o e fun z => m ⟨i, S, h1, z⟩, g.al, g.fr⟩, fun j S'' e => ?_⟩) rv
  · refine ⟨p.wa.gr.ff.trans g.ff, g.fh, fun a o e m => g.kp a o (p.wa.gr.kp a o e m) fun z => ?_, fun a e => g.al a (p.wa.gr.al a e), fun a e z => g.fr a (p.wa.gr.al a e) (p.wa.gr.fr a e z)⟩
    rcases (p.wa.fz i a z).2 with q | q
    · rw [q] at e; cases e
    · exact m q.1
  · rw [List.length_set]; exact p.wa.len
  · rcases get_set e with ⟨rfl, rfl⟩ | ⟨hj, e⟩
    · exact ⟨s0, k0, st⟩
    · have k := p.wa.sl j sl e
      cases sl with
      | emp => exact k
      | val d =>
        obtain ⟨k, v, e, r⟩ := k
        exact ⟨k, v, e, r.up g.ff⟩
      | own es =>
        obtain ⟨q, ws, a1, a2, a3, a4, a5⟩ := k
        exact ⟨q, ws, a1, a2, a3, g.kp q _ a4 (nm j q hj (by rw [a1]; simp)), a5.up g.ff⟩
      | st S2 =>
        obtain ⟨s2, a1, a2⟩ := k
        exact ⟨s2, a1, a2.keep fun a m o e => g.kp a o e (nm j a hj m)⟩
  · refine ⟨?_, (p.wa.fz j a m).2⟩
    by_cases hj : j = i
    · subst hj; exact fn a m
    · exact g.fr a (p.wa.lv m) (p.wa.fz j a m).1
  · rcases get_set e with ⟨rfl, _⟩ | ⟨_, e⟩
    · exact ⟨S, h1⟩
    · exact ⟨S'', e⟩
/-- state = f(..) -/
theorem sx_asgN {R : List D → (Stt → Prop) → Prop} {i : Nat} {P : Po} (h00 : i ≠ 0) (h : EA t ρ fun ds ρ1 => R ds fun S => NX P (ρ1.set i (.st S))) : SX (tAsg (tCall (spN R) [] E t) (gName i)) ρ P := fun B σ F H w Dn n r b c => by
  obtain ⟨ad, w⟩ := w
  refine h B ad σ F H w _ fun ds ρ1 vs F1 H1 q p rv => ?_
  rw [List.append_nil]
  refine ⟨F1, ds, _, p.wa.gr.fh, rv, q, fun S s as F' H' zd g st fn => ?_⟩
  obtain ⟨ρ2, l, q⟩ := zd
  have w2 := p.wa.grow g
  have nw : ∀ a ∈ as, B.H0 a = none ∧ ∀ j, a ∉ ad j := fun a m => (p.wa.newp (fn a m).2).2
  refine n ρ2 _ F' H' q (W.weak ⟨fun k => if k = i then (if i < ρ1.length then as else []) else ad k, w2.gr, by rw [List.length_set, List.length_set]; exact w2.len, fun j sl e => ?_, fun j q m => ?_, fun j1 j2 q m1 m2 => ?_, fun j e => ?_, w2.pin.to fun S2 e => by
    rcases get_set e with ⟨e0, _⟩ | ⟨hj, e⟩
    · exact absurd e0.symm h00
    · exact ⟨⟨S2, e⟩, List.getElem?_set_ne (Ne.symm hj), if_neg hj⟩⟩ l)
  · rcases get_set e with ⟨rfl, rfl⟩ | ⟨hj, e'⟩
    · have hi : j < ρ1.length := by
        have := (List.getElem?_eq_some_iff.mp e).1
        rwa [List.length_set] at this
      exact ⟨s, List.getElem?_set_self (by rw [w2.len]; exact hi), by rw [if_pos rfl, if_pos hi]; exact st⟩
    · rw [if_neg hj, List.getElem?_set_ne (Ne.symm hj)]
      exact w2.sl j sl e'
  · by_cases hj : j = i
    · simp only [if_pos hj] at m
      by_cases hi : i < ρ1.length
      · simp only [if_pos hi] at m
        exact ⟨(fn q m).1, .inl (nw q m).1⟩
      · simp [if_neg hi] at m
    · simp only [if_neg hj] at m
      exact w2.fz j q m
  · have g : ∀ j, q ∈ (if j = i then (if i < ρ1.length then as else []) else ad j) → (j = i ∧ q ∈ as) ∨ (j ≠ i ∧ q ∈ ad j) := fun j m => by
      by_cases hj : j = i
      · simp only [if_pos hj] at m
        by_cases hi : i < ρ1.length
        · simp only [if_pos hi] at m
          exact .inl ⟨hj, m⟩
        · simp [if_neg hi] at m
      · simp only [if_neg hj] at m
        exact .inr ⟨hj, m⟩
    rcases g j1 m1 with ⟨a1, b1⟩ | ⟨a1, b1⟩ <;> rcases g j2 m2 with ⟨a2, b2⟩ | ⟨a2, b2⟩
    · rw [a1, a2]
    · exact absurd b2 ((nw q b1).2 j2)
    · exact absurd b1 ((nw q b2).2 j1)
    · exact w2.dj j1 j2 q b1 b2
  · show (if j = i then (if i < ρ1.length then as else []) else ad j) = []
    have e' := get_set' e
    by_cases hj : j = i
    · subst hj
      rw [if_pos rfl, if_neg (by rw [List.getElem?_eq_none_iff] at e'; omega)]
    · rw [if_neg hj]
      exact w2.out j e'
end

/-! ### defs -/
def startE (N : List Str) (ds : List D) : Env := ds.map .val ++ List.replicate (N.length - ds.length) .emp
section
variable {P : Program} {w : World} {K : PySem.W.Frag} {mg : Str → Option Value} {base : Heap} {x qual : Str} {st : Stmt} {f : Addr} {fd : FuncData} {N ps : List Str} {k : Nat}
theorem start_get {N : List Str} {us : List V} {i : Nat} {v : V} (h : us[i]? = some v) : (L2.start N us)[i]? = some (some v) := by
  unfold L2.start
  have hi := (List.getElem?_eq_some_iff.mp h).1
  rw [List.getElem?_append_left (by rw [List.length_map]; exact hi), List.getElem?_map, h]
  rfl
theorem startE_get {N : List Str} {ds : List D} {i : Nat} {s : Slot} (h : (startE N ds)[i]? = some s) : (∃ d, ds[i]? = some d ∧ s = .val d) ∨ s = .emp := by
  unfold startE at h
  by_cases hi : i < ds.length
  · rw [List.getElem?_append_left (by rw [List.length_map]; exact hi), List.getElem?_map] at h
    cases e : ds[i]? with
    | none => rw [e] at h; cases h
    | some d => rw [e] at h; exact .inl ⟨d, rfl, (Option.some.inj h).symm⟩
  · rw [List.getElem?_append_right (by rw [List.length_map]; omega)] at h
    exact .inr (List.eq_of_mem_replicate (List.mem_of_getElem? h))
theorem fn_pure {R : List D → (D → Prop) → Prop} (F : Fun K x qual st f fd) (S : FnScope N ps (defScope st)) (len : ∀ ds Z, R ds Z → ds.length = ps.length)
    (body : ∀ (cdv : Value) (A : Around) (outer : List PySem.Env) (s : Shared) (H : Hp) (E : XK), Room k (A.deeper (PyProof.Rows.envOfC qual (defScope st) s.heap.objs.size f cdv)) →
      ∃ t, PSs (cxOf CX0 P w K mg base N qual (defScope st) f cdv A outer s H E).nox (defBody st) t ∧ ∀ ds Z, R ds Z → SX t (startE N ds) { nx := fun _ => Z .none, rt := fun d _ => Z d }) :
    FnOk P w K mg base CX0 (k + 1) f fd ps (spP R) := by
  refine F.ok S (fun vs H Q E h => ?_) (fun cdv A outer s H vs Q E hr h => ?_)
  · obtain ⟨F, ds, Z, _, r, q, _⟩ := h
    rw [r.len]
    exact len ds Z q
  · obtain ⟨F0, ds, Z, fh, r, q, z⟩ := h
    obtain ⟨t, ht, hs⟩ := body cdv A outer s H E hr
    refine ⟨t, ht, hs ds Z q { F0 := F0, H0 := H, M := Non } (L2.start N vs) F0 H ⟨fun _ => [], Gr.refl fh, ?_, fun i s e => ?_, (fun i p m => by cases m), (fun i j p m => by cases m), fun _ _ => rfl, (fun s as e => by cases e)⟩ _ (fun ρ' σ' F' H' q w' => ?_) (fun d ρ' σ' v F' H' q w' rv => ?_) (fun _ _ _ _ q _ => q.elim) (fun _ _ _ _ q _ => q.elim)⟩
    · unfold L2.start startE
      rw [List.length_append, List.length_append, List.length_map, List.length_map, List.length_replicate, List.length_replicate, r.len]
    · rcases startE_get e with ⟨d, e2, rfl⟩ | rfl
      · obtain ⟨v, e1, rv⟩ := r.get e2
        exact ⟨rfl, v, start_get e1, rv⟩
      · rfl
    · obtain ⟨ad, w'⟩ := w'
      exact z .none .non F' H' q w'.gr .non
    · obtain ⟨ad, w'⟩ := w'
      exact z d v F' H' q w'.gr rv
/-- a def whose first parameter is a state -/
theorem fn_state {R : Stt → List D → (D → Stt → Prop) → Prop} (F : Fun K x qual st f fd) (S : FnScope N ps (defScope st)) (len : ∀ S ds Z, R S ds Z → ds.length + 1 = ps.length)
    (body : ∀ (cdv : Value) (A : Around) (outer : List PySem.Env) (s : Shared) (H : Hp) (E : XK), Room k (A.deeper (PyProof.Rows.envOfC qual (defScope st) s.heap.objs.size f cdv)) →
      ∃ t, PSs (cxOf CX0 P w K mg base N qual (defScope st) f cdv A outer s H E).nox (defBody st) t ∧ ∀ S ds Z, R S ds Z → SX t (.st S :: (ds.map .val ++ List.replicate (N.length - (ds.length + 1)) .emp)) { nx := fun ρ' => ∃ S', ρ'[0]? = some (.st S') ∧ Z .none S', rt := fun d ρ' => ∃ S', ρ'[0]? = some (.st S') ∧ Z d S' }) :
    FnOk P w K mg base CX0 (k + 1) f fd ps (spS R) := by
  refine F.ok S (fun vs H Q E h => ?_) (fun cdv A outer s H vs Q E hr h => ?_)
  · obtain ⟨F, s, as, S, us, ds, Z, rfl, _, _, _, r, q, _⟩ := h
    rw [List.length_cons, r.len]
    exact len S ds Z q
  · obtain ⟨F0, s0, as, S0, us, ds, Z, rfl, fh, sa, fn, r, q, z⟩ := h
    obtain ⟨t, ht, hs⟩ := body cdv A outer s H E hr
    have hm := sa.mem
    have hl : (L2.start N (.ref s0 :: us)).length = (Slot.st S0 :: (ds.map Slot.val ++ List.replicate (N.length - (ds.length + 1)) Slot.emp)).length := by
      unfold L2.start
      simp [r.len]
    have fin : ∀ (d : D) (ρ' : Env) (σ' : St) (v : V) (F' H' : Hp), (∃ S', ρ'[0]? = some (Slot.st S') ∧ Z d S') → W { F0 := F0, H0 := H, M := (· ∈ as), pin := some (s0, as) } ρ' σ' F' H' → Rp F' v d → Q v H' := fun d ρ' σ' v F' H' ⟨S', e, zd⟩ ⟨ad, w'⟩ rv => by
      obtain ⟨e1, e2⟩ := w'.pin s0 as rfl S' e
      obtain ⟨s1, k1, k2⟩ := w'.sl 0 _ e
      rw [e1] at k1
      cases k1
      rw [e2] at k2
      exact z d S' v F' H' zd w'.gr k2 (fun a m => (w'.fz 0 a (by rw [e2]; exact m)).1) rv
    refine ⟨t, ht, hs S0 ds Z q { F0 := F0, H0 := H, M := (· ∈ as), pin := some (s0, as) } (L2.start N (.ref s0 :: us)) F0 H ⟨fun i => if i = 0 then as else [], Gr.refl fh, hl, fun i sl e => ?_, fun i p m => ?_, fun i j p m1 m2 => ?_, fun i e => ?_, fun s as' e S _ => ?_⟩ _ (fun ρ' σ' F' H' q w' => fin .none ρ' σ' .non F' H' q w' .non) (fun d ρ' σ' v F' H' q w' rv => fin d ρ' σ' v F' H' q w' rv) (fun _ _ _ _ q _ => q.elim) (fun _ _ _ _ q _ => q.elim)⟩
    · cases i with
      | zero =>
        cases e
        exact ⟨s0, start_get (us := .ref s0 :: us) rfl, by rw [if_pos rfl]; exact sa⟩
      | succ i =>
        have e' : (startE (List.replicate (N.length - 1) "") ds)[i]? = some sl := by
          unfold startE
          rw [List.length_replicate, show N.length - 1 - ds.length = N.length - (ds.length + 1) by omega]
          exact e
        rw [if_neg (Nat.succ_ne_zero i)]
        rcases startE_get e' with ⟨d, e2, rfl⟩ | rfl
        · obtain ⟨v, e1, rv⟩ := r.get e2
          exact ⟨rfl, v, start_get (us := .ref s0 :: us) (by simpa using e1), rv⟩
        · rfl
    · by_cases hi : i = 0
      · rw [if_pos hi] at m
        exact ⟨fn p m, .inr ⟨m, hi⟩⟩
      · rw [if_neg hi] at m; cases m
    · by_cases hi : i = 0
      · by_cases hj : j = 0
        · rw [hi, hj]
        · rw [if_neg hj] at m2; cases m2
      · rw [if_neg hi] at m1; cases m1
    · by_cases hi : i = 0
      · subst hi; cases e
      · exact if_neg hi
    · cases e
      exact ⟨start_get (us := .ref s0 :: us) rfl, if_pos rfl⟩
end
end Pu
namespace Pu
open PySem L2

/-! ### what the defs call: built-ins, one another -/
/-- no name of a built-in is bound by the module -/
structure Bn (mg : Str → Option Value) : Prop where
  len_ : mg "len" = none
  range_ : mg "range" = none
  min_ : mg "min" = none
  max_ : mg "max" = none
  abs_ : mg "abs" = none
  sum_ : mg "sum" = none
  int_ : mg "int" = none
  list_ : mg "list" = none
  tuple_ : mg "tuple" = none
  sorted_ : mg "sorted" = none
  isinstance_ : mg "isinstance" = none
  enumerate_ : mg "enumerate" = none
  zip_ : mg "zip" = none
  set_ : mg "set" = none
  repr_ : mg "repr" = none
  all_ : mg "all" = none
  any_ : mg "any" = none
  dict_ : mg "dict" = none
  reversed_ : mg "reversed" = none
  str_ : mg "str" = none
/-- a def of the module that keeps a promise -/
inductive Cal (P : Program) (w : World) (K : PySem.W.Frag) (mg : Str → Option Value) (base : Heap) (x : Str) (ps : List Str) (sp : Sp) (k : Nat) : Prop
  | mk (f : Addr) (fd : FuncData) (ok : FnOk P w K mg base CX0 k f fd ps sp) (hm : mg x = some (.ref f)) (kp : PySem.W.keepIn K (.ref f) = true) (bd : Binds K fd ps []) : Cal P w K mg base x ps sp k
theorem pe_cal {X : Cx} {k : Nat} {ps : List Str} {sp : Sp} {x : Str} {p pos : Pos} {e : Expr} {es : List Expr} {t : TA} (C : Cal X.prog X.w X.K X.mg X.base x ps sp k) (hr : Room k X.A) (hg : Gl X x) (ha : PA X (e :: es) t)
    (hdb : (x == ("__debug__" : Str)) = false := by decide) (he : starEach (e :: es) X.env = (false, eval e X.env) :: starEach es X.env := by rfl) (hpl : (backTo pos (starEach es X.env)).any (·.1) = false := by rfl) :
    PE X (.Call (.Name x p) (e :: es) [] pos) (tCall sp [] E0 t) := by
  obtain ⟨f, fd, ok, hm, kp, bd⟩ := C
  exact pe_call ok hr hg hm kp bd .nil pass0 ha hdb he hpl
theorem Cal.imp {P : Program} {w : World} {K : PySem.W.Frag} {mg : Str → Option Value} {base : Heap} {x : Str} {ps : List Str} {sp sp' : Sp} {k : Nat} (C : Cal P w K mg base x ps sp k) (h : ∀ vs H Q E, sp' vs H Q E → sp vs H Q E) : Cal P w K mg base x ps sp' k := by
  obtain ⟨f, fd, ok, hm, kp, bd⟩ := C
  exact ⟨f, fd, ok.imp h, hm, kp, bd⟩
theorem Cal.mono {P : Program} {w : World} {K : PySem.W.Frag} {mg : Str → Option Value} {base : Heap} {x : Str} {ps : List Str} {sp : Sp} {j k : Nat} (C : Cal P w K mg base x ps sp j) (h : j ≤ k) : Cal P w K mg base x ps sp k := by
  obtain ⟨f, fd, ok, hm, kp, bd⟩ := C
  exact ⟨f, fd, ok.mono h, hm, kp, bd⟩

/-! ### reading data off the heap -/
section
variable {X : Cx} {pins : List (Addr × Obj)} {σ : St} {F H : Hp} {s : Shared} {d : D} {ds : List D} {v : V} {u : Value} {vs : List V} {us : List Value}
theorem rp_reads (I : Inv X pins σ H s) (e : Same F H) (r : Rp F v d) (ru : RelV v u) : ∃ as, Reads s.heap u d as := Dp.reads I d v u (r.dp e) ru
theorem rpa_reads (I : Inv X pins σ H s) (e : Same F H) (r : RpA F vs ds) (ru : Vals vs us) : ∃ as, ReadsAll s.heap us ds as := Dp.readsAll I ds vs us (r.dp e) ru
mutual
theorem Rp.plain : ∀ (d : D) {v : V}, Rp F v d → d.plain = true
  | .none, _, _ => by simp only [PyData.plain]
  | .bool _, _, _ => by simp only [PyData.plain]
  | .int _, _, _ => by simp only [PyData.plain]
  | .str _, _, _ => by simp only [PyData.plain]
  | .list ds, _, h => by
    cases h with
    | lst _ h => simp only [PyData.plain]; exact RpA.plain ds h
  | .tuple ds, _, h => by
    cases h with
    | tup _ h => simp only [PyData.plain]; exact RpA.plain ds h
  | .dict _, _, h => by cases h
theorem RpA.plain : ∀ (ds : List D) {vs : List V}, RpA F vs ds → PyData.plainAll ds = true
  | [], _, _ => by simp only [PyData.plainAll]
  | d :: ds, _, h => by
    cases h with
    | cons h1 h2 => simp only [PyData.plainAll, Bool.and_eq_true]; exact ⟨Rp.plain d h1, RpA.plain ds h2⟩
end
/-- at most so deep -/
def DpN (n : Nat) (d : D) : Prop := d.depth ≤ n
theorem dpn_int {n : Nat} {i : Int} : DpN n (.int i) := by simp [DpN, PyData.depth]
theorem dpn_bl {n : Nat} {b : Bool} : DpN n (.bool b) := by simp [DpN, PyData.depth]
theorem dpn_str {n : Nat} {x : Str} : DpN n (.str x) := by simp [DpN, PyData.depth]
theorem dpn_non {n : Nat} : DpN n .none := by simp [DpN, PyData.depth]
theorem depthAll_le {n : Nat} : ∀ {ds : List D}, (∀ d ∈ ds, DpN n d) → PyData.depthAll ds ≤ n
  | [], _ => by simp [PyData.depthAll]
  | d :: ds, h => by
    simp only [PyData.depthAll]
    exact Nat.max_le.mpr ⟨h d (by simp), depthAll_le fun e he => h e (by simp [he])⟩
theorem dpn_list {n : Nat} {ds : List D} (h : ∀ d ∈ ds, DpN n d) : DpN (n + 1) (.list ds) := by
  simp only [DpN, PyData.depth]
  exact Nat.succ_le_succ (depthAll_le h)
theorem dpn_tup {n : Nat} {ds : List D} (h : ∀ d ∈ ds, DpN n d) : DpN (n + 1) (.tuple ds) := by
  simp only [DpN, PyData.depth]
  exact Nat.succ_le_succ (depthAll_le h)
theorem dpn_map {α : Type} {n : Nat} {xs : List α} {f : α → D} (h : ∀ x ∈ xs, DpN n (f x)) : ∀ d ∈ xs.map f, DpN n d := fun d hd => by
  obtain ⟨x, hx, rfl⟩ := List.mem_map.mp hd
  exact h x hx
theorem dpn_nil {n : Nat} : ∀ d ∈ ([] : List D), DpN n d := fun d h => by cases h
theorem dpn_cons {n : Nat} {d : D} {ds : List D} (h : DpN n d) (hs : ∀ e ∈ ds, DpN n e) : ∀ e ∈ d :: ds, DpN n e := fun e he => by
  rcases List.mem_cons.mp he with rfl | he
  · exact h
  · exact hs e he
theorem DpN.up {n m : Nat} {d : D} (h : DpN n d) (k : n ≤ m) : DpN m d := Nat.le_trans h k
end

/-! ### ==, != of data at depth 64 -/
section
variable {X : Cx} {K : PySem.W.Frag} {d d1 d2 : D} {ds es : List D} {Q : D → Prop}
def rEqP (K : PySem.W.Frag) : R2 := fun x y H Q => ∃ d e, Dp K H x d ∧ Dp K H y e ∧ d.plain = true ∧ e.plain = true ∧ min d.depth e.depth ≤ 60 ∧ Q (.bl (PyData.eqv d e)) H
def rNeP (K : PySem.W.Frag) : R2 := fun x y H Q => ∃ d e, Dp K H x d ∧ Dp K H y e ∧ d.plain = true ∧ e.plain = true ∧ min d.depth e.depth ≤ 60 ∧ Q (.bl (!PyData.eqv d e)) H
theorem op_eqP (hu : X.A.units + 64 < cLine) : OpR X (compareOp .Eq) (rEqP X.K) := by
  rintro pins s σ H x y v u Q I rx ry ⟨d, e, hd, he, pd, pe, hz, q⟩
  obtain ⟨as, r1⟩ := Dp.reads I d x v hd rx
  obtain ⟨bs, r2⟩ := Dp.reads I e y u he ry
  exact PySem.SeqAt.eq_plain r1 r2 pd pe (by omega) ⟨.bl _, H, I, rfl, q⟩
theorem op_neP (hu : X.A.units + 64 < cLine) : OpR X (compareOp .NotEq) (rNeP X.K) := by
  rintro pins s σ H x y v u Q I rx ry ⟨d, e, hd, he, pd, pe, hz, q⟩
  obtain ⟨as, r1⟩ := Dp.reads I d x v hd rx
  obtain ⟨bs, r2⟩ := Dp.reads I e y u he ry
  exact PySem.SeqAt.ne_plain r1 r2 pd pe (by omega) ⟨.bl _, H, I, rfl, q⟩
theorem opd_eqP (h : min d1.depth d2.depth ≤ 60) (k : Q (.bool (PyData.eqv d1 d2))) : OpD (rEqP K) d1 d2 Q := fun F H x y e rx ry Z z => ⟨d1, d2, rx.dp e, ry.dp e, Rp.plain _ rx, Rp.plain _ ry, h, z _ _ F H k (Gr.refl e) (.bl _)⟩
theorem opd_neP (h : min d1.depth d2.depth ≤ 60) (k : Q (.bool (!PyData.eqv d1 d2))) : OpD (rNeP K) d1 d2 Q := fun F H x y e rx ry Z z => ⟨d1, d2, rx.dp e, ry.dp e, Rp.plain _ rx, Rp.plain _ ry, h, z _ _ F H k (Gr.refl e) (.bl _)⟩
theorem min_l {n m k : Nat} (h : n ≤ k) : min n m ≤ k := Nat.le_trans (Nat.min_le_left _ _) h
theorem min_r {n m k : Nat} (h : m ≤ k) : min n m ≤ k := Nat.le_trans (Nat.min_le_right _ _) h
/-! in, not in -/
def rInP (K : PySem.W.Frag) : R2 := fun x y H Q => ∃ d es, Dp K H x d ∧ (Dp K H y (.list es) ∨ Dp K H y (.tuple es)) ∧ d.plain = true ∧ PyData.plainAll es = true ∧ min (PyData.depthAll es) d.depth ≤ 60 ∧ Q (.bl (es.any fun y => PyData.eqv y d)) H
def rNinP (K : PySem.W.Frag) : R2 := fun x y H Q => ∃ d es, Dp K H x d ∧ (Dp K H y (.list es) ∨ Dp K H y (.tuple es)) ∧ d.plain = true ∧ PyData.plainAll es = true ∧ min (PyData.depthAll es) d.depth ≤ 60 ∧ Q (.bl (!es.any fun y => PyData.eqv y d)) H
theorem op_inP (hu : X.A.units + 64 < cLine) : OpR X (compareOp .In) (rInP X.K) := by
  rintro pins s σ H x y v u Q I rx ry ⟨d, es, hd, he, pd, pe, hz, q⟩
  obtain ⟨as, r1⟩ := Dp.reads I d x v hd rx
  rcases he with he | he
  · obtain ⟨bs, r2⟩ := Dp.reads I _ y u he ry
    exact PySem.SeqAt.in_list_data r2 r1 pe pd (by omega) ⟨.bl _, H, I, rfl, q⟩
  · obtain ⟨bs, r2⟩ := Dp.reads I _ y u he ry
    exact PySem.SeqAt.in_tuple_data r2 r1 pe pd (by omega) ⟨.bl _, H, I, rfl, q⟩
theorem op_ninP (hu : X.A.units + 64 < cLine) : OpR X (compareOp .NotIn) (rNinP X.K) := by
  rintro pins s σ H x y v u Q I rx ry ⟨d, es, hd, he, pd, pe, hz, q⟩
  obtain ⟨as, r1⟩ := Dp.reads I d x v hd rx
  rcases he with he | he
  · obtain ⟨bs, r2⟩ := Dp.reads I _ y u he ry
    exact PySem.SeqAt.notIn_list_data r2 r1 pe pd (by omega) ⟨.bl _, H, I, rfl, q⟩
  · obtain ⟨bs, r2⟩ := Dp.reads I _ y u he ry
    exact PySem.SeqAt.notIn_tuple_data r2 r1 pe pd (by omega) ⟨.bl _, H, I, rfl, q⟩
theorem opd_inL (h : min (PyData.depthAll es) d.depth ≤ 60) (k : Q (.bool (es.any fun y => PyData.eqv y d))) : OpD (rInP K) d (.list es) Q := fun F H x y e rx ry Z z =>
  ⟨d, es, rx.dp e, .inl (ry.dp e), Rp.plain _ rx, by have := Rp.plain _ ry; simpa only [PyData.plain] using this, h, z _ _ F H k (Gr.refl e) (.bl _)⟩
theorem opd_inT (h : min (PyData.depthAll es) d.depth ≤ 60) (k : Q (.bool (es.any fun y => PyData.eqv y d))) : OpD (rInP K) d (.tuple es) Q := fun F H x y e rx ry Z z =>
  ⟨d, es, rx.dp e, .inr (ry.dp e), Rp.plain _ rx, by have := Rp.plain _ ry; simpa only [PyData.plain] using this, h, z _ _ F H k (Gr.refl e) (.bl _)⟩
theorem opd_ninL (h : min (PyData.depthAll es) d.depth ≤ 60) (k : Q (.bool (!es.any fun y => PyData.eqv y d))) : OpD (rNinP K) d (.list es) Q := fun F H x y e rx ry Z z =>
  ⟨d, es, rx.dp e, .inl (ry.dp e), Rp.plain _ rx, by have := Rp.plain _ ry; simpa only [PyData.plain] using this, h, z _ _ F H k (Gr.refl e) (.bl _)⟩
theorem opd_ninT (h : min (PyData.depthAll es) d.depth ≤ 60) (k : Q (.bool (!es.any fun y => PyData.eqv y d))) : OpD (rNinP K) d (.tuple es) Q := fun F H x y e rx ry Z z =>
  ⟨d, es, rx.dp e, .inr (ry.dp e), Rp.plain _ rx, by have := Rp.plain _ ry; simpa only [PyData.plain] using this, h, z _ _ F H k (Gr.refl e) (.bl _)⟩
/-! min, max of a list of alike data -/
def rMnD (K : PySem.W.Frag) : List V → Hp → VK → Prop := fun vs H Q => ∃ (F : Hp) (a : Addr) (xs : List V) (d : D) (ds : List D), vs = [.ref a] ∧ Same F H ∧ Rd F a (.lst xs) ∧ RpA F xs (d :: ds) ∧ PySem.W.AlikeAll (d :: ds) ∧ PyData.depthAll (d :: ds) ≤ 60 ∧ ∀ v, Rp F v (PySem.W.minD d ds) → Q v H
def rMxD (K : PySem.W.Frag) : List V → Hp → VK → Prop := fun vs H Q => ∃ (F : Hp) (a : Addr) (xs : List V) (d : D) (ds : List D), vs = [.ref a] ∧ Same F H ∧ Rd F a (.lst xs) ∧ RpA F xs (d :: ds) ∧ PySem.W.AlikeAll (d :: ds) ∧ PyData.depthAll (d :: ds) ≤ 60 ∧ ∀ v, Rp F v (PySem.W.maxD d ds) → Q v H
theorem minD_mem (d : D) (ds : List D) : PySem.W.minD d ds ∈ d :: ds := by
  have : ∀ (es : List D) (a : D), es.foldl (fun a y => if PySem.W.dataLt y a then y else a) a ∈ a :: es := by
    intro es
    induction es with
    | nil => intro a; simp
    | cons e es ih =>
      intro a
      rw [List.foldl_cons]
      have q := ih (if PySem.W.dataLt e a then e else a)
      by_cases c : PySem.W.dataLt e a = true
      · rw [if_pos c] at q ⊢
        exact List.mem_cons_of_mem _ q
      · rw [if_neg c] at q ⊢
        rcases List.mem_cons.mp q with q | q
        · rw [q]; exact List.mem_cons_self
        · exact List.mem_cons_of_mem _ (List.mem_cons_of_mem _ q)
  exact this ds d
theorem maxD_mem (d : D) (ds : List D) : PySem.W.maxD d ds ∈ d :: ds := by
  have : ∀ (es : List D) (a : D), es.foldl (fun a y => if PySem.W.dataLt a y then y else a) a ∈ a :: es := by
    intro es
    induction es with
    | nil => intro a; simp
    | cons e es ih =>
      intro a
      rw [List.foldl_cons]
      have q := ih (if PySem.W.dataLt a e then e else a)
      by_cases c : PySem.W.dataLt a e = true
      · rw [if_pos c] at q ⊢
        exact List.mem_cons_of_mem _ q
      · rw [if_neg c] at q ⊢
        rcases List.mem_cons.mp q with q | q
        · rw [q]; exact List.mem_cons_self
        · exact List.mem_cons_of_mem _ (List.mem_cons_of_mem _ q)
  exact this ds d
theorem pick_rp {pins : List (Addr × Obj)} {σ : St} {F H : Hp} {s : Shared} {xs : List V} {its : List Value} {es : List D} {m : D} (I : Inv X pins σ H s) (e : Same F H) (ra : RpA F xs es) (rv : Vals xs its) (al : PySem.W.AlikeAll es) (hm : m ∈ es)
    {i : Nat} {v : Value} {h' : Heap} {bs : List Addr} (hi : its.toArray[i]? = some v) (rd : Reads h' v m bs) (hk : ∀ b o, s.heap.get? b = some o → h'.get? b = some o) : ∃ y, RelV y v ∧ Rp F y m := by
  have hi' : its[i]? = some v := by simpa using hi
  have hl : i < xs.length := by rw [rv.length]; exact (List.getElem?_eq_some_iff.mp hi').1
  obtain ⟨u, hu, ru⟩ := rv.get (List.getElem?_eq_getElem hl)
  rw [hi'] at hu
  cases hu
  obtain ⟨d, hd, rp⟩ := ra.get' (List.getElem?_eq_getElem hl)
  obtain ⟨as, r1⟩ := rp_reads I e rp ru
  have q : d = m := PySem.W.alike_unique d m v as bs (al.1 d (List.mem_of_getElem? hd) m hm) (PyProof.Rows.Reads.keeps hk r1) rd
  rw [q] at rp
  exact ⟨_, ru, rp⟩
theorem cb_minD (hc : X.calm = true) (hu : X.A.units + 64 < cLine) : CallR X (.builtin "min") (rMnD X.K) := by
  rintro pins s σ H vs us Q I r ⟨F, a, xs, d, ds, rfl, e, ha, ra, al, hz, q⟩
  obtain ⟨its, rv, hl, _⟩ := I.list (sqL_rd (K := X.K) ha e)
  obtain ⟨as, rr⟩ := rpa_reads I e ra rv
  rw [Vals.ref1 r]
  refine PySem.W.min_list_data (I.ok.hd hc) hl.isList (by simpa using rr) al (by omega) fun i v h' tk bs hi rd hk => ?_
  obtain ⟨y, ry, rp⟩ := pick_rp I e ra rv al (minD_mem d ds) hi rd hk
  exact ⟨y, H, I.kept hk, ry, q y rp⟩
theorem cb_maxD (hc : X.calm = true) (hu : X.A.units + 64 < cLine) : CallR X (.builtin "max") (rMxD X.K) := by
  rintro pins s σ H vs us Q I r ⟨F, a, xs, d, ds, rfl, e, ha, ra, al, hz, q⟩
  obtain ⟨its, rv, hl, _⟩ := I.list (sqL_rd (K := X.K) ha e)
  obtain ⟨as, rr⟩ := rpa_reads I e ra rv
  rw [Vals.ref1 r]
  refine PySem.W.max_list_data (I.ok.hd hc) hl.isList (by simpa using rr) al (by omega) fun i v h' tk bs hi rd hk => ?_
  obtain ⟨y, ry, rp⟩ := pick_rp I e ra rv al (maxD_mem d ds) hi rd hk
  exact ⟨y, H, I.kept hk, ry, q y rp⟩
theorem cbd_minD (al : PySem.W.AlikeAll (d :: ds)) (hz : PyData.depthAll (d :: ds) ≤ 60) (k : Q (PySem.W.minD d ds)) : CbD (rMnD K) [.list (d :: ds)] Q := fun F H vs e r Z z => by
  obtain ⟨v, rfl, rv⟩ := r.one
  obtain ⟨a, xs, rfl, h1, h2⟩ := rv.lst_inv
  exact ⟨F, a, xs, d, ds, rfl, e, h1, h2, al, hz, fun v rv => z _ _ F H k (Gr.refl e) rv⟩
theorem cbd_maxD (al : PySem.W.AlikeAll (d :: ds)) (hz : PyData.depthAll (d :: ds) ≤ 60) (k : Q (PySem.W.maxD d ds)) : CbD (rMxD K) [.list (d :: ds)] Q := fun F H vs e r Z z => by
  obtain ⟨v, rfl, rv⟩ := r.one
  obtain ⟨a, xs, rfl, h1, h2⟩ := rv.lst_inv
  exact ⟨F, a, xs, d, ds, rfl, e, h1, h2, al, hz, fun v rv => z _ _ F H k (Gr.refl e) rv⟩
theorem alike_ints (ns : List Int) : PySem.W.AlikeAll (ns.map PyData.int) := ⟨fun x hx y hy => by
  obtain ⟨a, _, rfl⟩ := List.mem_map.mp hx
  obtain ⟨b, _, rfl⟩ := List.mem_map.mp hy
  rfl, fun x hx => by
  obtain ⟨a, _, rfl⟩ := List.mem_map.mp hx
  intro z; cases z⟩
def foldMin : List Int → Int
  | [] => 0
  | n :: ns => ns.foldl min n
def foldMax : List Int → Int
  | [] => 0
  | n :: ns => ns.foldl max n
theorem cbd_minI {ns : List Int} (h : 0 < ns.length) (k : Q (.int (foldMin ns))) : CbD (rMnD K) [.list (ns.map .int)] Q := by
  cases ns with
  | nil => cases h
  | cons n ns =>
    refine cbd_minD (alike_ints (n :: ns)) ?_ ?_
    · exact depthAll_le (dpn_map (xs := n :: ns) fun x _ => dpn_int)
    · have e := PySem.W.minD_ints n ns
      show Q (PySem.W.minD (.int n) (ns.map .int))
      rw [e]
      exact k
theorem cbd_maxI {ns : List Int} (h : 0 < ns.length) (k : Q (.int (foldMax ns))) : CbD (rMxD K) [.list (ns.map .int)] Q := by
  cases ns with
  | nil => cases h
  | cons n ns =>
    refine cbd_maxD (alike_ints (n :: ns)) ?_ ?_
    · exact depthAll_le (dpn_map (xs := n :: ns) fun x _ => dpn_int)
    · have e := PySem.W.maxD_ints n ns
      show Q (PySem.W.maxD (.int n) (ns.map .int))
      rw [e]
      exact k
/-! sorted -/
abbrev sortD (ds : List D) : List D := ds.mergeSort (PySem.W.dataLe false id)
def rSrD (K : PySem.W.Frag) : List V → Hp → VK → Prop := fun vs H Q => ∃ (F : Hp) (a : Addr) (xs : List V) (ds : List D), vs = [.ref a] ∧ Same F H ∧ Rd F a (.lst xs) ∧ RpA F xs ds ∧ PySem.W.AllAlike ds ∧ PySem.W.Sortable ds ∧ PyData.depthAll ds ≤ 60 ∧
  ∀ p ys, H p = none → RpA F ys (sortD ds) → Q (.ref p) (upd H p (.lst ys))
theorem rpa_zip {F : Hp} : ∀ {xs : List V} {ds : List D}, RpA F xs ds → ∀ p ∈ xs.zip ds, Rp F p.1 p.2
  | _, [], h, p, hp => by cases h; cases hp
  | _, d :: ds, h, p, hp => by
    cases h with
    | cons h1 h2 =>
      rcases List.mem_cons.mp hp with rfl | hp
      · exact h1
      · exact rpa_zip h2 p hp
theorem rpa_of {F : Hp} : ∀ {zs : List (V × D)}, (∀ p ∈ zs, Rp F p.1 p.2) → RpA F (zs.map Prod.fst) (zs.map Prod.snd)
  | [], _ => .nil
  | z :: zs, h => .cons (h z (by simp)) (rpa_of fun p hp => h p (by simp [hp]))
theorem each_zip {F : Hp} : ∀ {xs : List V} {ds : List D} {its : List Value}, RpA F xs ds → Vals xs its → PySem.W.EachIs (fun v (b : V × D) => RelV b.1 v) its (xs.zip ds)
  | _, [], _, h, r => by cases h; cases r; exact .nil
  | _, d :: ds, _, h, r => by
    cases h with
    | cons h1 h2 =>
      cases r with
      | cons r1 r2 => exact .cons r1 (each_zip h2 r2)
theorem vals_each : ∀ {zs : List (V × D)} {out : List Value}, PySem.W.EachIs (fun v (b : V × D) => RelV b.1 v) out zs → Vals (zs.map Prod.fst) out
  | _, _, .nil => .nil
  | _, _, .cons h t => .cons h (vals_each t)
theorem each_reads {h : Heap} : ∀ {xs : List V} {ds : List D} {its : List Value} {as : List Addr}, xs.length = ds.length → ReadsAll h its ds as → PySem.W.EachIs (fun v (b : V × D) => ∃ as, Reads h v b.2 as) its (xs.zip ds)
  | [], [], _, _, _, r => by cases r; exact .nil
  | x :: xs, d :: ds, _, _, l, r => by
    cases r with
    | cons r1 r2 => exact .cons ⟨_, r1⟩ (each_reads (by simpa using l) r2)
  | [], _ :: _, _, _, l, _ => by simp at l
  | _ :: _, [], _, _, l, _ => by simp at l
theorem depth_mem : ∀ {ds : List D} {d : D}, d ∈ ds → d.depth ≤ PyData.depthAll ds
  | [], _, h => by cases h
  | e :: ds, d, h => by
    simp only [PyData.depthAll]
    rcases List.mem_cons.mp h with rfl | h
    · exact Nat.le_max_left _ _
    · exact Nat.le_trans (depth_mem h) (Nat.le_max_right _ _)
theorem cb_sortD (hu : X.A.units + 64 < cLine) : CallR X (.builtin "sorted") (rSrD X.K) := by
  rintro pins s σ H vs us Q I r ⟨F, a, xs, ds, rfl, e, ha, ra, al, so, hz, q⟩
  obtain ⟨its, rv, hl, hzl⟩ := I.list (sqL_rd (K := X.K) ha e)
  obtain ⟨as, rr⟩ := rpa_reads I e ra rv
  rw [Vals.ref1 r]
  have hmap : (xs.zip ds).map Prod.snd = ds := List.map_snd_zip (by rw [ra.len]; exact Nat.le_refl _)
  have hlen : (xs.zip ds).length = xs.length := by rw [List.length_zip, ra.len, Nat.min_self]
  refine PySem.W.sorted_data (bs := xs.zip ds) (enc := Prod.snd) hl.isList (each_zip ra rv) (each_reads ra.len rr) (by rw [hmap]; exact al) (by rw [hmap]; exact so) (by rw [hlen]; exact hzl)
    (fun b hb => ?_) fun out ho he => ?_
  · have hd : b.2 ∈ ds := by rw [← hmap]; exact List.mem_map_of_mem hb
    have := depth_mem hd
    omega
  · obtain ⟨ep, he'⟩ := PyProof.Rows.sortedAll_at s.heap its out.toArray
    have hv := vals_each he
    have hd : (List.mergeSort (xs.zip ds) (PySem.W.dataLe false Prod.snd)).map Prod.snd = sortD ds := by
      have q := PySem.W.sort_maps (r := PySem.W.dataLe false Prod.snd) (s := PySem.W.dataLe false id) (Prod.snd : V × D → D) (l := xs.zip ds) (fun a _ b _ => rfl)
      rw [q, hmap]
    have hr := rpa_of (F := F) (zs := List.mergeSort (xs.zip ds) (PySem.W.dataLe false Prod.snd)) fun p hp => rpa_zip ra p (List.mem_mergeSort.mp hp)
    rw [hd] at hr
    refine ⟨.ref _, upd H (s.heap.objs.size + 1) (.lst ((List.mergeSort (xs.zip ds) (PySem.W.dataLe false Prod.snd)).map Prod.fst)), I.laid (t' := s.toks) (fun _ _ => PyProof.Rows.sortedAll_old) (Nat.le_succ _) ⟨?_, out, ep, hv, he'⟩, rfl, q _ _ (I.hok.fresh (Nat.le_succ _)) hr⟩
    rw [List.length_map, List.length_mergeSort, hlen]
    exact hzl
theorem cbo_sortD {Q : List D → Prop} (al : PySem.W.AllAlike ds) (so : PySem.W.Sortable ds) (hz : PyData.depthAll ds ≤ 60) (k : Q (sortD ds)) : CbO (rSrD K) [.list ds] Q := fun F H vs e r Z z => by
  obtain ⟨v, rfl, rv⟩ := r.one
  obtain ⟨a, xs, rfl, h1, h2⟩ := rv.lst_inv
  exact ⟨F, a, xs, ds, rfl, e, h1, h2, al, so, hz, fun p ys hp rp => z _ p _ _ k (same_upd hp) hp upd_same rp⟩
/-! x.extend(ys) -/
def rExtR : V → List V → Hp → VK → Prop := fun x vs H Q => ∃ l b xs zs, x = .ref l ∧ vs = [.ref b] ∧ H l = some (.lst xs) ∧ Rd H b (.lst zs) ∧ xs.length + zs.length ≤ sizeLine ∧ Q .non (upd H l (.lst (xs ++ zs)))
theorem mt_extR : MtM X "list.extend" rExtR := by
  intro pins s σ H x vs v us Q I rx rv h
  obtain ⟨l, b, xs, zs, rfl, rfl, hH, hB, hz, q⟩ := h
  cases rx
  obtain ⟨u, rfl, ru⟩ := rv.one
  cases ru
  obtain ⟨z, its, n, r, hl, e⟩ := I.lstM hH
  obtain ⟨z2, its2, n2, r2, e2⟩ := hB.ok I.hok
  have hl2 := r2.length
  have k1 : its.toArray.size + its2.toArray.size ≤ sizeLine := by rw [List.size_toArray, List.size_toArray]; omega
  have k2 : ¬ (!its.toArray.isEmpty && Builtin.List.listTooLong (its.toArray.size + its2.toArray.size)) = true := by rw [notLongL k1, Bool.and_false]; exact Bool.false_ne_true
  refine call_meets F.slot_list_extend ⟨_, e, rfl⟩ F.entry_list_extend (F.args_list_extend_2 _ _) (AutoSeq1.list_extend_list_list_0 l its.toArray n b its2.toArray n2 k2 (by rw [List.size_toArray]; omega) (by omega)) ⟨e, e2, ?_⟩
  refine ⟨.non, _, I.lset (its' := its ++ its2) hH e (by simp) (r.append r2) ?_, rfl, q⟩
  rw [List.length_append]; omega
theorem sx_ext {ρ : Env} {P : Po} {te : TE} {i : Nat} {fs : List D} (h : ρ[i]? = some (.own fs)) (k : EX te ρ fun d ρ1 => ∃ ds es, d = .list es ∧ ρ1[i]? = some (.own ds) ∧ ds.length + es.length ≤ 1000000 ∧ NX P (ρ1.set i (.own (ds ++ es)))) : SX (tDrop (tBM K "list" rExtR (tVar i) (tCons te tNil))) ρ P := fun B σ F H w Dn n r b c => by
  obtain ⟨ad, w⟩ := w
  obtain ⟨p0, vs0, _, _, k1, k0, _⟩ := w.sl i _ h
  refine ⟨_, k1, .inl ⟨rfl, _, .inl (.inl k0)⟩, k B ad σ F H w _ fun d ρ1 v F1 H1 q1 p1 r1 => ?_⟩
  obtain ⟨ds, es, rfl, h1, hz, ρ', l, q⟩ := q1
  obtain ⟨p, vs, _, _, k2, k3, rr⟩ := p1.wa.sl i _ h1
  have e := k1.symm.trans k2
  cases e
  obtain ⟨a, ws, rfl, g1, g2⟩ := r1.lst_inv
  exact ⟨_, a, vs, ws, rfl, rfl, k3, rd_mono p1.wa.gr.fh g1, Nat.le_trans (by rw [rr.len, g2.len]; exact hz) (by decide), n ρ' σ F1 _ q ((p1.wa.mut h1 k2 (rr.app g2)).weak l)⟩
end

/-! ### short forms for a run -/
section
variable {K : PySem.W.Frag} {Q : D → Prop} {i j : Int} {d d1 d2 : D} {ds es : List D}
theorem Gr.frz {F H H' : Hp} {p : Addr} {vs : List V} (e : Same F H) (g : Same H H') (hn : H p = none) (hp : H' p = some (.lst vs)) : Gr Non F H (upd F p (.lst vs)) H' where
  ff := same_upd (e.free hn)
  fh := fun a u q => by
    by_cases ha : a = p
    · subst ha; rw [upd_same] at q; rw [hp]; exact q
    · rw [upd_ne ha] at q; exact g a u (e a u q)
  kp := fun a u q _ => g a u q
  al := fun a q => by
    cases z : H a with
    | none => exact absurd z q
    | some o => rw [g a o z]; intro z; cases z
  fr := fun a q z => by
    have ha : a ≠ p := fun z => q (z ▸ hn)
    rw [upd_ne ha]; exact z
theorem opd_ofO {r : R2} (h : OpO r d1 d2 fun ds => Q (.list ds)) : OpD r d1 d2 Q := fun F H x y e rx ry Z z => h F H x y e rx ry Z fun ds p vs H' q g hn hp rv =>
  z _ _ (upd F p (.lst vs)) H' q (Gr.frz e g hn hp) (.lst (.inl upd_same) (rv.up (Gr.frz e g hn hp).ff))
theorem cbd_ofO {r : List V → Hp → VK → Prop} (h : CbO r ds fun ds => Q (.list ds)) : CbD r ds Q := fun F H vs e rv Z z => h F H vs e rv Z fun ds p vs H' q g hn hp rv =>
  z _ _ (upd F p (.lst vs)) H' q (Gr.frz e g hn hp) (.lst (.inl upd_same) (rv.up (Gr.frz e g hn hp).ff))
theorem sld_ofO {r : V → Option Int → Option Int → Hp → VK → Prop} {lo hi : Option Int} (h : SlO r d lo hi fun ds => Q (.list ds)) : SlD r d lo hi Q := fun F H x e rx Z z => h F H x e rx Z fun ds p vs H' q g hn hp rv =>
  z _ _ (upd F p (.lst vs)) H' q (Gr.frz e g hn hp) (.lst (.inl upd_same) (rv.up (Gr.frz e g hn hp).ff))
theorem opd_plusL (hz : ds.length + es.length ≤ 1000000) (k : Q (.list (ds ++ es))) : OpD (rPlus K) (.list ds) (.list es) Q := opd_ofO (opo_plusL hz k)
theorem sld_L {lo hi : Option Int} (k : Q (.list (cutD ds lo hi))) : SlD (rSl K) (.list ds) lo hi Q := sld_ofO (slo_L k)
theorem cbd_listL (k : Q (.list ds)) : CbD (rList K) [.list ds] Q := cbd_ofO (cbo_listL k)
theorem cbd_listT (k : Q (.list ds)) : CbD (rList K) [.tuple ds] Q := cbd_ofO (cbo_listT k)
theorem cbd_sortD (al : PySem.W.AllAlike ds) (so : PySem.W.Sortable ds) (hz : PyData.depthAll ds ≤ 60) (k : Q (.list (sortD ds))) : CbD (rSrD K) [.list ds] Q := cbd_ofO (cbo_sortD al so hz k)
theorem opd_eqI (k : Q (.bool (decide (i = j)))) : OpD (rEqP K) (.int i) (.int j) Q := opd_eqP (min_l (by simp [PyData.depth])) (by
  have e : PyData.eqv (.int i) (.int j) = decide (i = j) := by simp only [PyData.eqv]; exact Bool.beq_eq_decide_eq i j
  rw [e]; exact k)
theorem opd_neI (k : Q (.bool (!decide (i = j)))) : OpD (rNeP K) (.int i) (.int j) Q := opd_neP (min_l (by simp [PyData.depth])) (by
  have e : PyData.eqv (.int i) (.int j) = decide (i = j) := by simp only [PyData.eqv]; exact Bool.beq_eq_decide_eq i j
  rw [e]; exact k)
theorem opd_eqS {x y : Str} (k : Q (.bool (decide (x = y)))) : OpD (rEqP K) (.str x) (.str y) Q := opd_eqP (min_l (by simp [PyData.depth])) (by
  have e : PyData.eqv (.str x) (.str y) = decide (x = y) := by simp only [PyData.eqv]; by_cases h : x = y <;> simp [h]
  rw [e]; exact k)
theorem opd_neS {x y : Str} (k : Q (.bool (!decide (x = y)))) : OpD (rNeP K) (.str x) (.str y) Q := opd_neP (min_l (by simp [PyData.depth])) (by
  have e : PyData.eqv (.str x) (.str y) = decide (x = y) := by simp only [PyData.eqv]; by_cases h : x = y <;> simp [h]
  rw [e]; exact k)
theorem atI_in {α : Type} {xs : List α} {k : Int} (h0 : 0 ≤ k) (h1 : k < xs.length) : atI xs k = some (xs[k.toNat]'(by omega)) := by
  obtain ⟨n, rfl⟩ : ∃ n : Nat, k = (n : Int) := ⟨k.toNat, by omega⟩
  exact atI_nat (by simp)
/-- an item of a mapped list, told by a default -/
theorem atI_map {α : Type} {xs : List α} {f : α → D} {k : Int} (a : α) (h0 : 0 ≤ k) (h1 : k < xs.length) : atI (xs.map f) k = some (f (xs.getD k.toNat a)) := by
  have hk : k.toNat < xs.length := by omega
  have e := atI_in (xs := xs.map f) h0 (by rw [List.length_map]; exact h1)
  rw [e, List.getElem_map, List.getD_eq_getElem?_getD, List.getElem?_eq_getElem hk]
  rfl
theorem opd_ixM {α : Type} {xs : List α} {f : α → D} {k : Int} (a : α) (h0 : 0 ≤ k) (h1 : k < xs.length) (q : Q (f (xs.getD k.toNat a))) : OpD (rIxA K) (.list (xs.map f)) (.int k) Q := opd_ixL (atI_map a h0 h1) q
end

theorem rng_at {lo : Int} {n k : Nat} {d : D} (h : ((rngI lo n).map PyData.int)[k]? = some d) : k < n ∧ d = .int (lo + (k : Int)) := by
  have hk : k < n := by
    have := (List.getElem?_eq_some_iff.mp h).1
    rw [List.length_map, rngI_len] at this
    exact this
  rw [List.getElem?_map, rngI_get hk] at h
  exact ⟨hk, (Option.some.inj h).symm⟩
theorem rng_size (lo : Int) (n : Nat) : ((rngI lo n).map PyData.int).length = n := by rw [List.length_map, rngI_len]
theorem map_at {α : Type} {xs : List α} {f : α → D} {k : Nat} {d : D} (h : (xs.map f)[k]? = some d) : ∃ x, xs[k]? = some x ∧ d = f x := by
  rw [List.getElem?_map] at h
  cases e : xs[k]? with
  | none => rw [e] at h; cases h
  | some x => rw [e] at h; exact ⟨x, rfl, (Option.some.inj h).symm⟩

/-- what a slot that holds data gives on -/
def VQ (s : Option Slot) (Q : D → Env → Prop) (ρ : Env) : Prop := match s with
  | some (.val d) => Q d ρ
  | _ => False
theorem ex_vr {ρ : Env} {i : Nat} {Q : D → Env → Prop} (h : VQ ρ[i]? Q ρ) : EX (tVar i) ρ Q := by
  unfold VQ at h
  split at h
  · rename_i d e
    exact ex_var e h
  · exact h.elim

section
variable {K : PySem.W.Frag} {Q : D → Prop} {d : D}
/-- two times the same datum -/
theorem opd_eqSelf (h : d.depth ≤ 60) (k : Q (.bool true)) : OpD (rEqP K) d d Q := fun F H x y e rx ry Z z => opd_eqP (Q := Q) (min_l h) (by rw [PySem.SeqAt.eqv_refl_plain d (Rp.plain d rx)]; exact k) F H x y e rx ry Z z
theorem opd_neSelf (h : d.depth ≤ 60) (k : Q (.bool false)) : OpD (rNeP K) d d Q := fun F H x y e rx ry Z z => opd_neP (Q := Q) (min_l h) (by rw [PySem.SeqAt.eqv_refl_plain d (Rp.plain d rx)]; exact k) F H x y e rx ry Z z
/-! pairs of ints -/
def ltP (a b : Int × Int) : Bool := decide (a.1 < b.1 ∨ a.1 = b.1 ∧ a.2 < b.2)
def encP (p : Int × Int) : D := .tuple [.int p.1, .int p.2]
theorem dataLt_P (a b : Int × Int) : PySem.W.dataLt (encP a) (encP b) = ltP a b := by
  unfold encP ltP
  rw [PySem.W.dataLt_pair rfl rfl]
  simp only [PyData.eqv, PySem.W.dataLt_int]
  by_cases h : a.1 = b.1
  · by_cases h2 : a.2 = b.2
    · simp [h, h2]
    · simp [h, h2]
  · simp [h]
def minPs : List (Int × Int) → Int × Int
  | [] => (0, 0)
  | p :: ps => ps.foldl (fun a y => if ltP y a = true then y else a) p
theorem minD_P (p : Int × Int) (ps : List (Int × Int)) : PySem.W.minD (encP p) (ps.map encP) = encP (minPs (p :: ps)) := by
  have h : ∀ (qs : List (Int × Int)) (a : Int × Int), (qs.map encP).foldl (fun a y => if PySem.W.dataLt y a then y else a) (encP a) = encP (qs.foldl (fun a y => if ltP y a = true then y else a) a) := by
    intro qs
    induction qs with
    | nil => intro a; rfl
    | cons q qs ih =>
      intro a
      simp only [List.map_cons, List.foldl_cons, dataLt_P]
      by_cases h : ltP q a = true
      · rw [if_pos h, if_pos h]; exact ih q
      · rw [if_neg h, if_neg h]; exact ih a
  exact h ps p
theorem alike_P (ps : List (Int × Int)) : PySem.W.AlikeAll (ps.map encP) := ⟨fun x hx y hy => by
  obtain ⟨a, _, rfl⟩ := List.mem_map.mp hx
  obtain ⟨b, _, rfl⟩ := List.mem_map.mp hy
  rfl, fun x hx => by
  obtain ⟨a, _, rfl⟩ := List.mem_map.mp hx
  intro z; cases z⟩
theorem cbd_minP {ps : List (Int × Int)} (h : 0 < ps.length) (k : Q (encP (minPs ps))) : CbD (rMnD K) [.list (ps.map encP)] Q := by
  cases ps with
  | nil => cases h
  | cons p ps =>
    refine cbd_minD (alike_P (p :: ps)) (depthAll_le (dpn_map (xs := p :: ps) fun x _ => dpn_tup (dpn_cons dpn_int (dpn_cons dpn_int dpn_nil)))) ?_
    have e := minD_P p ps
    show Q (PySem.W.minD (encP p) (ps.map encP))
    rw [e]
    exact k
theorem minPs_mem : ∀ {ps : List (Int × Int)}, 0 < ps.length → minPs ps ∈ ps
  | p :: ps, _ => by
    have : ∀ (qs : List (Int × Int)) (a : Int × Int), qs.foldl (fun a y => if ltP y a = true then y else a) a ∈ a :: qs := by
      intro qs
      induction qs with
      | nil => intro a; simp
      | cons e es ih =>
        intro a
        rw [List.foldl_cons]
        have q := ih (if ltP e a = true then e else a)
        by_cases c : ltP e a = true
        · rw [if_pos c] at q ⊢; exact List.mem_cons_of_mem _ q
        · rw [if_neg c] at q ⊢
          rcases List.mem_cons.mp q with q | q
          · rw [q]; exact List.mem_cons_self
          · exact List.mem_cons_of_mem _ (List.mem_cons_of_mem _ q)
    exact this ps p
end

/-! ### the ends: nothing asked, the law's own argument -/
section
variable {P : Program} {w : World} {K : PySem.W.Frag} {mg : Str → Option Value} {base : Heap} {f : Addr} {fd : FuncData} {k : Nat} {ps : List Str}
theorem fn_no {sp : Sp} (no : ∀ vs H Q E, ¬ sp vs H Q E) : FnOk P w K mg base CX0 k f fd ps sp := ⟨fun vs H Q E h => absurd h (no vs H Q E), fun A outer s H args us vs Q E _ _ _ _ h => absurd h (no vs H Q E)⟩
theorem fn_noP {R : List D → (D → Prop) → Prop} (no : ∀ ds Z, ¬ R ds Z) : FnOk P w K mg base CX0 k f fd ps (spP R) := fn_no fun vs H Q E h => by
  obtain ⟨F, ds, Z, _, _, q, _⟩ := h
  exact no ds Z q
theorem fn_noS {R : Stt → List D → (D → Stt → Prop) → Prop} (no : ∀ S ds Z, ¬ R S ds Z) : FnOk P w K mg base CX0 k f fd ps (spS R) := fn_no fun vs H Q E h => by
  obtain ⟨F, s, as, S, us, ds, Z, _, _, _, _, _, q, _⟩ := h
  exact no S ds Z q
/-- the written part holds no list -/
def noLs (K : PySem.W.Frag) : Bool := K.all fun p => match p.2.cls with
  | .type s => !(s == "list")
  | _ => true
theorem noLs_at {K : PySem.W.Frag} (h : noLs K = true) : ∀ {a : Addr} {o : Obj}, K.lookup a = some o → o.cls ≠ .type "list" := by
  intro a o e q
  unfold noLs at h
  induction K with
  | nil => cases e
  | cons p r ih =>
    obtain ⟨b, x⟩ := p
    simp only [List.all_cons, Bool.and_eq_true] at h
    simp only [List.lookup] at e
    split at e
    · cases e
      have h1 := h.1
      rw [q] at h1
      revert h1
      decide
    · exact ih h.2 e
theorem sqL_noK {H : Hp} {a : Addr} {xs : List V} (h : noLs K = true) (s : SqL K H a xs) : Rd H a (.lst xs) := by
  rcases s with s | ⟨o, its, n, e, c, _⟩
  · exact s
  · exact absurd c (noLs_at h e)
theorem rpa_ints {F : Hp} : ∀ ns : List Int, RpA F (ns.map V.int) (ns.map PyData.int)
  | [] => .nil
  | n :: ns => .cons (.int n) (rpa_ints ns)
theorem sp_law {R : List D → (D → Prop) → Prop} {H : Hp} {a : Addr} {ns : List Int} {E : XK} (nl : noLs K = true) (s : SqL K H a (ns.map V.int)) (hR : R [.list (ns.map .int)] fun d => d = .bool true) : spP R [.ref a] H (fun v _ => v = .bl true) E :=
  ⟨H, _, _, fun _ _ h => h, .cons (.lst (sqL_noK nl s) (rpa_ints ns)) .nil, hR, fun d v F' H' e _ rv => by
    subst e
    cases rv
    rfl⟩
end
end Pu
/-! the laws' drawing state: its making and its draws, once for all laws -/
namespace Pu
open PySem L2
/-- a state of the laws: a counter, cells from 0 on -/
def Ok : Stt → Prop
  | .cel a cs => 0 < cs.length ∧ cs.length ≤ 100000 ∧ 0 ≤ a ∧ ∀ c ∈ cs, 0 ≤ c
  | _ => False
def R_state : List D → (Stt → Prop) → Prop := fun ds Z => ∃ ns : List Int, ds = [.list (ns.map .int)] ∧ ∀ S, Ok S → Z S
/-- what is drawn: any number below the bound -/
def R_take : Stt → List D → (D → Stt → Prop) → Prop := fun S ds Z => ∃ m : Int, ds = [.int m] ∧ 1 ≤ m ∧ m < 1073741824 ∧ Ok S ∧ ∀ r S', 0 ≤ r → r < m → Ok S' → Z (.int r) S'
def T_state (K : PySem.W.Frag) : TS :=
    (tSeq (tAsg (tLc (iList K (tSl (rSl K) (tVar 0) tNoPart (tPart (tC (.int 63))))) (gName 2) tYes (tCB (rAbs) (tCons (tVar 2) tNil)) [2]) (gName 1))
    (tSeq (tIfS (tTest (tOp (rEqP K) (tCB (rLen K) (tCons (tVar 1) tNil)) (tC (.int 0))))
      (tAsg (tLst (tCons (tC (.int 0)) tNil)) (gName 1))
      tNext)
    (tRet (tLst (tCons (tC (.int 0)) (tCons (tVar 1) tNil))))))
def T_take (K : PySem.W.Frag) : TS :=
    (tSeq (tAsg (tOp (rIxA K) (tVar 0) (tC (.int 1))) (gName 2))
    (tSeq (tAsg (tOp (rI (fun _ j => 0 < j) fun i j => .int (i % j)) (tOp (rIxA K) (tVar 0) (tC (.int 0))) (tCB (rLen K) (tCons (tVar 2) tNil))) (gName 3))
    (tSeq (tAsg (tOp (rIxA K) (tVar 2) (tVar 3)) (gName 4))
    (tSeq (tIfS (tTest (tOp (rI0 fun i j => .bl (decide (j ≤ i))) (tVar 4) (tC (.int 1000000000000000000))))
      (tSeq (tAsg (tOp (rI CDiv fun i j => .int (i / j)) (tVar 4) (tVar 1)) (gSub (tVar 2) (tVar 3) rSetL))
    (tRet (tOp (rI (fun _ j => 0 < j) fun i j => .int (i % j)) (tVar 4) (tVar 1))))
      tNext)
    (tSeq (tAsg (tOp (rPlus K) (tOp (rIxA K) (tVar 0) (tC (.int 0))) (tC (.int 1))) (gSub (tVar 0) (tC (.int 0)) rSetL))
    (tSeq (tAsg (tOp (rI (fun _ j => 0 < j) fun i j => .int (i % j)) (tCB (rInt) (tCons (tOp (rPlus K) (tOp (rI CMul fun i j => .int (i * j)) (tVar 4) (tC (.int 48271))) (tOp (rI CMul fun i j => .int (i * j)) (tOp (rIxA K) (tVar 0) (tC (.int 0))) (tC (.int 69621)))) tNil)) (tC (.int 2147483647))) (gName 5))
    (tSeq (tAsg (tOp (rI (fun _ j => 0 < j) fun i j => .int (i % j)) (tCB (rInt) (tCons (tOp (rPlus K) (tOp (rI CMul fun i j => .int (i * j)) (tVar 5) (tC (.int 16807))) (tOp (rI CMul fun i j => .int (i * j)) (tOp (rIxA K) (tVar 0) (tC (.int 0))) (tC (.int 7919)))) tNil)) (tC (.int 1000000007))) (gName 5))
    (tRet (tOp (rI (fun _ j => 0 < j) fun i j => .int (i % j)) (tOp (rI CDiv fun i j => .int (i / j)) (tVar 5) (tC (.int 7))) (tVar 1))))))))))
theorem W.first {F H : Hp} {N : List Str} {vs : List V} {ds : List D} (fh : Same F H) (r : RpA F vs ds) : W { F0 := F, H0 := H, M := Non } (startE N ds) (L2.start N vs) F H := by
  refine ⟨fun _ => [], Gr.refl fh, ?_, fun i s e => ?_, (fun i p m => by cases m), (fun i j p m => by cases m), fun _ _ => rfl, (fun s as e => by cases e)⟩
  · unfold L2.start startE
    rw [List.length_append, List.length_append, List.length_map, List.length_map, List.length_replicate, List.length_replicate, r.len]
  · rcases startE_get e with ⟨d, e2, rfl⟩ | rfl
    · obtain ⟨v, e1, rv⟩ := r.get e2
      exact ⟨rfl, v, start_get e1, rv⟩
    · rfl
theorem mem_cut {xs : List D} {lo hi : Option Int} {x : D} (h : x ∈ cutD xs lo hi) : x ∈ xs := List.mem_of_mem_drop (List.mem_of_mem_take h)
theorem cut_map {α : Type} {f : α → D} (xs : List α) (lo hi : Option Int) : ∃ ys : List α, cutD (xs.map f) lo hi = ys.map f ∧ ys.length ≤ xs.length := by
  refine ⟨(xs.drop (HT.sIx (xs.map f).length 0 lo)).take (HT.sIx (xs.map f).length (xs.map f).length hi - HT.sIx (xs.map f).length 0 lo), ?_, ?_⟩
  · unfold cutD
    rw [← List.map_drop, ← List.map_take]
  · rw [List.length_take, List.length_drop]
    omega
theorem run_state {K : PySem.W.Frag} {vs : List V} {H : Hp} {Q : VK} {E : XK} (h : spN R_state vs H Q E) : T_state K { nx := fun _ H' => Q .non H', rt := Q } (L2.start ["script", "cells", "cell"] vs) H := by
  obtain ⟨F, ds, Z, fh, r, ⟨ns, rfl, hz⟩, z⟩ := h
  -- the cells, then the state
  have s1 : SX (tAsg (tLc (iList K (tSl (rSl K) (tVar 0) tNoPart (tPart (tC (.int 63))))) (gName 2) tYes (tCB (rAbs) (tCons (tVar 2) tNil)) [2]) (gName 1)) [.val (.list (ns.map .int)), .emp, .emp]
      { nx := fun ρ' => ∃ cs : List Int, (cs.length ≤ 63 ∧ ∀ c ∈ cs, 0 ≤ c) ∧ ρ' = [.val (.list (ns.map .int)), .own (cs.map .int), .emp], rt := fun _ _ => False } := by
    refine sx_asgO (eo_lcP (α := Int) (fun _ => true) (fun c => .int (c.natAbs : Int)) (ei_list (ex_of (eo_sl (ex_var rfl (ep_no (ep_some (ex_int ⟨63, rfl, slo_L ?_⟩))))))))
    obtain ⟨ys, ey, ly⟩ : ∃ ys : List Int, cutD (ns.map PyData.int) none (some 63) = ys.map PyData.int ∧ ys.length ≤ 63 := by
      refine ⟨(ns.drop (HT.sIx (ns.map PyData.int).length 0 none)).take (HT.sIx (ns.map PyData.int).length (ns.map PyData.int).length (some 63) - HT.sIx (ns.map PyData.int).length 0 none), ?_, ?_⟩
      · unfold cutD
        rw [← List.map_drop, ← List.map_take]
      · rw [List.length_take]
        refine Nat.le_trans (Nat.min_le_left _ _) ?_
        unfold HT.sIx
        simp
        omega
    refine ⟨_, rfl, ys, .int, ey, by omega, fun i hi => by simp at hi; subst hi; rfl, fun x _ => sg_name (by simp) ⟨rfl, et_yes ⟨rfl, rfl, fun _ => ex_cb (ea_cons (ex_var rfl (ea_nil (cbd_abs ⟨rfl, rfl⟩))))⟩⟩, ?_⟩
    refine nx_same ⟨ys.map fun c => (c.natAbs : Int), ⟨by rw [List.length_map]; exact ly, fun c hc => ?_⟩, ?_⟩
    · obtain ⟨x, _, rfl⟩ := List.mem_map.mp hc
      omega
    · rw [List.filter_eq_self.mpr (fun _ _ => rfl), List.map_map]
      rfl
  have s2 : ∀ cs : List Int, (cs.length ≤ 63 ∧ ∀ c ∈ cs, 0 ≤ c) → SX (tIfS (tTest (tOp (rEqP K) (tCB (rLen K) (tCons (tVar 1) tNil)) (tC (.int 0)))) (tAsg (tLst (tCons (tC (.int 0)) tNil)) (gName 1)) tNext) [.val (.list (ns.map .int)), .own (cs.map .int), .emp]
      { nx := fun ρ' => ∃ cs : List Int, (0 < cs.length ∧ cs.length ≤ 63 ∧ ∀ c ∈ cs, 0 ≤ c) ∧ ρ' = [.val (.list (ns.map .int)), .own (cs.map .int), .emp], rt := fun _ _ => False } := fun cs hcs => by
    refine sx_if (et_test (ex_op (ex_lenO rfl (ex_int (opd_eqP (min_l (by simp [PyData.depth])) ⟨_, rfl, fun hb => ?_, fun hb => ?_⟩)))))
    · exact sx_asgO (eo_lst (ea_cons (ex_int (ea_nil ⟨by simp, nx_same ⟨[0], by simp, rfl⟩⟩))))
    · refine sx_next (nx_same ⟨cs, ⟨?_, hcs⟩, rfl⟩)
      simp only [PyData.eqv, List.length_map, beq_eq_false_iff_ne, ne_eq] at hb
      omega
  have w0 := W.first (N := ["script", "cells", "cell"]) fh r
  refine s1 _ _ F H w0 _ (fun ρ1 σ1 F1 H1 q1 w1 => ?_) (fun _ _ _ _ _ _ q => q.elim) (fun _ _ _ _ q => q.elim) (fun _ _ _ _ q => q.elim)
  obtain ⟨cs, hcs, rfl⟩ := q1
  refine s2 cs hcs _ _ F1 H1 w1 _ (fun ρ2 σ2 F2 H2 q2 w2 => ?_) (fun _ _ _ _ _ _ q => q.elim) (fun _ _ _ _ q => q.elim) (fun _ _ _ _ q => q.elim)
  obtain ⟨cs, hcs, rfl⟩ := q2
  obtain ⟨ad, w2⟩ := w2
  obtain ⟨p, us, ka, k0, k1, k2, kr⟩ := w2.sl 1 _ rfl
  refine ⟨_, k1, by show 2 ≤ sizeLine; decide, fun q hq => ?_⟩
  have nq := w2.newp hq
  have npq : p ≠ q := ne_of_none k2 hq
  have g := w2.gr
  refine z (.cel 0 cs) q [q, p] F2 _ (hz _ ⟨hcs.1, by omega, Int.le_refl 0, hcs.2.2⟩) ⟨g.ff, g.fh.trans (same_upd hq), fun a o e m => same_upd hq _ _ (g.kp a o e m), fun a e => ?_, g.fr⟩ ⟨p, rfl, npq.symm, upd_same, ?_⟩ fun a ha => ?_
  · by_cases ha : a = q
    · rw [ha, upd_same]; intro z; cases z
    · rw [upd_ne ha]; exact g.al a e
  · rw [upd_ne npq, k2, kr.ints_inv]
  · have e : a = q ∨ a = p := by simpa using ha
    rcases e with e | e
    · rw [e]; exact ⟨nq.1, nq.2.1⟩
    · rw [e]; exact ⟨(w2.fz 1 p (by rw [ka]; simp)).1, k0⟩
theorem run_take {K : PySem.W.Frag} {vs : List V} {H : Hp} {Q : VK} {E : XK} (h : spS R_take vs H Q E) : T_take K { nx := fun _ H' => Q .non H', rt := Q } (L2.start ["state", "most", "cells", "at", "cell", "mixed"] vs) H := by
  obtain ⟨F, s, as, S, us, ds, Z, rfl, fh, sa, fn, r, ⟨m, rfl, hm1, hm2, ok, hz⟩, z⟩ := h
  obtain ⟨v, rfl, rv⟩ := r.one
  have ev := rv.int_inv
  subst ev
  cases S with
  | two a b => exact ok.elim
  | dct kvs => exact ok.elim
  | grd rows => exact ok.elim
  | cel a cs =>
    obtain ⟨c, rfl, ne, hs, hc⟩ := sa
    obtain ⟨hl, hl2, ha, hcs⟩ := ok
    have hlen : (cs.map V.int).length = cs.length := List.length_map _
    have hi0 : 0 ≤ a % (cs.length : Int) := Int.emod_nonneg _ (by omega)
    have hi1 : a % (cs.length : Int) < (cs.length : Int) := Int.emod_lt_of_pos _ (by omega)
    obtain ⟨i, ei⟩ : ∃ i : Nat, a % (cs.length : Int) = (i : Int) := ⟨(a % (cs.length : Int)).toNat, by omega⟩
    have hi : i < cs.length := by omega
    -- cells = state[1]; at = state[0] % len(cells); cell = cells[at]
    refine ⟨_, rfl, .inl ⟨s, _, 1, .ref c, rfl, rfl, .inl (.inl hs), rfl, ?_⟩⟩
    refine ⟨_, rfl, .inl ⟨s, _, 0, .int a, rfl, rfl, .inl (.inl hs), rfl, ?_⟩⟩
    refine ⟨_, rfl, _, cs.length, rfl, .inl ⟨_, .inl (.inl hc), hlen.symm⟩, a, (cs.length : Int), rfl, rfl, by omega, ?_⟩
    refine ⟨_, rfl, _, rfl, .inl ⟨c, _, (i : Int), .int cs[i], rfl, congrArg V.int ei, .inl (.inl hc), atI_nat (by rw [List.getElem?_map, List.getElem?_eq_getElem hi]; rfl), ?_⟩⟩
    refine ⟨_, rfl, _, _, rfl, rfl, _, rfl, ?_⟩
    have gr : ∀ H', (∀ b o, H b = some o → b ≠ s → b ≠ c → H' b = some o) → (∃ o, H' s = some o) → (∃ o, H' c = some o) → Gr (· ∈ [s, c]) F H F H' := fun H' k1 k2 k3 => by
      have fs := fn s (by simp)
      have fc := fn c (by simp)
      refine ⟨Same.refl F, fun b o e => k1 b o (fh b o e) (fun q => by rw [q, fs] at e; cases e) (fun q => by rw [q, fc] at e; cases e), fun b o e m => k1 b o e (fun q => m (by simp [q])) (fun q => m (by simp [q])), fun b e => ?_, fun _ _ z => z⟩
      by_cases h1 : b = s
      · obtain ⟨o, k⟩ := k2
        rw [h1, k]; intro z; cases z
      · by_cases h2 : b = c
        · obtain ⟨o, k⟩ := k3
          rw [h2, k]; intro z; cases z
        · cases q : H b with
          | none => exact absurd q e
          | some o => rw [k1 b o q h1 h2]; intro z; cases z
    refine ite2 (fun hbig => ?_) (fun hsmall => ?_)
    · -- cells[at] = cell // most; return cell % most
      refine ⟨_, rfl, _, rfl, cs[i], m, rfl, rfl, ⟨by omega, by omega⟩, ?_⟩
      refine ⟨_, rfl, _, rfl, c, _, (i : Int), i, rfl, congrArg V.int ei, hc, ?_, ?_⟩
      · unfold ixN
        rw [hlen, if_pos (by omega), if_pos (by omega)]
        simp
      refine ⟨_, rfl, _, rfl, cs[i], m, rfl, rfl, by omega, ?_⟩
      have hd : 0 ≤ cs[i] := hcs _ (List.getElem_mem hi)
      refine z (.int (cs[i] % m)) (.cel a (cs.set i (cs[i] / m))) _ F _ (hz _ _ (Int.emod_nonneg _ (by omega)) (Int.emod_lt_of_pos _ (by omega)) ⟨by rw [List.length_set]; exact hl, by rw [List.length_set]; exact hl2, ha, fun x hx => ?_⟩) (gr _ (fun b o e h1 h2 => by rw [upd_ne h2]; exact e) ⟨_, by rw [upd_ne ne]; exact hs⟩ ⟨_, upd_same⟩) ⟨c, rfl, ne, by rw [upd_ne ne]; exact hs, by rw [upd_same, List.map_set]⟩ fn (.int _)
      rcases List.mem_or_eq_of_mem_set hx with h | h
      · exact hcs x h
      · rw [h]; exact Int.ediv_nonneg hd (by omega)
    · -- state[0] = state[0] + 1
      refine ⟨_, rfl, .inl ⟨s, _, 0, .int a, rfl, rfl, .inl (.inl hs), rfl, ?_⟩⟩
      refine .inl (.inl ⟨a, 1, rfl, rfl, ?_⟩)
      refine ⟨_, rfl, s, _, 0, 0, rfl, rfl, hs, rfl, ?_⟩
      have hs' : upd H s (.lst ([.int a, .ref c].set 0 (.int (a + 1)))) s = some (.lst [.int (a + 1), .ref c]) := upd_same
      -- mixed
      refine ⟨_, rfl, _, _, rfl, rfl, .inr ⟨by decide, by decide⟩, ?_⟩
      refine ⟨_, rfl, .inl ⟨s, _, 0, .int (a + 1), rfl, rfl, .inl (.inl hs'), rfl, ?_⟩⟩
      refine ⟨_, _, rfl, rfl, .inr ⟨by decide, by decide⟩, ?_⟩
      refine .inl (.inl ⟨_, _, rfl, rfl, ?_⟩)
      refine .inl ⟨_, rfl, ?_⟩
      refine ⟨_, _, rfl, rfl, (by decide : (0 : Int) < 2147483647), ?_⟩
      refine ⟨_, rfl, _, _, rfl, rfl, .inr ⟨by decide, by decide⟩, ?_⟩
      refine ⟨_, rfl, .inl ⟨s, _, 0, .int (a + 1), rfl, rfl, .inl (.inl hs'), rfl, ?_⟩⟩
      refine ⟨_, _, rfl, rfl, .inr ⟨by decide, by decide⟩, ?_⟩
      refine .inl (.inl ⟨_, _, rfl, rfl, ?_⟩)
      refine .inl ⟨_, rfl, ?_⟩
      refine ⟨_, _, rfl, rfl, (by decide : (0 : Int) < 1000000007), ?_⟩
      refine ⟨_, rfl, _, _, rfl, rfl, ⟨by decide, by decide⟩, ?_⟩
      refine ⟨_, rfl, _, _, rfl, rfl, by omega, ?_⟩
      exact z _ (.cel (a + 1) cs) _ F _ (hz _ _ (Int.emod_nonneg _ (by omega)) (Int.emod_lt_of_pos _ (by omega)) ⟨hl, hl2, by omega, hcs⟩) (gr _ (fun b o e h1 h2 => by rw [upd_ne h1]; exact e) ⟨_, upd_same⟩ ⟨_, by rw [upd_ne ne.symm]; exact hc⟩) ⟨c, rfl, ne, hs', by rw [upd_ne ne.symm]; exact hc⟩ fn (.int _)

section
variable {P : Program} {w : World} {K : PySem.W.Frag} {mg : Str → Option Value} {base : Heap} {f : Addr} {fd : FuncData} {k : Nat} {x qual : Str} {st : Stmt}
theorem fn_newstate (F : Fun K x qual st f fd) (S : FnScope ["script", "cells", "cell"] ["script"] (defScope st))
    (body : ∀ (cdv : Value) (A : Around) (outer : List PySem.Env) (s : Shared) (H : Hp) (E : XK), Room k (A.deeper (PyProof.Rows.envOfC qual (defScope st) s.heap.objs.size f cdv)) →
      PSs (cxOf CX0 P w K mg base ["script", "cells", "cell"] qual (defScope st) f cdv A outer s H E).nox (defBody st) (T_state K)) : FnOk P w K mg base CX0 (k + 1) f fd ["script"] (spN R_state) :=
  F.ok S (fun vs H Q E h => by
    obtain ⟨F, ds, Z, _, r, ⟨ns, rfl, _⟩, _⟩ := h
    rw [r.len]; rfl) fun cdv A outer s H vs Q E hr h => ⟨_, body cdv A outer s H E hr, run_state h⟩
theorem fn_take (F : Fun K x qual st f fd) (S : FnScope ["state", "most", "cells", "at", "cell", "mixed"] ["state", "most"] (defScope st))
    (body : ∀ (cdv : Value) (A : Around) (outer : List PySem.Env) (s : Shared) (H : Hp) (E : XK), Room k (A.deeper (PyProof.Rows.envOfC qual (defScope st) s.heap.objs.size f cdv)) →
      PSs (cxOf CX0 P w K mg base ["state", "most", "cells", "at", "cell", "mixed"] qual (defScope st) f cdv A outer s H E).nox (defBody st) (T_take K)) : FnOk P w K mg base CX0 (k + 1) f fd ["state", "most"] (spS R_take) :=
  F.ok S (fun vs H Q E h => by
    obtain ⟨F, s, as, S, us, ds, Z, rfl, _, _, _, r, ⟨m, rfl, _⟩, _⟩ := h
    rw [List.length_cons, r.len]; rfl) fun cdv A outer s H vs Q E hr h => ⟨_, body cdv A outer s H E hr, run_take h⟩
end
end Pu
/-! PuC: xs[::-1], xs.index(n), sorted rows -/
namespace Pu
open PySem L2
section
variable {ρ : Pu.Env} {te to : TE} {t : TA} {K : PySem.W.Frag} {Q : D → Pu.Env → Prop}
theorem ex_revL (h : EX te ρ fun d ρ1 => ∃ ds, d = .list ds ∧ Q (.list ds.reverse) ρ1) : EX (tRevL K te) ρ Q := fun B ad σ F H w Z z =>
  h B ad σ F H w _ fun d1 ρ1 x F1 H1 q1 p1 r1 => by
    obtain ⟨ds, rfl, q⟩ := q1
    obtain ⟨a, xs, rfl, h1, h2⟩ := r1.lst_inv
    refine ⟨a, xs, rfl, sqL_rd h1 p1.wa.gr.fh, fun p hp => ?_⟩
    have g := Gr.frz (F := F1) (H := H1) (H' := upd H1 p (.lst xs.reverse)) (p := p) (vs := xs.reverse) p1.wa.gr.fh (same_upd hp) hp upd_same
    exact z _ ρ1 _ _ _ q (p1.trans (Post.of p1.wa g)) (.lst (.inl upd_same) (h2.rev.up g.ff))
/-- a method that changes nothing -/
def MtD (r : V → List V → Hp → VK → Prop) (d : D) (es : List D) (Q : D → Prop) : Prop := ∀ (F H : Hp) (x : V) (vs : List V), Same F H → Rp F x d → RpA F vs es → ∀ Z : VK, (∀ e v F' H', Q e → Gr Non F H F' H' → Rp F' v e → Z v H') → r x vs H Z
theorem ex_bmL {r : V → List V → Hp → VK → Prop} (h : EX to ρ fun d ρ1 => ∃ ds, d = .list ds ∧ EA t ρ1 fun es ρ2 => MtD r (.list ds) es fun e => Q e ρ2) : EX (tBM K "list" r to t) ρ Q := fun B ad σ F H w Z z =>
  h B ad σ F H w _ fun d1 ρ1 x F1 H1 q1 p1 r1 => by
    obtain ⟨ds, rfl, q⟩ := q1
    obtain ⟨a, xs, rfl, h1, h2⟩ := r1.lst_inv
    refine ⟨?_, q B ad σ F1 H1 p1.wa _ fun es ρ2 vs F2 H2 q2 p2 r2 => ?_⟩
    · exact .inl ⟨rfl, xs, sqL_rd h1 p1.wa.gr.fh⟩
    · exact q2 F2 H2 (.ref a) vs p2.wa.gr.fh (r1.up p2.gr.ff) r2 Z fun e v F' H' k g rv => z e ρ2 v F' H' k ((p1.trans p2).trans (Post.of p2.wa g)) rv
theorem rpa_intsI {F : Hp} : ∀ {ns : List Int} {vs : List V}, RpA F vs (ns.map .int) → vs = ns.map V.int
  | [], _, h => by cases h; rfl
  | n :: ns, _, h => by
    cases h with
    | cons h1 h2 => rw [h1.int_inv, rpa_intsI h2]; rfl
theorem mtd_indexI {ns : List Int} {n : Int} {Q : D → Prop} (hn : n ∈ ns) (k : Q (.int (ns.idxOf n : Nat))) : MtD (rIndex K) (.list (ns.map .int)) [.int n] Q := fun F H x vs e r rv Z z => by
  obtain ⟨a, xs, rfl, h1, h2⟩ := r.lst_inv
  obtain ⟨v, rfl, rv1⟩ := rv.one
  have e1 := rv1.int_inv
  have e2 := rpa_intsI h2
  subst e1 e2
  have hl : ns.idxOf n < ns.length := List.idxOf_lt_length_iff.mpr hn
  refine ⟨a, ns.map V.int, .int n, ns.idxOf n, .int n, rfl, rfl, sqL_rd h1 e, rfl, ?_, ?_, ?_, fun m z' hm hz => ?_, z _ _ F H k (Gr.refl e) (.int _)⟩
  · rw [List.all_eq_true]
    intro x hx
    obtain ⟨i, _, rfl⟩ := List.mem_map.mp hx
    rfl
  · rw [List.getElem?_map, List.getElem?_eq_getElem hl, List.getElem_idxOf hl]; rfl
  · show (n == n) = true
    simp
  · rw [List.getElem?_map] at hz
    have hml : m < ns.length := by omega
    rw [List.getElem?_eq_getElem hml] at hz
    cases hz
    show (ns[m] == n) = false
    exact List.not_of_lt_findIdx (p := fun x => x == n) hm
end
/-! sorted -/
theorem uniq_of {α : Type} {le : α → α → Bool} (anti : ∀ a b, le a b = true → le b a = true → a = b) : ∀ {xs ys : List α}, xs.Perm ys → xs.Pairwise (fun a b => le a b = true) → ys.Pairwise (fun a b => le a b = true) → xs = ys
  | [], ys, p, _, _ => (List.nil_perm.mp p).symm
  | a :: xs, [], p, _, _ => absurd p.length_eq (by simp)
  | a :: xs, b :: ys, p, h1, h2 => by
    have e : a = b := by
      by_cases e : a = b
      · exact e
      · have ha : a ∈ ys := (List.mem_cons.mp (p.mem_iff.mp (by simp : a ∈ a :: xs))).resolve_left e
        have hb : b ∈ xs := (List.mem_cons.mp (p.mem_iff.mpr (by simp : b ∈ b :: ys))).resolve_left (fun q => e q.symm)
        exact anti a b ((List.pairwise_cons.mp h1).1 b hb) ((List.pairwise_cons.mp h2).1 a ha)
    subst e
    rw [uniq_of anti (p.cons_inv) (List.pairwise_cons.mp h1).2 (List.pairwise_cons.mp h2).2]
theorem sortD_of {α : Type} {enc : α → D} {xs ys : List α} {lt : α → α → Bool} (hlt : ∀ a b, PySem.W.dataLt (enc a) (enc b) = lt a b) (ntr : ∀ a b c, lt b a = false → lt c b = false → lt c a = false) (as : ∀ a b, lt a b = true → lt b a = false) (tot : ∀ a b, lt a b = false → lt b a = false → a = b)
    (hp : xs.Perm ys) (hs : ys.Pairwise fun a b => lt a b = true) : sortD (xs.map enc) = ys.map enc := by
  have e := PySem.W.sort_maps (r := fun a b => !lt b a) (s := PySem.W.dataLe false id) enc (l := xs) (fun a _ b _ => by
    show (!lt b a) = (!PySem.W.dataLt (enc b) (enc a))
    rw [hlt])
  show (xs.map enc).mergeSort (PySem.W.dataLe false id) = ys.map enc
  rw [← e]
  have u : xs.mergeSort (fun a b => !lt b a) = ys := uniq_of (le := fun a b => !lt b a) (fun a b h1 h2 => by
      simp only [Bool.not_eq_true'] at h1 h2
      exact tot a b h2 h1) ((List.mergeSort_perm _ _).trans hp) (List.pairwise_mergeSort (fun a b c h1 h2 => by
        simp only [Bool.not_eq_true'] at h1 h2 ⊢
        exact ntr a b c h1 h2) (fun a b => by
        cases h : lt b a with
        | false => rfl
        | true => simp [as _ _ h]) xs) (hs.imp fun {a b} h => by simp [as _ _ h])
  rw [u]
/-! ### dict(pairs of ints), d[k] -/
section
variable {ρ : Pu.Env} {ty : TE} {K : PySem.W.Frag} {Q : D → Pu.Env → Prop}
def kvOf (p : Int × Int) : Key × V := ((.inl p.1 : Key), V.int p.2)
/-- pairs with different keys -/
def R_dict : List D → (Stt → Prop) → Prop := fun ds Z => ∃ kvs : List (Int × Int), ds = [.list (kvs.map encP)] ∧ (kvs.map Prod.fst).Nodup ∧ Z (.dct kvs)
theorem merge_new : ∀ (more acc : List (Int × Int)), ((acc ++ more).map Prod.fst).Nodup → mergeK (acc.map kvOf) (more.map kvOf) = (acc ++ more).map kvOf
  | [], acc, _ => by simp [mergeK]
  | p :: more, acc, h => by
    have h2 : ((acc ++ [p] ++ more).map Prod.fst).Nodup := by simpa using h
    have ih := merge_new more (acc ++ [p]) h2
    have np : ∀ q ∈ acc, q.1 ≠ p.1 := fun q hq e => by
      have h3 : ((acc.map Prod.fst) ++ (p.1 :: more.map Prod.fst)).Nodup := by simpa using h
      exact (List.nodup_append.mp h3).2.2 q.1 (List.mem_map_of_mem hq) p.1 (by simp) e
    have e1 : ((acc.map kvOf).any fun kv => decide (kv.1 = (kvOf p).1)) = false := by
      rw [List.any_eq_false]
      intro x hx
      obtain ⟨q, hq, rfl⟩ := List.mem_map.mp hx
      simp only [decide_eq_true_eq, kvOf, Sum.inl.injEq]
      exact np q hq
    show mergeK (putK (acc.map kvOf) (kvOf p).1 (kvOf p).2) (more.map kvOf) = _
    unfold putK
    rw [e1, if_neg Bool.false_ne_true]
    have e2 : acc.map kvOf ++ [((kvOf p).1, (kvOf p).2)] = (acc ++ [p]).map kvOf := by simp
    rw [e2, ih]
    simp
theorem paired_of {H F : Hp} (e : Same F H) : ∀ {kvs : List (Int × Int)} {xs : List V}, RpA F xs (kvs.map encP) → ∃ ps : List Addr, xs = ps.map V.ref ∧ Paired (fun p kv => SqT K H p [kV kv.1, kv.2]) ps (kvs.map kvOf)
  | [], _, h => by cases h; exact ⟨[], rfl, .nil⟩
  | p :: kvs, _, h => by
    cases h with
    | cons h1 h2 =>
      obtain ⟨ps, rfl, hp⟩ := paired_of e h2
      obtain ⟨a, ys, rfl, g1, g2⟩ := h1.tup_inv
      obtain ⟨u, v, rfl, r1, r2⟩ := g2.two
      have e1 := r1.int_inv
      have e2 := r2.int_inv
      subst e1 e2
      exact ⟨a :: ps, rfl, .cons (sqT_rd g1 e) hp⟩
theorem dict_fits {H : Hp} {vs : List V} {Q : VK} {E : XK} (h : spN R_dict vs H Q E) : ∃ (a : Addr) (ps : List Addr) (kvs : List (Key × V)), vs = [.ref a] ∧ SqL K H a (ps.map V.ref) ∧ Paired (fun p kv => SqT K H p [kV kv.1, kv.2]) ps kvs ∧
    ∀ p, H p = none → Q (.ref p) (upd H p (.dK (mergeK [] kvs))) := by
  obtain ⟨F, ds, Z, e, r, ⟨kvs, rfl, nd, hz⟩, z⟩ := h
  obtain ⟨v, rfl, rv⟩ := r.one
  obtain ⟨a, xs, rfl, h1, h2⟩ := rv.lst_inv
  obtain ⟨ps, rfl, hp⟩ := paired_of (K := K) e h2
  refine ⟨a, ps, kvs.map kvOf, rfl, sqL_rd h1 e, hp, fun p hn => ?_⟩
  have em : mergeK [] (kvs.map kvOf) = kvs.map kvOf := merge_new kvs [] nd
  rw [em]
  exact z (.dct kvs) p [p] F _ hz (Gr.heap e (same_upd hn)) ⟨rfl, upd_same⟩ fun b hb => by
    rw [List.mem_singleton.mp hb]
    refine ⟨?_, hn⟩
    cases q : F p with
    | none => rfl
    | some o => rw [e p o q] at hn; cases hn
theorem cb_dictN {X : Cx} (hcalm : X.calm = true) : CallR X (.type "dict") fun vs H Q => spN R_dict (vs ++ []) H Q E0 := fun pins s σ H vs us Q I r h => call_dictP hcalm pins s σ H vs us Q I r (dict_fits (E := E0) (by have h : spN R_dict (vs ++ []) H Q E0 := h; rw [List.append_nil] at h; exact h))
theorem valV_int : ∀ {kvs : List (Int × Int)} {k v : Int}, kvs.lookup k = some v → valV (kvs.map kvOf) (.inl k : Key) = some (V.int v)
  | [], _, _, h => by cases h
  | p :: kvs, k, v, h => by
    obtain ⟨a, b⟩ := p
    by_cases c : a = k
    · subst c
      simp only [List.lookup, beq_self_eq_true] at h
      cases h
      exact valV_pos rfl
    · have c2 : (k == a) = false := beq_eq_false_iff_ne.mpr (fun q => c q.symm)
      simp only [List.lookup, c2] at h
      rw [List.map_cons, valV_neg (by simp [kvOf, c])]
      exact valV_int h
theorem ex_dget {i : Nat} {S0 : Stt} (h0 : ρ[i]? = some (.st S0)) (h : EX ty ρ fun d ρ1 => ∃ k v kvs, d = .int k ∧ ρ1[i]? = some (.st (.dct kvs)) ∧ kvs.lookup k = some v ∧ Q (.int v) ρ1) : EX (tDGet (tVar i) ty) ρ Q := fun B ad σ F H w Z z => by
  obtain ⟨s0, k0, _⟩ := w.sl i _ h0
  refine ⟨_, k0, h B ad σ F H w _ fun d ρ1 y F1 H1 q1 p1 r1 => ?_⟩
  obtain ⟨k, v, kvs, rfl, h1, hl, q⟩ := q1
  obtain ⟨s1, k1, st1⟩ := p1.wa.sl i _ h1
  have e := k0.symm.trans k1
  cases e
  have ey := r1.int_inv
  subst ey
  have g := DGet.k (k := (.inl k : Key)) st1.2
  have ev := valV_int hl
  have g' : DGet H1 s0 (.int k) (some (.int v)) := by
    have e2 : (kvs.map fun p => ((.inl p.1 : Key), V.int p.2)) = kvs.map kvOf := rfl
    rw [e2, ev] at g
    exact g
  exact ⟨s0, .int v, rfl, g', z (.int v) ρ1 (.int v) F1 H1 q p1 (.int v)⟩
end
/-! ### a op b op c op d, as a test -/
section
open PyProof.Rows
def tCh3 (r r' r'' : R2) (ta tb tc td : TE) : TT := fun σ H Q => ta σ H fun x H1 => tb σ H1 fun y H2 => r x y H2 fun z H3 => ∃ k, z = .bl k ∧
  (if k = true then tc σ H3 fun x3 H4 => r' y x3 H4 fun z2 H5 => ∃ k2, z2 = .bl k2 ∧ (if k2 = true then td σ H5 fun x4 H6 => r'' x3 x4 H6 fun z3 H7 => ∃ k3, z3 = .bl k3 ∧ Q k3 H7 else Q false H5) else Q false H3)
theorem pt_chain3 {X : Cx} {a b c d : Expr} {ta tb tc td : TE} {pos : Pos} {op op' op'' : CmpOp} {r r' r'' : R2} (ho : OpR X (compareOp op) r) (ho' : OpR X (compareOp op') r') (ho'' : OpR X (compareOp op'') r'') (ha : PE X a ta) (hb : PE X b tb) (hc : PE X c tc) (hd : PE X d td)
    (hm : lastMarks [op, op', op''] [b, c, d] = false := by with_unfolding_all rfl) : PT X (.Compare a [op, op', op''] [b, c, d] pos) (tCh3 r r' r'' ta tb tc td) := by
  refine ⟨fun pins s σ H Q I h => ?_⟩
  refine isTrue_chain (thn (ha.run pins s σ H _ I h) fun v s1 ⟨x, H1, I1, r1, q1⟩ => test_link (thn (hb.run pins s1 σ H1 _ I1 q1) fun u s2 ⟨y, H2, I2, r2, q2⟩ => thn (ho pins s2 σ H2 x y v u _ I2 r1 r2 q2) fun _ s3 ⟨z, H3, I3, r3, k, e, q3⟩ => ?_)) hm
  subst e
  cases r3
  refine wpAny_truthy_bool ?_
  cases k with
  | false => exact ite_ff ⟨H3, I3, q3⟩
  | true =>
    refine ite_tt (test_link (thn (hc.run pins s3 σ H3 _ I3 q3) fun u3 s4 ⟨x3, H4, I4, r4, q4⟩ => thn (ho' pins s4 σ H4 y x3 u u3 _ I4 r2 r4 q4) fun _ s5 ⟨z2, H5, I5, r5, k2, e2, q5⟩ => ?_))
    subst e2
    cases r5
    refine wpAny_truthy_bool ?_
    cases k2 with
    | false => exact ite_ff ⟨H5, I5, q5⟩
    | true =>
      refine ite_tt (test_last (thn (hd.run pins s5 σ H5 _ I5 q5) fun u4 s6 ⟨x4, H6, I6, r6, q6⟩ => thn (ho'' pins s6 σ H6 x3 x4 u3 u4 _ I6 r4 r6 q6) fun _ s7 ⟨z3, H7, I7, r7, k3, e3, q7⟩ => ?_))
      subst e3
      cases r7
      exact wpAny_truthy_bool ⟨H7, I7, q7⟩
theorem et_ch3 {ρ : Pu.Env} {r r' r'' : R2} {ta tb tc td : TE} {Q : Bool → Pu.Env → Prop} (h : EX ta ρ fun d1 ρ1 => EX tb ρ1 fun d2 ρ2 => OpD r d1 d2 fun d => ∃ b, d = .bool b ∧ (b = true → EX tc ρ2 fun d3 ρ3 => OpD r' d2 d3 fun d => ∃ b2, d = .bool b2 ∧
    (b2 = true → EX td ρ3 fun d4 ρ4 => OpD r'' d3 d4 fun d => ∃ b3, d = .bool b3 ∧ Q b3 ρ4) ∧ (b2 = false → Q false ρ3)) ∧ (b = false → Q false ρ2)) : ET (tCh3 r r' r'' ta tb tc td) ρ Q := fun B ad σ F H w Z z =>
  h B ad σ F H w _ fun d1 ρ1 x F1 H1 q1 p1 r1 => q1 B ad σ F1 H1 p1.wa _ fun d2 ρ2 y F2 H2 q2 p2 r2 => q2 F2 H2 x y p2.wa.gr.fh (r1.up p2.gr.ff) r2 _ fun d v F3 H3 kd g rv => by
    obtain ⟨b, rfl, k1, k2⟩ := kd
    refine ⟨b, rv.bl_inv, ?_⟩
    have p3 := (p1.trans p2).trans (Post.of p2.wa g)
    cases b with
    | false => exact z false ρ2 F3 H3 (k2 rfl) p3
    | true =>
      show tc σ H3 _
      refine k1 rfl B ad σ F3 H3 p3.wa _ fun d3 ρ3 u F4 H4 q4 p4 r4 => q4 F4 H4 y u p4.wa.gr.fh ((r2.up g.ff).up p4.gr.ff) r4 _ fun d v F5 H5 kd2 g2 rv2 => ?_
      obtain ⟨b2, rfl, m1, m2⟩ := kd2
      refine ⟨b2, rv2.bl_inv, ?_⟩
      have p5 := (p3.trans p4).trans (Post.of p4.wa g2)
      cases b2 with
      | false => exact z false ρ3 F5 H5 (m2 rfl) p5
      | true =>
        show td σ H5 _
        refine m1 rfl B ad σ F5 H5 p5.wa _ fun d4 ρ4 u4 F6 H6 q6 p6 r6 => q6 F6 H6 u u4 p6.wa.gr.fh ((r4.up g2.ff).up p6.gr.ff) r6 _ fun d v F7 H7 kd3 g3 rv3 => ?_
        obtain ⟨b3, rfl, q⟩ := kd3
        exact ⟨b3, rv3.bl_inv, z b3 ρ4 F7 H7 q ((p5.trans p6).trans (Post.of p6.wa g3))⟩
end
/-! ### a list times an int -/
section
open PyProof.Rows
def rRepR : R2 := fun x y H Q => ∃ l k xs, x = .ref l ∧ y = .int k ∧ Rd H l (.lst xs) ∧ (-1000000 ≤ k ∧ k ≤ 1000000) ∧ xs.length * k.toNat ≤ sizeLine ∧ ∀ p, H p = none → Q (.ref p) (upd H p (.lst (List.replicate k.toNat xs).flatten))
theorem op_repR {X : Cx} : OpR X (binaryOp .Mult) rRepR := by
  rintro pins sh σ H x y v u Q I rx ry ⟨l, k, xs, rfl, rfl, hd, ⟨k1, k2⟩, room, q⟩
  cases rx
  obtain ⟨t, rfl⟩ := ry
  obtain ⟨z, its, n, rv, ob⟩ := hd.ok I.hok
  have ln := rv.length
  have sz : its.toArray.size * k.toNat ≤ sizeLine := by rw [List.size_toArray, ← ln]; exact room
  have fits : ¬ (!Builtin.List.listFitsIndex k) = true := by
    rw [fitsIndex_both (by omega) (by omega)]
    decide
  have cap : ¬ its.toArray.size * k.toNat > (2 ^ 63 - 1) / 8 := Nat.not_lt.mpr (Nat.le_trans sz (by decide))
  have long : ¬ Builtin.List.listTooLong (its.toArray.size * k.toNat) = true := by
    rw [notLongL sz]
    decide
  have flat : ∀ m : Nat, List.foldl (fun a b => a ++ b) #[] (List.replicate m its.toArray) = (List.replicate m its).flatten.toArray := fun m => by
    have f := foldl_rep its m []
    rwa [List.nil_append] at f
  have made : List.foldl (fun a b => a ++ b) #[] (List.replicate (if its.toArray.isEmpty = true then 0 else k.toNat) its.toArray) = (List.replicate k.toNat its).flatten.toArray := by
    rw [flat]
    cases its with
    | nil => simp
    | cons a r => rw [if_neg (by simp)]
  refine wpAny_binaryOp_repeat_ref (U := "int") (T := "list") (by decide) ⟨_, ob, rfl⟩ (fun g => typeIs_int g k t) noFill_list_mul F.fills_int_mul F.slot_int_rmul repeat_list F.slot_int_index.lookup (call_meets F.slot_int_rmul (typeIs_int sh k t) F.entry_int_rmul (F.args_int_rmul_2 _ _) (int___rmul___int_list k t l its.toArray n) ⟨ob, rfl, ⟨_, ob, rfl⟩, call_meets F.slot_list_mul ⟨_, ob, rfl⟩ F.entry_list_mul (F.args_list_mul_2 _ _) (AutoListH.list___mul___list_int_3 l its.toArray n k t fits cap long) ⟨ob, ?_⟩⟩)
  rw [made]
  exact ⟨.ref _, _, I.lnew (t' := sh.toks) (rv.rep k.toNat) (by rw [PyProof.Rows.lm_len_rep_flat, Nat.mul_comm]; exact room), rfl, q _ I.fresh⟩
theorem RpA.rep {F : Hp} {vs : List V} {ds : List D} (h : RpA F vs ds) : ∀ k : Nat, RpA F (List.replicate k vs).flatten (List.replicate k ds).flatten
  | 0 => .nil
  | k + 1 => by
    rw [List.replicate_succ, List.replicate_succ, List.flatten_cons, List.flatten_cons]
    exact h.app (RpA.rep h k)
theorem opo_rep {ds : List D} {k : Int} {Q : List D → Prop} (hk : -1000000 ≤ k ∧ k ≤ 1000000) (hz : ds.length * k.toNat ≤ 1000000) (q : Q (List.replicate k.toNat ds).flatten) : OpO rRepR (.list ds) (.int k) Q := fun F H x y e rx ry Z z => by
  obtain ⟨a, xs, rfl, h1, h2⟩ := rx.lst_inv
  exact ⟨a, k, xs, rfl, ry.int_inv, rd_mono e h1, hk, Nat.le_trans (by rw [h2.len]; exact hz) (by decide), fun p hp => z _ p _ _ q (same_upd hp) hp upd_same (h2.rep _)⟩
theorem opd_rep {ds : List D} {k : Int} {Q : D → Prop} (hk : -1000000 ≤ k ∧ k ≤ 1000000) (hz : ds.length * k.toNat ≤ 1000000) (q : Q (.list (List.replicate k.toNat ds).flatten)) : OpD rRepR (.list ds) (.int k) Q := opd_ofO (opo_rep hk hz q)
end
end Pu
/-! PuG: the law's def at the claim's caller alone, where no repr is under way; so repr of data may be told -/
namespace Pu
open PySem L2 PySem.Spec PyProof.Rows
section
variable {P : Program} {w : World} {K : PySem.W.Frag} {mg mb : Str → Option Value} {base : Heap} {f : Addr} {fd : FuncData} {k : Nat} {x qual : Str} {st : Stmt} {N ps : List Str}
/-- room at the claim's caller -/
abbrev RoomTop (k : Nat) : Prop := Room k callerA
/-- the promise of the law's def when the claim's caller calls it -/
def TopOk (P : Program) (w : World) (K : PySem.W.Frag) (mg : Str → Option Value) (base : Heap) (f : Addr) (fd : FuncData) (ps : List Str) (sp : Sp) : Prop :=
  ∀ (sh : Shared) (G : Hp) (args : Args) (us : List Value) (ws : List V) (Z : VK) (E : XK), Env0 P w K mg base callerA [] sh G → BindsTo sh fd args (ps.zip us) → Vals ws us → sp ws G Z E →
    codeAny (model P w) callerA (.call (.ref f) args) (CR CX0 [] P w G sh Z E) sh
theorem top_of {sp : Sp} (F : Fun K x qual st f fd) (S : FnScope N ps (defScope st)) (len : ∀ vs H Q E, sp vs H Q E → vs.length = ps.length) (room : Room (k + 1) callerA)
    (body : ∀ (cdv : Value) (sh : Shared) (G : Hp) (ws : List V) (Z : VK) (E : XK), Room k (callerA.deeper (envOfC qual (defScope st) sh.heap.objs.size f cdv)) → sp ws G Z E →
      ∃ t, PSs (cxOf CX0 P w K mg base N qual (defScope st) f cdv callerA [] sh G E).nox (defBody st) t ∧ t { nx := fun _ G' => Z .non G', rt := Z } (L2.start N ws) G) : TopOk P w K mg base f fd ps sp := by
  obtain ⟨oc, od, kV, doc, pm, an, cdv, ct, osl, rfl, lk, hcd⟩ := F.ex
  intro sh G args us ws Z E e0 hb rv hz
  have hlen := len _ _ _ _ hz
  have kin : K.In sh.heap := e0.mod.kin.keeps fun b o q => (e0.bs b o q).1
  have nolim : sh.heap.NoLimit := e0.mod.nolimit.keeps fun b o q => (e0.bs b o q).1
  have kinds : ∀ z ∈ ps.zip us, (defScope st).names.lookup z.1 = some .local ∨ ((defScope st).names.lookup z.1 = some .cell ∧ ((cellsFrom (sh.heap.objs.size + 1) (defScope st).names []).lookup z.1).isSome = true) := fun ⟨n, u⟩ hz => by
    have hn := S.par n (List.of_mem_zip hz).1
    exact hn.imp id fun q => ⟨q, PySem.W.cellsFrom_some _ _ _ (.inl q)⟩
  refine codeAny_call_function room.depth (kin _ _ lk) rfl S.co S.gen rfl (PySem.W.codeRec_of kin hcd) (hb _ _ _ _ (wpAny_newFunctionEnv_cells S.kind kinds fun env he s1 inc => ?_))
  subst he
  refine ⟨nolim.keeps inc.toInCall.keep, codeAny_func ?_⟩
  obtain ⟨t, ht, hq⟩ := body cdv sh G ws Z E (room.deeper _) hz
  have I0 : Inv (cxOf CX0 P w K mg base N qual (defScope st) f cdv callerA [] sh G E) [] (L2.start N ws) G s1 := inv_start S room.hd e0 hlen rv inc
  refine wpAny_mono (ht.nox.run [] s1 (L2.start N ws) G _ I0 hq) (fun fl s' hs => ?_) fun _ _ hs => hs
  cases fl with
  | ret u =>
    obtain ⟨v, σ', H', J, r, q⟩ := hs
    exact ⟨v, H', J.os, J.bare, J.base, J.hok, r, q⟩
  | next =>
    obtain ⟨σ', H', J, q⟩ := hs
    exact ⟨V.non, H', J.os, J.bare, J.base, J.hok, rfl, q⟩
  | brk => exact hs.elim fun _ hs => hs.elim fun _ hs => (hs.2 : False).elim
  | cont => exact hs.elim fun _ hs => hs.elim fun _ hs => (hs.2 : False).elim
/-- the script as it stands ahead of the call: one frozen list -/
def scriptH (a : Addr) (vs : List Value) (ns : List Int) : Hp := fun b => if b = a then some (.frz { cls := .type "list", data := .seq vs.toArray } (.lst (ns.map V.int))) else none
theorem scriptH_at (a : Addr) (vs : List Value) (ns : List Int) : scriptH a vs ns a = some (.frz { cls := .type "list", data := .seq vs.toArray } (.lst (ns.map V.int))) := if_pos rfl
theorem scriptH_no {a b : Addr} {vs : List Value} {ns : List Int} (h : b ≠ a) : scriptH a vs ns b = none := if_neg h
theorem top_call {fa a : Addr} {sh : Shared} {vs : List Value} {ns : List Int} {R : List D → (D → Prop) → Prop} (kin : K.In sh.heap) (gl : sh.heap.Ns mainGlobals mg) (bl : sh.heap.Ns builtinsNs mb) (bb : ∀ y : Str, y ≠ "__name__" → mb y = bootBuiltins y) (nolim : sh.heap.NoLimit) (gens : sh.gens = #[])
    (hs : sh.heap.get? a = some { cls := .type "list", data := .seq vs.toArray }) (hi : IntsAre vs ns) (hl : ns.length ≤ sizeLine) (nl : noLs K = true)
    (F : ∀ base : Heap, K.In base → base.Ns mainGlobals mg → TopOk P w K mg base fa fd [x] (spP R)) (hbind : ∀ (s : Shared) (u : Value), BindsTo s fd ⟨[u], []⟩ [(x, u)]) (hR : R [.list (ns.map .int)] fun d => d = .bool true) :
    codeAny (model P w) callerA (.call (.ref fa) ⟨[.ref a], []⟩) (fun r s' => r = .ok (.ret (.bool true)) ∧ OldK sh.heap s'.heap ∧ s'.os = sh.os ∧ AllBare s'.gens) sh := by
  let G := scriptH a vs ns
  have gAt : G a = some (.frz { cls := .type "list", data := .seq vs.toArray } (.lst (ns.map V.int))) := scriptH_at a vs ns
  have gNo : ∀ {b : Addr}, b ≠ a → G b = none := fun h => scriptH_no h
  have keep : ∀ {b : Addr} {o : Obj}, sh.heap.get? b = some o → b ≠ a → (hidT sh.heap G).get? b = some o := fun e h => hidT_get e (gNo h)
  have notDict : ∀ {b : Addr} {o : Obj} {es : Array DictEntry} {ep : Nat}, sh.heap.get? b = some o → o.data = .dict es ep → b ≠ a := fun {b o es ep} e d q => by
    subst q
    rw [hs] at e
    cases e
    cases d
  have nsOf : ∀ {b : Addr} {m : Str → Option Value}, sh.heap.Ns b m → (hidT sh.heap G).Ns b m := fun {b m} ⟨o, es, ep, e, d, r⟩ => ⟨o, es, ep, keep e (notDict e d), d, r⟩
  have kin' : K.In (hidT sh.heap G) := fun b o e => keep (kin b o e) fun q => by
    subst q
    have z := kin b o e
    rw [hs] at z
    cases z
    exact noLs_at nl e rfl
  have md : Mod K mg (hidT sh.heap G) := ⟨kin', nsOf gl, ⟨mb, nsOf bl, bb⟩, nolim.elim fun mc h => ⟨mc, nsOf h.1, h.2⟩⟩
  have vals := vals_ints hi
  have gok : HOk P w G sh.heap := fun b u z => by
    by_cases q : b = a
    · subst q
      rw [gAt] at z
      cases z
      exact ⟨hs, by rw [List.length_map]; exact hl, vs, _, vals, hs⟩
    · rw [gNo q] at z; cases z
  have e0 : Env0 P w K mg (hidT sh.heap G) callerA [] sh G := ⟨rfl, md, fun b o e => of_hidT e, Nat.le_of_eq (hidT_size _ _), trivial, fun b hb => (by cases hb), gok, .of_eq gens⟩
  have spec : spP R [.ref a] G (fun v _ => v = .bl true) fun _ _ _ => False := sp_law nl (.inl (.inr ⟨_, gAt⟩)) hR
  refine codeAny_mono (F _ kin' (nsOf gl) sh G ⟨[.ref a], []⟩ [.ref a] [.ref a] _ _ e0 (hbind sh (.ref a)) (.cons rfl .nil) spec) fun r s' h => ?_
  cases r with
  | error e => exact (show False from h).elim
  | ok fl =>
    cases fl with
    | next => exact h.elim
    | brk => exact h.elim
    | cont => exact h.elim
    | ret u =>
      obtain ⟨v, G', os, bare, un, gok', rv, q⟩ := h
      have q : v = .bl true := q
      subst q
      have rv : u = Value.bool true := rv
      subst rv
      refine ⟨rfl, OldK.of_keep fun b o e => ?_, os, bare⟩
      by_cases hb : b = a
      · subst hb
        have z := un.frzs b _ _ gAt
        have e1 := (gok b _ gAt).1
        rw [e] at e1
        cases e1
        exact (gok' b _ z).1
      · exact un.keep b o e (gNo hb) (fun z => by cases z) (fun z => by cases z)
/-- a law's def whose argument is the script -/
theorem top_pure {R : List D → (D → Prop) → Prop} (F : Fun K x qual st f fd) (S : FnScope N ps (defScope st)) (len : ∀ ds Z, R ds Z → ds.length = ps.length) (room : Room (k + 1) callerA)
    (body : ∀ (cdv : Value) (s : Shared) (H : Hp) (E : XK), Room k (callerA.deeper (envOfC qual (defScope st) s.heap.objs.size f cdv)) →
      ∃ t, PSs (cxOf CX0 P w K mg base N qual (defScope st) f cdv callerA [] s H E).nox (defBody st) t ∧ ∀ ds Z, R ds Z → SX t (startE N ds) { nx := fun _ => Z .none, rt := fun d _ => Z d }) :
    TopOk P w K mg base f fd ps (spP R) := by
  refine top_of F S (fun vs H Q E h => ?_) room (fun cdv s H vs Q E hr h => ?_)
  · obtain ⟨F, ds, Z, _, r, q, _⟩ := h
    rw [r.len]
    exact len ds Z q
  · obtain ⟨F0, ds, Z, fh, r, q, z⟩ := h
    obtain ⟨t, ht, hs⟩ := body cdv s H E hr
    refine ⟨t, ht, hs ds Z q { F0 := F0, H0 := H, M := Non } (L2.start N vs) F0 H ⟨fun _ => [], Gr.refl fh, ?_, fun i s e => ?_, (fun i p m => by cases m), (fun i j p m => by cases m), fun _ _ => rfl, (fun s as e => by cases e)⟩ _ (fun ρ' σ' F' H' q w' => ?_) (fun d ρ' σ' v F' H' q w' rv => ?_) (fun _ _ _ _ q _ => q.elim) (fun _ _ _ _ q _ => q.elim)⟩
    · unfold L2.start startE
      rw [List.length_append, List.length_append, List.length_map, List.length_map, List.length_replicate, List.length_replicate, r.len]
    · rcases startE_get e with ⟨d, e2, rfl⟩ | rfl
      · obtain ⟨v, e1, rv⟩ := r.get e2
        exact ⟨rfl, v, start_get e1, rv⟩
      · rfl
    · obtain ⟨ad, w'⟩ := w'
      exact z .none .non F' H' q w'.gr .non
    · obtain ⟨ad, w'⟩ := w'
      exact z d v F' H' q w'.gr rv
/-- the law's statement out of the law's def at the claim's caller -/
theorem walk_top {l : PySem.W.OpenLaw} {n : Nat} {q : Program} {loose : List Str} {XP : (Str → Option Value) → Heap → Prop} {YP : World → Heap → Prop} {d : DefRec} {K : Params → PySem.W.Frag} {R : List D → (D → Prop) → Prop} {x : Str} (hn : l.most = some n) (hn2 : n ≤ sizeLine) (hdf : d.params.defaults = [])
    (hY : ∀ (w : World) (h : Heap), YP w h → (K w.params).In h) (nl : ∀ w : World, noLs (K w.params) = true)
    (F : ∀ (w : World) (mg : Str → Option Value) (fa : Addr) (h : Heap), (K w.params).In h → h.Ns mainGlobals mg → mg d.name = some (.ref fa) →
      ∃ fd : FuncData, (∀ (s : Shared) (u : Value), BindsTo s fd ⟨[u], []⟩ [(x, u)]) ∧ ∀ base : Heap, (K w.params).In base → base.Ns mainGlobals mg → TopOk l.prog w (K w.params) mg base fa fd [x] (spP R))
    (hR : ∀ ns : List Int, ns.length ≤ n → R [.list (ns.map .int)] fun d => d = .bool true) : PySem.W.WalkO q loose XP YP l.row.toRowW d [] (fun f vs => PySem.call f vs) := by
  refine Att.attach_call hn hdf fun w s₀ s₁ mg mb fa o pm cd doc a vs ns G Y ho hd hcd hm hs hi hlen hg => ?_
  obtain ⟨fd, hb, hF⟩ := F w mg fa _ (hY w _ Y) G.T.g hm
  exact top_call (hY w _ Y) G.T.g G.T.b G.T.builtins G.T.nolimit hg hs hi (Nat.le_trans hlen hn2) (nl w) hF hb (hR ns hlen)
end
/-! ### repr of data -/
theorem textFrom_le : ∀ (ts : List Str) (k n : Nat) (acc : Str), (∀ t ∈ ts, t.length ≤ n) → (textFrom k acc ts).length ≤ acc.length + ts.length * (n + 2)
  | [], k, n, acc, _ => by
    show acc.length ≤ _
    omega
  | t :: r, k, n, acc, h => by
    have ih := textFrom_le r (k + 1) n (acc ++ (if k > 0 then ", " else "" : String) ++ t) fun u hu => h u (by simp [hu])
    have ht := h t (by simp)
    have hl : (acc ++ (if k > 0 then ", " else "" : String) ++ t : Str).length ≤ acc.length + 2 + t.length := by
      rw [Str.length_append, Str.length_append]
      by_cases c : k > 0
      · rw [if_pos c]
        have e : (Str.ofString ", ").length = 2 := by decide +kernel
        have e2 : (", " : Str).length = 2 := e
        omega
      · rw [if_neg c]
        have e : (Str.ofString "").length = 0 := by decide +kernel
        have e2 : ("" : Str).length = 0 := e
        omega
    show (textFrom (k + 1) (acc ++ (if k > 0 then ", " else "" : String) ++ t) r).length ≤ _
    rw [List.length_cons, Nat.succ_mul]
    omega
theorem listText_le {ts : List Str} {n : Nat} (h : ∀ t ∈ ts, t.length ≤ n) : (listText ts).length ≤ ts.length * (n + 2) + 2 := by
  unfold listText
  rw [Str.length_append]
  have q := textFrom_le ts 0 n "[" h
  have e1 : ("[" : Str).length = 1 := (by decide +kernel : (Str.ofString "[").length = 1)
  have e2 : ("]" : Str).length = 1 := (by decide +kernel : (Str.ofString "]").length = 1)
  omega
theorem piled_le : ∀ {ts : List Str} {n : Nat}, (∀ t ∈ ts, t.length ≤ n) → piled ts ≤ ts.length * (n + 2)
  | [], n, _ => by simp [piled]
  | t :: ts, n, h => by
    have h1 := h t (by simp)
    have h2 := piled_le (ts := ts) fun u hu => h u (by simp [hu])
    rw [piled_cons, List.length_cons, Nat.succ_mul]
    omega
theorem tupleText_le {ts : List Str} {n : Nat} (h : ∀ t ∈ ts, t.length ≤ n) : (tupleText ts).length ≤ ts.length * (n + 2) + 4 := by
  unfold tupleText
  rw [Str.length_append, Str.length_append]
  have e1 : ("(" : Str).length = 1 := (by decide +kernel : (Str.ofString "(").length = 1)
  have e2 : ((if ts.length == 1 then ",)" else ")" : String) : Str).length ≤ 2 := by
    split
    · exact (by decide +kernel : (Str.ofString ",)").length ≤ 2)
    · exact (by decide +kernel : (Str.ofString ")").length ≤ 2)
  have e3 : (Str.join ", " ts).length ≤ ts.length * (n + 2) := by
    cases ts with
    | nil =>
      have e : (Str.join (Str.ofString ", ") []).length = 0 := by decide +kernel
      have e' : (Str.join ", " []).length = 0 := e
      omega
    | cons t ts =>
      have q := join_length_add (t :: ts) (by simp)
      have p := piled_le h
      omega
  omega
/-- text that can be shown, of at most so many signs -/
structure Sh (n : Nat) (d : D) : Prop where
  sh : d.showable = true
  nd : d.hasDict = false
  ln : d.shown.length ≤ n
theorem sh_int {i : Int} (h : i.natAbs < 2 ^ 64) : Sh 2000 (.int i) where
  sh := by
    simp only [PyData.showable, decide_eq_true_eq]
    rcases Nat.eq_zero_or_pos i.natAbs with z | z
    · rw [z]; decide
    · exact Nat.lt_of_lt_of_le ((Nat.log2_lt (by omega)).mpr h) (by decide)
  nd := by simp only [PyData.hasDict]
  ln := by
    simp only [PyData.shown]
    refine Nat.le_trans (int_text_len_1921 ?_) (by decide)
    rcases Nat.eq_zero_or_pos i.natAbs with z | z
    · rw [z]; decide
    · exact Nat.lt_of_lt_of_le ((Nat.log2_lt (by omega)).mpr h) (by decide)
theorem sh_non : Sh 2000 .none := ⟨by simp only [PyData.showable], by simp only [PyData.hasDict], by simp only [PyData.shown]; decide +kernel⟩
theorem sh_all {n : Nat} : ∀ {ds : List D}, (∀ d ∈ ds, Sh n d) → PyData.showableAll ds = true ∧ PyData.hasDictAll ds = false ∧ (∀ t ∈ PyData.shownAll ds, t.length ≤ n) ∧ (PyData.shownAll ds).length = ds.length
  | [], _ => ⟨by simp only [PyData.showableAll], by simp only [PyData.hasDictAll], (fun t ht => by simp [PyData.shownAll] at ht), by simp [PyData.shownAll]⟩
  | d :: ds, h => by
    have h1 := h d (by simp)
    obtain ⟨a, b, c, e⟩ := sh_all (ds := ds) fun x hx => h x (by simp [hx])
    refine ⟨by simp only [PyData.showableAll, h1.sh, a, Bool.and_self], by simp only [PyData.hasDictAll, h1.nd, b, Bool.or_self], fun t ht => ?_, by simp [PyData.shownAll, e]⟩
    simp only [PyData.shownAll, List.mem_cons] at ht
    rcases ht with rfl | ht
    · exact h1.ln
    · exact c t ht
theorem sh_list {n m : Nat} {ds : List D} (h : ∀ d ∈ ds, Sh n d) (hm : ds.length ≤ m) : Sh (m * (n + 2) + 4) (.list ds) := by
  obtain ⟨a, b, c, e⟩ := sh_all h
  refine ⟨by simp only [PyData.showable]; exact a, by simp only [PyData.hasDict]; exact b, ?_⟩
  simp only [PyData.shown]
  have q := listText_le c
  rw [e] at q
  have q2 : ds.length * (n + 2) ≤ m * (n + 2) := Nat.mul_le_mul_right _ hm
  omega
theorem sh_tup {n m : Nat} {ds : List D} (h : ∀ d ∈ ds, Sh n d) (hm : ds.length ≤ m) : Sh (m * (n + 2) + 4) (.tuple ds) := by
  obtain ⟨a, b, c, e⟩ := sh_all h
  refine ⟨by simp only [PyData.showable]; exact a, by simp only [PyData.hasDict]; exact b, ?_⟩
  simp only [PyData.shown]
  have q := tupleText_le c
  rw [e] at q
  have q2 : ds.length * (n + 2) ≤ m * (n + 2) := Nat.mul_le_mul_right _ hm
  omega
theorem Sh.up {n m : Nat} {d : D} (h : Sh n d) (k : n ≤ m) : Sh m d := ⟨h.sh, h.nd, Nat.le_trans h.ln k⟩
theorem sh_map {α : Type} {n : Nat} {xs : List α} {f : α → D} (h : ∀ x ∈ xs, Sh n (f x)) : ∀ d ∈ xs.map f, Sh n d := fun d hd => by
  obtain ⟨x, hx, rfl⟩ := List.mem_map.mp hd
  exact h x hx
theorem sh_nil {n : Nat} : ∀ d ∈ ([] : List D), Sh n d := fun d h => by cases h
theorem sh_cons {n : Nat} {d : D} {ds : List D} (h : Sh n d) (hs : ∀ e ∈ ds, Sh n e) : ∀ e ∈ d :: ds, Sh n e := fun e he => by
  rcases List.mem_cons.mp he with rfl | he
  · exact h
  · exact hs e he
def rRepr (_ : PySem.W.Frag) : List V → Hp → VK → Prop := fun vs H Q => ∃ (F : Hp) (v : V) (d : D), vs = [v] ∧ Same F H ∧ Rp F v d ∧ Sh sizeLine d ∧ d.depth ≤ 60 ∧ Q (.str d.shown) H
theorem cb_repr {X : Cx} (hu : X.A.units + 64 < cLine) (hg : X.A.guards = some []) : CallR X (.builtin "repr") (rRepr X.K) := by
  rintro pins s σ H vs us Q I r ⟨F, v, d, rfl, e, rp, ⟨hs, hnd, hl⟩, hz, q⟩
  obtain ⟨u, rfl, ru⟩ := r.one
  obtain ⟨as, rd⟩ := rp_reads I e rp ru
  have disp : isDisplay d = true → wpAny (model X.prog X.w) X.A (call (.builtin "repr") [u]) (EP X pins σ Q) X.xe s := fun hd => by
    obtain ⟨a, rfl⟩ := isRef_of_reads rd hd
    exact repr_of_reads' rd hs (PyData.noDict_hsm hnd) hg (by omega) (fun _ _ e => e) (fun h' u tk hk => ⟨.str d.shown, H, I.kept hk, ⟨u, rfl⟩, q⟩) hl
  cases d with
  | none =>
    cases rp
    have ru : u = Value.none := ru
    subst ru
    simp only [PyData.shown] at q
    exact PySem.P.repr_of_none ⟨.str "None", H, I.tok _, ⟨_, rfl⟩, q⟩
  | bool b =>
    cases rp
    have ru : u = Value.bool b := ru
    subst ru
    simp only [PyData.shown] at q
    exact PySem.P.repr_of_bool ⟨.str _, H, I.tok _, ⟨_, rfl⟩, q⟩
  | int i =>
    cases rp
    obtain ⟨t, rfl⟩ := ru
    simp only [PyData.shown] at q
    simp only [PyData.showable, decide_eq_true_eq] at hs
    exact PySem.P.repr_of_int hs ⟨.str _, H, I.tok _, ⟨_, rfl⟩, q⟩
  | str x =>
    cases rp
    obtain ⟨t, rfl⟩ := ru
    simp only [PyData.shown] at q hl
    exact PySem.P.repr_of_str ⟨.str _, H, I.tok _, ⟨_, rfl⟩, q⟩ hl
  | list xs => exact disp rfl
  | tuple xs => exact disp rfl
  | dict xs => simp only [PyData.hasDict] at hnd; cases hnd
theorem cbd_repr {K : PySem.W.Frag} {d : D} {n : Nat} {Q : D → Prop} (h : Sh n d) (hn : n ≤ sizeLine) (hz : d.depth ≤ 60) (k : Q (.str d.shown)) : CbD (rRepr K) [d] Q := fun F H vs e r Z z => by
  obtain ⟨v, rfl, rv⟩ := r.one
  exact ⟨F, v, d, rfl, e, rv, h.up hn, hz, z _ _ F H k (Gr.refl e) (.str _)⟩
end Pu
/-! PuD: the drawing state of the laws k00 .. k45: a list of two ints, read and written by its owner -/
namespace Pu
open PySem L2
section
variable {ρ : Pu.Env} {te : TE} {K : PySem.W.Frag} {Q : D → Pu.Env → Prop} {P : Po} {i : Nat}
theorem WA.stp {B : Base} {ad : Nat → List Addr} {σ : St} {F H F' H' : Hp} {s : Addr} {S S' : Stt} (w : WA B ad ρ σ F H) (h1 : ρ[i]? = some (.st S)) (k0 : σ[i]? = some (some (.ref s))) (g : Gr (· ∈ ad i) F H F' H') (st : StAt H' S' s (ad i)) (fn : ∀ a ∈ ad i, F' a = none) : WA B ad (ρ.set i (.st S')) σ F' H' := by
  have nm : ∀ j a, j ≠ i → a ∈ ad j → a ∉ ad i := fun j a hj m m' => hj (w.dj j i a m m')
  refine ⟨⟨w.gr.ff.trans g.ff, g.fh, fun a o e m => g.kp a o (w.gr.kp a o e m) fun z => ?_, fun a e => g.al a (w.gr.al a e), fun a e z => g.fr a (w.gr.al a e) (w.gr.fr a e z)⟩, by rw [List.length_set]; exact w.len, fun j sl e => ?_, fun j a m => ⟨?_, (w.fz j a m).2⟩, w.dj, fun j e => w.out j (get_set' e), w.pin.to fun S2 e => by
    rcases get_set e with ⟨e0, _⟩ | ⟨hj, e⟩
    · exact ⟨⟨S, by rw [e0]; exact h1⟩, rfl, rfl⟩
    · exact ⟨⟨S2, e⟩, rfl, rfl⟩⟩
  · rcases (w.fz i a z).2 with q | q
    · rw [q] at e; cases e
    · exact m q.1
  · rcases get_set e with ⟨rfl, rfl⟩ | ⟨hj, e⟩
    · exact ⟨s, k0, st⟩
    · have k := w.sl j sl e
      cases sl with
      | emp => exact k
      | val d =>
        obtain ⟨k, v, e, r⟩ := k
        exact ⟨k, v, e, r.up g.ff⟩
      | own es =>
        obtain ⟨q, ws, a1, a2, a3, a4, a5⟩ := k
        exact ⟨q, ws, a1, a2, a3, g.kp q _ a4 (nm j q hj (by rw [a1]; simp)), a5.up g.ff⟩
      | st S2 =>
        obtain ⟨s2, a1, a2⟩ := k
        exact ⟨s2, a1, a2.keep fun a m o e => g.kp a o e (nm j a hj m)⟩
  · by_cases hj : j = i
    · subst hj; exact fn a m
    · exact g.fr a (w.lv m) (w.fz j a m).1
/-- a fresh list of two ints is the state from now on -/
theorem W.toTwo {B : Base} {σ : St} {F H : Hp} {a b : Int} (h00 : i ≠ 0) (h : ρ[i]? = some (.own [.int a, .int b])) (w : W B ρ σ F H) : W B (ρ.set i (.st (.two a b))) σ F H := by
  obtain ⟨ad, w⟩ := w
  obtain ⟨p, vs, hp, a1, a2, a3, rr⟩ := w.sl i _ h
  obtain ⟨u, v, rfl, r1, r2⟩ := rr.two
  have e1 := r1.int_inv
  have e2 := r2.int_inv
  subst e1 e2
  refine ⟨ad, w.gr, by rw [List.length_set]; exact w.len, fun j sl e => ?_, w.fz, w.dj, fun j e => w.out j (get_set' e), w.pin.to fun S2 e => by
    rcases get_set e with ⟨e0, _⟩ | ⟨hj, e⟩
    · exact absurd e0.symm h00
    · exact ⟨⟨S2, e⟩, rfl, rfl⟩⟩
  rcases get_set e with ⟨rfl, rfl⟩ | ⟨hj, e⟩
  · exact ⟨p, a2, hp, a3⟩
  · exact w.sl j sl e
theorem sx_toTwo {t : TS} {a b : Int} (h00 : i ≠ 0) (h : ρ[i]? = some (.own [.int a, .int b])) (k : SX t (ρ.set i (.st (.two a b))) P) : SX t ρ P := fun B σ F H w Dn n r bk c => k B σ F H (W.toTwo h00 h w) Dn n r bk c
theorem ex_st0 {a b : Int} (h : ρ[i]? = some (.st (.two a b))) (q : Q (.int a) ρ) : EX (tOp (rIxA K) (tVar i) (tC (.int 0))) ρ Q := fun B ad σ F H w Z z => by
  obtain ⟨s, k0, _, hs⟩ := w.sl i _ h
  exact ⟨_, k0, .inl ⟨s, [.int a, .int b], 0, .int a, rfl, rfl, .inl (.inl hs), rfl, z (.int a) ρ (.int a) F H q (Post.refl w) (.int a)⟩⟩
theorem ex_st1 {a b : Int} (h : ρ[i]? = some (.st (.two a b))) (q : Q (.int b) ρ) : EX (tOp (rIxA K) (tVar i) (tC (.int 1))) ρ Q := fun B ad σ F H w Z z => by
  obtain ⟨s, k0, _, hs⟩ := w.sl i _ h
  exact ⟨_, k0, .inl ⟨s, [.int a, .int b], 1, .int b, rfl, rfl, .inl (.inl hs), rfl, z (.int b) ρ (.int b) F H q (Post.refl w) (.int b)⟩⟩
theorem two_grow {F H : Hp} {s : Addr} {a b c d : Int} {as : List Addr} (ha : as = [s]) (fh : Same F H) (hs : H s = some (.lst [.int a, .int b])) (fn : ∀ x ∈ as, F x = none) : Gr (· ∈ as) F H F (upd H s (.lst [.int c, .int d])) := by
  subst ha
  have fs := fn s (by simp)
  refine ⟨Same.refl F, fun x o e => ?_, fun x o e m => ?_, fun x e => ?_, fun _ _ z => z⟩
  · have ne : x ≠ s := fun q => by rw [q, fs] at e; cases e
    rw [upd_ne ne]; exact fh x o e
  · rw [upd_ne (fun q => m (by simp [q]))]; exact e
  · by_cases q : x = s
    · rw [q, upd_same]; intro z; cases z
    · rw [upd_ne q]; exact e
theorem sx_st0 (h : EX te ρ fun d ρ1 => ∃ v a b, d = .int v ∧ ρ1[i]? = some (.st (.two a b)) ∧ NX P (ρ1.set i (.st (.two v b)))) : SX (tAsg te (gSub (tVar i) (tC (.int 0)) rSetL)) ρ P := fun B σ F H w Dn n r bk c => by
  obtain ⟨ad, w⟩ := w
  refine h B ad σ F H w _ fun d ρ1 v F1 H1 q1 p1 r1 => ?_
  obtain ⟨x, a, b, rfl, h1, ρ', l, q⟩ := q1
  have ev := r1.int_inv
  subst ev
  obtain ⟨s, k0, as, hs⟩ := p1.wa.sl i _ h1
  have g := two_grow (c := x) (d := b) as p1.wa.gr.fh hs fun y hy => (p1.wa.fz i y hy).1
  exact ⟨_, k0, s, [.int a, .int b], 0, 0, rfl, rfl, hs, rfl, n ρ' σ F1 _ q (W.weak ⟨ad, p1.wa.stp (S' := .two x b) h1 k0 g ⟨as, upd_same⟩ fun y hy => (p1.wa.fz i y hy).1⟩ l)⟩
theorem sx_st1 (h : EX te ρ fun d ρ1 => ∃ v a b, d = .int v ∧ ρ1[i]? = some (.st (.two a b)) ∧ NX P (ρ1.set i (.st (.two a v)))) : SX (tAsg te (gSub (tVar i) (tC (.int 1)) rSetL)) ρ P := fun B σ F H w Dn n r bk c => by
  obtain ⟨ad, w⟩ := w
  refine h B ad σ F H w _ fun d ρ1 v F1 H1 q1 p1 r1 => ?_
  obtain ⟨x, a, b, rfl, h1, ρ', l, q⟩ := q1
  have ev := r1.int_inv
  subst ev
  obtain ⟨s, k0, as, hs⟩ := p1.wa.sl i _ h1
  have g := two_grow (c := a) (d := x) as p1.wa.gr.fh hs fun y hy => (p1.wa.fz i y hy).1
  exact ⟨_, k0, s, [.int a, .int b], 1, 1, rfl, rfl, hs, rfl, n ρ' σ F1 _ q (W.weak ⟨ad, p1.wa.stp (S' := .two a x) h1 k0 g ⟨as, upd_same⟩ fun y hy => (p1.wa.fz i y hy).1⟩ l)⟩
end
def T_draw (K : PySem.W.Frag) : TS :=
    (tSeq (tIfS (tTest (tOp (rEqP K) (tOp (rIxA K) (tVar 0) (tC (.int 1))) (tC (.int 0))))
      (tSeq (tAsg (tC (.int 0)) (gName 3))
    (tSeq (tIfS (tTest (tOp (rI0 fun i j => .bl (decide (j < i))) (tCB (rLen K) (tCons (tVar 1) tNil)) (tC (.int 0))))
      (tAsg (tOp (rIxA K) (tVar 1) (tOp (rI (fun _ j => 0 < j) fun i j => .int (i % j)) (tOp (rIxA K) (tVar 0) (tC (.int 0))) (tCB (rLen K) (tCons (tVar 1) tNil)))) (gName 3))
      tNext)
    (tSeq (tIfS (tTest (tOp (rI0 fun i j => .bl (decide (i < j))) (tVar 3) (tC (.int 0))))
      (tAsg (tOp (rI0 fun i j => .int (i - j)) (tC (.int 1)) (tOp (rI CMul fun i j => .int (i * j)) (tC (.int 2)) (tVar 3))) (gName 3))
      tNext)
    (tSeq (tAsg (tOp (rI (fun _ j => 0 < j) fun i j => .int (i % j)) (tCB (rInt) (tCons (tOp (rI CMul fun i j => .int (i * j)) (tOp (rPlus K) (tOp (rPlus K) (tVar 3) (tOp (rI CMul fun i j => .int (i * j)) (tOp (rIxA K) (tVar 0) (tC (.int 0))) (tC (.int 7919)))) (tC (.int 1))) (tC (.int 48271))) tNil)) (tC (.int 2147483647))) (gName 4))
    (tSeq (tAsg (tOp (rI (fun _ j => 0 < j) fun i j => .int (i % j)) (tCB (rInt) (tCons (tOp (rPlus K) (tOp (rI CMul fun i j => .int (i * j)) (tVar 4) (tC (.int 69621))) (tOp (rI CMul fun i j => .int (i * j)) (tOp (rIxA K) (tVar 0) (tC (.int 0))) (tC (.int 104729)))) tNil)) (tC (.int 4294967291))) (gSub (tVar 0) (tC (.int 1)) rSetL))
    (tSeq (tIfS (tAnd (tTest (tOp (rI0 fun i j => .bl (decide (j ≤ i))) (tVar 3) (tOp (rI CPow fun i j => .int (i ^ j.toNat)) (tC (.int 10)) (tC (.int 18))))) (tTest (tOp (rI0 fun i j => .bl (decide (i < j))) (tOp (rIxA K) (tVar 0) (tC (.int 0))) (tCB (rLen K) (tCons (tVar 1) tNil)))))
      (tAsg (tVar 3) (gSub (tVar 0) (tC (.int 1)) rSetL))
      tNext)
    (tAsg (tOp (rPlus K) (tOp (rIxA K) (tVar 0) (tC (.int 0))) (tC (.int 1))) (gSub (tVar 0) (tC (.int 0)) rSetL))))))))
      tNext)
    (tSeq (tAsg (tOp (rI (fun _ j => 0 < j) fun i j => .int (i % j)) (tCB (rInt) (tCons (tOp (rIxA K) (tVar 0) (tC (.int 1))) tNil)) (tVar 2)) (gName 5))
    (tSeq (tAsg (tOp (rI CDiv fun i j => .int (i / j)) (tOp (rIxA K) (tVar 0) (tC (.int 1))) (tVar 2)) (gSub (tVar 0) (tC (.int 1)) rSetL))
    (tRet (tVar 5)))))
def T_dr3 (K : PySem.W.Frag) : TS :=
    (tSeq (tAsg (tOp (rI (fun _ j => 0 < j) fun i j => .int (i % j)) (tCB (rInt) (tCons (tOp (rIxA K) (tVar 0) (tC (.int 1))) tNil)) (tVar 2)) (gName 5))
    (tSeq (tAsg (tOp (rI CDiv fun i j => .int (i / j)) (tOp (rIxA K) (tVar 0) (tC (.int 1))) (tVar 2)) (gSub (tVar 0) (tC (.int 1)) rSetL))
    (tRet (tVar 5))))
def T_dr4 (K : PySem.W.Frag) : TS :=
    (tSeq (tAsg (tOp (rI (fun _ j => 0 < j) fun i j => .int (i % j)) (tCB (rInt) (tCons (tOp (rI CMul fun i j => .int (i * j)) (tOp (rPlus K) (tOp (rPlus K) (tVar 3) (tOp (rI CMul fun i j => .int (i * j)) (tOp (rIxA K) (tVar 0) (tC (.int 0))) (tC (.int 7919)))) (tC (.int 1))) (tC (.int 48271))) tNil)) (tC (.int 2147483647))) (gName 4))
    (tSeq (tAsg (tOp (rI (fun _ j => 0 < j) fun i j => .int (i % j)) (tCB (rInt) (tCons (tOp (rPlus K) (tOp (rI CMul fun i j => .int (i * j)) (tVar 4) (tC (.int 69621))) (tOp (rI CMul fun i j => .int (i * j)) (tOp (rIxA K) (tVar 0) (tC (.int 0))) (tC (.int 104729)))) tNil)) (tC (.int 4294967291))) (gSub (tVar 0) (tC (.int 1)) rSetL))
    (tSeq (tIfS (tAnd (tTest (tOp (rI0 fun i j => .bl (decide (j ≤ i))) (tVar 3) (tOp (rI CPow fun i j => .int (i ^ j.toNat)) (tC (.int 10)) (tC (.int 18))))) (tTest (tOp (rI0 fun i j => .bl (decide (i < j))) (tOp (rIxA K) (tVar 0) (tC (.int 0))) (tCB (rLen K) (tCons (tVar 1) tNil)))))
      (tAsg (tVar 3) (gSub (tVar 0) (tC (.int 1)) rSetL))
      tNext)
    (tAsg (tOp (rPlus K) (tOp (rIxA K) (tVar 0) (tC (.int 0))) (tC (.int 1))) (gSub (tVar 0) (tC (.int 0)) rSetL)))))
def T_dr2 (K : PySem.W.Frag) : TS :=
    (tSeq (tIfS (tTest (tOp (rI0 fun i j => .bl (decide (i < j))) (tVar 3) (tC (.int 0))))
      (tAsg (tOp (rI0 fun i j => .int (i - j)) (tC (.int 1)) (tOp (rI CMul fun i j => .int (i * j)) (tC (.int 2)) (tVar 3))) (gName 3))
      tNext)
    (T_dr4 K))
def Ok2 : Stt → Prop
  | .two a b => 0 ≤ a ∧ 0 ≤ b
  | _ => False
def R_draw : Stt → List D → (D → Stt → Prop) → Prop := fun S ds Z => ∃ (ns : List Int) (m : Int), ds = [.list (ns.map .int), .int m] ∧ (1 ≤ m ∧ m < 1073741824) ∧ Ok2 S ∧ ∀ (r : Int) (S' : Stt), 0 ≤ r → r < m → Ok2 S' → Z (.int r) S'
local macro_rules | `(tactic| walk_at "e") => `(tactic| first
  | ((with_reducible refine nx_seq ?_); (try dsimp only [List.set_cons_succ, List.set_cons_zero]))
  | ((with_reducible refine ex_vr ?_); dsimp only [VQ, List.set_cons_succ, List.set_cons_zero, List.getElem?_cons_zero, List.getElem?_cons_succ]; (fail_if_success (with_reducible show False)))
  | (with_reducible refine sx_seq ?_)
  | (with_reducible refine sx_if ?_)
  | (with_reducible refine sx_next ?_)
  | (with_reducible refine sx_ret ?_)
  | ((fail_if_success (with_reducible refine sx_asgO (eo_lst ?_))); (with_reducible refine sx_asg ?_))
  | (with_reducible refine ex_int ?_)
  | (with_reducible refine ex_str ?_)
  | (with_reducible refine ex_bl ?_)
  | (with_reducible refine ex_non ?_)
  | (with_reducible refine ex_op ?_)
  | (with_reducible refine ex_un ?_)
  | (with_reducible refine ex_chain ?_)
  | (with_reducible refine ex_call ?_)
  | (with_reducible refine ex_isT ?_)
  | (with_reducible refine ex_cb ?_)
  | (with_reducible refine ex_sl ?_)
  | (with_reducible refine ex_tup ?_)
  | (with_reducible refine ex_if ?_)
  | (with_reducible refine ex_of (eo_lst ?_))
  | (with_reducible refine ex_notV ?_)
  | (with_reducible refine ea_nil ?_)
  | (with_reducible refine ea_cons ?_)
  | (with_reducible refine ep_no ?_)
  | (with_reducible refine ep_some ?_)
  | (with_reducible refine et_test ?_)
  | (with_reducible refine et_B ?_)
  | (with_reducible refine et_and ?_)
  | (with_reducible refine et_or ?_)
  | (with_reducible refine et_not ?_)
  | (with_reducible refine et_yes ?_)
  | (with_reducible refine opd_plusI ?_)
  | (with_reducible refine opd_I0 ?_)
  | (with_reducible refine opd_B0 ?_)
  | (with_reducible refine opd_eqI ?_)
  | (with_reducible refine opd_neI ?_)
  | (with_reducible refine opd_eqS ?_)
  | (with_reducible refine opd_neS ?_)
  | (with_reducible refine opd_is ?_)
  | (with_reducible refine opd_isnt ?_)
  | (with_reducible refine opd_ixT rfl ?_)
  | (with_reducible refine opd_ixL rfl ?_)
  | (with_reducible refine und_neg ?_)
  | (with_reducible refine cbd_lenL ?_)
  | (with_reducible refine cbd_lenT ?_)
  | (with_reducible refine cbd_min2 ?_)
  | (with_reducible refine cbd_max2 ?_)
  | (with_reducible refine cbd_abs ?_)
  | (with_reducible refine cbd_int ?_)
  | (with_reducible refine cbd_tupL ?_)
  | (with_reducible refine cbd_listL ?_)
  | (with_reducible refine cbd_listT ?_)
  | (with_reducible refine cbd_sum ?_)
  | (with_reducible refine sld_T ?_)
  | (with_reducible refine sld_L ?_)
  | (with_reducible refine ex_revL ?_)
  | (with_reducible refine ex_bmL ?_)
  | (with_reducible refine ex_andV ?_)
  | (with_reducible refine ei_list ?_)
  | (with_reducible refine ei_rng1 ?_)
  | (with_reducible refine ei_rng2 ?_)
  | (with_reducible refine ei_enum ?_)
  | (with_reducible refine ei_enumT ?_)
  | (with_reducible refine ei_zip ?_)
  | (with_reducible refine sx_par ?_)
  | (with_reducible refine Exists.intro _ (And.intro rfl ?_))
  | (with_reducible refine Exists.intro _ (Exists.intro _ (And.intro rfl ?_)))
  | ((with_reducible show EX (tCall (spS _) [] _ (tCons (tVar _) _)) _ _); refine ex_callS rfl ?_)
  | ((with_reducible refine And.intro (show (_ : Nat) ≤ 100000 from ?_) ?_); (focus (simp; done)))
  | ((with_reducible refine opd_I ?_ ?_); focus (first | omega | (show CDiv _ _; exact ⟨by omega, by omega⟩) | (show CMul _ _; first | exact Or.inl ⟨by omega, by omega⟩ | exact Or.inr ⟨by omega, by omega⟩))))
local macro_rules | `(tactic| walk_at "es") => `(tactic| repeat walk_at "e")
local macro_rules | `(tactic| walk_at "w") => `(tactic| try dsimp only [wipeE, List.foldl_cons, List.foldl_nil, List.set_cons_succ, List.set_cons_zero])
local macro_rules | `(tactic| walk_at "le") => `(tactic| repeat' first | exact LeE.nil | (refine LeE.eq rfl ?_) | (refine LeE.emp ?_) | (refine LeE.eq ?_ ?_))
local macro_rules | `(tactic| walk_at "no") => `(tactic| ((refine And.intro (fun hb => absurd hb ?_) (fun _ => ?_)); (focus (first | (exact Bool.false_ne_true) | (simp; done) | (simp; omega) | (simp only [decide_eq_true_eq]; omega)))))
local macro_rules | `(tactic| walk_at "yes") => `(tactic| ((refine And.intro (fun _ => ?_) (fun hb => absurd hb ?_)); (rotate_left); (focus (first | (exact Bool.noConfusion) | (simp; done) | (simp; omega) | (simp only [decide_eq_false_iff_not]; omega)))))
local macro_rules | `(tactic| walk_at "e") => `(tactic| first
  | ((with_reducible show EX (tOp (rIxA _) (tVar 0) (tC (.int 0))) _ _); refine ex_st0 rfl ?_)
  | ((with_reducible show EX (tOp (rIxA _) (tVar 0) (tC (.int 1))) _ _); refine ex_st1 rfl ?_))
theorem sx_draw (K : PySem.W.Frag) (S : Stt) (ds : List D) (Z : D → Stt → Prop) (h : R_draw S ds Z) :
    SX (T_draw K) (.st S :: (ds.map .val ++ List.replicate (6 - (ds.length + 1)) .emp)) { nx := fun ρ' => ∃ S', ρ'[0]? = some (.st S') ∧ Z .none S', rt := fun d ρ' => ∃ S', ρ'[0]? = some (.st S') ∧ Z d S' } := by
  obtain ⟨ns, m, rfl, ⟨m1, m2⟩, ok, z⟩ := h
  cases S with
  | cel a cs => exact ok.elim
  | dct kvs => exact ok.elim
  | grd rows => exact ok.elim
  | two a b =>
  obtain ⟨a0, b0⟩ := ok
  show SX (T_draw K) [.st (.two a b), .val (.list (ns.map .int)), .val (.int m), .emp, .emp, .emp] _
  have fin : ∀ (a b : Int) (s3 s4 : Slot), 0 ≤ a → 0 ≤ b → SX (T_dr3 K) [.st (.two a b), .val (.list (ns.map .int)), .val (.int m), s3, s4, .emp] { nx := fun ρ' => ∃ S', ρ'[0]? = some (.st S') ∧ Z .none S', rt := fun d ρ' => ∃ S', ρ'[0]? = some (.st S') ∧ Z d S' } := fun a b s3 s4 a0 b0 => by
    unfold T_dr3
    refine sx_seq (sx_asg (ex_op (ex_cb (ea_cons (ex_st1 rfl (ea_nil (cbd_int ?_)))))))
    walk_at "es"
    refine sx_st1 (ex_op (ex_st1 rfl ?_))
    walk_at "es"
    refine ⟨_, a, b, rfl, rfl, ?_⟩
    walk_at "es"
    exact z _ _ (Int.emod_nonneg _ (by omega)) (Int.emod_lt_of_pos _ (by omega)) ⟨a0, Int.ediv_nonneg b0 (by omega)⟩
  have fill : ∀ (cell : Int), SX (T_dr4 K) [.st (.two a b), .val (.list (ns.map .int)), .val (.int m), .val (.int cell), .emp, .emp] (({ nx := fun ρ' => ∃ S', ρ'[0]? = some (.st S') ∧ Z .none S', rt := fun d ρ' => ∃ S', ρ'[0]? = some (.st S') ∧ Z d S' } : Po).seq (T_dr3 K)) := fun cell => by
    unfold T_dr4
    walk_at "es"
    have v0 : ∀ x : Int, 0 ≤ x % 4294967291 := fun x => Int.emod_nonneg _ (by decide)
    refine sx_st1 ?_
    walk_at "es"
    refine ⟨_, a, b, rfl, rfl, ?_⟩
    walk_at "es"
    have last : ∀ (b' : Int) (s4 : Slot), 0 ≤ b' → SX (tAsg (tOp (rPlus K) (tOp (rIxA K) (tVar 0) (tC (.int 0))) (tC (.int 1))) (gSub (tVar 0) (tC (.int 0)) rSetL)) [.st (.two a b'), .val (.list (ns.map .int)), .val (.int m), .val (.int cell), s4, .emp] (({ nx := fun ρ' => ∃ S', ρ'[0]? = some (.st S') ∧ Z .none S', rt := fun d ρ' => ∃ S', ρ'[0]? = some (.st S') ∧ Z d S' } : Po).seq (T_dr3 K)) := fun b' s4 hb' => by
      refine sx_st0 ?_
      walk_at "es"
      refine ⟨_, a, b', rfl, rfl, ?_⟩
      exact nx_seq (fin _ _ _ _ (by omega) hb')
    refine opd_I (C := CPow) ⟨by decide, by decide, by decide⟩ ?_
    walk_at "es"
    refine ⟨fun hc => ?_, fun hc => ?_⟩
    · have hc := of_decide_eq_true hc
      have h18 : (0 : Int) ≤ 10 ^ (18 : Int).toNat := by decide
      walk_at "es"
      refine ⟨fun hd => ?_, fun hd => ?_⟩
      · refine sx_st1 ?_
        walk_at "es"
        refine ⟨_, a, _, rfl, rfl, ?_⟩
        exact nx_seq (last _ _ (by omega))
      · exact sx_next (nx_seq (last _ _ (v0 _)))
    · refine ⟨(fun q => by cases q), fun _ => ?_⟩
      exact sx_next (nx_seq (last _ _ (v0 _)))
  have second : ∀ (cell : Int), SX (T_dr2 K) [.st (.two a b), .val (.list (ns.map .int)), .val (.int m), .val (.int cell), .emp, .emp] (({ nx := fun ρ' => ∃ S', ρ'[0]? = some (.st S') ∧ Z .none S', rt := fun d ρ' => ∃ S', ρ'[0]? = some (.st S') ∧ Z d S' } : Po).seq (T_dr3 K)) := fun cell => by
    unfold T_dr2
    refine sx_seq (sx_if (et_test (ex_op ?_)))
    walk_at "es"
    refine ⟨fun hc => ?_, fun hc => ?_⟩
    · refine sx_asg (ex_op (ex_int (ex_op (ex_int ?_))))
      walk_at "es"
      exact fill _
    · exact sx_next (nx_seq (fill _))
  unfold T_draw
  walk_at "es"
  refine ⟨fun hb => ?_, fun hb => ?_⟩
  · walk_at "es"
    refine ⟨fun hc => ?_, fun hc => ?_⟩
    · have hc := of_decide_eq_true hc
      rw [List.length_map] at hc
      refine sx_asg (ex_op ?_)
      walk_at "es"
      rw [List.length_map]
      refine opd_I (C := fun _ j => 0 < j) hc ?_
      refine opd_ixM 0 (Int.emod_nonneg _ (by omega)) (Int.emod_lt_of_pos _ hc) ?_
      exact nx_seq (second _)
    · exact sx_next (nx_seq (second _))
  · exact sx_next (nx_seq (fin _ _ _ _ a0 b0))
end Pu
/-! Comprehensions of two clauses over data. -/
namespace Pu
open PySem L2
section
variable {B : Base} {ad : Nat → List Addr} {ρ ρ' : Pu.Env} {σ : St} {F H F' H' F1 H1 : Hp}
theorem WA.updD (w : WA B ad ρ σ F H) {p : Addr} {o : HO} (nb : B.H0 p = none) (nad : ∀ i, p ∉ ad i) (hF : F p = none) : WA B ad ρ σ F (upd H p o) := by
  have neF : ∀ a o, F a = some o → a ≠ p := fun a o q z => by rw [z, hF] at q; cases q
  refine ⟨⟨w.gr.ff, fun a o q => by rw [upd_ne (neF a o q)]; exact w.gr.fh a o q, fun a o q m => ?_, fun a q => ?_, w.gr.fr⟩, w.len, fun j s q => ?_, w.fz, w.dj, w.out, w.pin⟩
  · rw [upd_ne (fun z => by rw [z, nb] at q; cases q)]
    exact w.gr.kp a o q m
  · by_cases ha : a = p
    · rw [ha, upd_same]; intro z; cases z
    · rw [upd_ne ha]; exact w.gr.al a q
  · have k := w.sl j s q
    cases s with
    | emp => exact k
    | val d => exact k
    | own es =>
      obtain ⟨p', ws, a1, a2, a3, a4, a5⟩ := k
      refine ⟨p', ws, a1, a2, a3, ?_, a5⟩
      rw [upd_ne (fun z => nad j (by rw [a1, z]; simp))]
      exact a4
    | st S =>
      obtain ⟨s, a1, a2⟩ := k
      exact ⟨s, a1, a2.keep fun a m o e => by
        rw [upd_ne (fun z => nad j (by rw [← z]; exact m))]
        exact e⟩
theorem Post.updD (pt : Post B ad σ ρ F1 H1 ρ' F H) {p : Addr} {o : HO} (hD : H1 p = none) (nb : B.H0 p = none) (nad : ∀ i, p ∉ ad i) (hF : F p = none) : Post B ad σ ρ F1 H1 ρ' F (upd H p o) := by
  have ne1 : ∀ a o, H1 a = some o → a ≠ p := fun a o q z => by rw [z, hD] at q; cases q
  have neF : ∀ a o, F a = some o → a ≠ p := fun a o q z => by rw [z, hF] at q; cases q
  refine ⟨pt.wa.updD nb nad hF, ⟨pt.gr.ff, fun a o q => by rw [upd_ne (neF a o q)]; exact pt.gr.fh a o q, fun a o q m => by rw [upd_ne (ne1 a o q)]; exact pt.gr.kp a o q m, fun a q => ?_, pt.gr.fr⟩, pt.sh⟩
  by_cases ha : a = p
  · rw [ha, upd_same]; intro z; cases z
  · rw [upd_ne ha]; exact pt.gr.al a q
end
/-- a value's truth as a test -/
def tTru (K : PySem.W.Frag) (te : TE) : TT := fun σ H Q => te σ H fun x H' => ∃ k, TruV K x H' k ∧ Q k H'
theorem pt_tru {X : Cx} {a : Expr} {te : TE} (h : PT X a (fun σ H Q => te σ H fun x H' => ∃ k, TruV X.K x H' k ∧ Q k H')) : PT X a (tTru X.K te) := h
theorem et_truL {K : PySem.W.Frag} {ρ : Pu.Env} {te : TE} {Q : Bool → Pu.Env → Prop} (h : EX te ρ fun d ρ1 => ∃ ds, d = .list ds ∧ Q (!ds.isEmpty) ρ1) : ET (tTru K te) ρ Q := fun B ad σ F H w Z z =>
  h B ad σ F H w _ fun d ρ1 v F1 H1 q1 p1 r1 => by
    obtain ⟨ds, rfl, q⟩ := q1
    obtain ⟨a, xs, rfl, h1, h2⟩ := r1.lst_inv
    refine ⟨!ds.isEmpty, .inl ⟨xs, sqL_rd h1 p1.wa.gr.fh, ?_⟩, z _ ρ1 F1 H1 q p1⟩
    have e := h2.len
    cases xs <;> cases ds <;> simp at e <;> rfl
section
variable {ρ : Pu.Env} {wi wi1 : TI} {g g1 : TG} {tt tt1 : TT} {te : TE}
def lc2L {α β : Type} (f : α → Bool) (ys : α → List β) (f1 : α → β → Bool) (gg : α → β → D) (xs : List α) : List D := (xs.filter f).flatMap fun x => ((ys x).filter (f1 x)).map (gg x)
theorem lc2L_snoc {α β : Type} {f : α → Bool} {ys : α → List β} {f1 : α → β → Bool} {gg : α → β → D} {xs : List α} {x : α} : lc2L f ys f1 gg (xs ++ [x]) = lc2L f ys f1 gg xs ++ (if f x = true then ((ys x).filter (f1 x)).map (gg x) else []) := by
  unfold lc2L
  rw [List.filter_append, List.flatMap_append]
  cases h : f x <;> simp [List.filter_cons, h]
theorem lc2L_le {α β : Type} {f : α → Bool} {ys : α → List β} {f1 : α → β → Bool} {gg : α → β → D} {xs : List α} {k : Nat} {x : α} (hx : xs[k]? = some x) (hf : f x = true) (j : Nat) :
    (lc2L f ys f1 gg (xs.take k) ++ (((ys x).take j).filter (f1 x)).map (gg x)).length ≤ (lc2L f ys f1 gg xs).length := by
  have hk : k < xs.length := (List.getElem?_eq_some_iff.mp hx).1
  have e : xs = xs.take k ++ [x] ++ xs.drop (k + 1) := by
    have h1 : xs.take k ++ [x] = xs.take (k + 1) := by rw [List.take_add_one, hx]; rfl
    rw [h1, List.take_append_drop]
  have e2 : lc2L f ys f1 gg xs = lc2L f ys f1 gg (xs.take k) ++ (((ys x).filter (f1 x)).map (gg x) ++ lc2L f ys f1 gg (xs.drop (k + 1))) := by
    conv => lhs; rw [e]
    have : lc2L f ys f1 gg (xs.take k ++ [x] ++ xs.drop (k + 1)) = lc2L f ys f1 gg (xs.take k ++ [x]) ++ lc2L f ys f1 gg (xs.drop (k + 1)) := by
      unfold lc2L; rw [List.filter_append, List.flatMap_append]
    rw [this, lc2L_snoc, if_pos hf, List.append_assoc]
  rw [e2]
  simp only [List.length_append, List.length_map]
  have : (((ys x).take j).filter (f1 x)).length ≤ ((ys x).filter (f1 x)).length := (List.Sublist.filter _ (List.take_sublist _ _)).length_le
  omega
/-- [e for target in .. if .. for target1 in .. if ..], nothing changes -/
theorem eo_lc2P {α β : Type} {vs vs1 : List Nat} {Q : List D → Pu.Env → Prop} (f : α → Bool) (ys : α → List β) (f1 : α → β → Bool) (enc1 : α → β → D) (gg : α → β → D) (h : EI wi ρ fun ds ρ1 => ∃ (xs : List α) (enc : α → D), ds = xs.map enc ∧ (lc2L f ys f1 gg xs).length < 1000000 ∧ Plain ρ1 vs ∧
    (∀ x ∈ xs, SG vs g (enc x) (wipeE ρ1 vs) fun ρ2 => unw vs ρ1 ρ2 = ρ1 ∧ Plain ρ2 vs1 ∧ ET tt ρ2 fun b ρ3 => b = f x ∧ ρ3 = ρ2 ∧ (f x = true → EI wi1 ρ2 fun ds1 ρ4 => ds1 = (ys x).map (enc1 x) ∧ ρ4 = ρ2 ∧
      ∀ y ∈ ys x, SG vs1 g1 (enc1 x y) (wipeE ρ2 vs1) fun ρ5 => unw vs1 ρ2 ρ5 = ρ2 ∧ ET tt1 ρ5 fun b ρ6 => b = f1 x y ∧ ρ6 = ρ5 ∧ (f1 x y = true → EX te ρ5 fun e ρ7 => e = gg x y ∧ ρ7 = ρ5))) ∧ Q (lc2L f ys f1 gg xs) ρ1) : EO (tLc2 wi g tt wi1 g1 tt1 te vs vs1) ρ Q := fun B ad σ F H w Z z => by
  refine h B ad σ F H w _ fun ds ρ1 J F1 H1 q1 p1 it => ?_
  obtain ⟨xs, enc, rfl, hz, pl, turn, done⟩ := q1
  intro Dl hD
  have hDH : H Dl = none := by
    cases q : H Dl with
    | none => rfl
    | some o => exact absurd hD (p1.gr.al Dl (by rw [q]; intro z; cases z))
  have nw := p1.wa.newp hD
  have nms : ∀ (ρ2 : Pu.Env), ¬ MS ad ρ2 Dl := fun ρ2 ⟨j, S, _, m⟩ => nw.2.2 j m
  let Inv := fun (i : Nat) (H' : Hp) => ∃ F' vs', Post B ad σ ρ1 F1 H1 ρ1 F' H' ∧ F' Dl = none ∧ H' Dl = some (.lst vs') ∧ RpA F' vs' (lc2L f ys f1 gg (xs.take i))
  refine ⟨fun i m H' => m = (xs.map enc).length - i ∧ i ≤ (xs.map enc).length ∧ Inv i H', ⟨_, rfl, Nat.zero_le _, F1, [], Post.of p1.wa (Gr.heap p1.wa.gr.fh (same_upd hD)), nw.1, upd_same, .nil⟩, ?_⟩
  rintro i m H' ⟨rfl, hi, F', vs', P, hF, hH, ra⟩
  by_cases hlt : i < (xs.map enc).length
  · refine .inr ⟨it.go i H' (P.gr.ff.trans P.wa.gr.fh) hlt, fun H2 => Inv (i + 1) H2, fun H2 k => ⟨(xs.map enc).length - (i + 1), by omega, rfl, hlt, k⟩, fun x H2 y => ?_⟩
    obtain ⟨d, F2, e, gr, rx⟩ := it.yld i H' x H2 F' P.gr.ff P.wa.gr.fh y hlt
    rw [List.getElem?_map] at e
    obtain ⟨a, ex, rfl⟩ : ∃ a, xs[i]? = some a ∧ enc a = d := by
      cases hx : xs[i]? with
      | none => rw [hx] at e; cases e
      | some a => rw [hx] at e; exact ⟨a, rfl, Option.some.inj e⟩
    have hm : a ∈ xs := List.mem_of_getElem? ex
    have et : xs.take (i + 1) = xs.take i ++ [a] := by rw [List.take_add_one, ex]; rfl
    have P2 := P.trans (Post.of P.wa gr)
    have w2 := P.wa.grow gr
    have hF2 : F2 Dl = none := gr.fr Dl (by rw [hH]; intro z; cases z) hF
    have hH2 : H2 Dl = some (.lst vs') := gr.kp Dl _ hH id
    refine turn a hm B ad (wipe σ vs) F2 H2 x (w2.wiped pl) (pl.ad w2) rx _ fun ρ2 σ2 q wb e2 fr => ?_
    obtain ⟨un2, pl1, q⟩ := q
    have e2' : wipe σ2 vs = wipe σ vs := by
      rw [e2]
      apply List.ext_getElem?
      intro j
      rw [wipe_get, wipe_get, wipe_length]
      split
      · rfl
      · first | rfl | rw [wipe_get, if_neg (by assumption)]
    refine ⟨e2', q B ad σ2 F2 H2 wb _ fun b ρ3 F3 H3 q3 p3 => ?_⟩
    obtain ⟨rfl, rfl, q3⟩ := q3
    cases hb : f a with
    | false =>
      show Inv (i + 1) H3
      have pu := Post.unwiped w2 pl e2' fr wb p3
      rw [un2] at pu
      refine ⟨F3, vs', P2.trans pu, p3.gr.fr Dl (by rw [hH2]; intro z; cases z) hF2, p3.gr.kp Dl _ hH2 (nms _), ?_⟩
      rw [et, lc2L_snoc, if_neg (by rw [hb]; decide), List.append_nil]
      exact ra.up (gr.ff.trans p3.gr.ff)
    | true =>
      show wi1 σ2 H3 _
      refine q3 hb B ad σ2 F3 H3 p3.wa _ fun ds1 ρ4 J1 F4 H4 q4 p4 it1 => ?_
      obtain ⟨rfl, rfl, turn1⟩ := q4
      have p34 := p3.trans p4
      have pu := Post.unwiped w2 pl e2' fr wb p34
      rw [un2] at pu
      let Inv1 := fun (j : Nat) (H' : Hp) => ∃ F' vs', Post B ad σ ρ1 F1 H1 ρ1 F' H' ∧ WA B ad ρ4 σ2 F' H' ∧ Same F4 F' ∧ F' Dl = none ∧ H' Dl = some (.lst vs') ∧ RpA F' vs' (lc2L f ys f1 gg (xs.take i) ++ (((ys a).take j).filter (f1 a)).map (gg a))
      refine ⟨fun j k H' => k = ((ys a).map (enc1 a)).length - j ∧ j ≤ ((ys a).map (enc1 a)).length ∧ Inv1 j H', ⟨_, rfl, Nat.zero_le _, F4, vs', P2.trans pu, p34.wa, Same.refl F4, p34.gr.fr Dl (by rw [hH2]; intro z; cases z) hF2, p34.gr.kp Dl _ hH2 (nms _), by
        show RpA F4 vs' (lc2L f ys f1 gg (xs.take i) ++ [])
        rw [List.append_nil]; exact ra.up (gr.ff.trans p34.gr.ff)⟩, ?_⟩
      rintro j k H5 ⟨rfl, hj, F5, vs5, P5, w5, f45, hF5, hH5, ra5⟩
      by_cases hl1 : j < ((ys a).map (enc1 a)).length
      · refine .inr ⟨it1.go j H5 (f45.trans w5.gr.fh) hl1, fun H6 => Inv1 (j + 1) H6, fun H6 k => ⟨((ys a).map (enc1 a)).length - (j + 1), by omega, rfl, hl1, k⟩, fun x1 H6 y1 => ?_⟩
        obtain ⟨d1, F6, e1, gr1, rx1⟩ := it1.yld j H5 x1 H6 F5 f45 w5.gr.fh y1 hl1
        rw [List.getElem?_map] at e1
        obtain ⟨c, ec, rfl⟩ : ∃ c, (ys a)[j]? = some c ∧ enc1 a c = d1 := by
          cases hx : (ys a)[j]? with
          | none => rw [hx] at e1; cases e1
          | some c => rw [hx] at e1; exact ⟨c, rfl, Option.some.inj e1⟩
        have hc : c ∈ ys a := List.mem_of_getElem? ec
        have et1 : (ys a).take (j + 1) = (ys a).take j ++ [c] := by rw [List.take_add_one, ec]; rfl
        have P6 := P5.trans (Post.of P5.wa gr1)
        have w6 := w5.grow gr1
        have hF6 : F6 Dl = none := gr1.fr Dl (by rw [hH5]; intro z; cases z) hF5
        have hH6 : H6 Dl = some (.lst vs5) := gr1.kp Dl _ hH5 id
        refine turn1 c hc B ad (wipe σ2 vs1) F6 H6 x1 (w6.wiped pl1) (pl1.ad w6) rx1 _ fun ρ5 σ5 q wb5 e5 fr5 => ?_
        obtain ⟨un5, q⟩ := q
        have e5' : wipe σ5 vs1 = wipe σ2 vs1 := by
          rw [e5]
          apply List.ext_getElem?
          intro j
          rw [wipe_get, wipe_get, wipe_length]
          split
          · rfl
          · first | rfl | rw [wipe_get, if_neg (by assumption)]
        refine ⟨e5', q B ad σ5 F6 H6 wb5 _ fun b ρ6 F7 H7 q6 p6 => ?_⟩
        obtain ⟨rfl, rfl, q6⟩ := q6
        have low : ∀ {F8 H8 : Hp}, Post B ad σ5 ρ6 F6 H6 ρ6 F8 H8 → Post B ad σ2 ρ4 F6 H6 ρ4 F8 H8 ∧ Post B ad σ ρ1 F6 H6 ρ1 F8 H8 := fun p => by
          have a1 := Post.unwiped w6 pl1 e5' fr5 wb5 p
          rw [un5] at a1
          have a2 := Post.unwiped P6.wa pl e2' fr w6 a1
          rw [un2] at a2
          exact ⟨a1, a2⟩
        cases hb1 : f1 a c with
        | false =>
          show Inv1 (j + 1) H7
          obtain ⟨a1, a2⟩ := low p6
          refine ⟨F7, vs5, P6.trans a2, a1.wa, f45.trans (gr1.ff.trans p6.gr.ff), p6.gr.fr Dl (by rw [hH6]; intro z; cases z) hF6, p6.gr.kp Dl _ hH6 (nms _), ?_⟩
          rw [et1, List.filter_append, List.filter_cons, if_neg (by rw [hb1]; decide), List.filter_nil, List.append_nil]
          exact ra5.up (gr1.ff.trans p6.gr.ff)
        | true =>
          show te σ5 H7 _
          refine q6 hb1 B ad σ5 F7 H7 p6.wa _ fun e ρ7 v F8 H8 q7 p7 rv => ?_
          obtain ⟨rfl, rfl⟩ := q7
          obtain ⟨a1, a2⟩ := low (p6.trans p7)
          have p67 := p6.trans p7
          have hF8 : F8 Dl = none := p67.gr.fr Dl (by rw [hH6]; intro z; cases z) hF6
          have hH8 : H8 Dl = some (.lst vs5) := p67.gr.kp Dl _ hH6 (nms _)
          have ra8 := (ra5.up (gr1.ff.trans p67.gr.ff)).app (.cons rv .nil)
          refine ⟨vs5, hH8, Nat.lt_of_lt_of_le (by rw [ra5.len]; exact Nat.lt_of_le_of_lt (lc2L_le ex hb j) hz) (by decide), ?_⟩
          show Inv1 (j + 1) _
          refine ⟨F8, vs5 ++ [v], (P6.trans a2).updD hD nw.2.1 nw.2.2 hF8, a1.wa.updD nw.2.1 nw.2.2 hF8, f45.trans (gr1.ff.trans p67.gr.ff), hF8, upd_same, ?_⟩
          rw [et1, List.filter_append, List.map_append, List.filter_cons, if_pos hb1, List.filter_nil, ← List.append_assoc]
          exact ra8
      · have e : j = (ys a).length := by rw [List.length_map] at hl1 hj; omega
        subst e
        rw [List.take_length] at ra5
        refine .inl ⟨it1.stop _ H5 (f45.trans w5.gr.fh) (by rw [List.length_map]; exact Nat.le_refl _), ?_⟩
        show Inv (i + 1) H5
        refine ⟨F5, vs5, P5, hF5, hH5, ?_⟩
        rw [et, lc2L_snoc, if_pos hb]
        exact ra5
  · have e : i = xs.length := by rw [List.length_map] at hlt hi; omega
    subst e
    rw [List.take_length] at ra
    exact .inl ⟨it.stop _ H' (P.gr.ff.trans P.wa.gr.fh) (by rw [List.length_map]; exact Nat.le_refl _), z _ ρ1 Dl vs' F' H' done (p1.trans P) hF hDH hH ra⟩
end
end Pu
namespace Pu
open PySem L2
theorem ex_val {te : TE} {ρ : Pu.Env} {Q : D → Pu.Env → Prop} (d0 : D) (h : EX te ρ fun d ρ' => d = d0 ∧ ρ' = ρ) (q : Q d0 ρ) : EX te ρ Q := h.imp fun d ρ' e => by rw [e.1, e.2]; exact q
theorem et_val {tt : TT} {ρ : Pu.Env} {Q : Bool → Pu.Env → Prop} (b0 : Bool) (h : ET tt ρ fun b ρ' => b = b0 ∧ ρ' = ρ) (q : Q b0 ρ) : ET tt ρ Q := et_imp h fun b ρ' e => by rw [e.1, e.2]; exact q
theorem sx_mid {t u : TS} {ρ : Pu.Env} {P : Po} (ρ1 : Pu.Env) (h : SX t ρ { nx := fun ρ' => ρ' = ρ1, rt := fun _ _ => False }) (k : SX u ρ1 P) : SX (tSeq t u) ρ P := sx_seq fun B σ F H w Dn n r b c =>
  h B σ F H w Dn (fun ρ' σ' F' H' e w' => n ρ' σ' F' H' (by rw [e]; exact k) w') (fun _ _ _ _ _ _ q => q.elim) (fun _ _ _ _ q => q.elim) (fun _ _ _ _ q => q.elim)
/-- the same with what holds of the slots behind t -/
theorem sx_midP {t u : TS} {ρ : Pu.Env} {P : Po} (J : Pu.Env → Prop) (h : SX t ρ { nx := J, rt := fun _ _ => False }) (k : ∀ ρ1, J ρ1 → SX u ρ1 P) : SX (tSeq t u) ρ P := sx_seq fun B σ F H w Dn n r b c =>
  h B σ F H w Dn (fun ρ' σ' F' H' e w' => n ρ' σ' F' H' (k ρ' e) w') (fun _ _ _ _ _ _ q => q.elim) (fun _ _ _ _ q => q.elim) (fun _ _ _ _ q => q.elim)
theorem cbd_intB {b : Bool} {Q : D → Prop} (k : Q (.int (if b then 1 else 0))) : CbD rInt [.bool b] Q := fun F H vs e r Z z => by
  obtain ⟨v, rfl, rv⟩ := r.one
  cases rv.bl_inv
  exact .inr ⟨_, rfl, z _ _ F H k (Gr.refl e) (.int _)⟩
theorem last_at (ds : List D) (d : D) : atI (ds ++ [d]) (-1) = some d := by
  have e : ixN (ds.length + 1) (-1) = some ds.length := by
    unfold ixN
    simp
    omega
  simp [atI, e]
theorem enum_zip {α : Type} (f : α → D) : ∀ (k : Nat) (xs : List α), enumD k (xs.map f) = (xs.zipIdx k).map fun p => .tuple [.int (p.2 : Int), f p.1]
  | _, [] => rfl
  | k, x :: xs => by
    rw [List.map_cons, List.zipIdx_cons, List.map_cons, ← enum_zip f (k + 1) xs]
    rfl
theorem enum_at {α : Type} {f : α → D} {xs : List α} {k : Nat} {d : D} (h : (enumD 0 (xs.map f))[k]? = some d) : ∃ x, xs[k]? = some x ∧ d = .tuple [.int (k : Int), f x] := by
  rw [enum_zip, List.getElem?_map, List.getElem?_zipIdx] at h
  cases e : xs[k]? with
  | none => rw [e] at h; simp at h
  | some x =>
    rw [e] at h
    simp at h
    exact ⟨x, rfl, h.symm⟩
theorem enum_len {α : Type} {f : α → D} {xs : List α} : (enumD 0 (xs.map f)).length = xs.length := by rw [enum_zip, List.length_map, List.length_zipIdx]
theorem find_first {α : Type} {g : Nat → Option α} {n k : Nat} {d : α} (hk : k < n) (h : ∀ j, j < k → g j = none) (e : g k = some d) : (List.range n).findSome? g = some d := by
  obtain ⟨m, rfl⟩ : ∃ m, n = k + 1 + m := ⟨n - (k + 1), by omega⟩
  rw [List.range_add, List.range_succ, List.findSome?_append, List.findSome?_append]
  have : (List.range k).findSome? g = none := List.findSome?_eq_none_iff.mpr fun x hx => h x (List.mem_range.mp hx)
  rw [this]
  simp [e]
theorem find_no {α : Type} {g : Nat → Option α} {n : Nat} (h : ∀ j, j < n → g j = none) : (List.range n).findSome? g = none := List.findSome?_eq_none_iff.mpr fun x hx => h x (List.mem_range.mp hx)
theorem fmin_all : ∀ (ns : List Int) (a : Int), ns.foldl min a ≤ a ∧ (∀ x ∈ ns, ns.foldl min a ≤ x) ∧ (ns.foldl min a = a ∨ ns.foldl min a ∈ ns)
  | [], a => ⟨Int.le_refl _, ⟨(fun _ h => by cases h), Or.inl rfl⟩⟩
  | n :: ns, a => by
    obtain ⟨h1, h2, h3⟩ := fmin_all ns (min a n)
    rw [List.foldl_cons]
    refine ⟨by omega, fun x hx => ?_, ?_⟩
    · rcases List.mem_cons.mp hx with rfl | q
      · omega
      · exact h2 x q
    · rcases h3 with q | q
      · rcases (show min a n = a ∨ min a n = n by omega) with z | z
        · left; rw [q, z]
        · right; rw [q, z]; simp
      · right; exact List.mem_cons_of_mem _ q
theorem foldMin_is {ns : List Int} {m : Int} (hm : m ∈ ns) (h : ∀ x ∈ ns, m ≤ x) : foldMin ns = m := by
  cases ns with
  | nil => cases hm
  | cons n ns =>
    show ns.foldl min n = m
    obtain ⟨h1, h2, h3⟩ := fmin_all ns n
    have a : ns.foldl min n ≤ m := by
      rcases List.mem_cons.mp hm with rfl | q
      · exact h1
      · exact h2 m q
    have b : m ≤ ns.foldl min n := by
      rcases h3 with q | q
      · rw [q]; exact h n (by simp)
      · exact h _ (List.mem_cons_of_mem _ q)
    omega
theorem foldMin_le {ns : List Int} {x : Int} (hm : x ∈ ns) : foldMin ns ≤ x := by
  cases ns with
  | nil => cases hm
  | cons n ns =>
    show ns.foldl min n ≤ x
    obtain ⟨h1, h2, h3⟩ := fmin_all ns n
    rcases List.mem_cons.mp hm with rfl | q
    · exact h1
    · exact h2 x q
theorem foldMin_mem {ns : List Int} (h : 0 < ns.length) : foldMin ns ∈ ns := by
  cases ns with
  | nil => simp at h
  | cons n ns =>
    show ns.foldl min n ∈ n :: ns
    rcases (fmin_all ns n).2.2 with q | q
    · rw [q]; simp
    · exact List.mem_cons_of_mem _ q
theorem take_snoc' {α : Type} {l : List α} {k : Nat} {x : α} (h : l[k]? = some x) : l.take (k + 1) = l.take k ++ [x] := by rw [List.take_add_one, h]; rfl
theorem get_D {α : Type} {l : List α} {k : Nat} {a : α} (h : k < l.length) : l[k]? = some (l.getD k a) := by rw [List.getD_eq_getElem?_getD]; simp [h]
theorem mem_D {α : Type} {l : List α} {k : Nat} {a : α} (h : k < l.length) : l.getD k a ∈ l := List.mem_of_getElem? (get_D h)
theorem flat_snoc' {α β : Type} {l : List α} {x : α} {f : α → List β} : (l ++ [x]).flatMap f = l.flatMap f ++ f x := by simp
theorem eqv_encP (u v : Int × Int) : PyData.eqv (encP u) (encP v) = decide (u = v) := by
  show PyData.eqvAll [.int u.1, .int u.2] [.int v.1, .int v.2] = _
  simp only [PyData.eqvAll, PyData.eqv, Bool.and_true]
  by_cases h : u = v
  · subst h; simp
  · rw [decide_eq_false h]
    by_cases h1 : u.1 = v.1
    · have h2 : u.2 ≠ v.2 := fun q => h (Prod.ext h1 q)
      simp [h2]
    · simp [h1]
theorem any_encP (ws : List (Int × Int)) (w : Int × Int) : ((ws.map encP).any fun y => PyData.eqv y (encP w)) = decide (w ∈ ws) := by
  rw [Bool.eq_iff_iff, List.any_eq_true, decide_eq_true_eq]
  constructor
  · rintro ⟨x, hx, e⟩
    obtain ⟨u, hu, rfl⟩ := List.mem_map.mp hx
    rw [eqv_encP, decide_eq_true_eq] at e
    rwa [← e]
  · intro h
    exact ⟨encP w, List.mem_map.mpr ⟨w, h, rfl⟩, by rw [eqv_encP]; simp⟩
theorem eqv_listP : ∀ (xs ys : List (Int × Int)), PyData.eqvAll (xs.map encP) (ys.map encP) = decide (xs = ys)
  | [], [] => by simp [PyData.eqvAll]
  | [], _ :: _ => by simp [PyData.eqvAll]
  | _ :: _, [] => by simp [PyData.eqvAll]
  | x :: xs, y :: ys => by
    rw [List.map_cons, List.map_cons, PyData.eqvAll, eqv_encP, eqv_listP xs ys]
    by_cases h1 : x = y <;> by_cases h2 : xs = ys <;> simp [h1, h2]
theorem eqv_LP (xs ys : List (Int × Int)) : PyData.eqv (.list (xs.map encP)) (.list (ys.map encP)) = decide (xs = ys) := by
  show PyData.eqvAll _ _ = _
  exact eqv_listP xs ys
/-- l.index(x) of data -/
theorem mtd_indexD {K : PySem.W.Frag} {ds : List D} {d z : D} {j : Nat} {Q : D → Prop} (s1 : PySem.SeqAt.shaped (.list ds) = true) (s2 : PySem.SeqAt.shaped d = true) (hz : ds[j]? = some z) (he : PyData.eqv z d = true)
    (hno : ∀ (m : Nat) (z' : D), m < j → ds[m]? = some z' → PyData.eqv z' d = false) (k : Q (.int (j : Nat))) : MtD (rIndexD K) (.list ds) [d] Q := fun F H x vs e r rv Z z' => by
  obtain ⟨v, rfl, rv1⟩ := rv.one
  have r' := r.dp (K := K) e
  obtain ⟨a, xs, rfl, h1, h2⟩ := r.lst_inv
  exact ⟨a, v, d, ds, j, z, rfl, rfl, r', rv1.dp e, s1, s2, hz, he, hno, z' _ _ F H k (Gr.refl e) (.int _)⟩
theorem lay_encP (xs : List (Int × Int)) : PyData.canLayAll0 (xs.map encP) = true := by
  induction xs with
  | nil => simp [PyData.canLayAll0]
  | cons x xs ih => rw [List.map_cons, PyData.canLayAll0, ih]; simp [encP, PyData.canLay0, PyData.canLayAll0]
theorem mtd_indexP {K : PySem.W.Frag} {ws : List (Int × Int)} {w : Int × Int} {Q : D → Prop} (hw : w ∈ ws) (k : Q (.int (ws.idxOf w : Nat))) : MtD (rIndexD K) (.list (ws.map encP)) [encP w] Q := by
  have hl : ws.idxOf w < ws.length := List.idxOf_lt_length_iff.mpr hw
  have d1 : (PyData.list (ws.map encP)).depth ≤ 64 := by
    have h : DpN 3 (PyData.list (ws.map encP)) := dpn_list (dpn_map fun x _ => dpn_tup (dpn_cons dpn_int (dpn_cons dpn_int dpn_nil)))
    exact Nat.le_trans h (by decide)
  have d2 : (encP w).depth ≤ 64 := by
    have h : DpN 2 (encP w) := dpn_tup (dpn_cons dpn_int (dpn_cons dpn_int dpn_nil))
    exact Nat.le_trans h (by decide)
  refine mtd_indexD (z := encP w) (j := ws.idxOf w) ?_ ?_ ?_ ?_ (fun m z' hm hz => ?_) k
  · unfold PySem.SeqAt.shaped
    rw [decide_eq_true d1, Bool.and_true]
    show PyData.canLayAll0 _ = true
    exact lay_encP ws
  · unfold PySem.SeqAt.shaped
    rw [decide_eq_true d2, Bool.and_true]
    simp [encP, PyData.canLay0, PyData.canLayAll0]
  · rw [List.getElem?_map, List.getElem?_eq_getElem hl, List.getElem_idxOf hl]; rfl
  · rw [eqv_encP]; simp
  · rw [List.getElem?_map, List.getElem?_eq_getElem (by omega)] at hz
    cases hz
    rw [eqv_encP, decide_eq_false_iff_not]
    have := List.not_of_lt_findIdx (p := fun x => x == w) hm
    simpa using this
theorem enum_rng {α : Type} {f : α → D} (a : α) (xs : List α) : enumD 0 (xs.map f) = (rngI 0 xs.length).map fun k => .tuple [.int k, f (xs.getD k.toNat a)] := by
  refine List.ext_getElem? fun k => ?_
  rw [enum_zip, List.getElem?_map, List.getElem?_zipIdx, List.getElem?_map]
  by_cases h : k < xs.length
  · rw [rngI_get h, get_D (a := a) h]
    simp
  · rw [List.getElem?_eq_none (by omega), List.getElem?_eq_none (by rw [rngI_len]; omega)]
    rfl
theorem units65 {k : Nat} {A : Around} (r : Room k A) : A.units + 65 < cLine := by have := r.un; omega
end Pu
/-! PuN: a list of lists of ints and None that is changed within: a state (Stt.grd) from a comprehension [list(x) for x in ..], read, changed, frozen. -/
namespace Pu
open PySem L2
def optD : Option Int → D
  | none => .none
  | some i => .int i
def rowD (row : List (Option Int)) : D := .list (row.map optD)
theorem rp_ov (F : Hp) (x : Option Int) : Rp F (ov x) (optD x) := by
  cases x with
  | none => exact .non
  | some i => exact .int i
theorem ov_inv {F : Hp} {v : V} {x : Option Int} (h : Rp F v (optD x)) : v = ov x := by
  cases x with
  | none => exact h.non_inv
  | some i => exact h.int_inv
theorem rpa_ov (F : Hp) : ∀ row : List (Option Int), RpA F (row.map ov) (row.map optD)
  | [] => .nil
  | x :: row => .cons (rp_ov F x) (rpa_ov F row)
theorem ovs_inv {F : Hp} : ∀ {row : List (Option Int)} {vs : List V}, RpA F vs (row.map optD) → vs = row.map ov
  | [], _, h => by cases h; rfl
  | x :: row, _, h => by
    cases h with
    | cons h1 h2 => rw [ov_inv h1, ovs_inv h2]; rfl
theorem GrA.len {H : Hp} : ∀ {qs : List Addr} {rows : List (List (Option Int))}, GrA H qs rows → qs.length = rows.length
  | [], [], _ => rfl
  | q :: qs, r :: rows, h => by rw [List.length_cons, List.length_cons, GrA.len h.2]
  | [], _ :: _, h => h.elim
  | _ :: _, [], h => h.elim
theorem GrA.get {H : Hp} : ∀ {qs : List Addr} {rows : List (List (Option Int))} {i : Nat} {r : List (Option Int)}, GrA H qs rows → rows[i]? = some r → ∃ q, qs[i]? = some q ∧ H q = some (.lst (r.map ov))
  | q :: qs, r :: rows, 0, _, h, e => by
    cases e
    exact ⟨q, rfl, h.1⟩
  | q :: qs, r :: rows, i + 1, r', h, e => by
    have := GrA.get h.2 (show rows[i]? = some r' by simpa using e)
    simpa using this
  | [], [], _, _, _, e => by simp at e
  | [], _ :: _, _, _, h, _ => h.elim
  | _ :: _, [], _, _, h, _ => h.elim
theorem GrA.app {H : Hp} {l : Addr} {r : List (Option Int)} (hl : H l = some (.lst (r.map ov))) : ∀ {qs : List Addr} {rows : List (List (Option Int))}, GrA H qs rows → GrA H (qs ++ [l]) (rows ++ [r])
  | [], [], _ => ⟨hl, trivial⟩
  | q :: qs, s :: rows, h => ⟨h.1, GrA.app hl h.2⟩
  | [], _ :: _, h => h.elim
  | _ :: _, [], h => h.elim
theorem GrA.out {H : Hp} {p : Addr} {o : HO} : ∀ {qs : List Addr} {rows : List (List (Option Int))}, p ∉ qs → GrA H qs rows → GrA (upd H p o) qs rows
  | [], [], _, _ => trivial
  | q :: qs, r :: rows, hn, h => ⟨by rw [upd_ne (fun e => hn (by rw [e]; simp))]; exact h.1, GrA.out (fun m => hn (by simp [m])) h.2⟩
  | [], _ :: _, _, h => h.elim
  | _ :: _, [], _, h => h.elim
theorem GrA.set {H : Hp} {r' : List (Option Int)} : ∀ {qs : List Addr} {rows : List (List (Option Int))} {i : Nat} {q : Addr}, qs.Nodup → GrA H qs rows → qs[i]? = some q → GrA (upd H q (.lst (r'.map ov))) qs (rows.set i r')
  | p :: qs, r :: rows, 0, _, nd, h, e => by
    cases e
    rw [List.nodup_cons] at nd
    exact ⟨upd_same, GrA.out nd.1 h.2⟩
  | p :: qs, r :: rows, i + 1, q, nd, h, e => by
    rw [List.nodup_cons] at nd
    have e : qs[i]? = some q := by simpa using e
    refine ⟨?_, GrA.set nd.2 h.2 e⟩
    rw [upd_ne (fun z => nd.1 (by rw [z]; exact List.mem_of_getElem? e))]
    exact h.1
  | [], [], _, _, _, _, e => by simp at e
  | [], _ :: _, _, _, _, h, _ => h.elim
  | _ :: _, [], _, _, _, h, _ => h.elim
/-- an expression that makes a state -/
def EN (te : TE) (ρ : Pu.Env) (Q : Stt → Pu.Env → Prop) : Prop := ∀ B ad σ F H, WA B ad ρ σ F H → ∀ Z : VK,
  (∀ S s as ρ1 F1 H1 F' H', Q S ρ1 → Post B ad σ ρ F H ρ1 F1 H1 → Gr Non F1 H1 F' H' → StAt H' S s as → (∀ a ∈ as, F' a = none ∧ H1 a = none) → Z (.ref s) H') → te σ H Z
section
variable {ρ : Pu.Env} {P : Po} {te tb tc : TE} {t : TS} {K : PySem.W.Frag}
theorem WA.setVal2 {B : Base} {ad : Nat → List Addr} {ρ : Pu.Env} {σ : St} {F H : Hp} (w : WA B ad ρ σ F H) (i : Nat) {d : D} {v : V} (r : Rp F v d) : WA B (fun k => if k = i then [] else ad k) (ρ.set i (.val d)) (σ.set i (some v)) F H := by
  refine ⟨w.gr, by rw [List.length_set, List.length_set]; exact w.len, fun j s e => ?_, fun j p m => ?_, fun j1 j2 q m1 m2 => ?_, fun j e => ?_, w.pin.to fun S e => by
    rcases get_set e with ⟨_, q⟩ | ⟨hj, e⟩
    · cases q
    · exact ⟨⟨S, e⟩, List.getElem?_set_ne (Ne.symm hj), if_neg hj⟩⟩
  · rcases get_set e with ⟨rfl, rfl⟩ | ⟨hj, e'⟩
    · have hi : j < σ.length := by
        have := (List.getElem?_eq_some_iff.mp e).1
        rw [List.length_set] at this
        rw [w.len]; exact this
      exact ⟨if_pos rfl, v, List.getElem?_set_self hi, r⟩
    · rw [if_neg hj, List.getElem?_set_ne (Ne.symm hj)]
      exact w.sl j s e'
  · by_cases hj : j = i
    · simp [hj] at m
    · simp only [if_neg hj] at m
      exact w.fz j p m
  · by_cases h1 : j1 = i
    · simp [h1] at m1
    · by_cases h2 : j2 = i
      · simp [h2] at m2
      · simp only [if_neg h1] at m1
        simp only [if_neg h2] at m2
        exact w.dj j1 j2 q m1 m2
  · show (if j = i then [] else ad j) = []
    by_cases hj : j = i
    · rw [if_pos hj]
    · rw [if_neg hj]
      exact w.out j (get_set' e)
theorem WA.setOwn2 {B : Base} {ad : Nat → List Addr} {ρ : Pu.Env} {σ : St} {F H : Hp} (w : WA B ad ρ σ F H) (i : Nat) {ds : List D} {p : Addr} {vs : List V} (hF : F p = none) (h0 : B.H0 p = none) (hn : ∀ i, p ∉ ad i) (hp : H p = some (.lst vs)) (r : RpA F vs ds) :
    WA B (fun k => if k = i then (if i < ρ.length then [p] else []) else ad k) (ρ.set i (.own ds)) (σ.set i (some (.ref p))) F H := by
  refine ⟨w.gr, by rw [List.length_set, List.length_set]; exact w.len, fun j s e => ?_, fun j q m => ?_, fun j1 j2 q m1 m2 => ?_, fun j e => ?_, w.pin.to fun S e => by
    rcases get_set e with ⟨_, q⟩ | ⟨hj, e⟩
    · cases q
    · exact ⟨⟨S, e⟩, List.getElem?_set_ne (Ne.symm hj), if_neg hj⟩⟩
  · rcases get_set e with ⟨rfl, rfl⟩ | ⟨hj, e'⟩
    · have hi : j < ρ.length := by
        have := (List.getElem?_eq_some_iff.mp e).1
        rwa [List.length_set] at this
      exact ⟨p, vs, by rw [if_pos rfl, if_pos hi], h0, List.getElem?_set_self (by rw [w.len]; exact hi), hp, r⟩
    · rw [if_neg hj, List.getElem?_set_ne (Ne.symm hj)]
      exact w.sl j s e'
  · by_cases hj : j = i
    · simp only [if_pos hj] at m
      by_cases hi : i < ρ.length
      · simp only [if_pos hi, List.mem_singleton] at m
        subst m
        exact ⟨hF, .inl h0⟩
      · simp [if_neg hi] at m
    · simp only [if_neg hj] at m
      exact w.fz j q m
  · have g : ∀ j, q ∈ (if j = i then (if i < ρ.length then [p] else []) else ad j) → (j = i ∧ q = p) ∨ (j ≠ i ∧ q ∈ ad j) := fun j m => by
      by_cases hj : j = i
      · simp only [if_pos hj] at m
        by_cases hi : i < ρ.length
        · simp only [if_pos hi, List.mem_singleton] at m
          exact .inl ⟨hj, m⟩
        · simp [if_neg hi] at m
      · simp only [if_neg hj] at m
        exact .inr ⟨hj, m⟩
    rcases g j1 m1 with ⟨a1, b1⟩ | ⟨a1, b1⟩ <;> rcases g j2 m2 with ⟨a2, b2⟩ | ⟨a2, b2⟩
    · rw [a1, a2]
    · exact absurd (b1 ▸ b2) (hn j2)
    · exact absurd (b2 ▸ b1) (hn j1)
    · exact w.dj j1 j2 q b1 b2
  · show (if j = i then (if i < ρ.length then [p] else []) else ad j) = []
    have e' := get_set' e
    by_cases hj : j = i
    · subst hj
      rw [if_pos rfl, if_neg (by rw [List.getElem?_eq_none_iff] at e'; omega)]
    · rw [if_neg hj]
      exact w.out j e'
theorem WA.setSt2 {B : Base} {ad : Nat → List Addr} {ρ : Pu.Env} {σ : St} {F H : Hp} {S : Stt} {s : Addr} {as : List Addr} (w : WA B ad ρ σ F H) (i : Nat) (h00 : i ≠ 0) (st : StAt H S s as) (hF : ∀ a ∈ as, F a = none) (nw : ∀ a ∈ as, B.H0 a = none ∧ ∀ j, a ∉ ad j) :
    WA B (fun k => if k = i then (if i < ρ.length then as else []) else ad k) (ρ.set i (.st S)) (σ.set i (some (.ref s))) F H := by
  refine ⟨w.gr, by rw [List.length_set, List.length_set]; exact w.len, fun j sl e => ?_, fun j q m => ?_, fun j1 j2 q m1 m2 => ?_, fun j e => ?_, w.pin.to fun S2 e => by
    rcases get_set e with ⟨e0, _⟩ | ⟨hj, e⟩
    · exact absurd e0.symm h00
    · exact ⟨⟨S2, e⟩, List.getElem?_set_ne (Ne.symm hj), if_neg hj⟩⟩
  · rcases get_set e with ⟨rfl, rfl⟩ | ⟨hj, e'⟩
    · have hi : j < ρ.length := by
        have := (List.getElem?_eq_some_iff.mp e).1
        rwa [List.length_set] at this
      exact ⟨s, List.getElem?_set_self (by rw [w.len]; exact hi), by rw [if_pos rfl, if_pos hi]; exact st⟩
    · rw [if_neg hj, List.getElem?_set_ne (Ne.symm hj)]
      exact w.sl j sl e'
  · by_cases hj : j = i
    · simp only [if_pos hj] at m
      by_cases hi : i < ρ.length
      · simp only [if_pos hi] at m
        exact ⟨hF q m, .inl (nw q m).1⟩
      · simp [if_neg hi] at m
    · simp only [if_neg hj] at m
      exact w.fz j q m
  · have g : ∀ j, q ∈ (if j = i then (if i < ρ.length then as else []) else ad j) → (j = i ∧ q ∈ as) ∨ (j ≠ i ∧ q ∈ ad j) := fun j m => by
      by_cases hj : j = i
      · simp only [if_pos hj] at m
        by_cases hi : i < ρ.length
        · simp only [if_pos hi] at m
          exact .inl ⟨hj, m⟩
        · simp [if_neg hi] at m
      · simp only [if_neg hj] at m
        exact .inr ⟨hj, m⟩
    rcases g j1 m1 with ⟨a1, b1⟩ | ⟨a1, b1⟩ <;> rcases g j2 m2 with ⟨a2, b2⟩ | ⟨a2, b2⟩
    · rw [a1, a2]
    · exact absurd b2 ((nw q b1).2 j2)
    · exact absurd b1 ((nw q b2).2 j1)
    · exact w.dj j1 j2 q b1 b2
  · show (if j = i then (if i < ρ.length then as else []) else ad j) = []
    have e' := get_set' e
    by_cases hj : j = i
    · subst hj
      rw [if_pos rfl, if_neg (by rw [List.getElem?_eq_none_iff] at e'; omega)]
    · rw [if_neg hj]
      exact w.out j e'
theorem sx_asgE {i : Nat} (h00 : i ≠ 0) (h : EN te ρ fun S ρ1 => NX P (ρ1.set i (.st S))) : SX (tAsg te (gName i)) ρ P := fun B σ F H w Dn n r b c => by
  obtain ⟨ad, w⟩ := w
  refine h B ad σ F H w _ fun S s as ρ1 F1 H1 F' H' q p g st fn => ?_
  obtain ⟨ρ2, l, q⟩ := q
  exact n ρ2 _ F' H' q (W.weak ⟨_, (p.wa.grow g).setSt2 i h00 st (fun a m => (fn a m).1) fun a m => (p.wa.newp (fn a m).2).2⟩ l)
theorem wipe_twice (σ : St) (vs : List Nat) : wipe (wipe σ vs) vs = wipe σ vs := by
  apply List.ext_getElem?
  intro j
  rw [wipe_get, wipe_get, wipe_length]
  split
  · rfl
  · first | rfl | rw [wipe_get, if_neg (by assumption)]
/-- [list(x) for x in ..]: the lists that it makes are a state -/
theorem en_grid {r : Nat} {Q : Stt → Pu.Env → Prop} (h : EX te ρ fun d ρ1 => ∃ rows, d = .list (rows.map rowD) ∧ rows.length < 1000000 ∧ r < ρ1.length ∧ Q (.grd rows) ρ1) :
    EN (tLc (iList K te) (gName r) tYes (tCB (rList K) (tCons (tVar r) tNil)) [r]) ρ Q := fun B ad σ F H w Z z => by
  have hi : EI (iList K te) ρ fun ds ρ1 => ∃ rows : List (List (Option Int)), ds = rows.map rowD ∧ rows.length < 1000000 ∧ r < ρ1.length ∧ Q (.grd rows) ρ1 := ei_list (h.imp fun d ρ1 e => by
    obtain ⟨rows, e, k⟩ := e
    exact ⟨_, e, rows, rfl, k⟩)
  refine hi B ad σ F H w _ fun ds ρ1 J F1 H1 q1 p1 it => ?_
  obtain ⟨rows, rfl, hz, hr, q⟩ := q1
  intro Dl hD
  have hrs : r < σ.length := by rw [p1.wa.len]; exact hr
  have nF1 : F1 Dl = none := (p1.wa.newp hD).1
  let Inv := fun (k : Nat) (H' : Hp) => ∃ qs F', Gr Non F1 H1 F' H' ∧ (Dl :: qs).Nodup ∧ (∀ a ∈ Dl :: qs, F' a = none ∧ H1 a = none) ∧ H' Dl = some (.lst (qs.map V.ref)) ∧ GrA H' qs (rows.take k) ∧ qs.length = k
  refine ⟨fun i m H' => m = (rows.map rowD).length - i ∧ i ≤ (rows.map rowD).length ∧ Inv i H', ⟨_, rfl, Nat.zero_le _, [], F1, Gr.heap p1.wa.gr.fh (same_upd hD), by simp, fun a ha => ?_, upd_same, trivial, rfl⟩, ?_⟩
  · have e : a = Dl := by simpa using ha
    rw [e]
    exact ⟨nF1, hD⟩
  rintro i m H' ⟨rfl, hi, qs, F', g, nd, fn, hl, hg, ql⟩
  by_cases hlt : i < (rows.map rowD).length
  · refine .inr ⟨it.go i H' (g.ff.trans g.fh) hlt, fun H2 => Inv (i + 1) H2, fun H2 k => ⟨(rows.map rowD).length - (i + 1), by omega, rfl, hlt, k⟩, fun x H2 y => ?_⟩
    obtain ⟨d, F2, e, gr, rx⟩ := it.yld i H' x H2 F' g.ff g.fh y hlt
    rw [List.getElem?_map] at e
    obtain ⟨row, ex, rfl⟩ : ∃ row, rows[i]? = some row ∧ rowD row = d := by
      cases hx : rows[i]? with
      | none => rw [hx] at e; cases e
      | some a => rw [hx] at e; exact ⟨a, rfl, Option.some.inj e⟩
    obtain ⟨p, xs, rfl, h1, h2⟩ := rx.lst_inv
    have hxs := ovs_inv h2
    subst hxs
    have g2 : Gr Non F1 H1 F2 H2 := g.trans gr (fun _ _ z => z) fun _ _ z => z
    have alive : ∀ a ∈ Dl :: qs, H' a ≠ none := fun a ha => by
      rcases List.mem_cons.mp ha with rfl | ha
      · rw [hl]; intro z; cases z
      · exact hg.mem a ha
    have hl2 : H2 Dl = some (.lst (qs.map V.ref)) := gr.kp _ _ hl id
    have hg2 : GrA H2 qs (rows.take i) := hg.keep fun a _ o e => gr.kp a o e id
    refine ⟨?_, ?_⟩
    · rw [wipe_set (by simp), wipe_twice]
    show tCB (rList K) (tCons (tVar r) tNil) _ H2 _
    refine ⟨_, List.getElem?_set_self (by rw [wipe_length]; exact hrs), p, row.map ov, rfl, .inl (sqL_rd h1 gr.fh), fun l hl0 => ?_⟩
    have ne : l ≠ Dl := fun z => by rw [z, hl2] at hl0; cases hl0
    have lout : ∀ a ∈ Dl :: qs, a ≠ l := fun a ha z => gr.al a (alive a ha) (by rw [z]; exact hl0)
    have F2l : F2 l = none := by
      cases q : F2 l with
      | none => rfl
      | some o => rw [g2.fh l o q] at hl0; cases hl0
    have H1l : H1 l = none := by
      cases q : H1 l with
      | none => rfl
      | some o => exact absurd hl0 (g2.al l (by rw [q]; intro z; cases z))
    have F2D : ∀ a ∈ Dl :: qs, F2 a = none := fun a ha => gr.fr a (alive a ha) (fn a ha).1
    refine ⟨qs.map V.ref, by rw [upd_ne (Ne.symm ne)]; exact hl2, ?_, ?_⟩
    · rw [List.length_map, ql]
      have : i < rows.length := by rw [List.length_map] at hlt; exact hlt
      exact Nat.lt_trans (Nat.lt_trans this hz) (by decide)
    show Inv (i + 1) _
    have nf : ∀ a o, F2 a = some o → a ≠ l ∧ a ≠ Dl := fun a o e => ⟨(fun z => by rw [z, F2l] at e; cases e), (fun z => by rw [z, F2D Dl (by simp)] at e; cases e)⟩
    have n1 : ∀ a, H1 a ≠ none → a ≠ l ∧ a ≠ Dl := fun a e => ⟨fun z => e (by rw [z]; exact H1l), fun z => e (by rw [z]; exact hD)⟩
    refine ⟨qs ++ [l], F2, ⟨g2.ff, fun a o e => ?_, fun a o e m => ?_, fun a e => ?_, g2.fr⟩, ?_, ?_, ?_, ?_, by simp [ql]⟩
    · rw [upd_ne (nf a o e).2, upd_ne (nf a o e).1]
      exact g2.fh a o e
    · have na := n1 a (by rw [e]; intro z; cases z)
      rw [upd_ne na.2, upd_ne na.1]
      exact g2.kp a o e m
    · have na := n1 a e
      rw [upd_ne na.2, upd_ne na.1]
      exact g2.al a e
    · rw [List.nodup_cons] at nd ⊢
      refine ⟨fun m => ?_, ?_⟩
      · rcases List.mem_append.mp m with m | m
        · exact nd.1 m
        · exact ne (List.mem_singleton.mp m).symm
      · refine List.nodup_append.mpr ⟨nd.2, by simp, fun a ha b hb e => ?_⟩
        rw [List.mem_singleton.mp hb] at e
        exact lout a (by simp [ha]) e
    · intro a ha
      rcases List.mem_cons.mp ha with rfl | ha
      · exact ⟨F2D _ (by simp), hD⟩
      · rcases List.mem_append.mp ha with ha | ha
        · exact ⟨F2D a (by simp [ha]), (fn a (by simp [ha])).2⟩
        · rw [List.mem_singleton.mp ha]; exact ⟨F2l, H1l⟩
    · rw [upd_same, List.map_append]; rfl
    · rw [take_snoc' ex]
      refine GrA.out (fun m => ?_) (GrA.app upd_same (GrA.out (fun m => lout l (by simp [m]) rfl) hg2))
      rcases List.mem_append.mp m with m | m
      · exact (List.nodup_cons.mp nd).1 m
      · exact ne (List.mem_singleton.mp m).symm
  · have e : i = rows.length := by rw [List.length_map] at hlt hi; omega
    subst e
    rw [List.take_length] at hg
    exact .inl ⟨it.stop _ H' (g.ff.trans g.fh) (by rw [List.length_map]; exact Nat.le_refl _), z (.grd rows) Dl (Dl :: qs) ρ1 F1 H1 F' H' q p1 g ⟨qs, rfl, nd, hl, hg⟩ fn⟩
/-- x[a][b] of such a state -/
theorem ex_grd {i : Nat} {rows0 : List (List (Option Int))} {Q : D → Pu.Env → Prop} (h : ρ[i]? = some (.st (.grd rows0))) (k : EX tb ρ fun d ρ1 => ∃ a m rows1 r1, d = .int a ∧ ρ1[i]? = some (.st (.grd rows1)) ∧ ixN rows1.length a = some m ∧ rows1[m]? = some r1 ∧
    EX tc ρ1 fun e ρ2 => ∃ b rows r x, e = .int b ∧ ρ2[i]? = some (.st (.grd rows)) ∧ rows[m]? = some r ∧ atI r b = some x ∧ Q (optD x) ρ2) : EX (tOp (rIxA K) (tOp (rIxA K) (tVar i) tb) tc) ρ Q := fun B ad σ F H w Z z => by
  obtain ⟨s, k0, qs0, has0, _, _, _⟩ := w.sl i _ h
  refine ⟨_, k0, k B ad σ F H w _ fun d ρ1 y F1 H1 q1 p1 ry => ?_⟩
  obtain ⟨a, m, rows1, r1, rfl, h1, hm, hr1, q1⟩ := q1
  obtain ⟨s1, k1, qs1, has1, nd1, hs1, hg1⟩ := p1.wa.sl i _ h1
  rw [k0] at k1
  cases k1
  obtain ⟨q, hq, _⟩ := hg1.get hr1
  have hat : atI (qs1.map V.ref) a = some (V.ref q) := by
    unfold atI
    rw [List.length_map, hg1.len, hm]
    show (qs1.map V.ref)[m]? = _
    rw [List.getElem?_map, hq]
    rfl
  refine .inl ⟨s, qs1.map V.ref, a, .ref q, rfl, ry.int_inv, .inl (.inl hs1), hat, ?_⟩
  refine q1 B ad σ F1 H1 p1.wa _ fun e ρ2 u F2 H2 q2 p2 ru => ?_
  obtain ⟨b, rows, r, x, rfl, h2, hr, hx, q2⟩ := q2
  obtain ⟨s2, k2, qs2, has2, nd2, hs2, hg2⟩ := p2.wa.sl i _ h2
  rw [k0] at k2
  cases k2
  have eq : qs2 = qs1 := by
    have := has2.symm.trans has1
    simpa using this
  subst eq
  obtain ⟨q', hq', hH⟩ := hg2.get hr
  rw [hq] at hq'
  cases hq'
  have hx' : atI (r.map ov) b = some (ov x) := by
    unfold atI at hx ⊢
    rw [List.length_map]
    cases e : ixN r.length b with
    | none => rw [e] at hx; cases hx
    | some j =>
      rw [e] at hx
      show (r.map ov)[j]? = _
      rw [List.getElem?_map, show r[j]? = some x from hx]
      rfl
  exact .inl ⟨q, r.map ov, b, ov x, rfl, ru.int_inv, .inl (.inl hH), hx', z _ ρ2 _ F2 H2 q2 (p1.trans p2) (rp_ov F2 x)⟩
theorem ex_lenG {i : Nat} {rows : List (List (Option Int))} {Q : D → Pu.Env → Prop} (h : ρ[i]? = some (.st (.grd rows))) (q : Q (.int (rows.length : Int)) ρ) : EX (tCB (rLen K) (tCons (tVar i) tNil)) ρ Q := fun B ad σ F H w Z z => by
  obtain ⟨s, k0, qs, _, _, hs, hg⟩ := w.sl i _ h
  exact ⟨_, k0, _, rows.length, rfl, .inl ⟨qs.map V.ref, .inl (.inl hs), by rw [List.length_map, hg.len]⟩, z _ ρ _ F H q (Post.refl w) (.int _)⟩
theorem ex_lenG1 {i : Nat} {rows0 : List (List (Option Int))} {Q : D → Pu.Env → Prop} (h : ρ[i]? = some (.st (.grd rows0))) (k : EX tb ρ fun d ρ1 => ∃ a m rows r, d = .int a ∧ ρ1[i]? = some (.st (.grd rows)) ∧ ixN rows.length a = some m ∧ rows[m]? = some r ∧ Q (.int (r.length : Int)) ρ1) :
    EX (tCB (rLen K) (tCons (tOp (rIxA K) (tVar i) tb) tNil)) ρ Q := fun B ad σ F H w Z z => by
  obtain ⟨s, k0, qs0, has0, _, _, _⟩ := w.sl i _ h
  refine ⟨_, k0, k B ad σ F H w _ fun d ρ1 y F1 H1 q1 p1 ry => ?_⟩
  obtain ⟨a, m, rows1, r1, rfl, h1, hm, hr1, q1⟩ := q1
  obtain ⟨s1, k1, qs1, has1, nd1, hs1, hg1⟩ := p1.wa.sl i _ h1
  rw [k0] at k1
  cases k1
  obtain ⟨q, hq, hH⟩ := hg1.get hr1
  have hat : atI (qs1.map V.ref) a = some (V.ref q) := by
    unfold atI
    rw [List.length_map, hg1.len, hm]
    show (qs1.map V.ref)[m]? = _
    rw [List.getElem?_map, hq]
    rfl
  refine .inl ⟨s, qs1.map V.ref, a, .ref q, rfl, ry.int_inv, .inl (.inl hs1), hat, ?_⟩
  exact ⟨_, r1.length, rfl, .inl ⟨r1.map ov, .inl (.inl hH), by rw [List.length_map]⟩, z _ ρ1 _ F1 H1 q1 p1 (.int _)⟩
/-- x[a][b] = e -/
theorem sx_setG {i : Nat} (h : EX te ρ fun d ρ1 => ∃ x rows1, d = optD x ∧ ρ1[i]? = some (.st (.grd rows1)) ∧ EX tb ρ1 fun a' ρ2 => ∃ a m rows2 r2, a' = .int a ∧ ρ2[i]? = some (.st (.grd rows2)) ∧ ixN rows2.length a = some m ∧ rows2[m]? = some r2 ∧
    EX tc ρ2 fun b' ρ3 => ∃ b j rows r, b' = .int b ∧ ρ3[i]? = some (.st (.grd rows)) ∧ rows[m]? = some r ∧ ixN r.length b = some j ∧ NX P (ρ3.set i (.st (.grd (rows.set m (r.set j x)))))) :
    SX (tAsg te (gSub (tOp (rIxA K) (tVar i) tb) tc rSetL)) ρ P := fun B σ F H w Dn n rt bk ct => by
  obtain ⟨ad, w⟩ := w
  refine h B ad σ F H w _ fun d ρ1 v F1 H1 q1 p1 rv => ?_
  obtain ⟨x, rows1, rfl, h1, q1⟩ := q1
  have ev := ov_inv rv
  obtain ⟨s, k0, qs0, has0, _, _, _⟩ := p1.wa.sl i _ h1
  refine ⟨_, k0, q1 B ad σ F1 H1 p1.wa _ fun a' ρ2 y F2 H2 q2 p2 ry => ?_⟩
  obtain ⟨a, m, rows2, r2, rfl, h2, hm, hr2, q2⟩ := q2
  obtain ⟨s1, k1, qs1, has1, nd1, hs1, hg1⟩ := p2.wa.sl i _ h2
  rw [k0] at k1
  cases k1
  obtain ⟨q, hq, _⟩ := hg1.get hr2
  have hat : atI (qs1.map V.ref) a = some (V.ref q) := by
    unfold atI
    rw [List.length_map, hg1.len, hm]
    show (qs1.map V.ref)[m]? = _
    rw [List.getElem?_map, hq]
    rfl
  refine .inl ⟨s, qs1.map V.ref, a, .ref q, rfl, ry.int_inv, .inl (.inl hs1), hat, ?_⟩
  refine q2 B ad σ F2 H2 p2.wa _ fun b' ρ3 u F3 H3 q3 p3 ru => ?_
  obtain ⟨b, j, rows, r, rfl, h3, hr, hj, ρ', l, q3⟩ := q3
  have st3 := p3.wa.sl i _ h3
  obtain ⟨s2, k2, qs2, has2, nd2, hs2, hg2⟩ := st3
  rw [k0] at k2
  cases k2
  have eq : qs2 = qs1 := by
    have := has2.symm.trans has1
    simpa using this
  subst eq
  obtain ⟨q', hq', hH⟩ := hg2.get hr
  rw [hq] at hq'
  cases hq'
  have hqm : q ∈ qs2 := List.mem_of_getElem? hq
  have hqa : q ∈ ad i := by rw [has2]; simp [hqm]
  have hFq : F3 q = none := (p3.wa.fz i q hqa).1
  have hsq : s ≠ q := fun e => (List.nodup_cons.mp nd2).1 (by rw [e]; exact hqm)
  refine ⟨q, r.map ov, b, j, rfl, ru.int_inv, hH, by rw [List.length_map]; exact hj, ?_⟩
  have eset : (r.map ov).set j v = (r.set j x).map ov := by rw [ev, List.map_set]
  rw [eset]
  have g : Gr (· ∈ ad i) F3 H3 F3 (upd H3 q (.lst ((r.set j x).map ov))) := ⟨Same.refl F3, fun a o e => by
      rw [upd_ne (fun z => by rw [z, hFq] at e; cases e)]
      exact p3.wa.gr.fh a o e, fun a o e mm => by
      rw [upd_ne (fun z => mm (by rw [z]; exact hqa))]
      exact e, fun a e => by
      by_cases ha : a = q
      · rw [ha, upd_same]; intro z; cases z
      · rw [upd_ne ha]; exact e, fun _ _ z => z⟩
  refine n ρ' σ F3 _ q3 (W.weak ⟨ad, p3.wa.stp (S' := .grd (rows.set m (r.set j x))) h3 k0 g ⟨qs2, has2, nd2, ?_, ?_⟩ fun a ha => (p3.wa.fz i a ha).1⟩ l)
  · rw [upd_ne hsq]; exact hs2
  · exact GrA.set (List.nodup_cons.mp nd2).2 hg2 hq
/-- the lists are data from now on -/
theorem rpa_grd {F : Hp} : ∀ {qs : List Addr} {rows : List (List (Option Int))}, GrA F qs rows → RpA F (qs.map V.ref) (rows.map rowD)
  | [], [], _ => .nil
  | q :: qs, r :: rows, h => .cons (.lst (.inl h.1) (rpa_ov F r)) (rpa_grd h.2)
  | [], _ :: _, h => h.elim
  | _ :: _, [], h => h.elim
theorem sx_frzG (i : Nat) (h00 : i ≠ 0) {rows : List (List (Option Int))} (h : ρ[i]? = some (.st (.grd rows))) (k : SX t (ρ.set i (.val (.list (rows.map rowD)))) P) : SX t ρ P := fun B σ F H w => by
  obtain ⟨ad, w⟩ := w
  obtain ⟨s, k0, qs, has, nd, hs, hg⟩ := w.sl i _ h
  have hn : ∀ p ∈ ad i, B.H0 p = none := fun p m => by
    rcases (w.fz i p m).2 with q | q
    · exact q
    · exact absurd q.2 h00
  have up : Same F (fun a => if a ∈ ad i then H a else F a) := fun a o e => by
    have : a ∉ ad i := fun m => by rw [(w.fz i a m).1] at e; cases e
    show (if a ∈ ad i then H a else F a) = some o
    rw [if_neg this]; exact e
  have at1 : ∀ a ∈ ad i, (if a ∈ ad i then H a else F a) = H a := fun a m => if_pos m
  refine k B σ (fun a => if a ∈ ad i then H a else F a) H ⟨fun j => if j = i then [] else ad j, ⟨w.gr.ff.trans up, fun a o e => ?_, w.gr.kp, w.gr.al, fun a e z => ?_⟩, by rw [List.length_set]; exact w.len, fun j sl e => ?_, fun j q m => ?_, fun j1 j2 q m1 m2 => ?_, fun j e => ?_, w.pin.to fun S2 e => by
    rcases get_set e with ⟨e0, _⟩ | ⟨hj, e⟩
    · exact absurd e0.symm h00
    · exact ⟨⟨S2, e⟩, rfl, if_neg hj⟩⟩
  · have e : (if a ∈ ad i then H a else F a) = some o := e
    by_cases m : a ∈ ad i
    · rw [at1 a m] at e; exact e
    · skip
      rw [if_neg m] at e; exact w.gr.fh a o e
  · have m : a ∉ ad i := fun m => e (hn a m)
    show (if a ∈ ad i then H a else F a) = none
    rw [if_neg m]
    exact w.gr.fr a e z
  · rcases get_set e with ⟨rfl, rfl⟩ | ⟨hj, e⟩
    · refine ⟨if_pos rfl, .ref s, k0, .lst (xs := qs.map V.ref) (.inl ?_) (rpa_grd (hg.keep fun q hq o e => ?_))⟩
      · exact (at1 s (by rw [has]; simp)).trans hs
      · exact (at1 q (by rw [has]; simp [hq])).trans e
    · rw [if_neg hj]
      have k := w.sl j sl e
      cases sl with
      | emp => exact k
      | val d =>
        obtain ⟨k, v, e, r⟩ := k
        exact ⟨k, v, e, r.up up⟩
      | own es =>
        obtain ⟨q, ws, a1, a2, a3, a4, a5⟩ := k
        exact ⟨q, ws, a1, a2, a3, a4, a5.up up⟩
      | st S2 => exact k
  · by_cases hj : j = i
    · simp only [if_pos hj] at m; cases m
    · simp only [if_neg hj] at m
      have : q ∉ ad i := fun m' => hj (w.dj j i q m m')
      refine ⟨?_, (w.fz j q m).2⟩
      show (if q ∈ ad i then H q else F q) = none
      rw [if_neg this]
      exact (w.fz j q m).1
  · by_cases h1 : j1 = i
    · simp only [if_pos h1] at m1; cases m1
    · by_cases h2 : j2 = i
      · simp only [if_pos h2] at m2; cases m2
      · simp only [if_neg h1] at m1
        simp only [if_neg h2] at m2
        exact w.dj j1 j2 q m1 m2
  · show (if j = i then [] else ad j) = []
    by_cases hj : j = i
    · rw [if_pos hj]
    · rw [if_neg hj]; exact w.out j (get_set' e)
/-- a, b, c = (an own list), (data), (a state): a tuple that nobody keeps -/
theorem sx_parOVN {K : PySem.W.Frag} {a b c : Nat} {te1 te2 te3 : TE} (h00 : c ≠ 0) (h : EO te1 ρ fun ds1 ρ1 => EX te2 ρ1 fun d2 ρ2 => EN te3 ρ2 fun S ρ3 => NX P (((ρ3.set a (.own ds1)).set b (.val d2)).set c (.st S))) :
    SX (tAsg (tTup (tCons te1 (tCons te2 (tCons te3 tNil)))) (gTup K 3 (gCons (gName a) (gCons (gName b) (gCons (gName c) gNil))))) ρ P := fun B σ F H w Dn n r bk ct => by
  obtain ⟨ad, w⟩ := w
  refine h B ad σ F H w _ fun ds1 ρ1 p1 vs1 F1 H1 q1 P1 hF1 hH1 hp1 rv1 => ?_
  refine q1 B ad σ F1 H1 P1.wa _ fun d2 ρ2 v2 F2 H2 q2 P2 rv2 => ?_
  refine q2 B ad σ F2 H2 P2.wa _ fun S s as ρ3 F4 H4 F3 H3 q3 P4 g st fn => ?_
  obtain ⟨ρ', l, q⟩ := q3
  refine ⟨by show 3 ≤ sizeLine; decide, fun T hT => ?_⟩
  have P3 := P4.trans (Post.of P4.wa g)
  have n1 := w.newp hH1
  have nms : ∀ (ρ2 : Pu.Env), ¬ MS ad ρ2 p1 := fun ρ2 ⟨j, S, _, m⟩ => n1.2.2 j m
  have hp2 : H2 p1 = some (.lst vs1) := P2.gr.kp p1 _ hp1 (nms _)
  have hp4 : H4 p1 = some (.lst vs1) := P4.gr.kp p1 _ hp2 (nms _)
  have hp1' : H3 p1 = some (.lst vs1) := P3.gr.kp p1 _ hp2 (nms _)
  have hF1' : F3 p1 = none := P3.gr.fr p1 (by rw [hp2]; intro z; cases z) (P2.gr.fr p1 (by rw [hp1]; intro z; cases z) hF1)
  have nT := P3.wa.newp hT
  have ne1 : p1 ≠ T := fun e => by rw [e, hT] at hp1'; cases hp1'
  have nas : ∀ x ∈ as, x ≠ T := fun x hx e => (st.mem.2 x hx) (by rw [e]; exact hT)
  have nap : ∀ x ∈ as, x ≠ p1 := fun x hx e => by have := (fn x hx).2; rw [e, hp4] at this; cases this
  have w4 := P3.wa.updD (o := .tup [.ref p1, v2, .ref s]) nT.2.1 nT.2.2 nT.1
  have w5 := w4.setOwn2 a hF1' n1.2.1 n1.2.2 (by rw [upd_ne ne1]; exact hp1') (rv1.up (P2.gr.ff.trans P3.gr.ff))
  have w6 := w5.setVal2 b (rv2.up P3.gr.ff)
  have w7 := w6.setSt2 c (S := S) (s := s) (as := as) h00 (st.keep fun x hx o e => by rw [upd_ne (nas x hx)]; exact e) (fun x hx => (fn x hx).1) fun x hx => ⟨(P4.wa.newp (fn x hx).2).2.1, fun i m => by
    by_cases hb : i = b
    · simp only [if_pos hb] at m; cases m
    · simp only [if_neg hb] at m
      by_cases ha : i = a
      · simp only [if_pos ha] at m
        split at m
        · exact nap x hx (List.mem_singleton.mp m)
        · cases m
      · simp only [if_neg ha] at m
        exact (P4.wa.newp (fn x hx).2).2.2 i m⟩
  refine ⟨T, [.ref p1, v2, .ref s], rfl, .inl (.inl upd_same), rfl, _, _, rfl, _, _, rfl, _, _, rfl, rfl, ?_⟩
  exact n ρ' _ F3 _ q (W.weak ⟨_, w7⟩ l)
/-- a, b, c = (an own list), (data), (a state), plain local names -/
theorem sx_par3N {a b c : Nat} {te1 te2 te3 : TE} (h00 : c ≠ 0) (h : EO te1 ρ fun ds1 ρ1 => EX te2 ρ1 fun d2 ρ2 => EN te3 ρ2 fun S ρ3 => NX P (((ρ3.set a (.own ds1)).set b (.val d2)).set c (.st S))) :
    SX (tPar3 a b c (tCons te1 (tCons te2 (tCons te3 tNil)))) ρ P := fun B σ F H w Dn n r bk ct => by
  obtain ⟨ad, w⟩ := w
  refine h B ad σ F H w _ fun ds1 ρ1 p1 vs1 F1 H1 q1 P1 hF1 hH1 hp1 rv1 => ?_
  refine q1 B ad σ F1 H1 P1.wa _ fun d2 ρ2 v2 F2 H2 q2 P2 rv2 => ?_
  refine q2 B ad σ F2 H2 P2.wa _ fun S s as ρ3 F4 H4 F3 H3 q3 P4 g st fn => ?_
  obtain ⟨ρ', l, q⟩ := q3
  have P3 := P4.trans (Post.of P4.wa g)
  have n1 := w.newp hH1
  have nms : ∀ (ρ2 : Pu.Env), ¬ MS ad ρ2 p1 := fun ρ2 ⟨j, S, _, m⟩ => n1.2.2 j m
  have hp2 : H2 p1 = some (.lst vs1) := P2.gr.kp p1 _ hp1 (nms _)
  have hp4 : H4 p1 = some (.lst vs1) := P4.gr.kp p1 _ hp2 (nms _)
  have hp1' : H3 p1 = some (.lst vs1) := P3.gr.kp p1 _ hp2 (nms _)
  have hF1' : F3 p1 = none := P3.gr.fr p1 (by rw [hp2]; intro z; cases z) (P2.gr.fr p1 (by rw [hp1]; intro z; cases z) hF1)
  have nap : ∀ x ∈ as, x ≠ p1 := fun x hx e => by have := (fn x hx).2; rw [e, hp4] at this; cases this
  have w5 := P3.wa.setOwn2 a hF1' n1.2.1 n1.2.2 hp1' (rv1.up (P2.gr.ff.trans P3.gr.ff))
  have w6 := w5.setVal2 b (rv2.up P3.gr.ff)
  have w7 := w6.setSt2 c (S := S) (s := s) (as := as) h00 st (fun x hx => (fn x hx).1) fun x hx => ⟨(P4.wa.newp (fn x hx).2).2.1, fun i m => by
    by_cases hb : i = b
    · simp only [if_pos hb] at m; cases m
    · simp only [if_neg hb] at m
      by_cases ha : i = a
      · simp only [if_pos ha] at m
        split at m
        · exact nap x hx (List.mem_singleton.mp m)
        · cases m
      · simp only [if_neg ha] at m
        exact (P4.wa.newp (fn x hx).2).2.2 i m⟩
  refine ⟨.ref p1, v2, .ref s, rfl, ?_⟩
  exact n ρ' _ F3 _ q (W.weak ⟨_, w7⟩ l)
theorem eo_if {tt : TT} {ta tb : TE} {Q : List D → Pu.Env → Prop} (h : ET tt ρ fun b ρ1 => (b = true → EO ta ρ1 Q) ∧ (b = false → EO tb ρ1 Q)) : EO (tIf tt ta tb) ρ Q := fun B ad σ F H w Z z =>
  h B ad σ F H w _ fun b ρ1 F1 H1 q1 p1 => by
    have up : ∀ p, H1 p = none → H p = none := fun p h => by
      cases q : H p with
      | none => rfl
      | some o => exact absurd h (p1.gr.al p (by rw [q]; intro z; cases z))
    cases b with
    | true =>
      show ta σ H1 Z
      exact q1.1 rfl B ad σ F1 H1 p1.wa Z fun ds ρ' p vs F' H' q pp a b c r => z ds ρ' p vs F' H' q (p1.trans pp) a (up p b) c r
    | false =>
      show tb σ H1 Z
      exact q1.2 rfl B ad σ F1 H1 p1.wa Z fun ds ρ' p vs F' H' q pp a b c r => z ds ρ' p vs F' H' q (p1.trans pp) a (up p b) c r
end
/-- l, l - 1, .., n of them -/
def dnI (l : Int) (n : Nat) : List Int := (List.range n).map fun k : Nat => l - (k : Int)
theorem dnI_len (l : Int) (n : Nat) : (dnI l n).length = n := by simp [dnI]
theorem dnI_get {l : Int} {n k : Nat} (h : k < n) : (dnI l n)[k]? = some (l - (k : Int)) := by simp [dnI, h]
theorem itd_dn {F : Hp} (l : Int) (n : Nat) : ItD (Itc l (-1) n) F ((dnI l n).map .int) where
  go := fun i H _ h => by rw [List.length_map, dnI_len] at h; exact h
  stop := fun i H _ h => by rw [List.length_map, dnI_len] at h; exact h
  yld := fun i H x H' F1 _ e2 y h => by
    rw [List.length_map, dnI_len] at h
    obtain ⟨rfl, rfl⟩ := y
    refine ⟨.int (l - (i : Int)), F1, by rw [List.getElem?_map, dnI_get h]; rfl, Gr.refl e2, ?_⟩
    have e : l + ((i : Nat) : Int) * (-1) = l - (i : Int) := by omega
    rw [e]
    exact .int _
theorem ei_rngD {ρ : Pu.Env} {t : TA} {Q : List D → Pu.Env → Prop} (h : EA t ρ fun ds ρ1 => ∃ l n, ds = [.int l, .int n, .int (-1)] ∧ (-1000000000000 ≤ l ∧ l ≤ 1000000000000 ∧ -1000000000000 ≤ n ∧ n ≤ 1000000000000) ∧ Q ((dnI l (l - n).toNat).map .int) ρ1) : EI (iRng3 t) ρ Q := fun B ad σ F H w R z =>
  h B ad σ F H w _ fun ds ρ1 vs F1 H1 q p r => by
    obtain ⟨l, n, rfl, ⟨hl1, hl2, hn1, hn2⟩, q⟩ := q
    cases r with
    | cons r1 r =>
      cases r with
      | cons r2 r =>
        cases r with
        | cons r3 r =>
          cases r
          exact ⟨l, n, -1, (l - n).toNat, by rw [r1.int_inv, r2.int_inv, r3.int_inv], RgC.neg (by omega) (by omega) (by omega) (by omega), z _ ρ1 _ F1 H1 q p (itd_dn l _)⟩
end Pu
/-! PuU: set(a list of ints), sorted and len of it; all and any of a list of truth values. -/
namespace Pu
open PySem PySem.Spec PyProof.Rows L2
abbrev newSet (w : World) : Obj := { cls := .type "set", dict := none, data := .set #[] 0 (.fresh 0 0 (!w.params.followText "set-order")) }
section
variable {P : Program} {w : World} {A : Around} {E : Value → Shared → Prop} {s : Shared}
set_option maxHeartbeats 8000000 in
theorem call_set_lstI {l : Addr} {items : Array Value} (ns : List Int) {Q : Value → Shared → Prop} (hh : A.handled = none) (hl : s.heap.IsList l items) (hit : IntsAre items.toList ns) (hb : ns.length + 1 < scanBound)
    (h : ∀ (h' : Heap) (tk c : Nat), SetR w h' s.heap.objs.size (fun j => decide (j ∈ ns)) c → c ≤ ns.length → (∀ b o, s.heap.get? b = some o → h'.get? b = some o) → Q (.ref s.heap.objs.size) { s with heap := h', toks := tk }) :
    wpAny (model P w) A (call (.type "set") [.ref l]) Q E s := by
  have hisz : items.size = ns.length := by
    have q := IntsAre.length hit
    rwa [Array.length_toList] at q
  obtain ⟨c, tl, hmro⟩ := F.called_set.mro
  have hmade := F.called_set.made
  have hsub := F.called_set.sub
  refine wpAny_call (codeAny_of_tree ?_)
  show wpAny _ _ (callAny (.type "set") _) _ _ _
  refine wpAny_pure ⟨Code.quiet_builtin _ (by decide +kernel), codeAny_builtin F.entry_type_call ?_⟩
  rw [Around.under_plain (weight_type_call_type "set" [.ref l] []) rfl]
  have h1 := F.called_set.notType
  have h2 := F.called_set.canCreate
  have hct := F.typeCall_set_1 (.ref l)
  repeat (any_goals (first | assumption | wp_step))

  refine codeAny_mono (code_set_led1 (.ref l) (E := E) (Q₁ := fun obj s₁ => obj = .ref s.heap.objs.size ∧ s₁ = { s with heap := s.heap.push (newSet w) }) ⟨rfl, rfl⟩) fun r s₁ hr => ?_
  cases r with
  | error e => exact hr
  | ok fl =>
    cases fl with
    | ret obj =>
      obtain ⟨rfl, rfl⟩ := hr
      have hS : (s.heap.push (newSet w)).get? s.heap.objs.size = some (newSet w) := Heap.get?_push_size _ rfl
      have hT : Shared.TypeIs { s with heap := s.heap.push (newSet w) } (.ref s.heap.objs.size) "set" := ⟨_, hS, rfl⟩
      have hli := F.called_set.init.lookup
      have hbi := F.called_set.init.bind (.ref s.heap.objs.size)
      repeat (any_goals (first | assumption | wp_step))

      refine codeAny_mono (codeAny_call_builtin (R := wants (fun r s₂ => r = .none ∧ ∃ h' tk c, s₂ = { s with heap := h', toks := tk } ∧ SetR w h' s.heap.objs.size (fun j => decide (j ∈ ns)) c ∧ c ≤ ns.length ∧
          (∀ b o, s.heap.get? b = some o → h'.get? b = some o)) E) F.called_set.init.plain F.entry_set_init (check_set_init_1 hT ?_)) fun r₂ s₂ hr₂ => ?_
      · obtain ⟨ol, hol, hcl, nl, hdl⟩ := hl
        obtain ⟨ocls, odict, odata, oslots⟩ := ol
        simp only at hcl hdl
        subst hcl; subst hdl
        have hol' : (s.heap.push (newSet w)).get? l = some { cls := .type "list", dict := odict, data := .seq items nl, slots := oslots } := Heap.get?_push_of_some _ hol
        have hsls := F.sub_list_set
        have hslf := F.sub_list_frozenset
        have hne : (Value.type "list" == Value.type "dict") = false := by decide
        have hl1 : (s.heap.push (newSet w)).IsList l items := ⟨_, hol', rfl, nl, rfl⟩
        unfold Builtin.«set.__init__» noKeywords Builtin.Frozenset.updateFrom
        generalize hPI : pyIter = PI
        wp_walk
        subst hPI

        refine wpAny_pyIter_list hl1 ?_
        refine wpAny_bind (wpAny_runValue ?_)
        have hlS : l < s.heap.objs.size := Heap.lt_size hol
        have hh3 : A.in1.in1.in1.handled = none := by simp [hh]
        have hneI : l ≠ (s.heap.push (newSet w)).objs.size := by
          rw [Heap.size_push]; exact Nat.ne_of_lt (Nat.lt_succ_of_lt hlS)
        have hSf : s.heap.objs.size ∉ [(s.heap.push (newSet w)).objs.size, l] := by
          rw [Heap.size_push]; simp only [List.mem_cons, List.not_mem_nil, or_false, not_or]
          exact ⟨Nat.ne_of_lt (Nat.lt_succ_self _), Nat.ne_of_gt hlS⟩
        have hval : ∀ (i : Nat) (v : Value), items[i]? = some v → ∃ k t, ns[i]? = some k ∧ v = .int k t := fun i v hv => by
          have hi : i < ns.length := by rw [← hisz]; exact (Array.getElem?_eq_some_iff.mp hv).1
          obtain ⟨t, e⟩ := PyProof.Rows.IntsAre.int_at hit i v (by rw [Array.getElem?_toList]; exact hv)
          refine ⟨ns[i], t, List.getElem?_eq_getElem hi, ?_⟩
          rw [e, List.getD_eq_getElem?_getD, List.getElem?_eq_getElem hi] <;> rfl
        refine set_update_ints ((Walks.list hh3 _ l hneI items).toS) s.heap.objs.size hSf ns hisz hb hval (items.size - 0) 0 _ (by omega) (Nat.zero_le _) ⟨⟨_, Heap.get?_push_size _ rfl, rfl, rfl⟩, (hl1.push _)⟩ ⟨0, Nat.le_refl 0, setR_new_at (Heap.get?_push_of_some _ hS)⟩ ?_
        intro s' c' hm hc' hS'
        obtain ⟨h', g2, d', tk', os'⟩ := s'
        have eg : g2 = s.gens := hm.gens
        have ed : d' = s.drawn := hm.drawn
        have eo : os' = s.os := hm.os
        subst eg; subst ed; subst eo
        show wpAny _ _ _ _ _ _
        refine wpAny_pure ?_
        show wpAny _ _ (ret Value.none) _ _ _
        rw [hisz] at hc'
        refine wpAny_pure ⟨rfl, h', tk', c', rfl, hS', hc', fun b o e => ?_⟩
        have hb0 : b < s.heap.objs.size := Heap.lt_size e
        have hb1 : b ≠ s.heap.objs.size := Nat.ne_of_lt hb0
        have hb2 : b ≠ (s.heap.push (newSet w)).objs.size := by
          rw [Heap.size_push]; exact Nat.ne_of_lt (Nat.lt_succ_of_lt hb0)
        exact hm.heap b o (by simp only [List.mem_cons, List.not_mem_nil, or_false, not_or]; exact ⟨hb1, hb2⟩) (Heap.get?_push_of_some _ (Heap.get?_push_of_some _ e))

      · cases r₂ with
        | error e => exact hr₂
        | ok fl₂ =>
          cases fl₂ with
          | ret r =>
            obtain ⟨rfl, h', tk, c', rfl, hS', hc', hk'⟩ := hr₂
            repeat (any_goals (first | assumption | wp_step))
            exact h _ _ _ hS' hc' hk'
          | _ => exact hr₂.elim
    | _ => exact hr.elim
end
theorem few_in : ∀ (m : Nat) {l : List Int} {lo : Int}, l.Nodup → (∀ x ∈ l, lo ≤ x ∧ x < lo + (m : Int)) → l.length ≤ m
  | 0, l, lo, _, h => by
    cases l with
    | nil => exact Nat.le_refl _
    | cons x l => have := h x (by simp); omega
  | m + 1, l, lo, nd, h => by
    have k := few_in m (l := l.erase (lo + (m : Int))) (lo := lo) (nd.erase _) fun x hx => by
      have q := (List.Nodup.mem_erase_iff nd).mp hx
      have := h x q.2
      have := q.1
      omega
    rw [List.length_erase] at k
    split at k <;> omega
theorem setR_few {w : World} {h : Heap} {a : Addr} {ns : List Int} {c : Nat} (R : SetR w h a (fun j => decide (j ∈ ns)) c) (hc : c ≤ ns.length) (hb : ns.length < 64 ∨ ∃ lo : Int, ∀ x ∈ ns, lo ≤ x ∧ x < lo + 63) : c < 64 := by
  rcases hb with hb | ⟨lo, hb⟩
  · omega
  · obtain ⟨o, es, ep, t, _, _, _, _, nd, hm, _, _, hs, _⟩ := R
    have k := few_in 63 (lo := lo) nd fun x hx => by
      have := (hm x).mpr hx
      rw [decide_eq_true_eq] at this
      exact hb x this
    rw [List.length_map, Array.length_toList] at k
    omega
section
variable {X : Cx}
/-- sorted(set(a list of ints)): a new list -/
def tSS (K : PySem.W.Frag) (te : TE) : TE := fun σ H Q => te σ H fun x H1 => ∃ (a : Addr) (ns : List Int), x = .ref a ∧ SqL K H1 a (ns.map V.int) ∧ (ns.length < 4000 ∧ (ns.length < 64 ∨ ∃ lo : Int, ∀ x ∈ ns, lo ≤ x ∧ x < lo + 63)) ∧
  ∀ (us : List Int) (H2 : Hp) (p : Addr), us.Pairwise (· < ·) → (∀ k, k ∈ us ↔ k ∈ ns) → us.length ≤ ns.length → Same H1 H2 → H2 p = none → Q (.ref p) (upd H2 p (.lst (us.map V.int)))
theorem pe_sortSet {a : Expr} {ta : TE} {p p2 q pos : Pos} (hc : X.calm = true) (hg : Gl X "sorted") (hm : X.mg "sorted" = none) (hg2 : Gl X "set") (hm2 : X.mg "set" = none) (ha : PE X a ta)
    (na : starEach [a] X.env = (false, eval a X.env) :: starEach [] X.env := by rfl) : PE X (.Call (.Name "sorted" p) [.Call (.Name "set" p2) [a] [] q] [] pos) (tSS X.K ta) := by
  refine ⟨fun pins s σ H Q I h => ?_⟩
  refine Call_ (ld_blt I hg hm boot_sorted ?_)
  refine PyProof.Rows.callWith_builtin1 (PyProof.Rows.args_cons ?_ rfl) rfl rfl
  refine Call_ (ld_blt I hg2 hm2 PyProof.Rows.boot_set ?_)
  refine PyProof.Rows.callWith_type1 (PyProof.Rows.args_cons (thn (ha.run pins s σ H _ I h) fun v s1 ⟨x, H1, I1, r1, q1⟩ => PyProof.Rows.args_nil ?_) na) na rfl
  obtain ⟨l, ns, rfl, hq, ⟨hl, hfew⟩, q1⟩ := q1
  cases r1
  obtain ⟨its, rv, hil, hzl⟩ := I1.list hq
  have hi : IntsAre its.toArray.toList ns := ints_of_vals rv
  refine call_set_lstI ns (I1.ok.hd hc) hil.isList hi (by unfold scanBound; omega) fun h' tk c R hcn k => PyProof.Rows.args_nil ?_
  have I2 : Inv X pins σ H1 { s1 with heap := h', toks := tk } := I1.kept k
  refine sorted_set R (I2.ok.hd hc) (setR_few R hcn hfew) fun s' p out c2 us k2 g o hp hg hus hs hm hul => ?_
  have hlen : (us.map V.int).length ≤ sizeLine := by rw [List.length_map, hul, sizeLine_eq]; omega
  have hn : H1 p = none := I2.hok.fresh hp
  have J : Inv X pins σ (upd H1 p (.lst (us.map V.int))) { { s1 with heap := h', toks := tk } with heap := s'.heap, gens := s'.gens, drawn := s'.drawn, toks := s'.toks } :=
    I2.call (ch := []) (Un.laid k2 hp hn) (I2.hok.laid k2 hp ⟨hlen, out.toList, c2, vals_of_ints hus, hg⟩) (by rw [g]; exact I2.bare) (fun _ z => nomatch z)
  have e : s' = { { s1 with heap := h', toks := tk } with heap := s'.heap, gens := s'.gens, drawn := s'.drawn, toks := s'.toks } := by
    cases s'
    cases s1
    cases o
    rfl
  rw [e]
  exact ⟨.ref p, _, J, rfl, q1 us H1 p hs (fun k => by rw [hm k, decide_eq_true_eq]) (by omega) (fun _ _ z => z) hn⟩
theorem eo_sortSetB {K : PySem.W.Frag} {ρ : Pu.Env} {te : TE} {Q : List D → Pu.Env → Prop} (h : EX te ρ fun d ρ1 => ∃ ns : List Int, d = .list (ns.map .int) ∧ (ns.length < 4000 ∧ (ns.length < 64 ∨ ∃ lo : Int, ∀ x ∈ ns, lo ≤ x ∧ x < lo + 63)) ∧ ∀ us : List Int, us.Pairwise (· < ·) → (∀ k, k ∈ us ↔ k ∈ ns) → us.length ≤ ns.length → Q (us.map .int) ρ1) : EO (tSS K te) ρ Q := fun B ad σ F H w Z z =>
  h B ad σ F H w _ fun d ρ1 v F1 H1 q1 p1 rv => by
    obtain ⟨ns, rfl, hl, q⟩ := q1
    obtain ⟨a, xs, rfl, h1, h2⟩ := rv.lst_inv
    have e := h2.ints_inv
    subst e
    refine ⟨a, ns, rfl, sqL_rd h1 p1.wa.gr.fh, hl, fun us H2 p hs hm hle sm hp => ?_⟩
    have hH1 : H1 p = none := by
      cases e : H1 p with
      | none => rfl
      | some o => rw [sm p o e] at hp; cases hp
    have hH : H p = none := by
      cases e : H p with
      | none => rfl
      | some o => exact absurd hH1 (p1.gr.al p (by rw [e]; intro z; cases z))
    have g : Same H1 (upd H2 p (.lst (us.map V.int))) := sm.trans (same_upd hp)
    exact z (us.map .int) ρ1 p (us.map V.int) F1 _ (q us hs hm hle) (p1.trans (Post.of p1.wa (Gr.heap p1.wa.gr.fh g))) (p1.wa.newp hH1).1 hH upd_same (RpA.ints us)
theorem eo_sortSet {K : PySem.W.Frag} {ρ : Pu.Env} {te : TE} {Q : List D → Pu.Env → Prop} (h : EX te ρ fun d ρ1 => ∃ ns : List Int, d = .list (ns.map .int) ∧ ns.length < 64 ∧ ∀ us : List Int, us.Pairwise (· < ·) → (∀ k, k ∈ us ↔ k ∈ ns) → us.length ≤ ns.length → Q (us.map .int) ρ1) : EO (tSS K te) ρ Q :=
  eo_sortSetB (h.imp fun d ρ1 q => by
    obtain ⟨ns, e, hl, q⟩ := q
    exact ⟨ns, e, ⟨by omega, .inl hl⟩, q⟩)
/-- all, any of truth values -/
def rAllB (K : PySem.W.Frag) : List V → Hp → VK → Prop := fun vs H Q => ∃ (F : Hp) (a : Addr) (xs : List V) (bs : List Bool), vs = [.ref a] ∧ Same F H ∧ Rd F a (.lst xs) ∧ RpA F xs (bs.map .bool) ∧ Q (.bl (bs.all id)) H
def rAnyB (K : PySem.W.Frag) : List V → Hp → VK → Prop := fun vs H Q => ∃ (F : Hp) (a : Addr) (xs : List V) (bs : List Bool), vs = [.ref a] ∧ Same F H ∧ Rd F a (.lst xs) ∧ RpA F xs (bs.map .bool) ∧ Q (.bl (bs.any id)) H
theorem plain_bools : ∀ bs : List Bool, PyData.plainAll (bs.map PyData.bool) = true
  | [] => rfl
  | b :: bs => by rw [List.map_cons, PyData.plainAll, plain_bools bs]; rfl
theorem cb_all (hc : X.calm = true) : CallR X (.builtin "all") (rAllB X.K) := by
  rintro pins s σ H vs us Q I r ⟨F, a, xs, bs, rfl, e, ha, ra, q⟩
  obtain ⟨its, rv, hl, hzl⟩ := I.list (sqL_rd (K := X.K) ha e)
  obtain ⟨as, rr⟩ := rpa_reads I e ra rv
  rw [Vals.ref1 r]
  refine PySem.W.all_list_data (I.ok.hd hc) hl.isList (by simpa using rr) (plain_bools bs) (fun x hx => by
    obtain ⟨b, _, rfl⟩ := List.mem_map.mp hx
    exact trivial) fun h' tk k => ?_
  refine ⟨.bl (bs.all id), H, I.kept k, ?_, q⟩
  rw [List.all_map]
  rfl
theorem cb_any (hc : X.calm = true) : CallR X (.builtin "any") (rAnyB X.K) := by
  rintro pins s σ H vs us Q I r ⟨F, a, xs, bs, rfl, e, ha, ra, q⟩
  obtain ⟨its, rv, hl, hzl⟩ := I.list (sqL_rd (K := X.K) ha e)
  obtain ⟨as, rr⟩ := rpa_reads I e ra rv
  rw [Vals.ref1 r]
  refine PySem.W.any_list_data (I.ok.hd hc) hl.isList (by simpa using rr) (plain_bools bs) (fun x hx => by
    obtain ⟨b, _, rfl⟩ := List.mem_map.mp hx
    exact trivial) fun h' tk k => ?_
  refine ⟨.bl (bs.any id), H, I.kept k, ?_, q⟩
  rw [List.any_map]
  rfl
theorem cbd_all {K : PySem.W.Frag} {bs : List Bool} {Q : D → Prop} (k : Q (.bool (bs.all id))) : CbD (rAllB K) [.list (bs.map .bool)] Q := fun F H vs e r Z z => by
  obtain ⟨v, rfl, rv⟩ := r.one
  obtain ⟨a, xs, rfl, h1, h2⟩ := rv.lst_inv
  exact ⟨F, a, xs, bs, rfl, e, h1, h2, z _ _ F H k (Gr.refl e) (.bl _)⟩
theorem cbd_any {K : PySem.W.Frag} {bs : List Bool} {Q : D → Prop} (k : Q (.bool (bs.any id))) : CbD (rAnyB K) [.list (bs.map .bool)] Q := fun F H vs e r Z z => by
  obtain ⟨v, rfl, rv⟩ := r.one
  obtain ⟨a, xs, rfl, h1, h2⟩ := rv.lst_inv
  exact ⟨F, a, xs, bs, rfl, e, h1, h2, z _ _ F H k (Gr.refl e) (.bl _)⟩
end
/-- two rising lists with the same members are one -/
theorem ris_eq : ∀ {xs ys : List Int}, xs.Pairwise (· < ·) → ys.Pairwise (· < ·) → (∀ k, k ∈ xs ↔ k ∈ ys) → xs = ys
  | [], [], _, _, _ => rfl
  | [], y :: ys, _, _, h => absurd ((h y).mpr (by simp)) (by simp)
  | x :: xs, [], _, _, h => absurd ((h x).mp (by simp)) (by simp)
  | x :: xs, y :: ys, hx, hy, h => by
    rw [List.pairwise_cons] at hx hy
    have e : x = y := by
      rcases List.mem_cons.mp ((h x).mp (by simp)) with q | q
      · exact q
      · rcases List.mem_cons.mp ((h y).mpr (by simp)) with q2 | q2
        · exact q2.symm
        · have := hx.1 y q2
          have := hy.1 x q
          omega
    subst e
    refine congrArg (x :: ·) (ris_eq hx.2 hy.2 fun k => ?_)
    constructor
    · intro hk
      rcases List.mem_cons.mp ((h k).mp (List.mem_cons_of_mem _ hk)) with q | q
      · have := hx.1 k hk; omega
      · exact q
    · intro hk
      rcases List.mem_cons.mp ((h k).mpr (List.mem_cons_of_mem _ hk)) with q | q
      · have := hy.1 k hk; omega
      · exact q
end Pu
/-! PuV: list(range(..)); (a, b) = a list; [list(x) for x in tuples] as a state. -/
namespace Pu
open PySem L2
def rowT (row : List (Option Int)) : D := .tuple (row.map optD)
section
variable {ρ : Pu.Env} {P : Po} {te ta tb tc : TE} {t : TS} {K : PySem.W.Frag}
/-- list(range(n)), list(range(a, b)) -/
theorem rgV_is (i j : Int) : rgV i j = (rngI i (j - i).toNat).map V.int := by
  unfold rgV rngI
  rw [List.map_map]
  rfl
theorem eo_listRg {te : St → Hp → (Int → Int → Hp → Prop) → Prop} {Q : List D → Pu.Env → Prop} (h : ∀ B ad σ F H, WA B ad ρ σ F H → ∀ Z : Int → Int → Hp → Prop, (∀ i j ρ' F' H', ((-1000000 ≤ i ∧ i ≤ 1000000 ∧ -1000000 ≤ j ∧ j ≤ 1000000) ∧ Q ((rngI i (j - i).toNat).map .int) ρ') → Post B ad σ ρ F H ρ' F' H' → Z i j H') → te σ H Z) : EO (tLstRg te) ρ Q := fun B ad σ F H w Z z =>
  h B ad σ F H w _ fun i j ρ' F' H' q p => by
    obtain ⟨⟨b1, b2, b3, b4⟩, q⟩ := q
    refine ⟨⟨by omega, by omega, by omega, by omega, by omega⟩, fun l hl => ?_⟩
    have hH : H l = none := by
      cases e : H l with
      | none => rfl
      | some o => exact absurd hl (p.gr.al l (by rw [e]; intro z; cases z))
    rw [rgV_is]
    exact z _ ρ' l _ F' _ q (p.trans (Post.of p.wa (Gr.heap p.wa.gr.fh (same_upd hl)))) (p.wa.newp hl).1 hH upd_same (RpA.ints _)
theorem eo_listRg1 {Q : List D → Pu.Env → Prop} (h : EX ta ρ fun d ρ1 => ∃ n, d = .int n ∧ (-1000000 ≤ n ∧ n ≤ 1000000) ∧ Q ((rngI 0 n.toNat).map .int) ρ1) : EO (tLstRg (tRg1 ta)) ρ Q := eo_listRg fun B ad σ F H w Z z =>
  h B ad σ F H w _ fun d ρ1 v F1 H1 q p rv => by
    obtain ⟨n, rfl, ⟨h1, h2⟩, q⟩ := q
    exact ⟨n, rv.int_inv, z 0 n ρ1 F1 H1 ⟨⟨by omega, by omega, h1, h2⟩, by rw [Int.sub_zero]; exact q⟩ p⟩
theorem eo_listRg2 {Q : List D → Pu.Env → Prop} (h : EX ta ρ fun d ρ1 => EX tb ρ1 fun e ρ2 => ∃ i j, d = .int i ∧ e = .int j ∧ (-1000000 ≤ i ∧ i ≤ 1000000 ∧ -1000000 ≤ j ∧ j ≤ 1000000) ∧ Q ((rngI i (j - i).toNat).map .int) ρ2) : EO (tLstRg (tRg2 ta tb)) ρ Q := eo_listRg fun B ad σ F H w Z z =>
  h B ad σ F H w _ fun d ρ1 v F1 H1 q1 p1 rv => q1 B ad σ F1 H1 p1.wa _ fun e ρ2 u F2 H2 q2 p2 ru => by
    obtain ⟨i, j, rfl, rfl, hb, q⟩ := q2
    exact ⟨i, j, rv.int_inv, ru.int_inv, z i j ρ2 F2 H2 ⟨hb, q⟩ (p1.trans p2)⟩
/-- (a, b) = a list -/
theorem sg_unl {J : List Nat} {n : Nat} {gs : TGs} {ds : List D} {Qn : Pu.Env → Prop} (hn : ds.length = n) (h : SGs J gs ds ρ Qn) : SG J (gUnl K n gs) (.list ds) ρ Qn := fun B ad σ F H v w hJ r Z z => by
  obtain ⟨a, xs, rfl, h1, h2⟩ := r.lst_inv
  exact ⟨a, xs, rfl, sqL_rd h1 w.gr.fh, h2.len.trans hn, h B ad σ F H xs w hJ h2 Z z⟩
/-- the same over tuples -/
theorem en_gridT {r : Nat} {Q : Stt → Pu.Env → Prop} (h : EX te ρ fun d ρ1 => ∃ rows, d = .list (rows.map rowT) ∧ rows.length < 1000000 ∧ r < ρ1.length ∧ Q (.grd rows) ρ1) :
    EN (tLc (iList K te) (gName r) tYes (tCB (rList K) (tCons (tVar r) tNil)) [r]) ρ Q := fun B ad σ F H w Z z => by
  have hi : EI (iList K te) ρ fun ds ρ1 => ∃ rows : List (List (Option Int)), ds = rows.map rowT ∧ rows.length < 1000000 ∧ r < ρ1.length ∧ Q (.grd rows) ρ1 := ei_list (h.imp fun d ρ1 e => by
    obtain ⟨rows, e, k⟩ := e
    exact ⟨_, e, rows, rfl, k⟩)
  refine hi B ad σ F H w _ fun ds ρ1 J F1 H1 q1 p1 it => ?_
  obtain ⟨rows, rfl, hz, hr, q⟩ := q1
  intro Dl hD
  have hrs : r < σ.length := by rw [p1.wa.len]; exact hr
  have nF1 : F1 Dl = none := (p1.wa.newp hD).1
  let Inv := fun (k : Nat) (H' : Hp) => ∃ qs F', Gr Non F1 H1 F' H' ∧ (Dl :: qs).Nodup ∧ (∀ a ∈ Dl :: qs, F' a = none ∧ H1 a = none) ∧ H' Dl = some (.lst (qs.map V.ref)) ∧ GrA H' qs (rows.take k) ∧ qs.length = k
  refine ⟨fun i m H' => m = (rows.map rowT).length - i ∧ i ≤ (rows.map rowT).length ∧ Inv i H', ⟨_, rfl, Nat.zero_le _, [], F1, Gr.heap p1.wa.gr.fh (same_upd hD), by simp, fun a ha => ?_, upd_same, trivial, rfl⟩, ?_⟩
  · have e : a = Dl := by simpa using ha
    rw [e]
    exact ⟨nF1, hD⟩
  rintro i m H' ⟨rfl, hi, qs, F', g, nd, fn, hl, hg, ql⟩
  by_cases hlt : i < (rows.map rowT).length
  · refine .inr ⟨it.go i H' (g.ff.trans g.fh) hlt, fun H2 => Inv (i + 1) H2, fun H2 k => ⟨(rows.map rowT).length - (i + 1), by omega, rfl, hlt, k⟩, fun x H2 y => ?_⟩
    obtain ⟨d, F2, e, gr, rx⟩ := it.yld i H' x H2 F' g.ff g.fh y hlt
    rw [List.getElem?_map] at e
    obtain ⟨row, ex, rfl⟩ : ∃ row, rows[i]? = some row ∧ rowT row = d := by
      cases hx : rows[i]? with
      | none => rw [hx] at e; cases e
      | some a => rw [hx] at e; exact ⟨a, rfl, Option.some.inj e⟩
    obtain ⟨p, xs, rfl, h1, h2⟩ := rx.tup_inv
    have hxs := ovs_inv h2
    subst hxs
    have g2 : Gr Non F1 H1 F2 H2 := g.trans gr (fun _ _ z => z) fun _ _ z => z
    have alive : ∀ a ∈ Dl :: qs, H' a ≠ none := fun a ha => by
      rcases List.mem_cons.mp ha with rfl | ha
      · rw [hl]; intro z; cases z
      · exact hg.mem a ha
    have hl2 : H2 Dl = some (.lst (qs.map V.ref)) := gr.kp _ _ hl id
    have hg2 : GrA H2 qs (rows.take i) := hg.keep fun a _ o e => gr.kp a o e id
    refine ⟨?_, ?_⟩
    · rw [wipe_set (by simp), wipe_twice]
    show tCB (rList K) (tCons (tVar r) tNil) _ H2 _
    refine ⟨_, List.getElem?_set_self (by rw [wipe_length]; exact hrs), p, row.map ov, rfl, .inr (sqT_rd h1 gr.fh), fun l hl0 => ?_⟩
    have ne : l ≠ Dl := fun z => by rw [z, hl2] at hl0; cases hl0
    have lout : ∀ a ∈ Dl :: qs, a ≠ l := fun a ha z => gr.al a (alive a ha) (by rw [z]; exact hl0)
    have F2l : F2 l = none := by
      cases q : F2 l with
      | none => rfl
      | some o => rw [g2.fh l o q] at hl0; cases hl0
    have H1l : H1 l = none := by
      cases q : H1 l with
      | none => rfl
      | some o => exact absurd hl0 (g2.al l (by rw [q]; intro z; cases z))
    have F2D : ∀ a ∈ Dl :: qs, F2 a = none := fun a ha => gr.fr a (alive a ha) (fn a ha).1
    refine ⟨qs.map V.ref, by rw [upd_ne (Ne.symm ne)]; exact hl2, ?_, ?_⟩
    · rw [List.length_map, ql]
      have : i < rows.length := by rw [List.length_map] at hlt; exact hlt
      exact Nat.lt_trans (Nat.lt_trans this hz) (by decide)
    show Inv (i + 1) _
    have nf : ∀ a o, F2 a = some o → a ≠ l ∧ a ≠ Dl := fun a o e => ⟨(fun z => by rw [z, F2l] at e; cases e), (fun z => by rw [z, F2D Dl (by simp)] at e; cases e)⟩
    have n1 : ∀ a, H1 a ≠ none → a ≠ l ∧ a ≠ Dl := fun a e => ⟨fun z => e (by rw [z]; exact H1l), fun z => e (by rw [z]; exact hD)⟩
    refine ⟨qs ++ [l], F2, ⟨g2.ff, fun a o e => ?_, fun a o e m => ?_, fun a e => ?_, g2.fr⟩, ?_, ?_, ?_, ?_, by simp [ql]⟩
    · rw [upd_ne (nf a o e).2, upd_ne (nf a o e).1]
      exact g2.fh a o e
    · have na := n1 a (by rw [e]; intro z; cases z)
      rw [upd_ne na.2, upd_ne na.1]
      exact g2.kp a o e m
    · have na := n1 a e
      rw [upd_ne na.2, upd_ne na.1]
      exact g2.al a e
    · rw [List.nodup_cons] at nd ⊢
      refine ⟨fun m => ?_, ?_⟩
      · rcases List.mem_append.mp m with m | m
        · exact nd.1 m
        · exact ne (List.mem_singleton.mp m).symm
      · refine List.nodup_append.mpr ⟨nd.2, by simp, fun a ha b hb e => ?_⟩
        rw [List.mem_singleton.mp hb] at e
        exact lout a (by simp [ha]) e
    · intro a ha
      rcases List.mem_cons.mp ha with rfl | ha
      · exact ⟨F2D _ (by simp), hD⟩
      · rcases List.mem_append.mp ha with ha | ha
        · exact ⟨F2D a (by simp [ha]), (fn a (by simp [ha])).2⟩
        · rw [List.mem_singleton.mp ha]; exact ⟨F2l, H1l⟩
    · rw [upd_same, List.map_append]; rfl
    · rw [take_snoc' ex]
      refine GrA.out (fun m => ?_) (GrA.app upd_same (GrA.out (fun m => lout l (by simp [m]) rfl) hg2))
      rcases List.mem_append.mp m with m | m
      · exact (List.nodup_cons.mp nd).1 m
      · exact ne (List.mem_singleton.mp m).symm
  · have e : i = rows.length := by rw [List.length_map] at hlt hi; omega
    subst e
    rw [List.take_length] at hg
    exact .inl ⟨it.stop _ H' (g.ff.trans g.fh) (by rw [List.length_map]; exact Nat.le_refl _), z (.grd rows) Dl (Dl :: qs) ρ1 F1 H1 F' H' q p1 g ⟨qs, rfl, nd, hl, hg⟩ fn⟩

/-! sorted lists of pairs -/
def leP (a b : Int × Int) : Bool := !ltP b a
theorem sortD_P (xs : List (Int × Int)) : sortD (xs.map encP) = (xs.mergeSort leP).map encP := by
  have e := PySem.W.sort_maps (r := leP) (s := PySem.W.dataLe false id) encP (l := xs) (fun a _ b _ => by
    show (!ltP b a) = (!PySem.W.dataLt (encP b) (encP a))
    rw [dataLt_P])
  exact e.symm
theorem alike_PP (xs : List (Int × Int)) : PySem.W.AllAlike (xs.map encP) := fun x hx y hy => by
  obtain ⟨a, _, rfl⟩ := List.mem_map.mp hx
  obtain ⟨b, _, rfl⟩ := List.mem_map.mp hy
  rfl
theorem sortable_P (xs : List (Int × Int)) : PySem.W.Sortable (xs.map encP) := .inl fun x hx => by
  obtain ⟨a, _, rfl⟩ := List.mem_map.mp hx
  exact ⟨_, _, rfl⟩
theorem deep_P (xs : List (Int × Int)) : PyData.depthAll (xs.map encP) ≤ 60 := depthAll_le (dpn_map fun x _ => dpn_tup (dpn_cons dpn_int (dpn_cons dpn_int dpn_nil)))
theorem cbd_sortP {xs : List (Int × Int)} {Q : D → Prop} (k : Q (.list ((xs.mergeSort leP).map encP))) : CbD (rSrD K) [.list (xs.map encP)] Q := cbd_sortD (alike_PP xs) (sortable_P xs) (deep_P xs) (by rw [sortD_P]; exact k)
theorem leP_trans (a b c : Int × Int) (h1 : leP a b = true) (h2 : leP b c = true) : leP a c = true := by
  simp only [leP, ltP, Bool.not_eq_true', decide_eq_false_iff_not] at *
  omega
theorem leP_total (a b : Int × Int) : (leP a b || leP b a) = true := by
  simp only [leP, ltP, Bool.or_eq_true, Bool.not_eq_true', decide_eq_false_iff_not]
  omega
theorem rng_nodup (n : Nat) : (rngI 0 n).Nodup := by
  unfold rngI
  exact List.pairwise_map.mpr (List.nodup_range.imp fun h e => h (by omega))
/-! one item less, one more -/
theorem getD_setN {α : Type} {l : List α} {i j : Nat} {x a : α} (hi : i < l.length) : (l.set i x).getD j a = if j = i then x else l.getD j a := by
  rw [List.getD_eq_getElem?_getD, List.getD_eq_getElem?_getD]
  by_cases e : j = i
  · rw [if_pos e, e, List.getElem?_set_self hi]; rfl
  · rw [if_neg e, List.getElem?_set_ne (Ne.symm e)]
theorem sum_setI : ∀ {P : List Int} {k : Nat} {x : Int}, k < P.length → (P.set k x).sum = P.sum - P.getD k 0 + x
  | p :: P, 0, x, _ => by simp; omega
  | p :: P, k + 1, x, h => by
    have := sum_setI (P := P) (k := k) (x := x) (by simpa using h)
    simp only [List.set_cons_succ, List.sum_cons, List.getD_cons_succ]
    omega
/-! rows of two as a state -/
def tab2 (n : Nat) (f : Nat → Int × Int) : List (List (Option Int)) := (List.range n).map fun k => [some (f k).1, some (f k).2]
theorem tab2_len (n : Nat) (f : Nat → Int × Int) : (tab2 n f).length = n := by unfold tab2; simp
theorem tab2_at {n : Nat} {f : Nat → Int × Int} {k : Nat} (h : k < n) : (tab2 n f)[k]? = some [some (f k).1, some (f k).2] := by
  unfold tab2
  rw [List.getElem?_map, List.getElem?_range h]; rfl
theorem tab2_set {n : Nat} {f g : Nat → Int × Int} {k : Nat} {r : List (Option Int)} (h : k < n) (hr : r = [some (g k).1, some (g k).2]) (ho : ∀ j, j < n → j ≠ k → f j = g j) : (tab2 n f).set k r = tab2 n g := by
  apply List.ext_getElem?
  intro j
  by_cases hj : j < n
  · by_cases e : j = k
    · subst e
      rw [List.getElem?_set_self (by rw [tab2_len]; exact hj), tab2_at hj, hr]
    · rw [List.getElem?_set_ne (Ne.symm e), tab2_at hj, tab2_at hj, ho j hj e]
  · rw [List.getElem?_eq_none (by rw [List.length_set, tab2_len]; omega), List.getElem?_eq_none (by rw [tab2_len]; omega)]
theorem tab2_congr {n : Nat} {f g : Nat → Int × Int} (h : ∀ j, j < n → f j = g j) : tab2 n f = tab2 n g := by
  unfold tab2
  refine List.map_congr_left fun k hk => ?_
  rw [h k (List.mem_range.mp hk)]
theorem ixN_nat {n k : Nat} (h : k < n) : ixN n (k : Int) = some k := by
  unfold ixN
  rw [if_pos (by omega), if_pos (by omega), Int.toNat_natCast]

/-! an own list lent to what makes a new list of scalars or tuples of these -/
mutual
def flatD : D → Bool
  | .none => true
  | .bool _ => true
  | .int _ => true
  | .str _ => true
  | .tuple ds => flatAll ds
  | _ => false
def flatAll : List D → Bool
  | [] => true
  | d :: ds => flatD d && flatAll ds
end
def cutF (F : Hp) (p : Addr) : Hp := fun q => if q = p then none else F q
mutual
theorem flat_rp {F : Hp} {p : Addr} {ws : List V} (hp : F p = some (.lst ws)) : ∀ (d : D) {v : V}, flatD d = true → Rp F v d → Rp (cutF F p) v d
  | .none, _, _, h => by cases h; exact .non
  | .bool b, _, _, h => by cases h; exact .bl b
  | .int i, _, _, h => by cases h; exact .int i
  | .str x, _, _, h => by cases h; exact .str x
  | .list ds, _, f, _ => by simp [flatD] at f
  | .dict _, _, f, _ => by simp [flatD] at f
  | .tuple ds, _, f, h => by
    cases h with
    | @tup a xs _ h1 h2 =>
      have ne : a ≠ p := fun e => by rw [e, hp] at h1; cases h1
      exact .tup (show cutF F p a = _ by unfold cutF; rw [if_neg ne]; exact h1) (flat_rpa hp ds (by simpa [flatD] using f) h2)
theorem flat_rpa {F : Hp} {p : Addr} {ws : List V} (hp : F p = some (.lst ws)) : ∀ (ds : List D) {vs : List V}, flatAll ds = true → RpA F vs ds → RpA (cutF F p) vs ds
  | [], _, _, h => by cases h; exact .nil
  | d :: ds, _, f, h => by
    cases h with
    | cons h1 h2 =>
      simp only [flatAll, Bool.and_eq_true] at f
      exact .cons (flat_rp hp d f.1 h1) (flat_rpa hp ds f.2 h2)
end
theorem WA.back2 {B : Base} {ad : Nat → List Addr} {σ : St} {F H F' H' : Hp} (w : WA B ad ρ σ F H) {i : Nat} {ds : List D} (h : ρ[i]? = some (.own ds)) {p : Addr} {vs : List V} (hp : ad i = [p]) (hF : F p = none) (hHp : H p = some (.lst vs)) (h0 : B.H0 p = none) {ad1 : Nat → List Addr} {ρ1 : Pu.Env} (e1 : ρ1 = ρ.set i (.val (.list ds))) (ea : ad1 = fun k => if k = i then [] else ad k)
    (P : Post B ad1 σ ρ1 (upd F p (.lst vs)) H ρ1 F' H') : Post B ad σ ρ F H ρ (cutF F' p) H' := by
  subst e1 ea
  have ms : ∀ a, MS (fun k => if k = i then [] else ad k) (ρ.set i (.val (.list ds))) a → MS ad ρ a := fun a ⟨j, S, e, m⟩ => by
    rcases get_set e with ⟨_, q⟩ | ⟨hj, e⟩
    · cases q
    · simp only [if_neg hj] at m
      exact ⟨j, S, e, m⟩
  have ff : Same F (cutF F' p) := fun q o e => by
    have ne : q ≠ p := fun z => by rw [z, hF] at e; cases e
    unfold cutF
    rw [if_neg ne]
    exact P.gr.ff q o (by rw [upd_ne ne]; exact e)
  have fh : Same (cutF F' p) H' := fun q o e => by
    unfold cutF at e
    by_cases ne : q = p
    · rw [if_pos ne] at e; cases e
    · rw [if_neg ne] at e; exact P.gr.fh q o e
  have cutn : ∀ q, F' q = none → cutF F' p q = none := fun q e => by
    unfold cutF
    split
    · rfl
    · exact e
  have frq : ∀ a, H a ≠ none → F a = none → cutF F' p a = none := fun a e z => by
    by_cases ne : a = p
    · unfold cutF; rw [if_pos ne]
    · exact cutn a (P.gr.fr a e (by rw [upd_ne ne]; exact z))
  have nms : ∀ j q, q ∈ ad j → (∀ S, ρ[j]? ≠ some (Slot.st S)) → ¬ MS ad ρ q := fun j q m hj ⟨j', S, e, m'⟩ => by
    have := w.dj j j' q m m'
    subst this
    exact hj S e
  refine ⟨⟨⟨w.gr.ff.trans ff, fh, P.wa.gr.kp, P.wa.gr.al, fun a e z => frq a (w.gr.al a e) (w.gr.fr a e z)⟩, w.len, fun j s e => ?_, fun j q m => ⟨frq q (w.lv m) (w.fz j q m).1, (w.fz j q m).2⟩, w.dj, w.out, w.pin⟩, ⟨ff, fh, fun a o e m => P.gr.kp a o e fun z => m (ms a z), P.gr.al, frq⟩, fun j S e => ⟨S, e⟩⟩
  have k := w.sl j s e
  cases s with
  | emp => exact k
  | val d =>
    obtain ⟨k, v, e, r⟩ := k
    exact ⟨k, v, e, r.up ff⟩
  | own es =>
    obtain ⟨q, ws, k, k0, k1, k2, r⟩ := k
    exact ⟨q, ws, k, k0, k1, P.gr.kp q _ k2 fun z => nms j q (by rw [k]; simp) (fun S z => by rw [e] at z; cases z) (ms q z), r.up ff⟩
  | st S =>
    have hj : j ≠ i := fun z => by subst z; rw [h] at e; cases e
    have k' := P.wa.sl j (.st S) (by rw [List.getElem?_set_ne (Ne.symm hj)]; exact e)
    simp only [if_neg hj] at k'
    exact k'
theorem eo_lend (i : Nat) {ds : List D} {Q : List D → Pu.Env → Prop} (h : ρ[i]? = some (.own ds)) (k : EO te (ρ.set i (.val (.list ds))) fun es ρ' => ρ' = ρ.set i (.val (.list ds)) ∧ flatAll es = true ∧ Q es ρ) : EO te ρ Q := fun B ad σ F H w Z z => by
  obtain ⟨p, vs, k1, k2, k3, k4, k5, k6, w2⟩ := w.lend h
  refine k B _ σ _ H w2 Z fun es ρ' q us F' H' hq P hF hH hl r => ?_
  obtain ⟨rfl, fl, hq⟩ := hq
  have hp : F' p = some (.lst vs) := P.gr.ff p _ upd_same
  exact z es ρ q us (cutF F' p) H' hq (w.back2 h k1 k2 k3 k5 rfl rfl P) (by
    unfold cutF
    split
    · rfl
    · exact hF) hH hl (flat_rpa hp es fl r)
/-! items of rows of two -/
theorem ex_tabA {i n : Nat} {f : Nat → Int × Int} {Q : D → Pu.Env → Prop} (m : Nat) (h : ρ[i]? = some (.st (.grd (tab2 n f)))) (hm : m < n) (k : EX tb ρ fun d ρ1 => d = .int (m : Int) ∧ ρ1 = ρ) (q : Q (.int (f m).1) ρ) : EX (tOp (rIxA K) (tOp (rIxA K) (tVar i) tb) (tC (.int 0))) ρ Q :=
  ex_grd h (k.imp fun d ρ1 ⟨e1, e2⟩ => by
    subst e1 e2
    exact ⟨_, m, _, _, rfl, h, by rw [tab2_len]; exact ixN_nat hm, tab2_at hm, ex_int ⟨_, _, _, _, rfl, h, tab2_at hm, rfl, q⟩⟩)
theorem ex_tabB {i n : Nat} {f : Nat → Int × Int} {Q : D → Pu.Env → Prop} (m : Nat) (h : ρ[i]? = some (.st (.grd (tab2 n f)))) (hm : m < n) (k : EX tb ρ fun d ρ1 => d = .int (m : Int) ∧ ρ1 = ρ) (q : Q (.int (f m).2) ρ) : EX (tOp (rIxA K) (tOp (rIxA K) (tVar i) tb) (tC (.int 1))) ρ Q :=
  ex_grd h (k.imp fun d ρ1 ⟨e1, e2⟩ => by
    subst e1 e2
    exact ⟨_, m, _, _, rfl, h, by rw [tab2_len]; exact ixN_nat hm, tab2_at hm, ex_int ⟨_, _, _, _, rfl, h, tab2_at hm, rfl, q⟩⟩)
theorem sx_tabA {i n : Nat} {f : Nat → Int × Int} (m : Nat) (x : Int) (h : ρ[i]? = some (.st (.grd (tab2 n f)))) (hm : m < n) (e : EX te ρ fun d ρ1 => d = .int x ∧ ρ1 = ρ) (k : EX tb ρ fun d ρ1 => d = .int (m : Int) ∧ ρ1 = ρ) (q : NX P (ρ.set i (.st (.grd (tab2 n fun j => if j = m then (x, (f j).2) else f j))))) :
    SX (tAsg te (gSub (tOp (rIxA K) (tVar i) tb) (tC (.int 0)) rSetL)) ρ P := sx_setG (e.imp fun d ρ1 ⟨e1, e2⟩ => by
  subst e1 e2
  refine ⟨some x, _, rfl, h, k.imp fun d ρ1 ⟨e1, e2⟩ => ?_⟩
  subst e1 e2
  refine ⟨_, m, _, _, rfl, h, by rw [tab2_len]; exact ixN_nat hm, tab2_at hm, ex_int ⟨_, 0, _, _, rfl, h, tab2_at hm, rfl, ?_⟩⟩
  rw [tab2_set (g := fun j => if j = m then (x, (f j).2) else f j) hm (by simp) fun j _ hj => by rw [if_neg hj]]
  exact q)
theorem sx_tabB {i n : Nat} {f : Nat → Int × Int} (m : Nat) (x : Int) (h : ρ[i]? = some (.st (.grd (tab2 n f)))) (hm : m < n) (e : EX te ρ fun d ρ1 => d = .int x ∧ ρ1 = ρ) (k : EX tb ρ fun d ρ1 => d = .int (m : Int) ∧ ρ1 = ρ) (q : NX P (ρ.set i (.st (.grd (tab2 n fun j => if j = m then ((f j).1, x) else f j))))) :
    SX (tAsg te (gSub (tOp (rIxA K) (tVar i) tb) (tC (.int 1)) rSetL)) ρ P := sx_setG (e.imp fun d ρ1 ⟨e1, e2⟩ => by
  subst e1 e2
  refine ⟨some x, _, rfl, h, k.imp fun d ρ1 ⟨e1, e2⟩ => ?_⟩
  subst e1 e2
  refine ⟨_, m, _, _, rfl, h, by rw [tab2_len]; exact ixN_nat hm, tab2_at hm, ex_int ⟨_, 1, _, _, rfl, h, tab2_at hm, rfl, ?_⟩⟩
  rw [tab2_set (g := fun j => if j = m then ((f j).1, x) else f j) hm (by simp) fun j _ hj => by rw [if_neg hj]]
  exact q)
/-! small words -/
theorem last_M {α : Type} {f : α → D} {xs : List α} (a : α) (h : 0 < xs.length) : atI (xs.map f) (-1) = some (f (xs.getD (xs.length - 1) a)) := by
  have e : ixN (xs.map f).length (-1) = some (xs.length - 1) := by
    rw [List.length_map]
    unfold ixN
    rw [if_neg (by omega), if_pos (by omega)]
    congr 1
    omega
  unfold atI
  rw [e]
  show (xs.map f)[xs.length - 1]? = _
  rw [List.getElem?_map, get_D (a := a) (by omega)]
  rfl
theorem opd_int {gs : List Int} {k : Nat} {Q : D → Prop} (h : k < gs.length) (q : Q (.int (gs.getD k 0))) : OpD (rIxA K) (.list (gs.map .int)) (.int (k : Int)) Q := opd_ixM (f := PyData.int) 0 (by omega) (by omega) (by rw [Int.toNat_natCast]; exact q)
theorem cut_n {α : Type} (f : α → D) (xs : List α) (n : Nat) : cutD (xs.map f) none (some (n : Int)) = (xs.take n).map f := by
  unfold cutD
  simp only [HT.sIx]
  rw [if_neg (by omega), List.length_map, List.map_take]
  show List.take (min ((n : Int)).toNat xs.length - 0) (List.map f xs) = _
  rw [Nat.sub_zero, Int.toNat_natCast]
  by_cases h : n ≤ xs.length
  · rw [Nat.min_eq_left h]
  · rw [Nat.min_eq_right (by omega), List.take_of_length_le (by rw [List.length_map]; exact Nat.le_refl _), List.take_of_length_le (by rw [List.length_map]; omega)]
theorem cut_drop {α : Type} (f : α → D) (xs : List α) (n : Nat) : cutD (xs.map f) (some (n : Int)) none = (xs.drop n).map f := by
  unfold cutD
  rw [List.length_map, List.map_drop]
  simp only [HT.sIx]
  rw [if_neg (by omega), Int.toNat_natCast]
  rcases Nat.lt_or_ge xs.length n with q | q
  · rw [Nat.min_eq_right (by omega), Nat.sub_self, List.take_zero, List.drop_of_length_le (by rw [List.length_map]; omega)]
  · rw [Nat.min_eq_left q]
    exact List.take_of_length_le (by rw [List.length_drop, List.length_map]; omega)
theorem zip_enc : ∀ (ls hs : List Int), List.zipWith (fun d f => PyData.tuple [d, f]) (ls.map PyData.int) (hs.map PyData.int) = (ls.zip hs).map encP
  | [], _ => by simp
  | _ :: _, [] => by simp
  | a :: ls, b :: hs => by
    simp only [List.map_cons, List.zipWith_cons_cons, List.zip_cons_cons, zip_enc ls hs]
    rfl
theorem opd_neB {a b : Bool} {Q : D → Prop} (k : Q (.bool (!decide (a = b)))) : OpD (rNeP K) (.bool a) (.bool b) Q := opd_neP (min_l (by simp [PyData.depth])) (by
  have e : PyData.eqv (.bool a) (.bool b) = decide (a = b) := by cases a <;> cases b <;> rfl
  rw [e]; exact k)
theorem dec_lt (a b : Nat) : decide ((a : Int) < (b : Int)) = decide (a < b) := by
  by_cases h : a < b
  · rw [decide_eq_true h, decide_eq_true (by omega)]
  · rw [decide_eq_false h, decide_eq_false (by omega)]
theorem dec_0 (a : Nat) : decide ((a : Int) = 0) = decide (a = 0) := by
  by_cases h : a = 0
  · rw [decide_eq_true h, decide_eq_true (by omega)]
  · rw [decide_eq_false h, decide_eq_false (by omega)]
theorem dec_p (a : Nat) : decide (0 < (a : Int)) = decide (0 < a) := by
  by_cases h : 0 < a
  · rw [decide_eq_true h, decide_eq_true (by omega)]
  · rw [decide_eq_false h, decide_eq_false (by omega)]
theorem SX.into {t : TS} {X : Pu.Env → Prop} (h : SX t ρ { nx := X, rt := fun _ _ => False }) (k : ∀ ρ', X ρ' → P.nx ρ') : SX t ρ P := fun B σ F H w Dn n r b c =>
  h B σ F H w Dn (fun ρ' σ' F' H' q w' => n ρ' σ' F' H' (k ρ' q) w') (fun _ _ _ _ _ _ q _ _ => q.elim) (fun _ _ _ _ q _ => q.elim) (fun _ _ _ _ q _ => q.elim)
/-- a comprehension over data, no filter -/
theorem filt_all {α β : Type} (xs : List α) (g : α → β) : (xs.filter fun _ => true).map g = xs.map g := by rw [List.filter_eq_self.mpr (fun _ _ => rfl)]
end
end Pu
/-! readings of the defs of law_k89_holds_by_all_waits: printed by gen.py -/
namespace Law_k89
open PySem L2 Pu

/-- part_fits: slots rows 0, part 1, tick 2, low 3, at 4, high 5 -/
abbrev N_part_fits : List Str := ["rows", "part", "tick", "low", "at", "high"]
def T_part_fits (K : PySem.W.Frag) : TS :=
    (tSeq (tIfS (tTest (tOp (rI0 fun i j => .bl (decide (j < i))) (tOp (rPlus K) (tVar 2) (tCB (Pu.rLen K) (tCons (tVar 1) tNil))) (tCB (Pu.rLen K) (tCons (tVar 0) tNil))))
      (tRet (tC (.bl false)))
      tNext)
    (tRet (tCB (rAllB K) (tCons (tLc (iEnum K (tCons (tVar 1) tNil)) (gTup K 2 (gCons (gName 4) (gCons (gTup K 2 (gCons (gName 3) (gCons (gName 5) gNil))) gNil))) tYes (tAndV (tOp (rI0 fun i j => .bl (decide (i ≤ j))) (tVar 3) (tOp (rIxA K) (tOp (rIxA K) (tVar 0) (tOp (rPlus K) (tVar 2) (tVar 4))) (tC (.int 0)))) (tOp (rI0 fun i j => .bl (decide (i ≤ j))) (tOp (rIxA K) (tOp (rIxA K) (tVar 0) (tOp (rPlus K) (tVar 2) (tVar 4))) (tC (.int 1))) (tVar 5))) [4, 3, 5]) tNil))))
/-- ticks_for_parts: slots rows 0, parts 1, most 2, found 3, at 4, part 5, able 6, tick 7, behind 8, length 9, before 10; own: able, found -/
abbrev N_ticks_for_parts : List Str := ["rows", "parts", "most", "found", "at", "part", "able", "tick", "behind", "length", "before"]
def T_ticks_for_parts (K : PySem.W.Frag) (R_part_fits : List D → (D → Prop) → Prop) : TS :=
    (tSeq (tAsg (tLst tNil) (gName 3))
    (tSeq (tFor (iEnum K (tCons (tVar 1) tNil)) (gTup K 2 (gCons (gName 4) (gCons (gName 5) gNil)))
      (tSeq (tAsg (tLst tNil) (gName 6))
    (tSeq (tFor (iRng1 (tCons (tOp (rPlus K) (tCB (Pu.rLen K) (tCons (tVar 0) tNil)) (tC (.int 1))) tNil)) (gName 7)
      (tSeq (tIfS (tTest (tOp (rEqP K) (tVar 4) (tC (.int 0))))
      (tAsg (tOp (rI0 fun i j => .bl (decide (i ≤ j))) (tVar 7) (tOp (rIxA K) (tVar 2) (tC (.int 0)))) (gName 8))
      (tSeq (tAsg (tCB (Pu.rLen K) (tCons (tOp (rIxA K) (tVar 1) (tOp (rI0 fun i j => .int (i - j)) (tVar 4) (tC (.int 1)))) tNil)) (gName 9))
    (tAsg (tCB (rAnyB K) (tCons (tLc (iList K (tOp (rIxA K) (tVar 3) (tUn (rU fun i => .int (-i)) (tC (.int 1))))) (gName 10) tYes (tChain (rI0 fun i j => .bl (decide (i ≤ j))) (rI0 fun i j => .bl (decide (i ≤ j))) (tC (.int 0)) (tOp (rI0 fun i j => .int (i - j)) (tOp (rI0 fun i j => .int (i - j)) (tVar 7) (tVar 10)) (tVar 9)) (tOp (rIxA K) (tVar 2) (tVar 4))) [10]) tNil)) (gName 8))))
    (tIfS (tAnd (tB (tVar 8)) (tB (tCall (spP R_part_fits) [] E0 (tCons (tVar 0) (tCons (tVar 5) (tCons (tVar 7) tNil))))))
      (tDrop (tBM K "list" rAppend (tVar 6) (tCons (tVar 7) tNil)))
      tNext)))
    (tDrop (tBM K "list" rAppend (tVar 3) (tCons (tVar 6) tNil))))))
    (tRet (tVar 3))))
/-- hold: slots rows 0, parts 1, most 2, lots 3, at 4, able 5, ticks 6, length 7, tick 8 -/
abbrev N_hold : List Str := ["rows", "parts", "most", "lots", "at", "able", "ticks", "length", "tick"]
def T_hold (K : PySem.W.Frag) (R_ticks_for_parts : List D → (D → Prop) → Prop) : TS :=
    (tSeq (tAsg (tCall (spP R_ticks_for_parts) [] E0 (tCons (tVar 0) (tCons (tVar 1) (tCons (tVar 2) tNil)))) (gName 3))
    (tSeq (tFor (iEnum K (tCons (tVar 3) tNil)) (gTup K 2 (gCons (gName 4) (gCons (gName 5) gNil)))
      (tIfS (tNot (tTru K (tVar 5)))
      (tRet (tTup (tCons (tC (.str "never")) (tCons (tVar 4) (tCons (tSl (rSl K) (tVar 3) tNoPart (tPart (tOp (rPlus K) (tVar 4) (tC (.int 1))))) tNil)))))
      tNext))
    (tSeq (tAsg (tLst tNil) (gName 6))
    (tSeq (tFor (iRng3 (tCons (tOp (rI0 fun i j => .int (i - j)) (tCB (Pu.rLen K) (tCons (tVar 1) tNil)) (tC (.int 1))) (tCons (tUn (rU fun i => .int (-i)) (tC (.int 1))) (tCons (tUn (rU fun i => .int (-i)) (tC (.int 1))) tNil)))) (gName 4)
      (tIfS (tNot (tTru K (tVar 6)))
      (tAsg (tLst (tCons (tOp (rIxA K) (tOp (rIxA K) (tVar 3) (tVar 4)) (tC (.int 0))) tNil)) (gName 6))
      (tSeq (tAsg (tCB (Pu.rLen K) (tCons (tOp (rIxA K) (tVar 1) (tVar 4)) tNil)) (gName 7))
    (tSeq (tAsg (tLc (iList K (tOp (rIxA K) (tVar 3) (tVar 4))) (gName 8) (tTest (tChain (rI0 fun i j => .bl (decide (i ≤ j))) (rI0 fun i j => .bl (decide (i ≤ j))) (tC (.int 0)) (tOp (rI0 fun i j => .int (i - j)) (tOp (rI0 fun i j => .int (i - j)) (tOp (rIxA K) (tVar 6) (tC (.int 0))) (tVar 8)) (tVar 7)) (tOp (rIxA K) (tVar 2) (tOp (rPlus K) (tVar 4) (tC (.int 1)))))) (tVar 8) [8]) (gName 5))
    (tAsg (tOp (rPlus K) (tLst (tCons (tOp (rIxA K) (tVar 5) (tC (.int 0))) tNil)) (tVar 6)) (gName 6))))))
    (tRet (tTup (tCons (tC (.str "begin")) (tCons (tVar 6) tNil))))))))
/-- hold_fault: slots rows 0, parts 1, most 2, told 3, lots 4, word 5, at 6, rest 7, place 8, able 9, ticks 10, tick 11, wait 12 -/
abbrev N_hold_fault : List Str := ["rows", "parts", "most", "told", "lots", "word", "at", "rest", "place", "able", "ticks", "tick", "wait"]
def T_hold_fault (K : PySem.W.Frag) (R_ticks_for_parts : List D → (D → Prop) → Prop) (R_part_fits : List D → (D → Prop) → Prop) : TS :=
    (tSeq (tAsg (tCall (spP R_ticks_for_parts) [] E0 (tCons (tVar 0) (tCons (tVar 1) (tCons (tVar 2) tNil)))) (gName 4))
    (tSeq (tIfS (tTest (tOp (rEqP K) (tOp (rIxA K) (tVar 3) (tC (.int 0))) (tC (.str "never"))))
      (tSeq (tAsg (tVar 3) (gTup K 3 (gCons (gName 5) (gCons (gName 6) (gCons (gName 7) gNil)))))
    (tSeq (tIfS (tOr (tNot (tTest (tChain (rI0 fun i j => .bl (decide (i ≤ j))) (rI0 fun i j => .bl (decide (i < j))) (tC (.int 0)) (tVar 6) (tCB (Pu.rLen K) (tCons (tVar 1) tNil))))) (tTest (tOp (rNeP K) (tCB (Pu.rLen K) (tCons (tVar 7) tNil)) (tOp (rPlus K) (tVar 6) (tC (.int 1))))))
      (tRet (tTup (tCons (tC (.str "part")) tNil)))
      tNext)
    (tSeq (tFor (iEnum K (tCons (tVar 7) tNil)) (gTup K 2 (gCons (gName 8) (gCons (gName 9) gNil)))
      (tIfS (tTest (tOp (rNeP K) (tVar 9) (tOp (rIxA K) (tVar 4) (tVar 8))))
      (tRet (tTup (tCons (tC (.str "lot")) (tCons (tVar 8) tNil))))
      tNext))
    (tRet (tIf (tAnd (tTest (tOp (rEqP K) (tOp (rIxA K) (tVar 7) (tUn (rU fun i => .int (-i)) (tC (.int 1)))) (tLst tNil))) (tTest (tOp (rNinP K) (tLst tNil) (tSl (rSl K) (tVar 7) tNoPart (tPart (tUn (rU fun i => .int (-i)) (tC (.int 1)))))))) (tC .non) (tTup (tCons (tC (.str "begins")) tNil)))))))
      tNext)
    (tSeq (tAsg (tOp (rIxA K) (tVar 3) (tC (.int 1))) (gName 10))
    (tSeq (tIfS (tTest (tOp (rNeP K) (tCB (Pu.rLen K) (tCons (tVar 10) tNil)) (tCB (Pu.rLen K) (tCons (tVar 1) tNil))))
      (tRet (tTup (tCons (tC (.str "length")) tNil)))
      tNext)
    (tSeq (tFor (iEnum K (tCons (tVar 10) tNil)) (gTup K 2 (gCons (gName 6) (gCons (gName 11) gNil)))
      (tSeq (tIfS (tOr (tTest (tOp (rI0 fun i j => .bl (decide (i < j))) (tVar 11) (tC (.int 0)))) (tNot (tB (tCall (spP R_part_fits) [] E0 (tCons (tVar 0) (tCons (tOp (rIxA K) (tVar 1) (tVar 6)) (tCons (tVar 11) tNil)))))))
      (tRet (tTup (tCons (tC (.str "wind")) (tCons (tVar 6) tNil))))
      tNext)
    (tSeq (tAsg (tIf (tTest (tOp (rEqP K) (tVar 6) (tC (.int 0)))) (tVar 11) (tOp (rI0 fun i j => .int (i - j)) (tOp (rI0 fun i j => .int (i - j)) (tVar 11) (tOp (rIxA K) (tVar 10) (tOp (rI0 fun i j => .int (i - j)) (tVar 6) (tC (.int 1))))) (tCB (Pu.rLen K) (tCons (tOp (rIxA K) (tVar 1) (tOp (rI0 fun i j => .int (i - j)) (tVar 6) (tC (.int 1)))) tNil)))) (gName 12))
    (tIfS (tNot (tTest (tChain (rI0 fun i j => .bl (decide (i ≤ j))) (rI0 fun i j => .bl (decide (i ≤ j))) (tC (.int 0)) (tVar 12) (tOp (rIxA K) (tVar 2) (tVar 6)))))
      (tRet (tTup (tCons (tC (.str "wait")) (tCons (tVar 6) tNil))))
      tNext))))
    (tRet (tIf (tOr (tNot (tTru K (tVar 10))) (tTest (tOp (rEqP K) (tOp (rIxA K) (tVar 10) (tUn (rU fun i => .int (-i)) (tC (.int 1)))) (tOp (rIxA K) (tOp (rIxA K) (tVar 4) (tUn (rU fun i => .int (-i)) (tC (.int 1)))) (tC (.int 0)))))) (tC .non) (tTup (tCons (tC (.str "least")) tNil)))))))))
/-- waits_of: slots parts 0, ticks 1, found 2, end 3, part 4, tick 5; own: found -/
abbrev N_waits_of : List Str := ["parts", "ticks", "found", "end", "part", "tick"]
def T_waits_of (K : PySem.W.Frag) : TS :=
    (tSeq (tAsg (tLst tNil) (gName 2))
    (tSeq (tAsg (tC (.int 0)) (gName 3))
    (tSeq (tFor (iZip K (tCons (tVar 0) (tCons (tVar 1) tNil))) (gTup K 2 (gCons (gName 4) (gCons (gName 5) gNil)))
      (tSeq (tDrop (tBM K "list" rAppend (tVar 2) (tCons (tOp (rI0 fun i j => .int (i - j)) (tVar 5) (tVar 3)) tNil)))
    (tAsg (tOp (rPlus K) (tVar 5) (tCB (Pu.rLen K) (tCons (tVar 4) tNil))) (gName 3))))
    (tRet (tVar 2)))))
/-- least_hold: slots rows 0, parts 1, most 2, told 3, _ 4 -/
abbrev N_least_hold : List Str := ["rows", "parts", "most", "told", "_"]
def T_least_hold (K : PySem.W.Frag) (R_hold : List D → (D → Prop) → Prop) : TS :=
    (tSeq (tFor (iRng1 (tCons (tOp (rPlus K) (tCB (Pu.rLen K) (tCons (tVar 0) tNil)) (tC (.int 1))) tNil)) (gName 2)
      (tSeq (tAsg (tCall (spP R_hold) [] E0 (tCons (tVar 0) (tCons (tVar 1) (tCons (tLc (iList K (tVar 1)) (gName 4) tYes (tVar 2) [4]) tNil)))) (gName 3))
    (tIfS (tTest (tOp (rEqP K) (tOp (rIxA K) (tVar 3) (tC (.int 0))) (tC (.str "begin"))))
      (tRet (tTup (tCons (tVar 2) (tCons (tOp (rIxA K) (tVar 3) (tC (.int 1))) tNil))))
      tNext)))
    (tRet (tC .non)))
/-- parts_of: slots needs 0, cuts 1, ends 2, at 3 -/
abbrev N_parts_of : List Str := ["needs", "cuts", "ends", "at"]
def T_parts_of (K : PySem.W.Frag) : TS :=
    (tSeq (tAsg (tOp (rPlus K) (tOp (rPlus K) (tLst (tCons (tC (.int 0)) tNil)) (tCB (rList K) (tCons (tVar 1) tNil))) (tLst (tCons (tCB (Pu.rLen K) (tCons (tVar 0) tNil)) tNil))) (gName 2))
    (tRet (tLc (iRng1 (tCons (tOp (rI0 fun i j => .int (i - j)) (tCB (Pu.rLen K) (tCons (tVar 2) tNil)) (tC (.int 1))) tNil)) (gName 3) tYes (tSl (rSl K) (tVar 0) (tPart (tOp (rIxA K) (tVar 2) (tVar 3))) (tPart (tOp (rIxA K) (tVar 2) (tOp (rPlus K) (tVar 3) (tC (.int 1)))))) [3])))
/-- _law_state: slots script 0, cells 1, cell 2 -/
abbrev N_l_state : List Str := ["script", "cells", "cell"]
def T_l_state (K : PySem.W.Frag) : TS :=
    (tSeq (tAsg (tLc (iList K (tSl (rSl K) (tVar 0) tNoPart (tPart (tC (.int 63))))) (gName 2) tYes (tCB (rAbs) (tCons (tVar 2) tNil)) [2]) (gName 1))
    (tSeq (tIfS (tTest (tOp (rEqP K) (tCB (Pu.rLen K) (tCons (tVar 1) tNil)) (tC (.int 0))))
      (tAsg (tLst (tCons (tC (.int 0)) tNil)) (gName 1))
      tNext)
    (tRet (tLst (tCons (tC (.int 0)) (tCons (tVar 1) tNil))))))
/-- _law_take: slots state 0, most 1, cells 2, at 3, cell 4, mixed 5; own: cells, state -/
abbrev N_l_take : List Str := ["state", "most", "cells", "at", "cell", "mixed"]
def T_l_take (K : PySem.W.Frag) : TS :=
    (tSeq (tAsg (tOp (rIxA K) (tVar 0) (tC (.int 1))) (gName 2))
    (tSeq (tAsg (tOp (rI (fun _ j => 0 < j) fun i j => .int (i % j)) (tOp (rIxA K) (tVar 0) (tC (.int 0))) (tCB (Pu.rLen K) (tCons (tVar 2) tNil))) (gName 3))
    (tSeq (tAsg (tOp (rIxA K) (tVar 2) (tVar 3)) (gName 4))
    (tSeq (tIfS (tTest (tOp (rI0 fun i j => .bl (decide (j ≤ i))) (tVar 4) (tC (.int 1000000000000000000))))
      (tSeq (tAsg (tOp (rI CDiv fun i j => .int (i / j)) (tVar 4) (tVar 1)) (gSub (tVar 2) (tVar 3) rSetL))
    (tRet (tOp (rI (fun _ j => 0 < j) fun i j => .int (i % j)) (tVar 4) (tVar 1))))
      tNext)
    (tSeq (tAsg (tOp (rPlus K) (tOp (rIxA K) (tVar 0) (tC (.int 0))) (tC (.int 1))) (gSub (tVar 0) (tC (.int 0)) rSetL))
    (tSeq (tAsg (tOp (rI (fun _ j => 0 < j) fun i j => .int (i % j)) (tCB (rInt) (tCons (tOp (rPlus K) (tOp (rI CMul fun i j => .int (i * j)) (tVar 4) (tC (.int 48271))) (tOp (rI CMul fun i j => .int (i * j)) (tOp (rIxA K) (tVar 0) (tC (.int 0))) (tC (.int 69621)))) tNil)) (tC (.int 2147483647))) (gName 5))
    (tSeq (tAsg (tOp (rI (fun _ j => 0 < j) fun i j => .int (i % j)) (tCB (rInt) (tCons (tOp (rPlus K) (tOp (rI CMul fun i j => .int (i * j)) (tVar 5) (tC (.int 16807))) (tOp (rI CMul fun i j => .int (i * j)) (tOp (rIxA K) (tVar 0) (tC (.int 0))) (tC (.int 7919)))) tNil)) (tC (.int 1000000007))) (gName 5))
    (tRet (tOp (rI (fun _ j => 0 < j) fun i j => .int (i % j)) (tOp (rI CDiv fun i j => .int (i / j)) (tVar 5) (tC (.int 7))) (tVar 1))))))))))
/-- _law_fits: slots rows 0, part 1, tick 2, k 3 -/
abbrev N_l_fits : List Str := ["rows", "part", "tick", "k"]
def T_l_fits (K : PySem.W.Frag) : TS :=
    (tSeq (tIfS (tOr (tTest (tOp (rI0 fun i j => .bl (decide (i < j))) (tVar 2) (tC (.int 0)))) (tTest (tOp (rI0 fun i j => .bl (decide (j < i))) (tOp (rPlus K) (tVar 2) (tCB (Pu.rLen K) (tCons (tVar 1) tNil))) (tCB (Pu.rLen K) (tCons (tVar 0) tNil)))))
      (tRet (tC (.bl false)))
      tNext)
    (tRet (tOp (rEqP K) (tCB (Pu.rLen K) (tCons (tLc (iRng1 (tCons (tCB (Pu.rLen K) (tCons (tVar 1) tNil)) tNil)) (gName 3) (tOr (tTest (tOp (rI0 fun i j => .bl (decide (i < j))) (tOp (rIxA K) (tOp (rIxA K) (tVar 0) (tOp (rPlus K) (tVar 2) (tVar 3))) (tC (.int 0))) (tOp (rIxA K) (tOp (rIxA K) (tVar 1) (tVar 3)) (tC (.int 0))))) (tTest (tOp (rI0 fun i j => .bl (decide (j < i))) (tOp (rIxA K) (tOp (rIxA K) (tVar 0) (tOp (rPlus K) (tVar 2) (tVar 3))) (tC (.int 1))) (tOp (rIxA K) (tOp (rIxA K) (tVar 1) (tVar 3)) (tC (.int 1)))))) (tVar 3) [3]) tNil)) (tC (.int 0)))))
/-- _law_ways: slots rows 0, parts 1, most 2, row 3, end 4, found 5, part 6, wait 7; own: found -/
abbrev N_l_ways : List Str := ["rows", "parts", "most", "row", "end", "found", "part", "wait"]
def T_l_ways (K : PySem.W.Frag) (R_l_fits : List D → (D → Prop) → Prop) (R_l_ways : List D → (D → Prop) → Prop) : TS :=
    (tSeq (tIfS (tTest (tOp (rEqP K) (tCB (Pu.rLen K) (tCons (tVar 3) tNil)) (tCB (Pu.rLen K) (tCons (tVar 1) tNil))))
      (tRet (tLst (tCons (tVar 3) tNil)))
      tNext)
    (tSeq (tAsg (tLst tNil) (gName 5))
    (tSeq (tAsg (tOp (rIxA K) (tVar 1) (tCB (Pu.rLen K) (tCons (tVar 3) tNil))) (gName 6))
    (tSeq (tFor (iRng1 (tCons (tOp (rPlus K) (tOp (rIxA K) (tVar 2) (tCB (Pu.rLen K) (tCons (tVar 3) tNil))) (tC (.int 1))) tNil)) (gName 7)
      (tIfS (tB (tCall (spP R_l_fits) [] E0 (tCons (tVar 0) (tCons (tVar 6) (tCons (tOp (rPlus K) (tVar 4) (tVar 7)) tNil)))))
      (tDrop (tBM K "list" rExtR (tVar 5) (tCons (tCall (spP R_l_ways) [] E0 (tCons (tVar 0) (tCons (tVar 1) (tCons (tVar 2) (tCons (tOp (rPlus K) (tVar 3) (tLst (tCons (tOp (rPlus K) (tVar 4) (tVar 7)) tNil))) (tCons (tOp (rPlus K) (tOp (rPlus K) (tVar 4) (tVar 7)) (tCB (Pu.rLen K) (tCons (tVar 6) tNil))) tNil)))))) tNil)))
      tNext))
    (tRet (tVar 5))))))
/-- _law_lots: slots rows 0, parts 1, most 2, found 3, k 4, row 5; own: found -/
abbrev N_l_lots : List Str := ["rows", "parts", "most", "found", "k", "row"]
def T_l_lots (K : PySem.W.Frag) (R_l_ways : List D → (D → Prop) → Prop) : TS :=
    (tSeq (tAsg (tLst tNil) (gName 3))
    (tSeq (tFor (iRng1 (tCons (tCB (Pu.rLen K) (tCons (tVar 1) tNil)) tNil)) (gName 4)
      (tDrop (tBM K "list" rAppend (tVar 3) (tCons (tSS K (tLc (iList K (tCall (spP R_l_ways) [] E0 (tCons (tVar 0) (tCons (tSl (rSl K) (tVar 1) tNoPart (tPart (tOp (rPlus K) (tVar 4) (tC (.int 1))))) (tCons (tSl (rSl K) (tVar 2) tNoPart (tPart (tOp (rPlus K) (tVar 4) (tC (.int 1))))) (tCons (tLst tNil) (tCons (tC (.int 0)) tNil))))))) (gName 5) tYes (tOp (rIxA K) (tVar 5) (tVar 4)) [5])) tNil))))
    (tRet (tVar 3))))
/-- _law_fault: slots rows 0, parts 1, most 2, lots 3, told 4, word 5, at 6, rest 7, k 8, ticks 9, wait 10 -/
abbrev N_l_fault : List Str := ["rows", "parts", "most", "lots", "told", "word", "at", "rest", "k", "ticks", "wait"]
def T_l_fault (K : PySem.W.Frag) (R_l_fits : List D → (D → Prop) → Prop) : TS :=
    (tSeq (tIfS (tTest (tOp (rEqP K) (tOp (rIxA K) (tVar 4) (tC (.int 0))) (tC (.str "never"))))
      (tSeq (tAsg (tVar 4) (gTup K 3 (gCons (gName 5) (gCons (gName 6) (gCons (gName 7) gNil)))))
    (tSeq (tIfS (tOr (tNot (tTest (tChain (rI0 fun i j => .bl (decide (i ≤ j))) (rI0 fun i j => .bl (decide (i < j))) (tC (.int 0)) (tVar 6) (tCB (Pu.rLen K) (tCons (tVar 1) tNil))))) (tTest (tOp (rNeP K) (tCB (Pu.rLen K) (tCons (tVar 7) tNil)) (tOp (rPlus K) (tVar 6) (tC (.int 1))))))
      (tRet (tTup (tCons (tC (.str "part")) tNil)))
      tNext)
    (tSeq (tFor (iRng1 (tCons (tCB (Pu.rLen K) (tCons (tVar 7) tNil)) tNil)) (gName 8)
      (tIfS (tTest (tOp (rNeP K) (tOp (rIxA K) (tVar 7) (tVar 8)) (tOp (rIxA K) (tVar 3) (tVar 8))))
      (tRet (tTup (tCons (tC (.str "lot")) (tCons (tVar 8) tNil))))
      tNext))
    (tRet (tIf (tAnd (tTest (tOp (rEqP K) (tOp (rIxA K) (tVar 7) (tUn (rU fun i => .int (-i)) (tC (.int 1)))) (tLst tNil))) (tTest (tOp (rNinP K) (tLst tNil) (tSl (rSl K) (tVar 7) tNoPart (tPart (tUn (rU fun i => .int (-i)) (tC (.int 1)))))))) (tC .non) (tTup (tCons (tC (.str "begins")) tNil)))))))
      tNext)
    (tSeq (tAsg (tOp (rIxA K) (tVar 4) (tC (.int 1))) (gName 9))
    (tSeq (tIfS (tTest (tOp (rNeP K) (tCB (Pu.rLen K) (tCons (tVar 9) tNil)) (tCB (Pu.rLen K) (tCons (tVar 1) tNil))))
      (tRet (tTup (tCons (tC (.str "length")) tNil)))
      tNext)
    (tSeq (tFor (iRng1 (tCons (tCB (Pu.rLen K) (tCons (tVar 1) tNil)) tNil)) (gName 8)
      (tSeq (tIfS (tNot (tB (tCall (spP R_l_fits) [] E0 (tCons (tVar 0) (tCons (tOp (rIxA K) (tVar 1) (tVar 8)) (tCons (tOp (rIxA K) (tVar 9) (tVar 8)) tNil))))))
      (tRet (tTup (tCons (tC (.str "wind")) (tCons (tVar 8) tNil))))
      tNext)
    (tSeq (tAsg (tOp (rI0 fun i j => .int (i - j)) (tOp (rIxA K) (tVar 9) (tVar 8)) (tIf (tTest (tOp (rI0 fun i j => .bl (decide (j < i))) (tVar 8) (tC (.int 0)))) (tOp (rPlus K) (tOp (rIxA K) (tVar 9) (tOp (rI0 fun i j => .int (i - j)) (tVar 8) (tC (.int 1)))) (tCB (Pu.rLen K) (tCons (tOp (rIxA K) (tVar 1) (tOp (rI0 fun i j => .int (i - j)) (tVar 8) (tC (.int 1)))) tNil))) (tC (.int 0)))) (gName 10))
    (tIfS (tNot (tTest (tChain (rI0 fun i j => .bl (decide (i ≤ j))) (rI0 fun i j => .bl (decide (i ≤ j))) (tC (.int 0)) (tVar 10) (tOp (rIxA K) (tVar 2) (tVar 8)))))
      (tRet (tTup (tCons (tC (.str "wait")) (tCons (tVar 8) tNil))))
      tNext))))
    (tRet (tIf (tOr (tTest (tOp (rEqP K) (tCB (Pu.rLen K) (tCons (tVar 9) tNil)) (tC (.int 0)))) (tTest (tOp (rEqP K) (tOp (rIxA K) (tVar 9) (tUn (rU fun i => .int (-i)) (tC (.int 1)))) (tOp (rIxA K) (tOp (rIxA K) (tVar 3) (tUn (rU fun i => .int (-i)) (tC (.int 1)))) (tC (.int 0)))))) (tC .non) (tTup (tCons (tC (.str "least")) tNil))))))))
/-- law: slots script 0, state 1, rows 2, parts 3, k 4, low 5, part 6, j 7, most 8, kept 9, told 10, ways 11, lots 12, ticks 13, waits 14, row 15, able 16, least 17, tick 18, needs 19, cuts 20, turn 21, rest 22, lot 23, at 24, other 25; own: needs, part, parts, rest, rows, ticks -/
abbrev N_law : List Str := ["script", "state", "rows", "parts", "k", "low", "part", "j", "most", "kept", "told", "ways", "lots", "ticks", "waits", "row", "able", "least", "tick", "needs", "cuts", "turn", "rest", "lot", "at", "other"]
def T_law (K : PySem.W.Frag) (R_l_state : List D → (Stt → Prop) → Prop) (R_hold : List D → (D → Prop) → Prop) (R_l_ways : List D → (D → Prop) → Prop) (R_l_lots : List D → (D → Prop) → Prop) (R_least_hold : List D → (D → Prop) → Prop) (R_l_take : Stt → List D → (D → Stt → Prop) → Prop) (R_l_fault : List D → (D → Prop) → Prop) (R_hold_fault : List D → (D → Prop) → Prop) (R_waits_of : List D → (D → Prop) → Prop) (R_parts_of : List D → (D → Prop) → Prop) (R_part_fits : List D → (D → Prop) → Prop) (R_l_fits : List D → (D → Prop) → Prop) : TS :=
    (tSeq (tAsg (tCall (spN R_l_state) [] E0 (tCons (tVar 0) tNil)) (gName 1))
    (tSeq (tAsg (tTup (tCons (tLst tNil) (tCons (tLst tNil) tNil))) (gTup K 2 (gCons (gName 2) (gCons (gName 3) gNil))))
    (tSeq (tFor (iRng1 (tCons (tCall (spS R_l_take) [] E0 (tCons (tVar 1) (tCons (tC (.int 11)) tNil))) tNil)) (gName 4)
      (tSeq (tAsg (tOp (rI0 fun i j => .int (i - j)) (tCall (spS R_l_take) [] E0 (tCons (tVar 1) (tCons (tC (.int 6)) tNil))) (tC (.int 3))) (gName 5))
    (tDrop (tBM K "list" rAppend (tVar 2) (tCons (tTup (tCons (tVar 5) (tCons (tOp (rPlus K) (tVar 5) (tCall (spS R_l_take) [] E0 (tCons (tVar 1) (tCons (tC (.int 4)) tNil)))) tNil))) tNil)))))
    (tSeq (tFor (iRng1 (tCons (tCall (spS R_l_take) [] E0 (tCons (tVar 1) (tCons (tC (.int 4)) tNil))) tNil)) (gName 4)
      (tSeq (tAsg (tLst tNil) (gName 6))
    (tSeq (tFor (iRng1 (tCons (tCall (spS R_l_take) [] E0 (tCons (tVar 1) (tCons (tC (.int 4)) tNil))) tNil)) (gName 7)
      (tSeq (tAsg (tOp (rI0 fun i j => .int (i - j)) (tC (.int 0)) (tCall (spS R_l_take) [] E0 (tCons (tVar 1) (tCons (tC (.int 5)) tNil)))) (gName 5))
    (tDrop (tBM K "list" rAppend (tVar 6) (tCons (tTup (tCons (tVar 5) (tCons (tOp (rPlus K) (tOp (rPlus K) (tVar 5) (tC (.int 3))) (tCall (spS R_l_take) [] E0 (tCons (tVar 1) (tCons (tC (.int 5)) tNil)))) tNil))) tNil)))))
    (tDrop (tBM K "list" rAppend (tVar 3) (tCons (tVar 6) tNil))))))
    (tSeq (tAsg (tLc (iList K (tVar 3)) (gName 6) tYes (tCall (spS R_l_take) [] E0 (tCons (tVar 1) (tCons (tC (.int 4)) tNil))) [6]) (gName 8))
    (tSeq (tAsg (tCB (rRepr K) (tCons (tTup (tCons (tVar 2) (tCons (tVar 3) (tCons (tVar 8) tNil)))) tNil)) (gName 9))
    (tSeq (tAsg (tCall (spP R_hold) [] E0 (tCons (tVar 2) (tCons (tVar 3) (tCons (tVar 8) tNil)))) (gName 10))
    (tSeq (tAsg (tCall (spP R_l_ways) [] E0 (tCons (tVar 2) (tCons (tVar 3) (tCons (tVar 8) (tCons (tLst tNil) (tCons (tC (.int 0)) tNil)))))) (gName 11))
    (tSeq (tAsg (tCall (spP R_l_lots) [] E0 (tCons (tVar 2) (tCons (tVar 3) (tCons (tVar 8) tNil)))) (gName 12))
    (tSeq (tIfS (tOr (tNot (tB (tCB RZ.rIsTy (tCons (tVar 10) (tCons (tC (.ty "tuple")) tNil))))) (tOr (tTest (tOp (rNeP K) (tOp (rIxA K) (tVar 10) (tC (.int 0))) (tIf (tTest (tOp (rI0 fun i j => .bl (decide (j < i))) (tCB (Pu.rLen K) (tCons (tVar 11) tNil)) (tC (.int 0)))) (tC (.str "begin")) (tC (.str "never"))))) (tTest (tOp (rNeP K) (tCB (rRepr K) (tCons (tTup (tCons (tVar 2) (tCons (tVar 3) (tCons (tVar 8) tNil)))) tNil)) (tVar 9)))))
      (tRet (tC (.bl false)))
      tNext)
    (tSeq (tIfS (tOr (tTest (tOp (rIsnt) (tCall (spP R_l_fault) [] E0 (tCons (tVar 2) (tCons (tVar 3) (tCons (tVar 8) (tCons (tVar 12) (tCons (tVar 10) tNil)))))) (tC .non))) (tTest (tOp (rIsnt) (tCall (spP R_hold_fault) [] E0 (tCons (tVar 2) (tCons (tVar 3) (tCons (tVar 8) (tCons (tVar 10) tNil))))) (tC .non))))
      (tRet (tC (.bl false)))
      tNext)
    (tSeq (tIfS (tTest (tOp (rEqP K) (tOp (rIxA K) (tVar 10) (tC (.int 0))) (tC (.str "begin"))))
      (tSeq (tAsg (tOp (rIxA K) (tVar 10) (tC (.int 1))) (gName 13))
    (tSeq (tAsg (tLc (iRng1 (tCons (tCB (Pu.rLen K) (tCons (tVar 13) tNil)) tNil)) (gName 4) tYes (tOp (rI0 fun i j => .int (i - j)) (tOp (rIxA K) (tVar 13) (tVar 4)) (tIf (tTest (tOp (rI0 fun i j => .bl (decide (j < i))) (tVar 4) (tC (.int 0)))) (tOp (rPlus K) (tOp (rIxA K) (tVar 13) (tOp (rI0 fun i j => .int (i - j)) (tVar 4) (tC (.int 1)))) (tCB (Pu.rLen K) (tCons (tOp (rIxA K) (tVar 3) (tOp (rI0 fun i j => .int (i - j)) (tVar 4) (tC (.int 1)))) tNil))) (tC (.int 0)))) [4]) (gName 14))
    (tSeq (tIfS (tTest (tOp (rNeP K) (tCall (spP R_waits_of) [] E0 (tCons (tVar 3) (tCons (tVar 13) tNil))) (tVar 14)))
      (tRet (tC (.bl false)))
      tNext)
    (tFor (iList K (tSl (rSl K) (tVar 11) tNoPart (tPart (tC (.int 20))))) (gName 15)
      (tIfS (tTest (tOp (rNeP K) (tCall (spP R_hold_fault) [] E0 (tCons (tVar 2) (tCons (tVar 3) (tCons (tVar 8) (tCons (tTup (tCons (tC (.str "begin")) (tCons (tVar 15) tNil))) tNil))))) (tIf (tOr (tTest (tOp (rEqP K) (tCB (Pu.rLen K) (tCons (tVar 15) tNil)) (tC (.int 0)))) (tTest (tOp (rEqP K) (tOp (rIxA K) (tVar 15) (tUn (rU fun i => .int (-i)) (tC (.int 1)))) (tOp (rIxA K) (tVar 13) (tUn (rU fun i => .int (-i)) (tC (.int 1))))))) (tC .non) (tTup (tCons (tC (.str "least")) tNil)))))
      (tRet (tC (.bl false)))
      tNext)))))
      tNext)
    (tSeq (tAsg (tLc (iRng1 (tCons (tOp (rPlus K) (tCB (Pu.rLen K) (tCons (tVar 2) tNil)) (tC (.int 1))) tNil)) (gName 4) (tTest (tOp (rI0 fun i j => .bl (decide (j < i))) (tCB (Pu.rLen K) (tCons (tCall (spP R_l_ways) [] E0 (tCons (tVar 2) (tCons (tVar 3) (tCons (tLc (iList K (tVar 3)) (gName 6) tYes (tVar 4) [6]) (tCons (tLst tNil) (tCons (tC (.int 0)) tNil)))))) tNil)) (tC (.int 0)))) (tVar 4) [4]) (gName 16))
    (tSeq (tAsg (tCall (spP R_least_hold) [] E0 (tCons (tVar 2) (tCons (tVar 3) tNil))) (gName 17))
    (tSeq (tIfS (tOr (tTest (tOp (rNeP K) (tOp (rIs) (tVar 17) (tC .non)) (tOp (rEqP K) (tCB (Pu.rLen K) (tCons (tVar 16) tNil)) (tC (.int 0))))) (tAnd (tTest (tOp (rIsnt) (tVar 17) (tC .non))) (tTest (tOp (rNeP K) (tOp (rIxA K) (tVar 17) (tC (.int 0))) (tOp (rIxA K) (tVar 16) (tC (.int 0)))))))
      (tRet (tC (.bl false)))
      tNext)
    (tSeq (tFor (iList K (tSl (rSl K) (tVar 3) tNoPart (tPart (tC (.int 2))))) (gName 6)
      (tFor (iRng1 (tCons (tCB (Pu.rLen K) (tCons (tVar 2) tNil)) tNil)) (gName 18)
      (tIfS (tTest (tOp (rNeP K) (tCall (spP R_part_fits) [] E0 (tCons (tVar 2) (tCons (tVar 6) (tCons (tVar 18) tNil)))) (tCall (spP R_l_fits) [] E0 (tCons (tVar 2) (tCons (tVar 6) (tCons (tVar 18) tNil))))))
      (tRet (tC (.bl false)))
      tNext)))
    (tSeq (tAsg (tLst tNil) (gName 19))
    (tSeq (tFor (iList K (tVar 3)) (gName 6)
      (tDrop (tBM K "list" rExtR (tVar 19) (tCons (tVar 6) tNil))))
    (tSeq (tAsg (tLc (iRng2 (tCons (tC (.int 1)) (tCons (tCB (Pu.rLen K) (tCons (tVar 3) tNil)) tNil))) (gName 4) tYes (tCB (rSum K) (tCons (tLc (iList K (tSl (rSl K) (tVar 3) tNoPart (tPart (tVar 4)))) (gName 6) tYes (tCB (Pu.rLen K) (tCons (tVar 6) tNil)) [6]) tNil)) [4]) (gName 20))
    (tSeq (tIfS (tAnd (tTest (tOp (rI0 fun i j => .bl (decide (j < i))) (tCB (Pu.rLen K) (tCons (tVar 3) tNil)) (tC (.int 0)))) (tTest (tOp (rNeP K) (tCall (spP R_parts_of) [] E0 (tCons (tVar 19) (tCons (tVar 20) tNil))) (tVar 3))))
      (tRet (tC (.bl false)))
      tNext)
    (tSeq (tFor (iRng1 (tCons (tC (.int 7)) tNil)) (gName 21)
      (tSeq (tIfS (tTest (tOp (rEqP K) (tOp (rIxA K) (tVar 10) (tC (.int 0))) (tC (.str "never"))))
      (tSeq (tAsg (tLc (iList K (tOp (rIxA K) (tVar 10) (tC (.int 2)))) (gName 23) tYes (tCB (rList K) (tCons (tVar 23) tNil)) [23]) (gName 22))
    (tSeq (tAsg (tCall (spS R_l_take) [] E0 (tCons (tVar 1) (tCons (tCB (Pu.rLen K) (tCons (tVar 22) tNil)) tNil))) (gName 24))
    (tSeq (tAsg (tIf (tTest (tOp (rI0 fun i j => .bl (decide (j < i))) (tCB (Pu.rLen K) (tCons (tOp (rIxA K) (tVar 22) (tVar 24)) tNil)) (tC (.int 0)))) (tSl (rSl K) (tOp (rIxA K) (tVar 22) (tVar 24)) (tPart (tC (.int 1))) tNoPart) (tLst (tCons (tC (.int 0)) tNil))) (gSub (tVar 22) (tVar 24) rSetL))
    (tAsg (tOp (rIxA K) (tLst (tCons (tTup (tCons (tC (.str "never")) (tCons (tOp (rIxA K) (tVar 10) (tC (.int 1))) (tCons (tVar 22) tNil)))) (tCons (tTup (tCons (tC (.str "never")) (tCons (tOp (rPlus K) (tOp (rIxA K) (tVar 10) (tC (.int 1))) (tC (.int 1))) (tCons (tVar 22) tNil)))) (tCons (tTup (tCons (tC (.str "begin")) (tCons (tLc (iList K (tVar 3)) (gName 6) tYes (tC (.int 0)) [6]) tNil))) tNil)))) (tCall (spS R_l_take) [] E0 (tCons (tVar 1) (tCons (tC (.int 3)) tNil)))) (gName 25)))))
      (tSeq (tAsg (tCB (rList K) (tCons (tOp (rIxA K) (tVar 10) (tC (.int 1))) tNil)) (gName 13))
    (tSeq (tIfS (tTest (tOp (rI0 fun i j => .bl (decide (j < i))) (tCB (Pu.rLen K) (tCons (tVar 13) tNil)) (tC (.int 0))))
      (tSeq (tAsg (tCall (spS R_l_take) [] E0 (tCons (tVar 1) (tCons (tCB (Pu.rLen K) (tCons (tVar 13) tNil)) tNil))) (gName 24))
    (tAsg (tOp (rPlus K) (tOp (rIxA K) (tVar 13) (tVar 24)) (tOp (rIxA K) (tLst (tCons (tC (.int 1)) (tCons (tOp (rI0 fun i j => .int (i - j)) (tC (.int 0)) (tC (.int 1))) (tCons (tC (.int 3)) tNil)))) (tCall (spS R_l_take) [] E0 (tCons (tVar 1) (tCons (tC (.int 3)) tNil))))) (gSub (tVar 13) (tVar 24) rSetL)))
      tNext)
    (tAsg (tOp (rIxA K) (tLst (tCons (tTup (tCons (tC (.str "begin")) (tCons (tVar 13) tNil))) (tCons (tTup (tCons (tC (.str "begin")) (tCons (tSl (rSl K) (tVar 13) (tPart (tC (.int 1))) tNoPart) tNil))) (tCons (tTup (tCons (tC (.str "never")) (tCons (tC (.int 0)) (tCons (tLst (tCons (tLst tNil) tNil)) tNil)))) tNil)))) (tCall (spS R_l_take) [] E0 (tCons (tVar 1) (tCons (tC (.int 3)) tNil)))) (gName 25)))))
    (tIfS (tTest (tOp (rNeP K) (tCall (spP R_hold_fault) [] E0 (tCons (tVar 2) (tCons (tVar 3) (tCons (tVar 8) (tCons (tVar 25) tNil))))) (tCall (spP R_l_fault) [] E0 (tCons (tVar 2) (tCons (tVar 3) (tCons (tVar 8) (tCons (tVar 12) (tCons (tVar 25) tNil))))))))
      (tRet (tC (.bl false)))
      tNext)))
    (tRet (tOp (rEqP K) (tCB (rRepr K) (tCons (tTup (tCons (tVar 2) (tCons (tVar 3) (tCons (tVar 8) tNil)))) tNil)) (tVar 9))))))))))))))))))))))))
end Law_k89
/-! k89: shows in parts with waits -/
namespace Law_k89
open Pu
abbrev Pt := List (Int × Int)
def loF (bs : Pt) (k : Nat) : Int := (bs.getD k (0, 0)).1
def hiF (bs : Pt) (k : Nat) : Int := (bs.getD k (0, 0)).2
def fitJ (ws p : Pt) (t j : Nat) : Bool := decide (loF p j ≤ loF ws (t + j)) && decide (hiF ws (t + j) ≤ hiF p j)
def fitB (ws p : Pt) (t : Int) : Bool := decide (0 ≤ t) && (decide (t + (p.length : Int) ≤ (ws.length : Int)) && (List.range p.length).all (fitJ ws p t.toNat))
theorem fit_in {ws p : Pt} {t : Int} (h : fitB ws p t = true) : 0 ≤ t ∧ t + (p.length : Int) ≤ (ws.length : Int) := by
  unfold fitB at h
  rw [Bool.and_eq_true, Bool.and_eq_true, decide_eq_true_eq, decide_eq_true_eq] at h
  exact ⟨h.1, h.2.1⟩
def lenF (parts : List Pt) (k : Nat) : Int := ((parts.getD k []).length : Int)
def endF (parts : List Pt) (w : Nat → Int) : Nat → Int
  | 0 => 0
  | k + 1 => w k + lenF parts k
structure CondW (ws : Pt) (parts : List Pt) (ms : List Int) (w : Nat → Int) (k : Nat) : Prop where
  fit : fitB ws (parts.getD k []) (w k) = true
  lo : 0 ≤ w k - endF parts w k
  hi : w k - endF parts w k ≤ ms.getD k 0
def okB (parts : List Pt) (ms : List Int) (k : Nat) (t b : Int) : Bool := decide (0 ≤ t - b - lenF parts k) && decide (t - b - lenF parts k ≤ ms.getD (k + 1) 0)
def behB (ws : Pt) (parts : List Pt) (ms : List Int) (prev : List Int) : Nat → Int → Bool
  | 0, t => decide (t ≤ ms.getD 0 0)
  | k + 1, t => prev.any (okB parts ms k t)
def LF (ws : Pt) (parts : List Pt) (ms : List Int) : Nat → List Int
  | 0 => (rngI 0 (ws.length + 1)).filter fun t => behB ws parts ms [] 0 t && fitB ws (parts.getD 0 []) t
  | k + 1 => (rngI 0 (ws.length + 1)).filter fun t => behB ws parts ms (LF ws parts ms k) (k + 1) t && fitB ws (parts.getD (k + 1) []) t
theorem endF_congr {parts : List Pt} {u w : Nat → Int} {k : Nat} (h : ∀ j, j < k → u j = w j) : endF parts u k = endF parts w k := by
  cases k with
  | zero => rfl
  | succ k => show u k + _ = w k + _; rw [h k (by omega)]
theorem LF_mem {ws : Pt} {parts : List Pt} {ms : List Int} : ∀ {k : Nat} {t : Int}, t ∈ LF ws parts ms k ↔ ∃ w : Nat → Int, (∀ j, j ≤ k → CondW ws parts ms w j) ∧ w k = t
  | 0, t => by
    unfold LF behB
    rw [List.mem_filter, rngI_mem, Bool.and_eq_true, decide_eq_true_eq]
    constructor
    · rintro ⟨h1, h2, h3⟩
      refine ⟨fun _ => t, fun j hj => ?_, rfl⟩
      have : j = 0 := by omega
      subst this
      exact ⟨h3, by show 0 ≤ t - 0; omega, by show t - 0 ≤ _; omega⟩
    · rintro ⟨w, h, rfl⟩
      have c := h 0 (by omega)
      have f := fit_in c.fit
      have lo : 0 ≤ w 0 - 0 := c.lo
      have hi : w 0 - 0 ≤ ms.getD 0 0 := c.hi
      exact ⟨by omega, by omega, c.fit⟩
  | k + 1, t => by
    unfold LF behB
    rw [List.mem_filter, rngI_mem, Bool.and_eq_true, List.any_eq_true]
    constructor
    · rintro ⟨h1, ⟨b, hb, hok⟩, h3⟩
      obtain ⟨w, hw, rfl⟩ := LF_mem.mp hb
      unfold okB at hok
      rw [Bool.and_eq_true, decide_eq_true_eq, decide_eq_true_eq] at hok
      refine ⟨fun j => if j = k + 1 then t else w j, fun j hj => ?_, if_pos rfl⟩
      by_cases e : j = k + 1
      · subst e
        have ee : endF parts (fun j => if j = k + 1 then t else w j) (k + 1) = w k + lenF parts k := by
          show (if k = k + 1 then t else w k) + _ = _
          rw [if_neg (by omega)]
        refine ⟨?_, ?_, ?_⟩
        · show fitB ws _ (if k + 1 = k + 1 then t else w (k + 1)) = true
          rw [if_pos rfl]; exact h3
        · rw [ee]
          show 0 ≤ (if k + 1 = k + 1 then t else w (k + 1)) - _
          rw [if_pos rfl]; omega
        · rw [ee]
          show (if k + 1 = k + 1 then t else w (k + 1)) - _ ≤ _
          rw [if_pos rfl]; omega
      · have c := hw j (by omega)
        have ej : (fun j => if j = k + 1 then t else w j) j = w j := if_neg e
        have ee : endF parts (fun j => if j = k + 1 then t else w j) j = endF parts w j := endF_congr fun i hi => if_neg (by omega)
        refine ⟨?_, ?_, ?_⟩
        · show fitB ws _ (if j = k + 1 then t else w j) = true
          rw [if_neg e]; exact c.fit
        · rw [ee]
          show 0 ≤ (if j = k + 1 then t else w j) - _
          rw [if_neg e]; exact c.lo
        · rw [ee]
          show (if j = k + 1 then t else w j) - _ ≤ _
          rw [if_neg e]; exact c.hi
    · rintro ⟨w, h, rfl⟩
      have c := h (k + 1) (by omega)
      have f := fit_in c.fit
      have lo : 0 ≤ w (k + 1) - (w k + lenF parts k) := c.lo
      have hi : w (k + 1) - (w k + lenF parts k) ≤ ms.getD (k + 1) 0 := c.hi
      refine ⟨by omega, ⟨w k, LF_mem.mpr ⟨w, fun j hj => h j (by omega), rfl⟩, ?_⟩, c.fit⟩
      unfold okB
      rw [Bool.and_eq_true, decide_eq_true_eq, decide_eq_true_eq]
      omega
theorem rng_ris (lo : Int) (n : Nat) : (rngI lo n).Pairwise (· < ·) := by
  unfold rngI
  exact List.pairwise_map.mpr (List.pairwise_lt_range.imp fun h => by omega)
theorem LF_ris (ws : Pt) (parts : List Pt) (ms : List Int) (k : Nat) : (LF ws parts ms k).Pairwise (· < ·) := by
  cases k <;> exact List.Pairwise.filter _ (rng_ris _ _)
theorem LF_in {ws : Pt} {parts : List Pt} {ms : List Int} {k : Nat} {t : Int} (h : t ∈ LF ws parts ms k) : 0 ≤ t ∧ t ≤ (ws.length : Int) := by
  obtain ⟨w, hw, rfl⟩ := LF_mem.mp h
  have := fit_in (hw k (Nat.le_refl k)).fit
  omega
theorem LF_len (ws : Pt) (parts : List Pt) (ms : List Int) (k : Nat) : (LF ws parts ms k).length ≤ ws.length + 1 := by
  cases k <;> exact Nat.le_trans (List.length_filter_le _ _) (by rw [rngI_len]; exact Nat.le_refl _)
/-! ### all ways -/
def fnL (row : List Int) : Nat → Int := fun k => row.getD k 0
def allW (ws : Pt) (parts : List Pt) (ms : List Int) : Nat → List Int → List (List Int)
  | 0, row => [row]
  | r + 1, row => (rngI 0 (ms.getD row.length 0 + 1).toNat).flatMap fun w => if fitB ws (parts.getD row.length []) (endF parts (fnL row) row.length + w) = true then allW ws parts ms r (row ++ [endF parts (fnL row) row.length + w]) else []
theorem getD_app1 {xs ys : List Int} {i : Nat} (h : i < xs.length) : (xs ++ ys).getD i 0 = xs.getD i 0 := by
  rw [List.getD_eq_getElem?_getD, List.getD_eq_getElem?_getD, List.getElem?_append_left h]
theorem getD_app2 {xs : List Int} {t : Int} {ys : List Int} : (xs ++ t :: ys).getD xs.length 0 = t := by
  rw [List.getD_eq_getElem?_getD, List.getElem?_append_right (Nat.le_refl _)]
  simp
theorem end_app {parts : List Pt} {xs ys : List Int} {i : Nat} (h : i ≤ xs.length) : endF parts (fnL (xs ++ ys)) i = endF parts (fnL xs) i := endF_congr fun j hj => getD_app1 (by omega)
theorem condW_of {ws : Pt} {parts : List Pt} {ms : List Int} {u w : Nat → Int} {k : Nat} (h : CondW ws parts ms w k) (e : ∀ j, j ≤ k → u j = w j) : CondW ws parts ms u k := by
  have e1 := e k (Nat.le_refl k)
  have e2 : endF parts u k = endF parts w k := endF_congr fun j hj => e j (by omega)
  exact ⟨by rw [e1]; exact h.fit, by rw [e1, e2]; exact h.lo, by rw [e1, e2]; exact h.hi⟩
theorem mem_allC {ws : Pt} {parts : List Pt} {ms : List Int} {n : Nat} : ∀ (r : Nat) (row x : List Int), (∀ i, i < row.length → CondW ws parts ms (fnL row) i) → row.length + r = n → (x ∈ allW ws parts ms r row ↔ (∃ s, x = row ++ s) ∧ x.length = n ∧ ∀ k, k < n → CondW ws parts ms (fnL x) k)
  | 0, row, x, pc, e => by
    unfold allW
    rw [List.mem_singleton]
    constructor
    · rintro rfl
      exact ⟨⟨[], by simp⟩, by omega, fun k hk => pc k (by omega)⟩
    · rintro ⟨⟨s, rfl⟩, q, _⟩
      rw [List.length_append] at q
      have : s = [] := List.length_eq_zero_iff.mp (by omega)
      rw [this, List.append_nil]
  | r + 1, row, x, pc, e => by
    have at_ : ∀ (t : Int) (ys : List Int), CondW ws parts ms (fnL (row ++ t :: ys)) row.length ↔ fitB ws (parts.getD row.length []) t = true ∧ 0 ≤ t - endF parts (fnL row) row.length ∧ t - endF parts (fnL row) row.length ≤ ms.getD row.length 0 := fun t ys => by
      have e1 : fnL (row ++ t :: ys) row.length = t := getD_app2
      have e2 := end_app (parts := parts) (xs := row) (ys := t :: ys) (Nat.le_refl row.length)
      constructor
      · rintro ⟨a, b, c⟩
        rw [e1] at a b c
        rw [e2] at b c
        exact ⟨a, b, c⟩
      · rintro ⟨a, b, c⟩
        exact ⟨by rw [e1]; exact a, by rw [e1, e2]; exact b, by rw [e1, e2]; exact c⟩
    have pre1 : ∀ t, fitB ws (parts.getD row.length []) t = true → 0 ≤ t - endF parts (fnL row) row.length → t - endF parts (fnL row) row.length ≤ ms.getD row.length 0 → ∀ i, i < (row ++ [t]).length → CondW ws parts ms (fnL (row ++ [t])) i := fun t a b c i hi => by
      rw [List.length_append, List.length_singleton] at hi
      rcases (show i < row.length ∨ i = row.length by omega) with q | q
      · exact condW_of (pc i q) fun j hj => getD_app1 (by omega)
      · rw [q]
        exact (at_ t []).mpr ⟨a, b, c⟩
    unfold allW
    rw [List.mem_flatMap]
    constructor
    · rintro ⟨w, hw, hx⟩
      have hw := rngI_mem.mp hw
      by_cases hs : fitB ws (parts.getD row.length []) (endF parts (fnL row) row.length + w) = true
      · rw [if_pos hs] at hx
        have := (mem_allC (n := n) r (row ++ [endF parts (fnL row) row.length + w]) x (pre1 _ hs (by omega) (by omega)) (by simp; omega)).mp hx
        obtain ⟨⟨s, rfl⟩, q⟩ := this
        exact ⟨⟨(endF parts (fnL row) row.length + w) :: s, by simp⟩, q⟩
      · rw [if_neg hs] at hx; cases hx
    · rintro ⟨⟨s, rfl⟩, q1, q2⟩
      cases s with
      | nil =>
        rw [List.append_nil] at q1
        omega
      | cons t s =>
        have c1 := (at_ t s).mp (q2 row.length (by omega))
        refine ⟨t - endF parts (fnL row) row.length, rngI_mem.mpr (by omega), ?_⟩
        rw [show endF parts (fnL row) row.length + (t - endF parts (fnL row) row.length) = t by omega, if_pos c1.1]
        exact (mem_allC (n := n) r (row ++ [t]) _ (pre1 t c1.1 c1.2.1 c1.2.2) (by simp; omega)).mpr ⟨⟨s, by simp⟩, q1, q2⟩
def Way (ws : Pt) (parts : List Pt) (ms : List Int) (x : List Int) : Prop := x.length = parts.length ∧ ∀ k, k < parts.length → CondW ws parts ms (fnL x) k
theorem mem_all {ws : Pt} {parts : List Pt} {ms : List Int} {x : List Int} : x ∈ allW ws parts ms parts.length [] ↔ Way ws parts ms x := by
  rw [mem_allC (n := parts.length) parts.length [] x (fun i hi => absurd hi (by simp)) (by simp)]
  exact ⟨fun h => h.2, fun h => ⟨⟨x, rfl⟩, h⟩⟩
/-- a way by a function, up to k -/
theorem way_fn {ws : Pt} {parts : List Pt} {ms : List Int} {w : Nat → Int} (h : ∀ k, k < parts.length → CondW ws parts ms w k) : Way ws parts ms ((List.range parts.length).map w) := by
  have g : ∀ j, j < parts.length → fnL ((List.range parts.length).map w) j = w j := fun j hj => by
    unfold fnL
    rw [List.getD_eq_getElem?_getD, List.getElem?_map, List.getElem?_range hj]; rfl
  exact ⟨by simp, fun k hk => condW_of (h k hk) fun j hj => g j (by omega)⟩
theorem getD_take {α : Type} {xs : List α} {k j : Nat} {a : α} (h : j < k) : (xs.take k).getD j a = xs.getD j a := by
  rw [List.getD_eq_getElem?_getD, List.getD_eq_getElem?_getD, List.getElem?_take, if_pos h]
theorem cond_take {ws : Pt} {parts : List Pt} {ms : List Int} {w : Nat → Int} {k j : Nat} (h : j < k) : CondW ws (parts.take k) (ms.take k) w j ↔ CondW ws parts ms w j := by
  have ee : endF (parts.take k) w j = endF parts w j := by
    cases j with
    | zero => rfl
    | succ j => show w j + _ = w j + _; unfold lenF; rw [getD_take (by omega)]
  constructor
  · rintro ⟨a, b, c⟩
    rw [getD_take h] at a c
    rw [ee] at b c
    exact ⟨a, b, c⟩
  · rintro ⟨a, b, c⟩
    exact ⟨by rw [getD_take h]; exact a, by rw [ee]; exact b, by rw [ee, getD_take h]; exact c⟩
/-- the law's lots -/
theorem lots_mem {ws : Pt} {parts : List Pt} {ms : List Int} {k : Nat} (hk : k < parts.length) (t : Int) : t ∈ (allW ws (parts.take (k + 1)) (ms.take (k + 1)) (k + 1) []).map (fun r => r.getD k 0) ↔ t ∈ LF ws parts ms k := by
  have tl : (parts.take (k + 1)).length = k + 1 := by rw [List.length_take]; omega
  have ma := @mem_all ws (parts.take (k + 1)) (ms.take (k + 1))
  rw [tl] at ma
  rw [List.mem_map, LF_mem]
  constructor
  · rintro ⟨x, hx, rfl⟩
    obtain ⟨_, h2⟩ := ma.mp hx
    rw [tl] at h2
    exact ⟨fnL x, fun j hj => (cond_take (by omega)).mp (h2 j (by omega)), rfl⟩
  · rintro ⟨w, hw, rfl⟩
    refine ⟨(List.range (k + 1)).map w, ma.mpr ?_, ?_⟩
    · have := way_fn (ws := ws) (parts := parts.take (k + 1)) (ms := ms.take (k + 1)) (w := w) fun j hj => (cond_take (by omega)).mpr (hw j (by omega))
      rwa [tl] at this
    · rw [List.getD_eq_getElem?_getD, List.getElem?_map, List.getElem?_range (by omega)]; rfl
theorem LF_up {ws : Pt} {parts : List Pt} {ms : List Int} {k : Nat} (h : LF ws parts ms (k + 1) ≠ []) : LF ws parts ms k ≠ [] := by
  obtain ⟨t, ht⟩ := List.exists_mem_of_ne_nil _ h
  obtain ⟨w, hw, _⟩ := LF_mem.mp ht
  exact List.ne_nil_of_mem (LF_mem.mpr ⟨w, fun j hj => hw j (by omega), rfl⟩)
theorem LF_dn {ws : Pt} {parts : List Pt} {ms : List Int} {k : Nat} : ∀ d, LF ws parts ms (k + d) ≠ [] → LF ws parts ms k ≠ []
  | 0, h => h
  | d + 1, h => LF_dn d (LF_up h)
theorem ways_iff {ws : Pt} {parts : List Pt} {ms : List Int} : 0 < (allW ws parts ms parts.length []).length ↔ ∀ k, k < parts.length → LF ws parts ms k ≠ [] := by
  rw [List.length_pos_iff_exists_mem]
  constructor
  · rintro ⟨x, hx⟩ k hk
    have := (mem_all.mp hx).2
    exact List.ne_nil_of_mem (LF_mem.mpr ⟨fnL x, fun j hj => this j (by omega), rfl⟩)
  · intro h
    by_cases n0 : parts.length = 0
    · exact ⟨[], mem_all.mpr ⟨by simp [n0], fun k hk => by omega⟩⟩
    · obtain ⟨t, ht⟩ := List.exists_mem_of_ne_nil _ (h (parts.length - 1) (by omega))
      obtain ⟨w, hw, _⟩ := LF_mem.mp ht
      exact ⟨_, mem_all.mpr (way_fn fun k hk => hw k (by omega))⟩
theorem way_last {ws : Pt} {parts : List Pt} {ms : List Int} {x : List Int} (h : Way ws parts ms x) {k : Nat} (hk : k < parts.length) : x.getD k 0 ∈ LF ws parts ms k := LF_mem.mpr ⟨fnL x, fun j hj => h.2 j (by omega), rfl⟩
/-- how many ways at most -/
theorem all_len {ws : Pt} {parts : List Pt} {ms : List Int} {m : Nat} (hm : ∀ x ∈ ms, x ≤ (m : Int)) : ∀ (r : Nat) (row : List Int), (allW ws parts ms r row).length ≤ (m + 1) ^ r
  | 0, row => by simp [allW]
  | r + 1, row => by
    unfold allW
    have go : ∀ l : List Int, (l.flatMap fun w => if fitB ws (parts.getD row.length []) (endF parts (fnL row) row.length + w) = true then allW ws parts ms r (row ++ [endF parts (fnL row) row.length + w]) else []).length ≤ (m + 1) ^ r * l.length := by
      intro l
      induction l with
      | nil => simp
      | cons t l ih =>
        rw [List.flatMap_cons, List.length_append, List.length_cons, Nat.mul_succ]
        have : (if fitB ws (parts.getD row.length []) (endF parts (fnL row) row.length + t) = true then allW ws parts ms r (row ++ [endF parts (fnL row) row.length + t]) else []).length ≤ (m + 1) ^ r := by
          split
          · exact all_len hm r _
          · exact Nat.zero_le _
        omega
    refine Nat.le_trans (go _) ?_
    rw [rngI_len, Nat.pow_succ]
    refine Nat.mul_le_mul_left _ ?_
    have : ms.getD row.length 0 ≤ (m : Int) := by
      by_cases h : row.length < ms.length
      · exact hm _ (mem_D h)
      · rw [List.getD_eq_getElem?_getD, List.getElem?_eq_none (by omega)]
        show (0 : Int) ≤ _
        omega
    omega
/-- what hold tells -/
structure HoldOk (ws : Pt) (parts : List Pt) (ms : List Int) (ts : List Int) : Prop where
  way : Way ws parts ms ts
  full : ∀ k, k < parts.length → LF ws parts ms k ≠ []
  last : 0 < parts.length → ts.getD (parts.length - 1) 0 = (LF ws parts ms (parts.length - 1)).getD 0 0
end Law_k89
namespace Law_k89
open PySem L2 Pu
local macro_rules | `(tactic| walk_at "e") => `(tactic| first
  | ((with_reducible refine nx_seq ?_); (try dsimp only [List.set_cons_succ, List.set_cons_zero]))
  | ((with_reducible refine ex_vr ?_); dsimp only [VQ, List.set_cons_succ, List.set_cons_zero, List.getElem?_cons_zero, List.getElem?_cons_succ]; (fail_if_success (with_reducible show False)))
  | (with_reducible refine sx_seq ?_)
  | (with_reducible refine sx_if ?_)
  | (with_reducible refine sx_next ?_)
  | (with_reducible refine sx_ret ?_)
  | ((fail_if_success (with_reducible refine sx_asgO (eo_lst ?_))); (with_reducible refine sx_asg ?_))
  | (with_reducible refine ex_int ?_)
  | (with_reducible refine ex_str ?_)
  | (with_reducible refine ex_bl ?_)
  | (with_reducible refine ex_non ?_)
  | (with_reducible refine ex_op ?_)
  | (with_reducible refine ex_un ?_)
  | (with_reducible refine ex_chain ?_)
  | (with_reducible refine ex_call ?_)
  | (with_reducible refine ex_isT ?_)
  | (with_reducible refine ex_cb ?_)
  | (with_reducible refine ex_sl ?_)
  | (with_reducible refine ex_tup ?_)
  | (with_reducible refine ex_if ?_)
  | (with_reducible refine ex_of (eo_lst ?_))
  | (with_reducible refine ex_notV ?_)
  | (with_reducible refine ea_nil ?_)
  | (with_reducible refine ea_cons ?_)
  | (with_reducible refine ep_no ?_)
  | (with_reducible refine ep_some ?_)
  | (with_reducible refine et_test ?_)
  | (with_reducible refine et_B ?_)
  | (with_reducible refine et_ch3 ?_)
  | (with_reducible refine et_and ?_)
  | (with_reducible refine et_or ?_)
  | (with_reducible refine et_not ?_)
  | (with_reducible refine et_yes ?_)
  | (with_reducible refine et_truL ?_)
  | (with_reducible refine opd_plusI ?_)
  | (with_reducible refine opd_I0 ?_)
  | (with_reducible refine opd_B0 ?_)
  | (with_reducible refine opd_eqI ?_)
  | (with_reducible refine opd_neI ?_)
  | (with_reducible refine opd_eqS ?_)
  | (with_reducible refine opd_neS ?_)
  | (with_reducible refine opd_is ?_)
  | (with_reducible refine opd_isnt ?_)
  | (with_reducible refine opd_ixT rfl ?_)
  | (with_reducible refine opd_ixL rfl ?_)
  | (with_reducible refine und_neg ?_)
  | (with_reducible refine cbd_lenL ?_)
  | (with_reducible refine cbd_lenT ?_)
  | (with_reducible refine cbd_min2 ?_)
  | (with_reducible refine cbd_max2 ?_)
  | (with_reducible refine cbd_abs ?_)
  | (with_reducible refine cbd_int ?_)
  | (with_reducible refine cbd_tupL ?_)
  | (with_reducible refine cbd_listL ?_)
  | (with_reducible refine cbd_listT ?_)
  | (with_reducible refine cbd_sum ?_)
  | (with_reducible refine sld_T ?_)
  | (with_reducible refine sld_L ?_)
  | (with_reducible refine ex_revL ?_)
  | (with_reducible refine ex_bmL ?_)
  | (with_reducible refine ex_andV ?_)
  | (with_reducible refine ei_list ?_)
  | (with_reducible refine ei_rng1 ?_)
  | (with_reducible refine ei_rng2 ?_)
  | (with_reducible refine ei_enum ?_)
  | (with_reducible refine ei_enumT ?_)
  | (with_reducible refine ei_zip ?_)
  | (with_reducible refine sx_par ?_)
  | (with_reducible refine Exists.intro _ (And.intro rfl ?_))
  | (with_reducible refine Exists.intro _ (Exists.intro _ (And.intro rfl ?_)))
  | ((with_reducible show EX (tCall (spS _) [] _ (tCons (tVar _) _)) _ _); refine ex_callS rfl ?_)
  | ((with_reducible refine And.intro (show (_ : Nat) ≤ 100000 from ?_) ?_); (focus (simp; done)))
  | ((with_reducible refine opd_I ?_ ?_); focus (first | omega | (show CDiv _ _; exact ⟨by omega, by omega⟩) | (show CMul _ _; first | exact Or.inl ⟨by omega, by omega⟩ | exact Or.inr ⟨by omega, by omega⟩))))
local macro_rules | `(tactic| walk_at "es") => `(tactic| repeat walk_at "e")
local macro_rules | `(tactic| walk_at "w") => `(tactic| try dsimp only [wipeE, List.foldl_cons, List.foldl_nil, List.set_cons_succ, List.set_cons_zero])
local macro_rules | `(tactic| walk_at "le") => `(tactic| repeat' first | exact LeE.nil | (refine LeE.eq rfl ?_) | (refine LeE.emp ?_) | (refine LeE.eq ?_ ?_))
local macro_rules | `(tactic| walk_at "no") => `(tactic| ((refine And.intro (fun hb => absurd hb ?_) (fun _ => ?_)); (focus (first | (exact Bool.false_ne_true) | (simp; done) | (simp; omega) | (simp only [decide_eq_true_eq]; omega)))))
local macro_rules | `(tactic| walk_at "yes") => `(tactic| ((refine And.intro (fun _ => ?_) (fun hb => absurd hb ?_)); (rotate_left); (focus (first | (exact Bool.noConfusion) | (simp; done) | (simp; omega) | (simp only [decide_eq_false_iff_not]; omega)))))
local macro_rules | `(tactic| walk_at "ei") => `(tactic| repeat ((fail_if_success (with_reducible show SX (tSeq (tIfS _ _ _) _) _ _)); (fail_if_success (with_reducible show SX (tIfS _ _ _) _ _)); (fail_if_success (with_reducible show SX (tSeq (tAsg (tIf _ _ _) _) _) _ _)); walk_at "e"))
local macro_rules | `(tactic| walk_at "tv") => `(tactic| repeat' first | walk_at "e" | ((with_reducible show (_ = true → _) ∧ (_ = false → _)); refine And.intro (fun _ => ?_) (fun _ => ?_)))
def partD (p : Pt) : D := .list (p.map encP)
theorem opd_bnd {K : PySem.W.Frag} {bs : Pt} {k : Nat} {Q : D → Prop} (h : k < bs.length) (q : Q (.tuple [.int (loF bs k), .int (hiF bs k)])) : OpD (rIxA K) (.list (bs.map encP)) (.int (k : Int)) Q := opd_ixM (f := encP) (0, 0) (by omega) (by omega) (by rw [Int.toNat_natCast]; exact q)
theorem opd_part {K : PySem.W.Frag} {ps : List Pt} {k : Nat} {Q : D → Prop} (h : k < ps.length) (q : Q (.list ((ps.getD k []).map encP))) : OpD (rIxA K) (.list (ps.map partD)) (.int (k : Int)) Q := opd_ixM (f := partD) [] (by omega) (by omega) (by rw [Int.toNat_natCast]; exact q)
/-! ### whether a part fits -/
def R_pfits : List D → (D → Prop) → Prop := fun ds Z => ∃ (ws p : Pt) (t : Nat), ds = [.list (ws.map encP), .list (p.map encP), .int (t : Int)] ∧ ws.length ≤ 10 ∧ p.length ≤ 10 ∧ Z (.bool (fitB ws p (t : Int)))
theorem all_bools (f : Nat → Bool) (n : Nat) : (((rngI 0 n).map fun k => f k.toNat)).all id = (List.range n).all f := by
  unfold rngI
  rw [List.map_map, List.all_map]
  congr 1
  funext k
  simp only [Function.comp, Int.zero_add, Int.toNat_natCast, id]
theorem sx_part_fits (K : PySem.W.Frag) (ds : List D) (Z : D → Prop) (h : R_pfits ds Z) : SX (T_part_fits K) (startE N_part_fits ds) { nx := fun _ => Z .none, rt := fun d _ => Z d } := by
  obtain ⟨ws, p, t, rfl, hw, hp, z⟩ := h
  show SX (T_part_fits K) [.val (.list (ws.map encP)), .val (.list (p.map encP)), .val (.int (t : Int)), .emp, .emp, .emp] _
  unfold T_part_fits
  walk_at "es"
  rw [List.length_map, List.length_map]
  have e0 : decide (0 ≤ (t : Int)) = true := decide_eq_true (by omega)
  unfold fitB at z
  rw [e0, Bool.true_and] at z
  refine ⟨fun hq => ?_, fun hq => ?_⟩
  · have hq := of_decide_eq_true hq
    rw [decide_eq_false (by omega), Bool.false_and] at z
    walk_at "es"
    exact z
  have hq := of_decide_eq_false hq
  rw [decide_eq_true (by omega), Bool.true_and, Int.toNat_natCast] at z
  walk_at "es"
  refine ex_of (eo_lcP (α := Int) (fun _ => true) (fun k => .bool (fitJ ws p t k.toNat)) (ei_enum ?_))
  walk_at "es"
  rw [enum_rng (0, 0)]
  refine ⟨rngI 0 p.length, _, rfl, by rw [rngI_len]; omega, fun i hi => by simp at hi; rcases hi with rfl | rfl | rfl <;> rfl, fun x hx => ?_, ?_⟩
  · have hx := rngI_mem.mp hx
    obtain ⟨k, rfl⟩ : ∃ k : Nat, x = (k : Int) := ⟨x.toNat, by omega⟩
    rw [Int.toNat_natCast]
    refine sg_tup rfl (sgs_cons (sg_name (by simp) (sgs_cons (sg_tup rfl (sgs_cons (sg_name (by simp) (sgs_cons (sg_name (by simp) (sgs_nil (sgs_nil ⟨rfl, ?_⟩)))))))))) 
    walk_at "w"
    refine et_yes ⟨rfl, rfl, fun _ => ?_⟩
    walk_at "es"
    rw [show (t : Int) + (k : Int) = ((t + k : Nat) : Int) by omega]
    refine opd_bnd (by omega) ?_
    walk_at "es"
    unfold fitJ
    have e1 : loF p k = (p.getD k (0, 0)).1 := rfl
    have e2 : hiF p k = (p.getD k (0, 0)).2 := rfl
    rw [e1, e2]
    refine ⟨fun h1 => ?_, fun h1 => ?_⟩
    · rw [h1]
      walk_at "es"
      rw [show (t : Int) + (k : Int) = ((t + k : Nat) : Int) by omega]
      refine opd_bnd (by omega) ?_
      walk_at "es"
      exact ⟨rfl, rfl⟩
    · rw [h1]; exact ⟨rfl, rfl⟩
  have e : (((rngI 0 p.length).filter fun _ => true).map fun k => PyData.bool (fitJ ws p t k.toNat)) = ((rngI 0 p.length).map fun k => fitJ ws p t k.toNat).map .bool := by rw [filt_all, List.map_map]; rfl
  rw [e]
  walk_at "es"
  refine cbd_all ?_
  rw [all_bools]
  exact z
def R_lfits : List D → (D → Prop) → Prop := fun ds Z => ∃ (ws p : Pt) (t : Int), ds = [.list (ws.map encP), .list (p.map encP), .int t] ∧ ws.length ≤ 10 ∧ p.length ≤ 10 ∧ Z (.bool (fitB ws p t))
theorem filt_bad (f : Nat → Bool) (n : Nat) : decide ((((rngI 0 n).filter fun k => !f k.toNat).length : Int) = 0) = (List.range n).all f := by
  have e : ((rngI 0 n).filter fun k => !f k.toNat).length = ((List.range n).filter fun k => !f k).length := by
    unfold rngI
    rw [List.filter_map, List.length_map]
    congr 2
    funext k
    simp only [Function.comp, Int.zero_add, Int.toNat_natCast]
  rw [e]
  cases h : (List.range n).all f with
  | true =>
    rw [List.all_eq_true] at h
    have : (List.range n).filter (fun k => !f k) = [] := List.filter_eq_nil_iff.mpr fun k hk => by rw [h k hk]; decide
    rw [this]; rfl
  | false =>
    rw [List.all_eq_false] at h
    obtain ⟨k, hk, hf⟩ := h
    have : 0 < ((List.range n).filter fun k => !f k).length := List.length_pos_of_mem (List.mem_filter.mpr ⟨hk, by simpa using hf⟩)
    exact decide_eq_false (by omega)
theorem sx_l_fits (K : PySem.W.Frag) (ds : List D) (Z : D → Prop) (h : R_lfits ds Z) : SX (T_l_fits K) (startE N_l_fits ds) { nx := fun _ => Z .none, rt := fun d _ => Z d } := by
  obtain ⟨ws, p, t, rfl, hw, hp, z⟩ := h
  show SX (T_l_fits K) [.val (.list (ws.map encP)), .val (.list (p.map encP)), .val (.int t), .emp] _
  unfold T_l_fits
  refine sx_seq (sx_if (et_val (!(decide (0 ≤ t) && decide (t + (p.length : Int) ≤ (ws.length : Int)))) ?_ ⟨fun hq => ?_, fun hq => ?_⟩))
  · walk_at "es"
    refine ⟨fun h1 => ?_, fun h1 => ?_⟩
    · have := of_decide_eq_true h1
      rw [decide_eq_false (by omega)]
      exact ⟨rfl, rfl⟩
    · have := of_decide_eq_false h1
      rw [decide_eq_true (by omega), Bool.true_and]
      walk_at "es"
      rw [List.length_map, List.length_map]
      refine ⟨?_, rfl⟩
      by_cases q : t + (p.length : Int) ≤ (ws.length : Int)
      · rw [decide_eq_true q, decide_eq_false (by omega)]; rfl
      · rw [decide_eq_false q, decide_eq_true (by omega)]; rfl
  · rw [Bool.not_eq_true'] at hq
    walk_at "es"
    have e : fitB ws p t = false := by
      unfold fitB
      rw [← Bool.and_assoc, hq, Bool.false_and]
    rw [e] at z
    exact z
  rw [Bool.not_eq_false'] at hq
  have e : fitB ws p t = (List.range p.length).all (fitJ ws p t.toNat) := by
    unfold fitB
    rw [← Bool.and_assoc, hq, Bool.true_and]
  rw [e, ← filt_bad] at z
  rw [Bool.and_eq_true, decide_eq_true_eq, decide_eq_true_eq] at hq
  obtain ⟨m, rfl⟩ : ∃ m : Nat, t = (m : Int) := ⟨t.toNat, by omega⟩
  rw [Int.toNat_natCast] at z
  walk_at "es"
  refine ex_of (eo_lcP (α := Int) (fun k => !fitJ ws p m k.toNat) PyData.int (ei_rng1 ?_))
  walk_at "es"
  rw [List.length_map, Int.toNat_natCast]
  refine ⟨by omega, rngI 0 p.length, PyData.int, rfl, by rw [rngI_len]; omega, fun i hi => by simp at hi; subst hi; rfl, fun x hx => sg_name (by simp) ⟨rfl, ?_⟩, ?_⟩
  · have hx := rngI_mem.mp hx
    obtain ⟨k, rfl⟩ : ∃ k : Nat, x = (k : Int) := ⟨x.toNat, by omega⟩
    rw [Int.toNat_natCast]
    walk_at "w"
    walk_at "es"
    rw [show (m : Int) + (k : Int) = ((m + k : Nat) : Int) by omega]
    refine opd_bnd (by omega) ?_
    walk_at "es"
    refine opd_bnd (by omega) ?_
    walk_at "es"
    unfold fitJ
    refine ⟨fun h1 => ?_, fun h1 => ?_⟩
    · have := of_decide_eq_true h1
      rw [decide_eq_false (by omega)]
      refine ⟨rfl, rfl, fun _ => ?_⟩
      walk_at "es"
      exact ⟨rfl, rfl⟩
    · have := of_decide_eq_false h1
      rw [decide_eq_true (by omega), Bool.true_and]
      walk_at "es"
      rw [show (m : Int) + (k : Int) = ((m + k : Nat) : Int) by omega]
      refine opd_bnd (by omega) ?_
      walk_at "es"
      refine opd_bnd (by omega) ?_
      walk_at "es"
      refine ⟨?_, rfl, fun _ => ?_⟩
      · by_cases q : hiF ws (m + k) ≤ hiF p k
        · rw [decide_eq_true q, decide_eq_false (by omega)]; rfl
        · rw [decide_eq_false q, decide_eq_true (by omega)]; rfl
      · walk_at "es"
        exact ⟨rfl, rfl⟩
  walk_at "es"
  rw [List.length_map]
  exact z
/-! ### the ticks at which parts can begin -/
def intsD (row : List Int) : D := .list (row.map .int)
structure Sc (ws : Pt) (parts : List Pt) (ms : List Int) : Prop where
  w10 : ws.length ≤ 10
  p3 : parts.length ≤ 3
  l3 : ∀ p ∈ parts, p.length ≤ 3
  ml : ms.length = parts.length
  m0 : ∀ m ∈ ms, 0 ≤ m ∧ m ≤ 10
def LL (ws : Pt) (parts : List Pt) (ms : List Int) (k : Nat) : List (List Int) := (List.range k).map (LF ws parts ms)
theorem LL_len (ws : Pt) (parts : List Pt) (ms : List Int) (k : Nat) : (LL ws parts ms k).length = k := by unfold LL; simp
theorem LL_get {ws : Pt} {parts : List Pt} {ms : List Int} {i k : Nat} (h : i < k) : (LL ws parts ms k).getD i [] = LF ws parts ms i := by
  unfold LL
  rw [List.getD_eq_getElem?_getD, List.getElem?_map, List.getElem?_range h]; rfl
theorem LL_snoc (ws : Pt) (parts : List Pt) (ms : List Int) (k : Nat) : LL ws parts ms (k + 1) = LL ws parts ms k ++ [LF ws parts ms k] := by
  unfold LL
  rw [List.range_succ, List.map_append]; rfl
def behF (ws : Pt) (parts : List Pt) (ms : List Int) : Nat → Int → Bool
  | 0 => behB ws parts ms [] 0
  | k + 1 => behB ws parts ms (LF ws parts ms k) (k + 1)
theorem LF_filt (ws : Pt) (parts : List Pt) (ms : List Int) (k : Nat) : LF ws parts ms k = (rngI 0 (ws.length + 1)).filter fun t => behF ws parts ms k t && fitB ws (parts.getD k []) t := by cases k <;> rfl
def LFto (ws : Pt) (parts : List Pt) (ms : List Int) (k j : Nat) : List Int := ((rngI 0 (ws.length + 1)).take j).filter fun t => behF ws parts ms k t && fitB ws (parts.getD k []) t
def R_ticks : List D → (D → Prop) → Prop := fun ds Z => ∃ (ws : Pt) (parts : List Pt) (ms : List Int), ds = [.list (ws.map encP), .list (parts.map partD), .list (ms.map .int)] ∧ Sc ws parts ms ∧ Z (.list ((LL ws parts ms parts.length).map intsD))
theorem any_bools {α : Type} (f : α → Bool) (xs : List α) : (xs.map f).any id = xs.any f := by
  rw [List.any_map]
  congr 1
theorem sx_ticks_for_parts (K : PySem.W.Frag) (ds : List D) (Z : D → Prop) (h : R_ticks ds Z) : SX (T_ticks_for_parts K R_pfits) (startE N_ticks_for_parts ds) { nx := fun _ => Z .none, rt := fun d _ => Z d } := by
  obtain ⟨ws, parts, ms, rfl, sc, z⟩ := h
  show SX (T_ticks_for_parts K R_pfits) [.val (.list (ws.map encP)), .val (.list (parts.map partD)), .val (.list (ms.map .int)), .emp, .emp, .emp, .emp, .emp, .emp, .emp, .emp] _
  have w10 := sc.w10
  have p3 := sc.p3
  have ml := sc.ml
  unfold T_ticks_for_parts
  refine sx_seq (sx_asgO (eo_lst (ea_nil ⟨by simp, ?_⟩)))
  refine nx_seq ?_
  walk_at "w"
  refine sx_seq (sx_for (J := [4, 5]) (ei_enum ?_))
  walk_at "es"
  refine ⟨fun k ρ' => ρ' = [.val (.list (ws.map encP)), .val (.list (parts.map partD)), .val (.list (ms.map .int)), .own ((LL ws parts ms k).map intsD), .emp, .emp, .emp, .emp, .emp, .emp, .emp], rfl, ?_, ?_⟩
  · rintro k dd ρ' hd0 rfl
    obtain ⟨p, hp, rfl⟩ := enum_at hd0
    have kl : k < parts.length := (List.getElem?_eq_some_iff.mp hp).1
    have ep : parts.getD k [] = p := by rw [List.getD_eq_getElem?_getD, hp]; rfl
    have p3' := sc.l3 p (List.mem_of_getElem? hp)
    have ll := LL_len ws parts ms k
    refine sg_tup rfl (sgs_cons (sg_name (by simp) (sgs_cons (sg_name (by simp) (sgs_nil ?_)))))
    walk_at "w"
    refine sx_seq (sx_asgO (eo_lst (ea_nil ⟨by simp, ?_⟩)))
    refine nx_seq ?_
    walk_at "w"
    refine sx_seq (sx_for (J := [7]) (ei_rng1 ?_))
    walk_at "es"
    rw [List.length_map, show ((ws.length : Int) + 1).toNat = ws.length + 1 by omega]
    refine ⟨by omega, fun j ρ' => ρ' = [.val (.list (ws.map encP)), .val (.list (parts.map partD)), .val (.list (ms.map .int)), .own ((LL ws parts ms k).map intsD), .val (.int (k : Int)), .val (partD p), .own ((LFto ws parts ms k j).map .int), .emp, .emp, .emp, .emp], rfl, ?_, ?_⟩
    · rintro j dd ρ' hd1 rfl
      obtain ⟨hj, rfl⟩ := rng_at hd1
      rw [Int.zero_add]
      have lt : LFto ws parts ms k (j + 1) = LFto ws parts ms k j ++ if (behF ws parts ms k (j : Int) && fitB ws p (j : Int)) = true then [(j : Int)] else [] := by
        unfold LFto
        rw [take_snoc' (rngI_get hj), List.filter_append, Int.zero_add, ep, List.filter_cons, List.filter_nil]
      have ltl : (LFto ws parts ms k j).length ≤ 11 := by
        unfold LFto
        refine Nat.le_trans (List.length_filter_le _ _) ?_
        rw [List.length_take, rngI_len]
        omega
      generalize LFto ws parts ms k j = acc at lt ltl ⊢
      refine sg_name (by simp) ?_
      walk_at "w"
      refine sx_midP (fun ρ' => ∃ s, ρ' = [.val (.list (ws.map encP)), .val (.list (parts.map partD)), .val (.list (ms.map .int)), .own ((LL ws parts ms k).map intsD), .val (.int (k : Int)), .val (partD p), .own (acc.map .int), .val (.int (j : Int)), .val (.bool (behF ws parts ms k (j : Int))), s, .emp]) ?_ ?_
      · refine sx_if (et_val (decide (k = 0)) ?_ ⟨fun hq => ?_, fun hq => ?_⟩)
        · walk_at "es"
          rw [dec_0]
          exact ⟨rfl, rfl⟩
        · have k0 := of_decide_eq_true hq
          subst k0
          walk_at "es"
          refine opd_ixM (f := PyData.int) 0 (by omega) (by omega) ?_
          walk_at "es"
          exact ⟨_, by walk_at "le", .emp, rfl⟩
        · have k0 := of_decide_eq_false hq
          obtain ⟨q, rfl⟩ : ∃ q, k = q + 1 := ⟨k - 1, by omega⟩
          walk_at "es"
          rw [show ((q + 1 : Nat) : Int) - 1 = (q : Int) by omega]
          refine opd_part (by omega) ?_
          walk_at "es"
          refine ex_of (eo_lcP (α := Int) (fun _ => true) (fun b => .bool (okB parts ms q (j : Int) b)) (ei_list (ex_ixO rfl ?_)))
          walk_at "es"
          refine ⟨_, -1, _, rfl, rfl, last_M [] (by omega), ?_⟩
          rw [ll, LL_get (by omega), Nat.add_sub_cancel]
          have lq := LF_len ws parts ms q
          refine ⟨_, rfl, LF ws parts ms q, PyData.int, rfl, by omega, fun i hi => by simp at hi; subst hi; rfl, fun b hb => sg_name (by simp) ⟨rfl, ?_⟩, ?_⟩
          · walk_at "w"
            refine et_yes ⟨rfl, rfl, fun _ => ?_⟩
            walk_at "es"
            rw [List.length_map]
            unfold okB
            have el : lenF parts q = ((parts.getD q []).length : Int) := rfl
            rw [el]
            refine ⟨fun h1 => ?_, fun h1 => ?_⟩
            · rw [h1]
              walk_at "es"
              refine opd_int (by omega) ?_
              walk_at "es"
              exact ⟨rfl, rfl⟩
            · rw [h1]; exact ⟨rfl, rfl⟩
          have e : (((LF ws parts ms q).filter fun _ => true).map fun b => PyData.bool (okB parts ms q (j : Int) b)) = ((LF ws parts ms q).map (okB parts ms q (j : Int))).map .bool := by rw [filt_all, List.map_map]; rfl
          rw [e]
          walk_at "es"
          refine cbd_any ?_
          rw [any_bools]
          exact ⟨_, by walk_at "le", _, rfl⟩
      rintro ρ1 ⟨s, rfl⟩
      refine sx_if (et_val (behF ws parts ms k (j : Int) && fitB ws p (j : Int)) ?_ ⟨fun hq => ?_, fun hq => ?_⟩)
      · walk_at "es"
        refine ⟨fun h1 => ?_, fun h1 => ?_⟩
        · rw [h1]
          walk_at "es"
          refine ⟨ws, p, j, rfl, w10, by omega, ?_⟩
          walk_at "es"
          exact ⟨rfl, rfl⟩
        · rw [h1]; exact ⟨rfl, rfl⟩
      · refine sx_app rfl ?_
        walk_at "es"
        refine ⟨by rw [List.length_map]; omega, ?_⟩
        rw [lt, if_pos hq, List.map_append]
        refine ⟨_, ?_, rfl⟩
        walk_at "le"
      · walk_at "es"
        rw [lt, if_neg (by rw [hq]; exact Bool.false_ne_true), List.append_nil]
        refine ⟨_, ?_, rfl⟩
        walk_at "le"
    rintro ρ' rfl
    rw [rng_size]
    have e : LFto ws parts ms k (ws.length + 1) = LF ws parts ms k := by
      unfold LFto
      rw [LF_filt, List.take_of_length_le (by rw [rngI_len]; exact Nat.le_refl _)]
    rw [e]
    refine nx_seq (sx_freeze 6 rfl ?_)
    walk_at "w"
    refine sx_app rfl ?_
    walk_at "es"
    refine ⟨by rw [List.length_map]; omega, ?_⟩
    rw [LL_snoc, List.map_append]
    refine ⟨_, ?_, rfl⟩
    walk_at "le"
  rintro ρ' rfl
  rw [enum_len]
  refine nx_seq (sx_freeze 3 rfl ?_)
  walk_at "w"
  walk_at "es"
  exact z
end Law_k89
namespace Law_k89
open PySem L2 Pu
local macro_rules | `(tactic| walk_at "e") => `(tactic| first
  | ((with_reducible refine nx_seq ?_); (try dsimp only [List.set_cons_succ, List.set_cons_zero]))
  | ((with_reducible refine ex_vr ?_); dsimp only [VQ, List.set_cons_succ, List.set_cons_zero, List.getElem?_cons_zero, List.getElem?_cons_succ]; (fail_if_success (with_reducible show False)))
  | (with_reducible refine sx_seq ?_)
  | (with_reducible refine sx_if ?_)
  | (with_reducible refine sx_next ?_)
  | (with_reducible refine sx_ret ?_)
  | ((fail_if_success (with_reducible refine sx_asgO (eo_lst ?_))); (with_reducible refine sx_asg ?_))
  | (with_reducible refine ex_int ?_)
  | (with_reducible refine ex_str ?_)
  | (with_reducible refine ex_bl ?_)
  | (with_reducible refine ex_non ?_)
  | (with_reducible refine ex_op ?_)
  | (with_reducible refine ex_un ?_)
  | (with_reducible refine ex_chain ?_)
  | (with_reducible refine ex_call ?_)
  | (with_reducible refine ex_isT ?_)
  | (with_reducible refine ex_cb ?_)
  | (with_reducible refine ex_sl ?_)
  | (with_reducible refine ex_tup ?_)
  | (with_reducible refine ex_if ?_)
  | (with_reducible refine ex_of (eo_lst ?_))
  | (with_reducible refine ex_notV ?_)
  | (with_reducible refine ea_nil ?_)
  | (with_reducible refine ea_cons ?_)
  | (with_reducible refine ep_no ?_)
  | (with_reducible refine ep_some ?_)
  | (with_reducible refine et_test ?_)
  | (with_reducible refine et_B ?_)
  | (with_reducible refine et_ch3 ?_)
  | (with_reducible refine et_and ?_)
  | (with_reducible refine et_or ?_)
  | (with_reducible refine et_not ?_)
  | (with_reducible refine et_yes ?_)
  | (with_reducible refine et_truL ?_)
  | (with_reducible refine opd_plusI ?_)
  | (with_reducible refine opd_I0 ?_)
  | (with_reducible refine opd_B0 ?_)
  | (with_reducible refine opd_eqI ?_)
  | (with_reducible refine opd_neI ?_)
  | (with_reducible refine opd_eqS ?_)
  | (with_reducible refine opd_neS ?_)
  | (with_reducible refine opd_is ?_)
  | (with_reducible refine opd_isnt ?_)
  | (with_reducible refine opd_ixT rfl ?_)
  | (with_reducible refine opd_ixL rfl ?_)
  | (with_reducible refine und_neg ?_)
  | (with_reducible refine cbd_lenL ?_)
  | (with_reducible refine cbd_lenT ?_)
  | (with_reducible refine cbd_min2 ?_)
  | (with_reducible refine cbd_max2 ?_)
  | (with_reducible refine cbd_abs ?_)
  | (with_reducible refine cbd_int ?_)
  | (with_reducible refine cbd_tupL ?_)
  | (with_reducible refine cbd_listL ?_)
  | (with_reducible refine cbd_listT ?_)
  | (with_reducible refine cbd_sum ?_)
  | (with_reducible refine sld_T ?_)
  | (with_reducible refine sld_L ?_)
  | (with_reducible refine ex_revL ?_)
  | (with_reducible refine ex_bmL ?_)
  | (with_reducible refine ex_andV ?_)
  | (with_reducible refine ei_list ?_)
  | (with_reducible refine ei_rng1 ?_)
  | (with_reducible refine ei_rng2 ?_)
  | (with_reducible refine ei_enum ?_)
  | (with_reducible refine ei_enumT ?_)
  | (with_reducible refine ei_zip ?_)
  | (with_reducible refine sx_par ?_)
  | (with_reducible refine Exists.intro _ (And.intro rfl ?_))
  | (with_reducible refine Exists.intro _ (Exists.intro _ (And.intro rfl ?_)))
  | ((with_reducible show EX (tCall (spS _) [] _ (tCons (tVar _) _)) _ _); refine ex_callS rfl ?_)
  | ((with_reducible refine And.intro (show (_ : Nat) ≤ 100000 from ?_) ?_); (focus (simp; done)))
  | ((with_reducible refine opd_I ?_ ?_); focus (first | omega | (show CDiv _ _; exact ⟨by omega, by omega⟩) | (show CMul _ _; first | exact Or.inl ⟨by omega, by omega⟩ | exact Or.inr ⟨by omega, by omega⟩))))
local macro_rules | `(tactic| walk_at "es") => `(tactic| repeat walk_at "e")
local macro_rules | `(tactic| walk_at "w") => `(tactic| try dsimp only [wipeE, List.foldl_cons, List.foldl_nil, List.set_cons_succ, List.set_cons_zero])
local macro_rules | `(tactic| walk_at "le") => `(tactic| repeat' first | exact LeE.nil | (refine LeE.eq rfl ?_) | (refine LeE.emp ?_) | (refine LeE.eq ?_ ?_))
local macro_rules | `(tactic| walk_at "no") => `(tactic| ((refine And.intro (fun hb => absurd hb ?_) (fun _ => ?_)); (focus (first | (exact Bool.false_ne_true) | (simp; done) | (simp; omega) | (simp only [decide_eq_true_eq]; omega)))))
local macro_rules | `(tactic| walk_at "yes") => `(tactic| ((refine And.intro (fun _ => ?_) (fun hb => absurd hb ?_)); (rotate_left); (focus (first | (exact Bool.noConfusion) | (simp; done) | (simp; omega) | (simp only [decide_eq_false_iff_not]; omega)))))
local macro_rules | `(tactic| walk_at "ei") => `(tactic| repeat ((fail_if_success (with_reducible show SX (tSeq (tIfS _ _ _) _) _ _)); (fail_if_success (with_reducible show SX (tIfS _ _ _) _ _)); (fail_if_success (with_reducible show SX (tSeq (tAsg (tIf _ _ _) _) _) _ _)); walk_at "e"))
local macro_rules | `(tactic| walk_at "tv") => `(tactic| repeat' first | walk_at "e" | ((with_reducible show (_ = true → _) ∧ (_ = false → _)); refine And.intro (fun _ => ?_) (fun _ => ?_)))
/-! ### hold -/
inductive Told where
  | never (a : Int) (rest : List (List Int))
  | start (ts : List Int)
def encT : Told → D
  | .never a rest => .tuple [.str (Str.ofString "never"), .int a, .list (rest.map intsD)]
  | .start ts => .tuple [.str (Str.ofString "begin"), .list (ts.map .int)]
def R_hold : List D → (D → Prop) → Prop := fun ds Z => ∃ (ws : Pt) (parts : List Pt) (ms : List Int), ds = [.list (ws.map encP), .list (parts.map partD), .list (ms.map .int)] ∧ Sc ws parts ms ∧ (∀ ts, HoldOk ws parts ms ts → Z (encT (.start ts))) ∧
  ∀ a : Nat, a < parts.length → LF ws parts ms a = [] → (∀ j, j < a → LF ws parts ms j ≠ []) → Z (encT (.never (a : Int) (LL ws parts ms (a + 1))))
theorem LL_take {ws : Pt} {parts : List Pt} {ms : List Int} {i k : Nat} (h : i ≤ k) : (LL ws parts ms k).take i = LL ws parts ms i := by
  unfold LL
  rw [← List.map_take, List.take_range, Nat.min_eq_left h]
theorem LF_fit {ws : Pt} {parts : List Pt} {ms : List Int} {k : Nat} {t : Int} (h : t ∈ LF ws parts ms k) : fitB ws (parts.getD k []) t = true := by
  rw [LF_filt, List.mem_filter, Bool.and_eq_true] at h
  exact h.2.2
structure Suf (ws : Pt) (parts : List Pt) (ms : List Int) (a : Nat) (ts : List Int) : Prop where
  inn : ∀ j, j < ts.length → ts.getD j 0 ∈ LF ws parts ms (a + j)
  gap : ∀ j, j + 1 < ts.length → okB parts ms (a + j) (ts.getD (j + 1) 0) (ts.getD j 0) = true
  last : 0 < ts.length → ts.getD (ts.length - 1) 0 = (LF ws parts ms (parts.length - 1)).getD 0 0
theorem suf_cons {ws : Pt} {parts : List Pt} {ms : List Int} {b : Nat} {t : Int} {ts : List Int} (s : Suf ws parts ms (b + 1) ts) (h0 : 0 < ts.length) (ht : t ∈ LF ws parts ms b) (hg : okB parts ms b (ts.getD 0 0) t = true) : Suf ws parts ms b (t :: ts) := by
  refine ⟨fun j hj => ?_, fun j hj => ?_, fun _ => ?_⟩
  · cases j with
    | zero => exact ht
    | succ j =>
      have := s.inn j (by simpa using hj)
      rw [show b + (j + 1) = b + 1 + j by omega]
      simpa using this
  · cases j with
    | zero => simpa using hg
    | succ j =>
      have := s.gap j (by simpa using hj)
      rw [show b + (j + 1) = b + 1 + j by omega]
      simpa using this
  · obtain ⟨n, hn⟩ : ∃ n, ts.length = n + 1 := ⟨ts.length - 1, by omega⟩
    have := s.last h0
    rw [hn] at this
    show (t :: ts).getD (ts.length + 1 - 1) 0 = _
    rw [hn]
    simpa using this
theorem suf_ok {ws : Pt} {parts : List Pt} {ms : List Int} {ts : List Int} (s : Suf ws parts ms 0 ts) (hl : ts.length = parts.length) (full : ∀ k, k < parts.length → LF ws parts ms k ≠ []) : HoldOk ws parts ms ts := by
  refine ⟨⟨hl, fun k hk => ?_⟩, full, fun h => ?_⟩
  · have i := s.inn k (by omega)
    rw [Nat.zero_add] at i
    cases k with
    | zero =>
      have f := LF_fit i
      have fi := fit_in f
      rw [LF_filt, List.mem_filter, Bool.and_eq_true] at i
      have b : ts.getD 0 0 ≤ ms.getD 0 0 := of_decide_eq_true i.2.1
      refine ⟨f, ?_, ?_⟩
      · show 0 ≤ ts.getD 0 0 - 0
        omega
      · show ts.getD 0 0 - 0 ≤ _
        omega
    | succ k =>
      have g := s.gap k (by omega)
      rw [Nat.zero_add] at g
      unfold okB at g
      rw [Bool.and_eq_true, decide_eq_true_eq, decide_eq_true_eq] at g
      refine ⟨LF_fit i, ?_, ?_⟩
      · show 0 ≤ ts.getD (k + 1) 0 - (ts.getD k 0 + lenF parts k)
        omega
      · show ts.getD (k + 1) 0 - (ts.getD k 0 + lenF parts k) ≤ _
        omega
  · have := s.last (by omega)
    rwa [hl] at this
theorem dn_at {l : Int} {n k : Nat} {d : D} (h : ((dnI l n).map PyData.int)[k]? = some d) : k < n ∧ d = .int (l - (k : Int)) := by
  have hk : k < n := by
    have := (List.getElem?_eq_some_iff.mp h).1
    rw [List.length_map, dnI_len] at this
    exact this
  rw [List.getElem?_map, dnI_get hk] at h
  exact ⟨hk, (Option.some.inj h).symm⟩
theorem opd_row {K : PySem.W.Frag} {ps : List (List Int)} {k : Nat} {Q : D → Prop} (h : k < ps.length) (q : Q (.list ((ps.getD k []).map .int))) : OpD (rIxA K) (.list (ps.map intsD)) (.int (k : Int)) Q := opd_ixM (f := intsD) [] (by omega) (by omega) (by rw [Int.toNat_natCast]; exact q)
theorem at_0 {xs : List Int} (h : 0 < xs.length) : atI (xs.map PyData.int) 0 = some (.int (xs.getD 0 0)) := by
  rw [atI_map 0 (by omega) (by omega)]; rfl
theorem isE_len {xs : List D} : (!xs.isEmpty) = decide (0 < xs.length) := by cases xs <;> simp
theorem sx_hold (K : PySem.W.Frag) (ds : List D) (Z : D → Prop) (h : R_hold ds Z) : SX (T_hold K R_ticks) (startE N_hold ds) { nx := fun _ => Z .none, rt := fun d _ => Z d } := by
  obtain ⟨ws, parts, ms, rfl, sc, zb, zn⟩ := h
  show SX (T_hold K R_ticks) [.val (.list (ws.map encP)), .val (.list (parts.map partD)), .val (.list (ms.map .int)), .emp, .emp, .emp, .emp, .emp, .emp] _
  have w10 := sc.w10
  have p3 := sc.p3
  have ml := sc.ml
  have ll := LL_len ws parts ms parts.length
  unfold T_hold
  walk_at "es"
  refine ⟨ws, parts, ms, rfl, sc, ?_⟩
  refine nx_seq ?_
  walk_at "w"
  refine sx_seq (sx_for (J := [4, 5]) (ei_enum ?_))
  walk_at "es"
  refine ⟨fun k ρ' => (∀ j, j < k → LF ws parts ms j ≠ []) ∧ ρ' = [.val (.list (ws.map encP)), .val (.list (parts.map partD)), .val (.list (ms.map .int)), .val (.list ((LL ws parts ms parts.length).map intsD)), .emp, .emp, .emp, .emp, .emp], ⟨fun j hj => by omega, rfl⟩, ?_, ?_⟩
  · rintro k dd ρ' hd0 ⟨hno, rfl⟩
    obtain ⟨row, hrow, rfl⟩ := enum_at hd0
    have kl : k < parts.length := by
      have := (List.getElem?_eq_some_iff.mp hrow).1
      omega
    have er : row = LF ws parts ms k := by
      have := LL_get (ws := ws) (parts := parts) (ms := ms) kl
      rw [List.getD_eq_getElem?_getD, hrow] at this
      exact this
    subst er
    show SG _ _ (.tuple [.int (k : Int), .list ((LF ws parts ms k).map .int)]) _ _
    refine sg_tup rfl (sgs_cons (sg_name (by simp) (sgs_cons (sg_name (by simp) (sgs_nil ?_)))))
    walk_at "w"
    walk_at "es"
    cases e : LF ws parts ms k with
    | nil =>
      refine ⟨fun _ => ?_, fun q => absurd q (by simp)⟩
      walk_at "es"
      rw [show (k : Int) + 1 = ((k + 1 : Nat) : Int) by omega, cut_n, LL_take (by omega)]
      walk_at "es"
      exact zn k kl e hno
    | cons x xs =>
      refine ⟨fun q => absurd q (by simp), fun _ => ?_⟩
      walk_at "es"
      refine ⟨_, ?_, fun j hj => ?_, rfl⟩
      · walk_at "le"
      · rcases (show j < k ∨ j = k by omega) with q | q
        · exact hno j q
        · rw [q, e]; simp
  rintro ρ' ⟨hno, rfl⟩
  rw [enum_len, ll] at hno
  refine nx_seq ?_
  refine sx_seq (sx_asg (ex_of (eo_lst (ea_nil ⟨by simp, ?_⟩))))
  refine nx_seq ?_
  walk_at "w"
  refine sx_seq (sx_for (J := [4]) (ei_rngD ?_))
  walk_at "es"
  rw [List.length_map]
  have en : ((parts.length : Int) - 1 - (-1)).toNat = parts.length := by omega
  rw [en]
  refine ⟨by omega, fun i ρ' => ∃ ts : List Int, ts.length = i ∧ i ≤ parts.length ∧ Suf ws parts ms (parts.length - i) ts ∧ ρ' = [.val (.list (ws.map encP)), .val (.list (parts.map partD)), .val (.list (ms.map .int)), .val (.list ((LL ws parts ms parts.length).map intsD)), .emp, .emp, .val (.list (ts.map .int)), .emp, .emp], ⟨[], rfl, by omega, ⟨fun j hj => absurd hj (by simp), fun j hj => absurd hj (by simp), fun hj => absurd hj (by simp)⟩, rfl⟩, ?_, ?_⟩
  · rintro i dd ρ' hd0 ⟨ts, tl, ti, suf, rfl⟩
    obtain ⟨hi, rfl⟩ := dn_at hd0
    obtain ⟨b, hb⟩ : ∃ b, parts.length = b + 1 + i := ⟨parts.length - 1 - i, by omega⟩
    rw [show (parts.length : Int) - 1 - (i : Int) = (b : Int) by omega]
    rw [show parts.length - i = b + 1 by omega] at suf
    have eb : parts.length - (i + 1) = b := by omega
    have nb := hno b (by omega)
    have nbl : 0 < (LF ws parts ms b).length := List.length_pos_iff.mpr nb
    refine sg_name (by simp) ?_
    walk_at "w"
    refine sx_if (et_val (decide (i = 0)) ?_ ⟨fun hq => ?_, fun hq => ?_⟩)
    · walk_at "es"
      rw [isE_len, List.length_map, tl]
      refine ⟨?_, rfl⟩
      by_cases q : i = 0
      · rw [decide_eq_true q, decide_eq_false (by omega)]; rfl
      · rw [decide_eq_false q, decide_eq_true (by omega)]; rfl
    · have i0 := of_decide_eq_true hq
      refine sx_asg (ex_of (eo_lst ?_))
      walk_at "es"
      refine opd_row (by omega) ?_
      rw [LL_get (by omega)]
      walk_at "es"
      refine opd_ixL (at_0 nbl) ?_
      walk_at "es"
      refine ⟨_, ?_, [(LF ws parts ms b).getD 0 0], by simp [i0], by omega, ?_, rfl⟩
      · walk_at "le"
      · rw [eb]
        refine ⟨fun j hj => ?_, fun j hj => absurd hj (by simp), fun _ => ?_⟩
        · have : j = 0 := by simpa using hj
          subst this
          exact mem_D nbl
        · show (LF ws parts ms b).getD 0 0 = _
          rw [show parts.length - 1 = b by omega]
    · have i0 := of_decide_eq_false hq
      have t0 : ts.getD 0 0 ∈ LF ws parts ms (b + 1) := suf.inn 0 (by omega)
      obtain ⟨w, hw, ew⟩ := LF_mem.mp t0
      have wb : w b ∈ LF ws parts ms b := LF_mem.mpr ⟨w, fun j hj => hw j (by omega), rfl⟩
      have okw : okB parts ms b (ts.getD 0 0) (w b) = true := by
        have c := hw (b + 1) (Nat.le_refl _)
        have lo : 0 ≤ w (b + 1) - (w b + lenF parts b) := c.lo
        have hi : w (b + 1) - (w b + lenF parts b) ≤ ms.getD (b + 1) 0 := c.hi
        rw [ew] at lo hi
        unfold okB
        rw [Bool.and_eq_true, decide_eq_true_eq, decide_eq_true_eq]
        omega
      have fpos : 0 < ((LF ws parts ms b).filter (okB parts ms b (ts.getD 0 0))).length := List.length_pos_of_mem (List.mem_filter.mpr ⟨wb, okw⟩)
      walk_at "es"
      refine opd_part (by omega) ?_
      walk_at "es"
      refine ex_of (eo_lcP (α := Int) (okB parts ms b (ts.getD 0 0)) PyData.int (ei_list ?_))
      walk_at "es"
      refine opd_row (by omega) ?_
      rw [LL_get (by omega)]
      have lb := LF_len ws parts ms b
      refine ⟨_, rfl, LF ws parts ms b, PyData.int, rfl, by omega, fun i hi => by simp at hi; subst hi; rfl, fun x hx => sg_name (by simp) ⟨rfl, ?_⟩, ?_⟩
      · walk_at "w"
        walk_at "es"
        refine opd_ixL (at_0 (by omega)) ?_
        walk_at "es"
        rw [List.length_map]
        unfold okB
        have el : lenF parts b = ((parts.getD b []).length : Int) := rfl
        rw [el]
        refine ⟨fun h1 => ?_, fun h1 => ?_⟩
        · rw [h1]
          walk_at "es"
          rw [show (b : Int) + 1 = ((b + 1 : Nat) : Int) by omega]
          refine opd_int (by omega) ?_
          walk_at "es"
          refine ⟨rfl, rfl, fun _ => ?_⟩
          walk_at "es"
          exact ⟨rfl, rfl⟩
        · rw [h1]
          walk_at "es"
          refine ⟨rfl, rfl, fun _ => ?_⟩
          walk_at "es"
          exact ⟨rfl, rfl⟩
      refine nx_seq ?_
      walk_at "w"
      walk_at "es"
      refine opd_ixL (at_0 fpos) ?_
      walk_at "es"
      refine opd_plusL (by simp; omega) ?_
      have fm := List.mem_filter.mp (mem_D (a := 0) fpos)
      refine ⟨_, ?_, ((LF ws parts ms b).filter (okB parts ms b (ts.getD 0 0))).getD 0 0 :: ts, by simp [tl], by omega, ?_, rfl⟩
      · walk_at "le"
      · rw [eb]
        exact suf_cons suf (by omega) fm.1 fm.2
  rintro ρ' ⟨ts, tl, ti, suf, rfl⟩
  rw [List.length_map, dnI_len] at tl suf
  rw [Nat.sub_self] at suf
  refine nx_seq ?_
  walk_at "es"
  exact zb ts (suf_ok suf tl hno)
/-! ### waits -/
def waitsF (parts : List Pt) (ts : List Int) (n : Nat) : List Int := (List.range n).map fun k => fnL ts k - endF parts (fnL ts) k
def R_waits : List D → (D → Prop) → Prop := fun ds Z => ∃ (parts : List Pt) (ts : List Int), ds = [.list (parts.map partD), .list (ts.map .int)] ∧ ts.length = parts.length ∧ parts.length ≤ 10 ∧ Z (.list ((waitsF parts ts parts.length).map .int))
theorem waits_snoc (parts : List Pt) (ts : List Int) (n : Nat) : waitsF parts ts (n + 1) = waitsF parts ts n ++ [fnL ts n - endF parts (fnL ts) n] := by
  unfold waitsF
  rw [List.range_succ, List.map_append]; rfl
theorem waits_len (parts : List Pt) (ts : List Int) (n : Nat) : (waitsF parts ts n).length = n := by unfold waitsF; simp
theorem sx_waits_of (K : PySem.W.Frag) (ds : List D) (Z : D → Prop) (h : R_waits ds Z) : SX (T_waits_of K) (startE N_waits_of ds) { nx := fun _ => Z .none, rt := fun d _ => Z d } := by
  obtain ⟨parts, ts, rfl, hl, hn, z⟩ := h
  show SX (T_waits_of K) [.val (.list (parts.map partD)), .val (.list (ts.map .int)), .emp, .emp, .emp, .emp] _
  unfold T_waits_of
  refine sx_seq (sx_asgO (eo_lst (ea_nil ⟨by simp, ?_⟩)))
  refine nx_seq ?_
  walk_at "w"
  refine sx_seq (sx_asg (ex_int ?_))
  refine nx_seq ?_
  walk_at "w"
  refine sx_seq (sx_for (J := [4, 5]) (ei_zip ?_))
  walk_at "es"
  refine ⟨fun k ρ' => ρ' = [.val (.list (parts.map partD)), .val (.list (ts.map .int)), .own ((waitsF parts ts k).map .int), .val (.int (endF parts (fnL ts) k)), .emp, .emp], rfl, ?_, ?_⟩
  · rintro k dd ρ' hd0 rfl
    have kl : k < parts.length := by
      have := (List.getElem?_eq_some_iff.mp hd0).1
      rw [List.length_zipWith, List.length_map, List.length_map] at this
      omega
    rw [List.getElem?_zipWith, List.getElem?_map, List.getElem?_map, get_D (a := []) kl, get_D (a := 0) (show k < ts.length by omega)] at hd0
    have hd0 := Option.some.inj hd0
    subst hd0
    show SG _ _ (.tuple [.list ((parts.getD k []).map encP), .int (ts.getD k 0)]) _ _
    refine sg_tup rfl (sgs_cons (sg_name (by simp) (sgs_cons (sg_name (by simp) (sgs_nil ?_)))))
    walk_at "w"
    refine sx_seq (sx_app rfl ?_)
    walk_at "es"
    refine ⟨by rw [List.length_map, waits_len]; omega, ?_⟩
    refine nx_seq ?_
    walk_at "w"
    walk_at "es"
    rw [List.length_map]
    rw [waits_snoc, List.map_append]
    refine ⟨_, ?_, rfl⟩
    walk_at "le"
  rintro ρ' rfl
  rw [List.length_zipWith, List.length_map, List.length_map, hl, Nat.min_self]
  refine nx_seq (sx_freeze 2 rfl ?_)
  walk_at "w"
  walk_at "es"
  exact z
/-! ### the least longest wait -/
def okM (ws : Pt) (parts : List Pt) (m : Nat) : Bool := (List.range parts.length).all fun k => !(LF ws parts (List.replicate parts.length (m : Int)) k).isEmpty
theorem okM_iff {ws : Pt} {parts : List Pt} {m : Nat} : okM ws parts m = true ↔ ∀ k, k < parts.length → LF ws parts (List.replicate parts.length (m : Int)) k ≠ [] := by
  unfold okM
  rw [List.all_eq_true]
  constructor
  · intro h k hk
    have := h k (List.mem_range.mpr hk)
    simpa using this
  · intro h k hk
    have := h k (List.mem_range.mp hk)
    simpa using this
theorem sc_rep {ws : Pt} {parts : List Pt} {ms : List Int} (s : Sc ws parts ms) {m : Nat} (hm : m ≤ ws.length) : Sc ws parts (List.replicate parts.length (m : Int)) := by
  have := s.w10
  refine ⟨s.w10, s.p3, s.l3, by simp, fun x hx => ?_⟩
  rw [List.eq_of_mem_replicate hx]
  omega
theorem rep_enc {α : Type} (xs : List α) (m : Int) : ((xs.filter fun _ => true).map fun _ => PyData.int m) = (List.replicate xs.length m).map .int := by
  rw [filt_all, List.map_replicate, List.map_const']
def R_least : List D → (D → Prop) → Prop := fun ds Z => ∃ (ws : Pt) (parts : List Pt) (ms : List Int), ds = [.list (ws.map encP), .list (parts.map partD)] ∧ Sc ws parts ms ∧ (∀ (m : Nat) (ts : List Int), (List.range (ws.length + 1)).find? (okM ws parts) = some m → Z (.tuple [.int (m : Int), .list (ts.map .int)])) ∧ ((List.range (ws.length + 1)).find? (okM ws parts) = none → Z .none)
theorem find_succ (p : Nat → Bool) (k : Nat) : (List.range (k + 1)).find? p = ((List.range k).find? p).or (if p k = true then some k else none) := by
  rw [List.range_succ, List.find?_append]
  congr 1
  rw [List.find?_cons]
  cases p k <;> rfl
theorem find_none {p : Nat → Bool} {n : Nat} : (List.range n).find? p = none ↔ ∀ k, k < n → p k = false := by
  rw [List.find?_eq_none]
  constructor
  · intro h k hk
    have := h k (List.mem_range.mpr hk)
    simpa using this
  · intro h k hk
    have := h k (List.mem_range.mp hk)
    simp [this]
theorem find_at {p : Nat → Bool} {n k : Nat} (hk : k < n) (h : ∀ j, j < k → p j = false) (e : p k = true) : (List.range n).find? p = some k := by
  induction n with
  | zero => omega
  | succ n ih =>
    rw [find_succ]
    by_cases q : k < n
    · rw [ih q]; rfl
    · have : k = n := by omega
      subst this
      rw [find_none.mpr h, if_pos e]; rfl
theorem sx_least_hold (K : PySem.W.Frag) (ds : List D) (Z : D → Prop) (h : R_least ds Z) : SX (T_least_hold K R_hold) (startE N_least_hold ds) { nx := fun _ => Z .none, rt := fun d _ => Z d } := by
  obtain ⟨ws, parts, ms, rfl, sc, zs, zn⟩ := h
  show SX (T_least_hold K R_hold) [.val (.list (ws.map encP)), .val (.list (parts.map partD)), .emp, .emp, .emp] _
  have w10 := sc.w10
  have p3 := sc.p3
  unfold T_least_hold
  refine sx_seq (sx_for (J := [2]) (ei_rng1 ?_))
  walk_at "es"
  rw [List.length_map, show ((ws.length : Int) + 1).toNat = ws.length + 1 by omega]
  refine ⟨by omega, fun m ρ' => (∀ j, j < m → okM ws parts j = false) ∧ ρ' = [.val (.list (ws.map encP)), .val (.list (parts.map partD)), .emp, .emp, .emp], ⟨fun j hj => by omega, rfl⟩, ?_, ?_⟩
  · rintro m dd ρ' hd0 ⟨hno, rfl⟩
    obtain ⟨ml, rfl⟩ := rng_at hd0
    rw [Int.zero_add]
    refine sg_name (by simp) ?_
    walk_at "w"
    walk_at "es"
    refine ex_of (eo_lcP (α := Pt) (fun _ => true) (fun _ => .int (m : Int)) (ei_list ?_))
    walk_at "es"
    refine ⟨by omega, fun i hi => by simp at hi; subst hi; rfl, fun x hx => sg_name (by simp) ⟨rfl, ?_⟩, ?_⟩
    · walk_at "w"
      refine et_yes ⟨rfl, rfl, fun _ => ?_⟩
      walk_at "es"
      exact ⟨rfl, rfl⟩
    rw [rep_enc]
    walk_at "es"
    refine ⟨ws, parts, _, rfl, sc_rep sc (by omega), fun ts ho => ?_, fun a ha he hf => ?_⟩
    · unfold encT
      refine nx_seq ?_
      walk_at "w"
      walk_at "es"
      refine ⟨fun _ => ?_, fun q => absurd q (by decide)⟩
      walk_at "es"
      exact zs m ts (find_at ml hno (okM_iff.mpr ho.full))
    · unfold encT
      refine nx_seq ?_
      walk_at "w"
      walk_at "es"
      refine ⟨fun q => absurd q (by decide), fun _ => ?_⟩
      walk_at "es"
      refine ⟨_, ?_, fun j hj => ?_, rfl⟩
      · walk_at "le"
      · rcases (show j < m ∨ j = m by omega) with q | q
        · exact hno j q
        · rw [q]
          cases o : okM ws parts m with
          | false => rfl
          | true => exact absurd he (okM_iff.mp o a ha)
  rintro ρ' ⟨hno, rfl⟩
  rw [rng_size] at hno
  refine nx_seq ?_
  walk_at "es"
  exact zn (find_none.mpr hno)
end Law_k89
namespace Law_k89
open PySem L2 Pu
local macro_rules | `(tactic| walk_at "e") => `(tactic| first
  | ((with_reducible refine nx_seq ?_); (try dsimp only [List.set_cons_succ, List.set_cons_zero]))
  | ((with_reducible refine ex_vr ?_); dsimp only [VQ, List.set_cons_succ, List.set_cons_zero, List.getElem?_cons_zero, List.getElem?_cons_succ]; (fail_if_success (with_reducible show False)))
  | (with_reducible refine sx_seq ?_)
  | (with_reducible refine sx_if ?_)
  | (with_reducible refine sx_next ?_)
  | (with_reducible refine sx_ret ?_)
  | ((fail_if_success (with_reducible refine sx_asgO (eo_lst ?_))); (with_reducible refine sx_asg ?_))
  | (with_reducible refine ex_int ?_)
  | (with_reducible refine ex_str ?_)
  | (with_reducible refine ex_bl ?_)
  | (with_reducible refine ex_non ?_)
  | (with_reducible refine ex_op ?_)
  | (with_reducible refine ex_un ?_)
  | (with_reducible refine ex_chain ?_)
  | (with_reducible refine ex_call ?_)
  | (with_reducible refine ex_isT ?_)
  | (with_reducible refine ex_cb ?_)
  | (with_reducible refine ex_sl ?_)
  | (with_reducible refine ex_tup ?_)
  | (with_reducible refine ex_if ?_)
  | (with_reducible refine ex_of (eo_lst ?_))
  | (with_reducible refine ex_notV ?_)
  | (with_reducible refine ea_nil ?_)
  | (with_reducible refine ea_cons ?_)
  | (with_reducible refine ep_no ?_)
  | (with_reducible refine ep_some ?_)
  | (with_reducible refine et_test ?_)
  | (with_reducible refine et_B ?_)
  | (with_reducible refine et_ch3 ?_)
  | (with_reducible refine et_and ?_)
  | (with_reducible refine et_or ?_)
  | (with_reducible refine et_not ?_)
  | (with_reducible refine et_yes ?_)
  | (with_reducible refine et_truL ?_)
  | (with_reducible refine opd_plusI ?_)
  | (with_reducible refine opd_I0 ?_)
  | (with_reducible refine opd_B0 ?_)
  | (with_reducible refine opd_eqI ?_)
  | (with_reducible refine opd_neI ?_)
  | (with_reducible refine opd_eqS ?_)
  | (with_reducible refine opd_neS ?_)
  | (with_reducible refine opd_is ?_)
  | (with_reducible refine opd_isnt ?_)
  | (with_reducible refine opd_ixT rfl ?_)
  | (with_reducible refine opd_ixL rfl ?_)
  | (with_reducible refine und_neg ?_)
  | (with_reducible refine cbd_lenL ?_)
  | (with_reducible refine cbd_lenT ?_)
  | (with_reducible refine cbd_min2 ?_)
  | (with_reducible refine cbd_max2 ?_)
  | (with_reducible refine cbd_abs ?_)
  | (with_reducible refine cbd_int ?_)
  | (with_reducible refine cbd_tupL ?_)
  | (with_reducible refine cbd_listL ?_)
  | (with_reducible refine cbd_listT ?_)
  | (with_reducible refine cbd_sum ?_)
  | (with_reducible refine sld_T ?_)
  | (with_reducible refine sld_L ?_)
  | (with_reducible refine ex_revL ?_)
  | (with_reducible refine ex_bmL ?_)
  | (with_reducible refine ex_andV ?_)
  | (with_reducible refine ei_list ?_)
  | (with_reducible refine ei_rng1 ?_)
  | (with_reducible refine ei_rng2 ?_)
  | (with_reducible refine ei_enum ?_)
  | (with_reducible refine ei_enumT ?_)
  | (with_reducible refine ei_zip ?_)
  | (with_reducible refine sx_par ?_)
  | (with_reducible refine Exists.intro _ (And.intro rfl ?_))
  | (with_reducible refine Exists.intro _ (Exists.intro _ (And.intro rfl ?_)))
  | ((with_reducible show EX (tCall (spS _) [] _ (tCons (tVar _) _)) _ _); refine ex_callS rfl ?_)
  | ((with_reducible refine And.intro (show (_ : Nat) ≤ 100000 from ?_) ?_); (focus (simp; done)))
  | ((with_reducible refine opd_I ?_ ?_); focus (first | omega | (show CDiv _ _; exact ⟨by omega, by omega⟩) | (show CMul _ _; first | exact Or.inl ⟨by omega, by omega⟩ | exact Or.inr ⟨by omega, by omega⟩))))
local macro_rules | `(tactic| walk_at "es") => `(tactic| repeat walk_at "e")
local macro_rules | `(tactic| walk_at "w") => `(tactic| try dsimp only [wipeE, List.foldl_cons, List.foldl_nil, List.set_cons_succ, List.set_cons_zero])
local macro_rules | `(tactic| walk_at "le") => `(tactic| repeat' first | exact LeE.nil | (refine LeE.eq rfl ?_) | (refine LeE.emp ?_) | (refine LeE.eq ?_ ?_))
local macro_rules | `(tactic| walk_at "no") => `(tactic| ((refine And.intro (fun hb => absurd hb ?_) (fun _ => ?_)); (focus (first | (exact Bool.false_ne_true) | (simp; done) | (simp; omega) | (simp only [decide_eq_true_eq]; omega)))))
local macro_rules | `(tactic| walk_at "yes") => `(tactic| ((refine And.intro (fun _ => ?_) (fun hb => absurd hb ?_)); (rotate_left); (focus (first | (exact Bool.noConfusion) | (simp; done) | (simp; omega) | (simp only [decide_eq_false_iff_not]; omega)))))
local macro_rules | `(tactic| walk_at "ei") => `(tactic| repeat ((fail_if_success (with_reducible show SX (tSeq (tIfS _ _ _) _) _ _)); (fail_if_success (with_reducible show SX (tIfS _ _ _) _ _)); (fail_if_success (with_reducible show SX (tSeq (tAsg (tIf _ _ _) _) _) _ _)); walk_at "e"))
local macro_rules | `(tactic| walk_at "tv") => `(tactic| repeat' first | walk_at "e" | ((with_reducible show (_ = true → _) ∧ (_ = false → _)); refine And.intro (fun _ => ?_) (fun _ => ?_)))
/-! ### the judges -/
def one1 (s : String) : D := .tuple [.str (Str.ofString s)]
def at1 (s : String) (k : Nat) : D := .tuple [.str (Str.ofString s), .int (k : Int)]
def inB (n : Nat) (i : Int) : Bool := decide (0 ≤ i) && decide (i < (n : Int))
theorem in_iff {n : Nat} {i : Int} : inB n i = true ↔ 0 ≤ i ∧ i < (n : Int) := by unfold inB; rw [Bool.and_eq_true, decide_eq_true_eq, decide_eq_true_eq]
theorem eqv_ints : ∀ xs ys : List Int, PyData.eqvAll (xs.map PyData.int) (ys.map PyData.int) = decide (xs = ys)
  | [], [] => by simp [PyData.eqvAll]
  | [], _ :: _ => by simp [PyData.eqvAll]
  | _ :: _, [] => by simp [PyData.eqvAll]
  | x :: xs, y :: ys => by
    have e := eqv_ints xs ys
    simp only [List.map_cons, PyData.eqvAll, PyData.eqv, e]
    by_cases h1 : x = y <;> by_cases h2 : xs = ys <;> simp [h1, h2]
theorem eqv_row (xs ys : List Int) : PyData.eqv (.list (xs.map .int)) (.list (ys.map .int)) = decide (xs = ys) := by
  have e := eqv_ints xs ys
  simp only [PyData.eqv]
  exact e
theorem eqv_nil (xs : List Int) : PyData.eqv (intsD xs) (.list []) = xs.isEmpty := by
  cases xs <;> simp [intsD, PyData.eqv, PyData.eqvAll]
theorem row_dp (xs : List Int) : DpN 2 (.list (xs.map .int)) := dpn_list (n := 1) (dpn_map fun x _ => dpn_int)
theorem cut_m1 {α : Type} (f : α → D) (xs : List α) : cutD (xs.map f) none (some (-1)) = (xs.take (xs.length - 1)).map f := by
  unfold cutD
  simp only [HT.sIx]
  rw [if_pos (by omega), List.length_map, List.map_take]
  show List.take (_ - 0) (List.map f xs) = _
  congr 1
  omega
def lotBad (ws : Pt) (parts : List Pt) (ms : List Int) (rest : List (List Int)) (k : Nat) : Option D := if rest.getD k [] = LF ws parts ms k then none else some (at1 "lot" k)
def begB (rest : List (List Int)) : Bool := (rest.getD (rest.length - 1) []).isEmpty && !(rest.take (rest.length - 1)).any List.isEmpty
def waitB (parts : List Pt) (ms ts : List Int) (k : Nat) : Bool := decide (0 ≤ ts.getD k 0 - endF parts (fnL ts) k) && decide (ts.getD k 0 - endF parts (fnL ts) k ≤ ms.getD k 0)
def tickBad (ws : Pt) (parts : List Pt) (ms ts : List Int) (k : Nat) : Option D := if fitB ws (parts.getD k []) (ts.getD k 0) = true then (if waitB parts ms ts k = true then none else some (at1 "wait" k)) else some (at1 "wind" k)
def faultF (ws : Pt) (parts : List Pt) (ms : List Int) : Told → D
  | .never a rest => if (inB parts.length a && decide ((rest.length : Int) = a + 1)) = true then (match (List.range rest.length).findSome? (lotBad ws parts ms rest) with
      | some d => d
      | none => if begB rest = true then .none else one1 "begins") else one1 "part"
  | .start ts => if ts.length = parts.length then (match (List.range parts.length).findSome? (tickBad ws parts ms ts) with
      | some d => d
      | none => if (decide (ts.length = 0) || decide (ts.getD (ts.length - 1) 0 = (LF ws parts ms (parts.length - 1)).getD 0 0)) = true then .none else one1 "least") else one1 "length"
def TOk : Told → Prop
  | .never _ rest => rest.length ≤ 5
  | .start ts => ts.length ≤ 5
/-- ticks that pass are ways -/
theorem pass_way {ws : Pt} {parts : List Pt} {ms ts : List Int} (hl : ts.length = parts.length) (h : ∀ k, k < parts.length → tickBad ws parts ms ts k = none) : Way ws parts ms ts := by
  refine ⟨hl, fun k hk => ?_⟩
  have e := h k hk
  unfold tickBad at e
  by_cases h1 : fitB ws (parts.getD k []) (ts.getD k 0) = true
  · rw [if_pos h1] at e
    by_cases h2 : waitB parts ms ts k = true
    · unfold waitB at h2
      rw [Bool.and_eq_true, decide_eq_true_eq, decide_eq_true_eq] at h2
      exact ⟨h1, h2.1, h2.2⟩
    · rw [if_neg h2] at e; cases e
  · rw [if_neg h1] at e; cases e
theorem way_pass {ws : Pt} {parts : List Pt} {ms ts : List Int} (h : Way ws parts ms ts) {k : Nat} (hk : k < parts.length) : tickBad ws parts ms ts k = none := by
  have c := h.2 k hk
  have lo := c.lo
  have hi := c.hi
  unfold tickBad
  rw [if_pos (show fitB ws (parts.getD k []) (ts.getD k 0) = true from c.fit), if_pos]
  unfold waitB
  rw [Bool.and_eq_true, decide_eq_true_eq, decide_eq_true_eq]
  exact ⟨lo, hi⟩
def R_fault : List D → (D → Prop) → Prop := fun ds Z => ∃ (ws : Pt) (parts : List Pt) (ms : List Int) (t : Told), ds = [.list (ws.map encP), .list (parts.map partD), .list (ms.map .int), encT t] ∧ Sc ws parts ms ∧ TOk t ∧ Z (faultF ws parts ms t)
def R_l_fault : List D → (D → Prop) → Prop := fun ds Z => ∃ (ws : Pt) (parts : List Pt) (ms : List Int) (t : Told), ds = [.list (ws.map encP), .list (parts.map partD), .list (ms.map .int), .list ((LL ws parts ms parts.length).map intsD), encT t] ∧ Sc ws parts ms ∧ TOk t ∧ Z (faultF ws parts ms t)
theorem d0 (es : List D) : min (PyData.depthAll es) (PyData.list []).depth ≤ 60 := min_r (by simp [PyData.depth, PyData.depthAll])
theorem any_nil (rest : List (List Int)) : ((rest.map intsD).any fun y => PyData.eqv y (.list [])) = rest.any List.isEmpty := by
  rw [List.any_map]
  congr 1
  funext x
  exact eqv_nil x
theorem end_is {parts : List Pt} {ts : List Int} {k : Nat} (h : 0 < k) : endF parts (fnL ts) k = ts.getD (k - 1) 0 + ((parts.getD (k - 1) []).length : Int) := by
  obtain ⟨j, rfl⟩ : ∃ j, k = j + 1 := ⟨k - 1, by omega⟩
  rfl
theorem sx_hold_fault (K : PySem.W.Frag) (ds : List D) (Z : D → Prop) (h : R_fault ds Z) : SX (T_hold_fault K R_ticks R_pfits) (startE N_hold_fault ds) { nx := fun _ => Z .none, rt := fun d _ => Z d } := by
  obtain ⟨ws, parts, ms, t, rfl, sc, ok, z⟩ := h
  show SX (T_hold_fault K R_ticks R_pfits) [.val (.list (ws.map encP)), .val (.list (parts.map partD)), .val (.list (ms.map .int)), .val (encT t), .emp, .emp, .emp, .emp, .emp, .emp, .emp, .emp, .emp] _
  have w10 := sc.w10
  have p3 := sc.p3
  have ml := sc.ml
  have ll := LL_len ws parts ms parts.length
  unfold T_hold_fault
  walk_at "ei"
  refine ⟨ws, parts, ms, rfl, sc, ?_⟩
  refine nx_seq ?_
  walk_at "w"
  cases t with
  | never a rest =>
    have rl : rest.length ≤ 5 := ok
    have z : Z (if (inB parts.length a && decide ((rest.length : Int) = a + 1)) = true then (match (List.range rest.length).findSome? (lotBad ws parts ms rest) with
      | some d => d
      | none => if begB rest = true then .none else one1 "begins") else one1 "part") := z
    unfold encT
    walk_at "es"
    refine ⟨fun _ => ?_, fun hq => absurd hq (by decide)⟩
    refine sx_seq (sx_asgT (J := [5, 6, 7]) ?_)
    walk_at "es"
    refine sg_tup rfl (sgs_cons (sg_name (by simp) (sgs_cons (sg_name (by simp) (sgs_cons (sg_name (by simp) (sgs_nil ?_)))))))
    refine nx_seq ?_
    walk_at "w"
    refine sx_seq (sx_if (et_val (!(inB parts.length a && decide ((rest.length : Int) = a + 1))) ?_ ⟨fun hq => ?_, fun hq => ?_⟩))
    · refine et_or (et_val (!inB parts.length a) ?_ ⟨fun h1 => ?_, fun h1 => ?_⟩)
      · walk_at "es"
        unfold inB
        refine ⟨fun h1 => ?_, fun h1 => ?_⟩
        · rw [h1]
          walk_at "es"
          rw [List.length_map]
          exact ⟨rfl, rfl⟩
        · rw [h1]
          walk_at "es"
          exact ⟨rfl, rfl⟩
      · rw [Bool.not_eq_true'] at h1
        rw [h1]; exact ⟨rfl, rfl⟩
      · rw [Bool.not_eq_false'] at h1
        rw [h1]
        walk_at "es"
        rw [List.length_map]
        exact ⟨rfl, rfl⟩
    · rw [Bool.not_eq_true'] at hq
      rw [if_neg (by rw [hq]; exact Bool.false_ne_true)] at z
      walk_at "es"
      exact z
    rw [Bool.not_eq_false'] at hq
    rw [if_pos hq] at z
    rw [Bool.and_eq_true, decide_eq_true_eq] at hq
    have ai := in_iff.mp hq.1
    have al := hq.2
    walk_at "es"
    refine sx_weak (ρ' := [.val (.list (ws.map encP)), .val (.list (parts.map partD)), .val (.list (ms.map .int)), .val (.tuple [.str (Str.ofString "never"), .int a, .list (rest.map intsD)]), .val (.list ((LL ws parts ms parts.length).map intsD)), .emp, .emp, .val (.list (rest.map intsD)), .emp, .emp, .emp, .emp, .emp]) (by walk_at "le") ?_
    refine sx_for (J := [8, 9]) (ei_enum ?_)
    walk_at "es"
    refine ⟨fun k ρ' => (∀ j, j < k → lotBad ws parts ms rest j = none) ∧ ρ' = [.val (.list (ws.map encP)), .val (.list (parts.map partD)), .val (.list (ms.map .int)), .val (.tuple [.str (Str.ofString "never"), .int a, .list (rest.map intsD)]), .val (.list ((LL ws parts ms parts.length).map intsD)), .emp, .emp, .val (.list (rest.map intsD)), .emp, .emp, .emp, .emp, .emp], ⟨fun j hj => by omega, rfl⟩, ?_, ?_⟩
    · rintro k dd ρ' hd0 ⟨hno, rfl⟩
      obtain ⟨row, hrow, rfl⟩ := enum_at hd0
      have kl : k < rest.length := (List.getElem?_eq_some_iff.mp hrow).1
      have er : rest.getD k [] = row := by rw [List.getD_eq_getElem?_getD, hrow]; rfl
      have out : ∀ d, lotBad ws parts ms rest k = some d → Z d := fun d e => by
        rw [Pu.find_first kl hno e] at z
        exact z
      have due : lotBad ws parts ms rest k = if row = LF ws parts ms k then none else some (at1 "lot" k) := by unfold lotBad; rw [er]
      show SG _ _ (.tuple [.int (k : Int), .list (row.map .int)]) _ _
      refine sg_tup rfl (sgs_cons (sg_name (by simp) (sgs_cons (sg_name (by simp) (sgs_nil ?_)))))
      walk_at "w"
      walk_at "es"
      refine opd_row (by omega) ?_
      rw [LL_get (by omega)]
      refine opd_neP (min_l (Nat.le_trans (row_dp row) (by decide))) ?_
      rw [eqv_row]
      walk_at "es"
      by_cases q : row = LF ws parts ms k
      · rw [if_pos q] at due
        rw [decide_eq_true q]
        walk_at "no"
        walk_at "es"
        refine ⟨_, ?_, fun j hj => ?_, rfl⟩
        · walk_at "le"
        · rcases (show j < k ∨ j = k by omega) with q | q
          · exact hno j q
          · rw [q]; exact due
      · rw [if_neg q] at due
        rw [decide_eq_false q]
        walk_at "yes"
        walk_at "es"
        exact out _ due
    rintro ρ' ⟨hno, rfl⟩
    rw [enum_len] at hno
    rw [Pu.find_no hno] at z
    have z : Z (if begB rest = true then .none else one1 "begins") := z
    refine nx_seq ?_
    refine sx_ret (ex_if (et_val (begB rest) ?_ ⟨fun hq => ?_, fun hq => ?_⟩))
    · walk_at "es"
      refine opd_ixL (last_M [] (by omega)) ?_
      walk_at "es"
      refine opd_eqP (min_r (by simp [PyData.depth, PyData.depthAll])) ?_
      rw [eqv_nil]
      unfold begB
      walk_at "es"
      refine ⟨fun h1 => ?_, fun h1 => ?_⟩
      · rw [h1]
        walk_at "es"
        rw [cut_m1]
        refine opd_ninL (d0 _) ?_
        rw [any_nil]
        walk_at "es"
        exact ⟨rfl, rfl⟩
      · rw [h1]; exact ⟨rfl, rfl⟩
    · rw [if_pos hq] at z
      walk_at "es"
      exact z
    · rw [if_neg (by rw [hq]; exact Bool.false_ne_true)] at z
      walk_at "es"
      exact z
  | start ts =>
    have tl : ts.length ≤ 5 := ok
    have z : Z (if ts.length = parts.length then (match (List.range parts.length).findSome? (tickBad ws parts ms ts) with
      | some d => d
      | none => if (decide (ts.length = 0) || decide (ts.getD (ts.length - 1) 0 = (LF ws parts ms (parts.length - 1)).getD 0 0)) = true then .none else one1 "least") else one1 "length") := z
    unfold encT
    walk_at "es"
    refine ⟨fun hq => absurd hq (by decide), fun _ => ?_⟩
    walk_at "es"
    rw [List.length_map, List.length_map]
    by_cases hl : ts.length = parts.length
    rotate_left
    · rw [if_neg hl] at z
      walk_at "yes"
      walk_at "es"
      exact z
    rw [if_pos hl] at z
    walk_at "no"
    walk_at "es"
    refine sx_for (J := [6, 11]) (ei_enum ?_)
    walk_at "es"
    refine ⟨fun k ρ' => (∀ j, j < k → tickBad ws parts ms ts j = none) ∧ ρ' = [.val (.list (ws.map encP)), .val (.list (parts.map partD)), .val (.list (ms.map .int)), .val (.tuple [.str (Str.ofString "begin"), .list (ts.map .int)]), .val (.list ((LL ws parts ms parts.length).map intsD)), .emp, .emp, .emp, .emp, .emp, .val (.list (ts.map .int)), .emp, .emp], ⟨fun j hj => by omega, rfl⟩, ?_, ?_⟩
    · rintro k dd ρ' hd0 ⟨hno, rfl⟩
      obtain ⟨x, hx, rfl⟩ := enum_at hd0
      have kl : k < ts.length := (List.getElem?_eq_some_iff.mp hx).1
      have ex : ts.getD k 0 = x := by rw [List.getD_eq_getElem?_getD, hx]; rfl
      have out : ∀ d, tickBad ws parts ms ts k = some d → Z d := fun d e => by
        rw [Pu.find_first (by omega) hno e] at z
        exact z
      have due : tickBad ws parts ms ts k = if fitB ws (parts.getD k []) x = true then (if waitB parts ms ts k = true then none else some (at1 "wait" k)) else some (at1 "wind" k) := by unfold tickBad; rw [ex]
      have wb : waitB parts ms ts k = (decide (0 ≤ x - endF parts (fnL ts) k) && decide (x - endF parts (fnL ts) k ≤ ms.getD k 0)) := by unfold waitB; rw [ex]
      have pl : (parts.getD k []).length ≤ 10 := by
        have := sc.l3 _ (mem_D (a := []) (show k < parts.length by omega))
        omega
      refine sg_tup rfl (sgs_cons (sg_name (by simp) (sgs_cons (sg_name (by simp) (sgs_nil ?_)))))
      walk_at "w"
      refine sx_seq (sx_if (et_val (!fitB ws (parts.getD k []) x) ?_ ⟨fun hq => ?_, fun hq => ?_⟩))
      · walk_at "es"
        refine ⟨fun h1 => ?_, fun h1 => ?_⟩
        · have := of_decide_eq_true h1
          have e : fitB ws (parts.getD k []) x = false := by
            unfold fitB
            rw [decide_eq_false (by omega), Bool.false_and]
          rw [e]; exact ⟨rfl, rfl⟩
        · have := of_decide_eq_false h1
          obtain ⟨m, rfl⟩ : ∃ m : Nat, x = (m : Int) := ⟨x.toNat, by omega⟩
          walk_at "es"
          refine opd_part (by omega) ?_
          walk_at "es"
          refine ⟨ws, parts.getD k [], m, rfl, w10, pl, ?_⟩
          walk_at "es"
          exact ⟨rfl, rfl⟩
      · rw [Bool.not_eq_true'] at hq
        rw [if_neg (by rw [hq]; exact Bool.false_ne_true)] at due
        walk_at "es"
        exact out _ due
      rw [Bool.not_eq_false'] at hq
      rw [if_pos hq] at due
      refine sx_next (nx_seq ?_)
      refine sx_seq (sx_asg (ex_val (.int (x - endF parts (fnL ts) k)) ?_ ?_))
      · walk_at "es"
        rw [dec_0]
        refine ⟨fun h1 => ?_, fun h1 => ?_⟩
        · have := of_decide_eq_true h1
          subst this
          walk_at "es"
          refine ⟨?_, rfl⟩
          show PyData.int x = .int (x - 0)
          rw [Int.sub_zero]
        · have := of_decide_eq_false h1
          walk_at "es"
          rw [show (k : Int) - 1 = ((k - 1 : Nat) : Int) by omega]
          refine opd_int (by omega) ?_
          walk_at "es"
          rw [show (k : Int) - 1 = ((k - 1 : Nat) : Int) by omega]
          refine opd_part (by omega) ?_
          walk_at "es"
          rw [List.length_map]
          refine ⟨?_, rfl⟩
          rw [end_is (by omega)]
          congr 1
          omega
      refine nx_seq ?_
      walk_at "w"
      refine sx_if (et_val (!waitB parts ms ts k) ?_ ⟨fun hq => ?_, fun hq => ?_⟩)
      · rw [wb]
        walk_at "es"
        refine ⟨fun h1 => ?_, fun h1 => ?_⟩
        · rw [h1]
          walk_at "es"
          refine opd_int (by omega) ?_
          walk_at "es"
          exact ⟨rfl, rfl⟩
        · rw [h1]
          walk_at "es"
          exact ⟨rfl, rfl⟩
      · rw [Bool.not_eq_true'] at hq
        rw [if_neg (by rw [hq]; exact Bool.false_ne_true)] at due
        walk_at "es"
        exact out _ due
      · rw [Bool.not_eq_false'] at hq
        rw [if_pos hq] at due
        walk_at "es"
        refine ⟨_, ?_, fun j hj => ?_, rfl⟩
        · walk_at "le"
        · rcases (show j < k ∨ j = k by omega) with q | q
          · exact hno j q
          · rw [q]; exact due
    rintro ρ' ⟨hno, rfl⟩
    rw [enum_len, hl] at hno
    have way := pass_way hl hno
    rw [Pu.find_no hno] at z
    have z : Z (if (decide (ts.length = 0) || decide (ts.getD (ts.length - 1) 0 = (LF ws parts ms (parts.length - 1)).getD 0 0)) = true then .none else one1 "least") := z
    refine nx_seq ?_
    refine sx_ret (ex_if (et_val (decide (ts.length = 0) || decide (ts.getD (ts.length - 1) 0 = (LF ws parts ms (parts.length - 1)).getD 0 0)) ?_ ⟨fun hq => ?_, fun hq => ?_⟩))
    · walk_at "es"
      rw [isE_len, List.length_map]
      by_cases t0 : ts.length = 0
      · rw [decide_eq_true t0, decide_eq_false (show ¬ 0 < ts.length by omega)]
        refine ⟨fun _ => ⟨rfl, rfl⟩, fun q => by cases q⟩
      · rw [decide_eq_false t0, decide_eq_true (show 0 < ts.length by omega)]
        refine ⟨fun q => (by cases q), fun _ => ?_⟩
        have mem := way_last way (k := parts.length - 1) (by omega)
        have lp : 0 < (LF ws parts ms (parts.length - 1)).length := List.length_pos_of_mem mem
        walk_at "es"
        refine opd_ixL (last_M 0 (by omega)) ?_
        walk_at "es"
        refine opd_ixL (last_M [] (by omega)) ?_
        rw [ll, LL_get (by omega)]
        unfold intsD
        walk_at "es"
        refine opd_ixL (at_0 lp) ?_
        walk_at "es"
        exact ⟨rfl, rfl⟩
    · rw [if_pos hq] at z
      walk_at "es"
      exact z
    · rw [if_neg (by rw [hq]; exact Bool.false_ne_true)] at z
      walk_at "es"
      exact z
end Law_k89
namespace Law_k89
open PySem L2 Pu
local macro_rules | `(tactic| walk_at "e") => `(tactic| first
  | ((with_reducible refine nx_seq ?_); (try dsimp only [List.set_cons_succ, List.set_cons_zero]))
  | ((with_reducible refine ex_vr ?_); dsimp only [VQ, List.set_cons_succ, List.set_cons_zero, List.getElem?_cons_zero, List.getElem?_cons_succ]; (fail_if_success (with_reducible show False)))
  | (with_reducible refine sx_seq ?_)
  | (with_reducible refine sx_if ?_)
  | (with_reducible refine sx_next ?_)
  | (with_reducible refine sx_ret ?_)
  | ((fail_if_success (with_reducible refine sx_asgO (eo_lst ?_))); (with_reducible refine sx_asg ?_))
  | (with_reducible refine ex_int ?_)
  | (with_reducible refine ex_str ?_)
  | (with_reducible refine ex_bl ?_)
  | (with_reducible refine ex_non ?_)
  | (with_reducible refine ex_op ?_)
  | (with_reducible refine ex_un ?_)
  | (with_reducible refine ex_chain ?_)
  | (with_reducible refine ex_call ?_)
  | (with_reducible refine ex_isT ?_)
  | (with_reducible refine ex_cb ?_)
  | (with_reducible refine ex_sl ?_)
  | (with_reducible refine ex_tup ?_)
  | (with_reducible refine ex_if ?_)
  | (with_reducible refine ex_of (eo_lst ?_))
  | (with_reducible refine ex_notV ?_)
  | (with_reducible refine ea_nil ?_)
  | (with_reducible refine ea_cons ?_)
  | (with_reducible refine ep_no ?_)
  | (with_reducible refine ep_some ?_)
  | (with_reducible refine et_test ?_)
  | (with_reducible refine et_B ?_)
  | (with_reducible refine et_ch3 ?_)
  | (with_reducible refine et_and ?_)
  | (with_reducible refine et_or ?_)
  | (with_reducible refine et_not ?_)
  | (with_reducible refine et_yes ?_)
  | (with_reducible refine et_truL ?_)
  | (with_reducible refine opd_plusI ?_)
  | (with_reducible refine opd_I0 ?_)
  | (with_reducible refine opd_B0 ?_)
  | (with_reducible refine opd_eqI ?_)
  | (with_reducible refine opd_neI ?_)
  | (with_reducible refine opd_eqS ?_)
  | (with_reducible refine opd_neS ?_)
  | (with_reducible refine opd_is ?_)
  | (with_reducible refine opd_isnt ?_)
  | (with_reducible refine opd_ixT rfl ?_)
  | (with_reducible refine opd_ixL rfl ?_)
  | (with_reducible refine und_neg ?_)
  | (with_reducible refine cbd_lenL ?_)
  | (with_reducible refine cbd_lenT ?_)
  | (with_reducible refine cbd_min2 ?_)
  | (with_reducible refine cbd_max2 ?_)
  | (with_reducible refine cbd_abs ?_)
  | (with_reducible refine cbd_int ?_)
  | (with_reducible refine cbd_tupL ?_)
  | (with_reducible refine cbd_listL ?_)
  | (with_reducible refine cbd_listT ?_)
  | (with_reducible refine cbd_sum ?_)
  | (with_reducible refine sld_T ?_)
  | (with_reducible refine sld_L ?_)
  | (with_reducible refine ex_revL ?_)
  | (with_reducible refine ex_bmL ?_)
  | (with_reducible refine ex_andV ?_)
  | (with_reducible refine ei_list ?_)
  | (with_reducible refine ei_rng1 ?_)
  | (with_reducible refine ei_rng2 ?_)
  | (with_reducible refine ei_enum ?_)
  | (with_reducible refine ei_enumT ?_)
  | (with_reducible refine ei_zip ?_)
  | (with_reducible refine sx_par ?_)
  | (with_reducible refine Exists.intro _ (And.intro rfl ?_))
  | (with_reducible refine Exists.intro _ (Exists.intro _ (And.intro rfl ?_)))
  | ((with_reducible show EX (tCall (spS _) [] _ (tCons (tVar _) _)) _ _); refine ex_callS rfl ?_)
  | ((with_reducible refine And.intro (show (_ : Nat) ≤ 100000 from ?_) ?_); (focus (simp; done)))
  | ((with_reducible refine opd_I ?_ ?_); focus (first | omega | (show CDiv _ _; exact ⟨by omega, by omega⟩) | (show CMul _ _; first | exact Or.inl ⟨by omega, by omega⟩ | exact Or.inr ⟨by omega, by omega⟩))))
local macro_rules | `(tactic| walk_at "es") => `(tactic| repeat walk_at "e")
local macro_rules | `(tactic| walk_at "w") => `(tactic| try dsimp only [wipeE, List.foldl_cons, List.foldl_nil, List.set_cons_succ, List.set_cons_zero])
local macro_rules | `(tactic| walk_at "le") => `(tactic| repeat' first | exact LeE.nil | (refine LeE.eq rfl ?_) | (refine LeE.emp ?_) | (refine LeE.eq ?_ ?_))
local macro_rules | `(tactic| walk_at "no") => `(tactic| ((refine And.intro (fun hb => absurd hb ?_) (fun _ => ?_)); (focus (first | (exact Bool.false_ne_true) | (simp; done) | (simp; omega) | (simp only [decide_eq_true_eq]; omega)))))
local macro_rules | `(tactic| walk_at "yes") => `(tactic| ((refine And.intro (fun _ => ?_) (fun hb => absurd hb ?_)); (rotate_left); (focus (first | (exact Bool.noConfusion) | (simp; done) | (simp; omega) | (simp only [decide_eq_false_iff_not]; omega)))))
local macro_rules | `(tactic| walk_at "ei") => `(tactic| repeat ((fail_if_success (with_reducible show SX (tSeq (tIfS _ _ _) _) _ _)); (fail_if_success (with_reducible show SX (tIfS _ _ _) _ _)); (fail_if_success (with_reducible show SX (tSeq (tAsg (tIf _ _ _) _) _) _ _)); walk_at "e"))
local macro_rules | `(tactic| walk_at "tv") => `(tactic| repeat' first | walk_at "e" | ((with_reducible show (_ = true → _) ∧ (_ = false → _)); refine And.intro (fun _ => ?_) (fun _ => ?_)))
theorem sx_l_fault (K : PySem.W.Frag) (ds : List D) (Z : D → Prop) (h : R_l_fault ds Z) : SX (T_l_fault K R_lfits) (startE N_l_fault ds) { nx := fun _ => Z .none, rt := fun d _ => Z d } := by
  obtain ⟨ws, parts, ms, t, rfl, sc, ok, z⟩ := h
  show SX (T_l_fault K R_lfits) [.val (.list (ws.map encP)), .val (.list (parts.map partD)), .val (.list (ms.map .int)), .val (.list ((LL ws parts ms parts.length).map intsD)), .val (encT t), .emp, .emp, .emp, .emp, .emp, .emp] _
  have w10 := sc.w10
  have p3 := sc.p3
  have ml := sc.ml
  have ll := LL_len ws parts ms parts.length
  unfold T_l_fault
  cases t with
  | never a rest =>
    have rl : rest.length ≤ 5 := ok
    have z : Z (if (inB parts.length a && decide ((rest.length : Int) = a + 1)) = true then (match (List.range rest.length).findSome? (lotBad ws parts ms rest) with
      | some d => d
      | none => if begB rest = true then .none else one1 "begins") else one1 "part") := z
    unfold encT
    walk_at "es"
    refine ⟨fun _ => ?_, fun hq => absurd hq (by decide)⟩
    refine sx_seq (sx_asgT (J := [5, 6, 7]) ?_)
    walk_at "es"
    refine sg_tup rfl (sgs_cons (sg_name (by simp) (sgs_cons (sg_name (by simp) (sgs_cons (sg_name (by simp) (sgs_nil ?_)))))))
    refine nx_seq ?_
    walk_at "w"
    refine sx_seq (sx_if (et_val (!(inB parts.length a && decide ((rest.length : Int) = a + 1))) ?_ ⟨fun hq => ?_, fun hq => ?_⟩))
    · refine et_or (et_val (!inB parts.length a) ?_ ⟨fun h1 => ?_, fun h1 => ?_⟩)
      · walk_at "es"
        unfold inB
        refine ⟨fun h1 => ?_, fun h1 => ?_⟩
        · rw [h1]
          walk_at "es"
          rw [List.length_map]
          exact ⟨rfl, rfl⟩
        · rw [h1]
          walk_at "es"
          exact ⟨rfl, rfl⟩
      · rw [Bool.not_eq_true'] at h1
        rw [h1]; exact ⟨rfl, rfl⟩
      · rw [Bool.not_eq_false'] at h1
        rw [h1]
        walk_at "es"
        rw [List.length_map]
        exact ⟨rfl, rfl⟩
    · rw [Bool.not_eq_true'] at hq
      rw [if_neg (by rw [hq]; exact Bool.false_ne_true)] at z
      walk_at "es"
      exact z
    rw [Bool.not_eq_false'] at hq
    rw [if_pos hq] at z
    rw [Bool.and_eq_true, decide_eq_true_eq] at hq
    have ai := in_iff.mp hq.1
    have al := hq.2
    walk_at "es"
    refine sx_weak (ρ' := [.val (.list (ws.map encP)), .val (.list (parts.map partD)), .val (.list (ms.map .int)), .val (.list ((LL ws parts ms parts.length).map intsD)), .emp, .emp, .emp, .val (.list (rest.map intsD)), .emp, .emp, .emp]) (by walk_at "le") ?_
    refine sx_for (J := [8]) (ei_rng1 ?_)
    walk_at "es"
    rw [List.length_map, Int.toNat_natCast]
    refine ⟨by omega, fun k ρ' => (∀ j, j < k → lotBad ws parts ms rest j = none) ∧ ρ' = [.val (.list (ws.map encP)), .val (.list (parts.map partD)), .val (.list (ms.map .int)), .val (.list ((LL ws parts ms parts.length).map intsD)), .emp, .emp, .emp, .val (.list (rest.map intsD)), .emp, .emp, .emp], ⟨fun j hj => by omega, rfl⟩, ?_, ?_⟩
    · rintro k dd ρ' hd0 ⟨hno, rfl⟩
      obtain ⟨kl, rfl⟩ := rng_at hd0
      rw [Int.zero_add]
      have out : ∀ d, lotBad ws parts ms rest k = some d → Z d := fun d e => by
        rw [Pu.find_first kl hno e] at z
        exact z
      have due : lotBad ws parts ms rest k = if rest.getD k [] = LF ws parts ms k then none else some (at1 "lot" k) := rfl
      refine sg_name (by simp) ?_
      walk_at "w"
      walk_at "es"
      refine opd_row (by omega) ?_
      walk_at "es"
      refine opd_row (by omega) ?_
      rw [LL_get (by omega)]
      refine opd_neP (min_l (Nat.le_trans (row_dp _) (by decide))) ?_
      rw [eqv_row]
      walk_at "es"
      by_cases q : rest.getD k [] = LF ws parts ms k
      · rw [if_pos q] at due
        rw [decide_eq_true q]
        walk_at "no"
        walk_at "es"
        refine ⟨_, ?_, fun j hj => ?_, rfl⟩
        · walk_at "le"
        · rcases (show j < k ∨ j = k by omega) with q | q
          · exact hno j q
          · rw [q]; exact due
      · rw [if_neg q] at due
        rw [decide_eq_false q]
        walk_at "yes"
        walk_at "es"
        exact out _ due
    rintro ρ' ⟨hno, rfl⟩
    rw [rng_size] at hno
    rw [Pu.find_no hno] at z
    have z : Z (if begB rest = true then .none else one1 "begins") := z
    refine nx_seq ?_
    refine sx_ret (ex_if (et_val (begB rest) ?_ ⟨fun hq => ?_, fun hq => ?_⟩))
    · walk_at "es"
      refine opd_ixL (last_M [] (by omega)) ?_
      walk_at "es"
      refine opd_eqP (min_r (by simp [PyData.depth, PyData.depthAll])) ?_
      rw [eqv_nil]
      unfold begB
      walk_at "es"
      refine ⟨fun h1 => ?_, fun h1 => ?_⟩
      · rw [h1]
        walk_at "es"
        rw [cut_m1]
        refine opd_ninL (d0 _) ?_
        rw [any_nil]
        walk_at "es"
        exact ⟨rfl, rfl⟩
      · rw [h1]; exact ⟨rfl, rfl⟩
    · rw [if_pos hq] at z
      walk_at "es"
      exact z
    · rw [if_neg (by rw [hq]; exact Bool.false_ne_true)] at z
      walk_at "es"
      exact z
  | start ts =>
    have tl : ts.length ≤ 5 := ok
    have z : Z (if ts.length = parts.length then (match (List.range parts.length).findSome? (tickBad ws parts ms ts) with
      | some d => d
      | none => if (decide (ts.length = 0) || decide (ts.getD (ts.length - 1) 0 = (LF ws parts ms (parts.length - 1)).getD 0 0)) = true then .none else one1 "least") else one1 "length") := z
    unfold encT
    walk_at "es"
    refine ⟨fun hq => absurd hq (by decide), fun _ => ?_⟩
    walk_at "es"
    rw [List.length_map, List.length_map]
    by_cases hl : ts.length = parts.length
    rotate_left
    · rw [if_neg hl] at z
      walk_at "yes"
      walk_at "es"
      exact z
    rw [if_pos hl] at z
    walk_at "no"
    walk_at "es"
    refine sx_weak (ρ' := [.val (.list (ws.map encP)), .val (.list (parts.map partD)), .val (.list (ms.map .int)), .val (.list ((LL ws parts ms parts.length).map intsD)), .emp, .emp, .emp, .emp, .emp, .val (.list (ts.map .int)), .emp]) (by walk_at "le") ?_
    refine sx_for (J := [8]) (ei_rng1 ?_)
    walk_at "es"
    rw [List.length_map, Int.toNat_natCast]
    refine ⟨by omega, fun k ρ' => (∀ j, j < k → tickBad ws parts ms ts j = none) ∧ ρ' = [.val (.list (ws.map encP)), .val (.list (parts.map partD)), .val (.list (ms.map .int)), .val (.list ((LL ws parts ms parts.length).map intsD)), .emp, .emp, .emp, .emp, .emp, .val (.list (ts.map .int)), .emp], ⟨fun j hj => by omega, rfl⟩, ?_, ?_⟩
    · rintro k dd ρ' hd0 ⟨hno, rfl⟩
      obtain ⟨kl, rfl⟩ := rng_at hd0
      rw [Int.zero_add]
      have out : ∀ d, tickBad ws parts ms ts k = some d → Z d := fun d e => by
        rw [Pu.find_first (by omega) hno e] at z
        exact z
      have due : tickBad ws parts ms ts k = if fitB ws (parts.getD k []) (ts.getD k 0) = true then (if waitB parts ms ts k = true then none else some (at1 "wait" k)) else some (at1 "wind" k) := rfl
      have wb : waitB parts ms ts k = (decide (0 ≤ ts.getD k 0 - endF parts (fnL ts) k) && decide (ts.getD k 0 - endF parts (fnL ts) k ≤ ms.getD k 0)) := rfl
      have pl : (parts.getD k []).length ≤ 10 := by
        have := sc.l3 _ (mem_D (a := []) (show k < parts.length by omega))
        omega
      refine sg_name (by simp) ?_
      walk_at "w"
      refine sx_seq (sx_if (et_val (!fitB ws (parts.getD k []) (ts.getD k 0)) ?_ ⟨fun hq => ?_, fun hq => ?_⟩))
      · walk_at "es"
        refine opd_part (by omega) ?_
        walk_at "es"
        refine opd_int (by omega) ?_
        walk_at "es"
        refine ⟨ws, parts.getD k [], ts.getD k 0, rfl, w10, pl, ?_⟩
        walk_at "es"
        exact ⟨rfl, rfl⟩
      · rw [Bool.not_eq_true'] at hq
        rw [if_neg (by rw [hq]; exact Bool.false_ne_true)] at due
        walk_at "es"
        exact out _ due
      rw [Bool.not_eq_false'] at hq
      rw [if_pos hq] at due
      refine sx_next (nx_seq ?_)
      refine sx_seq (sx_asg (ex_val (.int (ts.getD k 0 - endF parts (fnL ts) k)) ?_ ?_))
      · walk_at "es"
        refine opd_int (by omega) ?_
        walk_at "es"
        rw [dec_p]
        refine ⟨fun h1 => ?_, fun h1 => ?_⟩
        · have := of_decide_eq_true h1
          walk_at "es"
          rw [show (k : Int) - 1 = ((k - 1 : Nat) : Int) by omega]
          refine opd_int (by omega) ?_
          walk_at "es"
          rw [show (k : Int) - 1 = ((k - 1 : Nat) : Int) by omega]
          refine opd_part (by omega) ?_
          walk_at "es"
          rw [List.length_map]
          refine ⟨?_, rfl⟩
          rw [end_is (by omega)]
        · have := of_decide_eq_false h1
          have k0 : k = 0 := by omega
          subst k0
          walk_at "es"
          exact ⟨rfl, rfl⟩
      refine nx_seq ?_
      walk_at "w"
      refine sx_if (et_val (!waitB parts ms ts k) ?_ ⟨fun hq => ?_, fun hq => ?_⟩)
      · rw [wb]
        walk_at "es"
        refine ⟨fun h1 => ?_, fun h1 => ?_⟩
        · rw [h1]
          walk_at "es"
          refine opd_int (by omega) ?_
          walk_at "es"
          exact ⟨rfl, rfl⟩
        · rw [h1]
          walk_at "es"
          exact ⟨rfl, rfl⟩
      · rw [Bool.not_eq_true'] at hq
        rw [if_neg (by rw [hq]; exact Bool.false_ne_true)] at due
        walk_at "es"
        exact out _ due
      · rw [Bool.not_eq_false'] at hq
        rw [if_pos hq] at due
        walk_at "es"
        refine ⟨_, ?_, fun j hj => ?_, rfl⟩
        · walk_at "le"
        · rcases (show j < k ∨ j = k by omega) with q | q
          · exact hno j q
          · rw [q]; exact due
    rintro ρ' ⟨hno, rfl⟩
    rw [rng_size] at hno
    have way := pass_way hl hno
    rw [Pu.find_no hno] at z
    have z : Z (if (decide (ts.length = 0) || decide (ts.getD (ts.length - 1) 0 = (LF ws parts ms (parts.length - 1)).getD 0 0)) = true then .none else one1 "least") := z
    refine nx_seq ?_
    refine sx_ret (ex_if (et_val (decide (ts.length = 0) || decide (ts.getD (ts.length - 1) 0 = (LF ws parts ms (parts.length - 1)).getD 0 0)) ?_ ⟨fun hq => ?_, fun hq => ?_⟩))
    · walk_at "es"
      rw [List.length_map, dec_0]
      refine ⟨fun h1 => ?_, fun h1 => ?_⟩
      · rw [h1]; exact ⟨rfl, rfl⟩
      · rw [h1]
        have t0 := of_decide_eq_false h1
        have mem := way_last way (k := parts.length - 1) (by omega)
        have lp : 0 < (LF ws parts ms (parts.length - 1)).length := List.length_pos_of_mem mem
        walk_at "es"
        refine opd_ixL (last_M 0 (by omega)) ?_
        walk_at "es"
        refine opd_ixL (last_M [] (by omega)) ?_
        rw [ll, LL_get (by omega)]
        unfold intsD
        walk_at "es"
        refine opd_ixL (at_0 lp) ?_
        walk_at "es"
        exact ⟨rfl, rfl⟩
    · rw [if_pos hq] at z
      walk_at "es"
      exact z
    · rw [if_neg (by rw [hq]; exact Bool.false_ne_true)] at z
      walk_at "es"
      exact z
/-! ### all ways -/
def R_ways (n : Nat) : List D → (D → Prop) → Prop := fun ds Z => ∃ (ws : Pt) (parts : List Pt) (ms row : List Int), ds = [.list (ws.map encP), .list (parts.map partD), .list (ms.map .int), .list (row.map .int), .int (endF parts (fnL row) row.length)] ∧ Sc ws parts ms ∧ row.length ≤ parts.length ∧ parts.length - row.length < n ∧ Z (.list ((allW ws parts ms (parts.length - row.length) row).map intsD))
theorem no_l_ways : ∀ ds Z, ¬ R_ways 0 ds Z := fun ds Z h => by
  obtain ⟨ws, parts, ms, row, _, _, _, h, _⟩ := h
  omega
theorem end_snoc (parts : List Pt) (row : List Int) (t : Int) : endF parts (fnL (row ++ [t])) (row ++ [t]).length = t + ((parts.getD row.length []).length : Int) := by
  rw [List.length_append, List.length_singleton]
  show fnL (row ++ [t]) row.length + lenF parts row.length = _
  unfold fnL
  rw [getD_app2]
  rfl
theorem sx_l_ways (K : PySem.W.Frag) (n : Nat) (ds : List D) (Z : D → Prop) (h : R_ways (n + 1) ds Z) : SX (T_l_ways K R_lfits (R_ways n)) (startE N_l_ways ds) { nx := fun _ => Z .none, rt := fun d _ => Z d } := by
  obtain ⟨ws, parts, ms, row, rfl, sc, rl, hn, z⟩ := h
  have es := end_snoc parts row
  obtain ⟨en, hen⟩ : ∃ en, en = endF parts (fnL row) row.length := ⟨_, rfl⟩
  rw [← hen]
  show SX (T_l_ways K R_lfits (R_ways n)) [.val (.list (ws.map encP)), .val (.list (parts.map partD)), .val (.list (ms.map .int)), .val (.list (row.map .int)), .val (.int en), .emp, .emp, .emp] _
  have w10 := sc.w10
  have p3 := sc.p3
  have ml := sc.ml
  unfold T_l_ways
  walk_at "es"
  rw [List.length_map, List.length_map]
  by_cases q : row.length = parts.length
  · rw [show parts.length - row.length = 0 by omega] at z
    walk_at "yes"
    walk_at "es"
    exact z
  walk_at "no"
  walk_at "es"
  refine sx_asgO (eo_lst ?_)
  walk_at "es"
  rw [List.length_map]
  refine opd_part (by omega) ?_
  refine nx_seq ?_
  walk_at "w"
  have pl : (parts.getD row.length []).length ≤ 10 := by
    have := sc.l3 _ (mem_D (a := []) (show row.length < parts.length by omega))
    omega
  have mb := sc.m0 _ (mem_D (a := 0) (show row.length < ms.length by omega))
  refine sx_seq (sx_for (J := [7]) (ei_rng1 ?_))
  walk_at "es"
  rw [List.length_map]
  refine opd_int (by omega) ?_
  walk_at "es"
  refine ⟨by omega, ?_⟩
  obtain ⟨r, er⟩ : ∃ r, parts.length - row.length = r + 1 := ⟨parts.length - row.length - 1, by omega⟩
  rw [er] at z
  let F := fun w => if fitB ws (parts.getD row.length []) (en + w) = true then allW ws parts ms r (row ++ [en + w]) else []
  have m10 : ∀ x ∈ ms, x ≤ ((10 : Nat) : Int) := fun x hx => (sc.m0 x hx).2
  have h6 : 11 ^ r ≤ 11 ^ 3 := Nat.pow_le_pow_right (by decide) (by omega)
  have e6 : 11 ^ 3 = 1331 := by decide
  have fl : ∀ t, (F t).length ≤ 1331 := fun t => by
    show (if fitB ws (parts.getD row.length []) (en + t) = true then allW ws parts ms r (row ++ [en + t]) else []).length ≤ 1331
    split
    · have := all_len (ws := ws) (parts := parts) m10 r (row ++ [en + t])
      have e : (10 + 1) ^ r = 11 ^ r := rfl
      omega
    · simp
  have flat_le : ∀ l : List Int, (l.flatMap F).length ≤ 1331 * l.length := by
    intro l
    induction l with
    | nil => simp
    | cons t l ih =>
      rw [List.flatMap_cons, List.length_append, List.length_cons]
      have := fl t
      omega
  have ez : allW ws parts ms (r + 1) row = (rngI 0 (ms.getD row.length 0 + 1).toNat).flatMap F := by
    show (rngI 0 (ms.getD row.length 0 + 1).toNat).flatMap _ = _
    rw [← hen]
  rw [ez] at z
  refine ⟨fun j ρ' => ρ' = [.val (.list (ws.map encP)), .val (.list (parts.map partD)), .val (.list (ms.map .int)), .val (.list (row.map .int)), .val (.int en), .own ((((rngI 0 (ms.getD row.length 0 + 1).toNat).take j).flatMap F).map intsD), .val (.list ((parts.getD row.length []).map encP)), .emp], rfl, ?_, ?_⟩
  · rintro j dd ρ' hd0 rfl
    obtain ⟨hj, rfl⟩ := rng_at hd0
    rw [Int.zero_add]
    refine sg_name (by simp) ?_
    walk_at "w"
    have f1 := flat_le ((rngI 0 (ms.getD row.length 0 + 1).toNat).take j)
    rw [List.length_take, rngI_len] at f1
    have f2 := fl (j : Int)
    have fs : ((rngI 0 (ms.getD row.length 0 + 1).toNat).take (j + 1)).flatMap F = ((rngI 0 (ms.getD row.length 0 + 1).toNat).take j).flatMap F ++ F (j : Int) := by rw [take_snoc' (rngI_get hj), flat_snoc', Int.zero_add]
    rw [fs]
    have fe : F (j : Int) = if fitB ws (parts.getD row.length []) (en + (j : Int)) = true then allW ws parts ms r (row ++ [en + (j : Int)]) else [] := rfl
    generalize ((rngI 0 (ms.getD row.length 0 + 1).toNat).take j).flatMap F = acc at f1 ⊢
    refine sx_if (et_val (fitB ws (parts.getD row.length []) (en + (j : Int))) ?_ ⟨fun hs => ?_, fun hs => ?_⟩)
    · walk_at "es"
      refine ⟨ws, parts.getD row.length [], en + (j : Int), rfl, w10, pl, ?_⟩
      walk_at "es"
      exact ⟨rfl, rfl⟩
    · rw [if_pos hs] at fe
      refine sx_ext rfl (ex_call ?_)
      walk_at "es"
      refine opd_plusL (by simp only [List.length_map, List.length_cons, List.length_nil]; omega) ?_
      have e1 : row.map PyData.int ++ [.int (en + (j : Int))] = (row ++ [en + (j : Int)]).map .int := by rw [List.map_append]; rfl
      rw [e1]
      walk_at "es"
      rw [List.length_map]
      refine ⟨ws, parts, ms, row ++ [en + (j : Int)], by rw [es], sc, by simp; omega, by simp; omega, ?_⟩
      rw [show parts.length - (row ++ [en + (j : Int)]).length = r by simp; omega, ← fe]
      refine ⟨_, _, rfl, rfl, ?_, ?_⟩
      · rw [List.length_map, List.length_map]
        omega
      · rw [List.map_append]
        refine ⟨_, ?_, rfl⟩
        walk_at "le"
    · rw [if_neg (by rw [hs]; exact Bool.false_ne_true)] at fe
      rw [fe, List.append_nil]
      walk_at "es"
      refine ⟨_, ?_, rfl⟩
      walk_at "le"
  · rintro ρ' rfl
    rw [rng_size]
    refine nx_seq (sx_freeze 5 rfl ?_)
    walk_at "w"
    walk_at "es"
    have e : (rngI 0 (ms.getD row.length 0 + 1).toNat).take (ms.getD row.length 0 + 1).toNat = rngI 0 (ms.getD row.length 0 + 1).toNat := List.take_of_length_le (by rw [rngI_len]; exact Nat.le_refl _)
    refine (congrArg (fun l => Z (.list (List.map intsD (List.flatMap F l)))) e).mpr ?_
    exact z
/-! ### the law's lots -/
def R_lots : List D → (D → Prop) → Prop := fun ds Z => ∃ (ws : Pt) (parts : List Pt) (ms : List Int), ds = [.list (ws.map encP), .list (parts.map partD), .list (ms.map .int)] ∧ Sc ws parts ms ∧ Z (.list ((LL ws parts ms parts.length).map intsD))
theorem sc_take {ws : Pt} {parts : List Pt} {ms : List Int} (s : Sc ws parts ms) (k : Nat) : Sc ws (parts.take k) (ms.take k) := by
  refine ⟨s.w10, by rw [List.length_take]; have := s.p3; omega, fun p hp => s.l3 p (List.mem_of_mem_take hp), by rw [List.length_take, List.length_take, s.ml], fun m hm => s.m0 m (List.mem_of_mem_take hm)⟩
theorem sx_l_lots (K : PySem.W.Frag) (ds : List D) (Z : D → Prop) (h : R_lots ds Z) : SX (T_l_lots K (R_ways 5)) (startE N_l_lots ds) { nx := fun _ => Z .none, rt := fun d _ => Z d } := by
  obtain ⟨ws, parts, ms, rfl, sc, z⟩ := h
  show SX (T_l_lots K (R_ways 5)) [.val (.list (ws.map encP)), .val (.list (parts.map partD)), .val (.list (ms.map .int)), .emp, .emp, .emp] _
  have w10 := sc.w10
  have p3 := sc.p3
  have ml := sc.ml
  unfold T_l_lots
  refine sx_seq (sx_asgO (eo_lst (ea_nil ⟨by simp, ?_⟩)))
  refine nx_seq ?_
  walk_at "w"
  refine sx_seq (sx_for (J := [4]) (ei_rng1 ?_))
  walk_at "es"
  rw [List.length_map, Int.toNat_natCast]
  refine ⟨by omega, fun k ρ' => ρ' = [.val (.list (ws.map encP)), .val (.list (parts.map partD)), .val (.list (ms.map .int)), .own ((LL ws parts ms k).map intsD), .emp, .emp], rfl, ?_, ?_⟩
  · rintro k dd ρ' hd0 rfl
    obtain ⟨kl, rfl⟩ := rng_at hd0
    rw [Int.zero_add]
    have ll := LL_len ws parts ms k
    refine sg_name (by simp) ?_
    walk_at "w"
    refine sx_app rfl (ex_of (eo_sortSetB (ex_of (eo_lcP (α := List Int) (fun _ => true) (fun r => .int (r.getD k 0)) (ei_list ?_)))))
    walk_at "es"
    rw [show (k : Int) + 1 = ((k + 1 : Nat) : Int) by omega, cut_n]
    walk_at "es"
    rw [cut_n]
    walk_at "es"
    have tl : (parts.take (k + 1)).length = k + 1 := by rw [List.length_take]; omega
    refine ⟨ws, parts.take (k + 1), ms.take (k + 1), [], rfl, sc_take sc (k + 1), by simp, by rw [tl]; simp; omega, ?_⟩
    rw [tl, show k + 1 - ([] : List Int).length = k + 1 by simp]
    have al := all_len (ws := ws) (parts := parts.take (k + 1)) (ms := ms.take (k + 1)) (m := 10) (fun x hx => (sc.m0 x (List.mem_of_mem_take hx)).2) (k + 1) []
    have h6 : (10 + 1) ^ (k + 1) ≤ 11 ^ 3 := Nat.pow_le_pow_right (by decide) (by omega)
    have e6 : 11 ^ 3 = 1331 := by decide
    have mem := lots_mem (ws := ws) (ms := ms) kl
    have lens : ∀ x ∈ allW ws (parts.take (k + 1)) (ms.take (k + 1)) (k + 1) [], x.length = k + 1 := fun x hx => by
      have ma := @mem_all ws (parts.take (k + 1)) (ms.take (k + 1)) x
      rw [tl] at ma
      have := (ma.mp hx).1
      rwa [tl] at this
    generalize allW ws (parts.take (k + 1)) (ms.take (k + 1)) (k + 1) [] = ways at al mem lens ⊢
    walk_at "es"
    refine ⟨by omega, fun i hi => by simp at hi; subst hi; rfl, fun x hx => sg_name (by simp) ⟨rfl, ?_⟩, ?_⟩
    · have xl := lens x hx
      walk_at "w"
      refine et_yes ⟨rfl, rfl, fun _ => ?_⟩
      unfold intsD
      walk_at "es"
      refine opd_int (by omega) ?_
      exact ⟨rfl, rfl⟩
    have er : ((ways.filter fun _ => true).map fun r => PyData.int (r.getD k 0)) = (ways.map fun r => r.getD k 0).map .int := by rw [filt_all, List.map_map]; rfl
    rw [er]
    refine ⟨_, rfl, ⟨by rw [List.length_map]; omega, .inr ⟨0, fun x hx => ?_⟩⟩, fun us hs hm hle => ?_⟩
    · have := LF_in ((mem x).mp hx)
      omega
    have eu : us = LF ws parts ms k := ris_eq hs (LF_ris ws parts ms k) fun x => (hm x).trans (mem x)
    subst eu
    refine ⟨_, rfl, by rw [List.length_map]; omega, ?_⟩
    rw [LL_snoc, List.map_append]
    refine ⟨_, ?_, rfl⟩
    walk_at "le"
  rintro ρ' rfl
  rw [rng_size]
  refine nx_seq (sx_freeze 3 rfl ?_)
  walk_at "w"
  walk_at "es"
  exact z
end Law_k89
namespace Law_k89
open PySem L2 Pu
local macro_rules | `(tactic| walk_at "e") => `(tactic| first
  | ((with_reducible refine nx_seq ?_); (try dsimp only [List.set_cons_succ, List.set_cons_zero]))
  | ((with_reducible refine ex_vr ?_); dsimp only [VQ, List.set_cons_succ, List.set_cons_zero, List.getElem?_cons_zero, List.getElem?_cons_succ]; (fail_if_success (with_reducible show False)))
  | (with_reducible refine sx_seq ?_)
  | (with_reducible refine sx_if ?_)
  | (with_reducible refine sx_next ?_)
  | (with_reducible refine sx_ret ?_)
  | ((fail_if_success (with_reducible refine sx_asgO (eo_lst ?_))); (with_reducible refine sx_asg ?_))
  | (with_reducible refine ex_int ?_)
  | (with_reducible refine ex_str ?_)
  | (with_reducible refine ex_bl ?_)
  | (with_reducible refine ex_non ?_)
  | (with_reducible refine ex_op ?_)
  | (with_reducible refine ex_un ?_)
  | (with_reducible refine ex_chain ?_)
  | (with_reducible refine ex_call ?_)
  | (with_reducible refine ex_isT ?_)
  | (with_reducible refine ex_cb ?_)
  | (with_reducible refine ex_sl ?_)
  | (with_reducible refine ex_tup ?_)
  | (with_reducible refine ex_if ?_)
  | (with_reducible refine ex_of (eo_lst ?_))
  | (with_reducible refine ex_notV ?_)
  | (with_reducible refine ea_nil ?_)
  | (with_reducible refine ea_cons ?_)
  | (with_reducible refine ep_no ?_)
  | (with_reducible refine ep_some ?_)
  | (with_reducible refine et_test ?_)
  | (with_reducible refine et_B ?_)
  | (with_reducible refine et_ch3 ?_)
  | (with_reducible refine et_and ?_)
  | (with_reducible refine et_or ?_)
  | (with_reducible refine et_not ?_)
  | (with_reducible refine et_yes ?_)
  | (with_reducible refine et_truL ?_)
  | (with_reducible refine opd_plusI ?_)
  | (with_reducible refine opd_I0 ?_)
  | (with_reducible refine opd_B0 ?_)
  | (with_reducible refine opd_eqI ?_)
  | (with_reducible refine opd_neI ?_)
  | (with_reducible refine opd_eqS ?_)
  | (with_reducible refine opd_neS ?_)
  | (with_reducible refine opd_is ?_)
  | (with_reducible refine opd_isnt ?_)
  | (with_reducible refine opd_ixT rfl ?_)
  | (with_reducible refine opd_ixL rfl ?_)
  | (with_reducible refine und_neg ?_)
  | (with_reducible refine cbd_lenL ?_)
  | (with_reducible refine cbd_lenT ?_)
  | (with_reducible refine cbd_min2 ?_)
  | (with_reducible refine cbd_max2 ?_)
  | (with_reducible refine cbd_abs ?_)
  | (with_reducible refine cbd_int ?_)
  | (with_reducible refine cbd_tupL ?_)
  | (with_reducible refine cbd_listL ?_)
  | (with_reducible refine cbd_listT ?_)
  | (with_reducible refine cbd_sum ?_)
  | (with_reducible refine sld_T ?_)
  | (with_reducible refine sld_L ?_)
  | (with_reducible refine ex_revL ?_)
  | (with_reducible refine ex_bmL ?_)
  | (with_reducible refine ex_andV ?_)
  | (with_reducible refine ei_list ?_)
  | (with_reducible refine ei_rng1 ?_)
  | (with_reducible refine ei_rng2 ?_)
  | (with_reducible refine ei_enum ?_)
  | (with_reducible refine ei_enumT ?_)
  | (with_reducible refine ei_zip ?_)
  | (with_reducible refine sx_par ?_)
  | (with_reducible refine Exists.intro _ (And.intro rfl ?_))
  | (with_reducible refine Exists.intro _ (Exists.intro _ (And.intro rfl ?_)))
  | ((with_reducible show EX (tCall (spS _) [] _ (tCons (tVar _) _)) _ _); refine ex_callS rfl ?_)
  | ((with_reducible refine And.intro (show (_ : Nat) ≤ 100000 from ?_) ?_); (focus (simp; done)))
  | ((with_reducible refine opd_I ?_ ?_); focus (first | omega | (show CDiv _ _; exact ⟨by omega, by omega⟩) | (show CMul _ _; first | exact Or.inl ⟨by omega, by omega⟩ | exact Or.inr ⟨by omega, by omega⟩))))
local macro_rules | `(tactic| walk_at "es") => `(tactic| repeat walk_at "e")
local macro_rules | `(tactic| walk_at "w") => `(tactic| try dsimp only [wipeE, List.foldl_cons, List.foldl_nil, List.set_cons_succ, List.set_cons_zero])
local macro_rules | `(tactic| walk_at "le") => `(tactic| repeat' first | exact LeE.nil | (refine LeE.eq rfl ?_) | (refine LeE.emp ?_) | (refine LeE.eq ?_ ?_))
local macro_rules | `(tactic| walk_at "no") => `(tactic| ((refine And.intro (fun hb => absurd hb ?_) (fun _ => ?_)); (focus (first | (exact Bool.false_ne_true) | (simp; done) | (simp; omega) | (simp only [decide_eq_true_eq]; omega)))))
local macro_rules | `(tactic| walk_at "yes") => `(tactic| ((refine And.intro (fun _ => ?_) (fun hb => absurd hb ?_)); (rotate_left); (focus (first | (exact Bool.noConfusion) | (simp; done) | (simp; omega) | (simp only [decide_eq_false_iff_not]; omega)))))
local macro_rules | `(tactic| walk_at "ei") => `(tactic| repeat ((fail_if_success (with_reducible show SX (tSeq (tIfS _ _ _) _) _ _)); (fail_if_success (with_reducible show SX (tIfS _ _ _) _ _)); (fail_if_success (with_reducible show SX (tSeq (tAsg (tIf _ _ _) _) _) _ _)); walk_at "e"))
local macro_rules | `(tactic| walk_at "tv") => `(tactic| repeat' first | walk_at "e" | ((with_reducible show (_ = true → _) ∧ (_ = false → _)); refine And.intro (fun _ => ?_) (fun _ => ?_)))
section
variable {ρ : Pu.Env} {P : Po} {K : PySem.W.Frag}
/-- a, b = [], [] -/
theorem sx_twoL {i j : Nat} (h : NX P ((ρ.set i (.own [])).set j (.own []))) : SX (tAsg (tTup (tCons (tLst tNil) (tCons (tLst tNil) tNil))) (gTup K 2 (gCons (gName i) (gCons (gName j) gNil)))) ρ P := fun B σ F H w Dn n r b c => by
  obtain ⟨ad, w⟩ := w
  obtain ⟨ρ2, l, q⟩ := h
  refine ⟨show (0 : Nat) ≤ sizeLine by decide, fun l1 h1 => ⟨show (0 : Nat) ≤ sizeLine by decide, fun l2 h2 => ⟨show (2 : Nat) ≤ sizeLine by decide, fun p3 h3 => ?_⟩⟩⟩
  have n1 := w.newp h1
  have w1 := (w.grow (Gr.heap w.gr.fh (same_upd (o := .lst []) h1))).setOwn2 i (ds := []) n1.1 n1.2.1 n1.2.2 upd_same .nil
  have n2 := w1.newp h2
  have w2 := (w1.grow (Gr.heap w1.gr.fh (same_upd (o := .lst []) h2))).setOwn2 j (ds := []) n2.1 n2.2.1 n2.2.2 upd_same .nil
  have w3 := w2.grow (Gr.heap w2.gr.fh (same_upd (o := .tup [.ref l1, .ref l2]) h3))
  exact ⟨p3, [.ref l1, .ref l2], rfl, .inl (.inl upd_same), rfl, _, _, rfl, _, _, rfl, rfl, n ρ2 _ F _ q (W.weak ⟨_, w3⟩ l)⟩
end
/-! ### a show cut into parts -/
def offN (parts : List Pt) (k : Nat) : Nat := ((parts.take k).map List.length).sum
theorem flat_len (parts : List Pt) : parts.flatten.length = (parts.map List.length).sum := by rw [List.length_flatten]
theorem off_succ {parts : List Pt} {k : Nat} (h : k < parts.length) : offN parts (k + 1) = offN parts k + (parts.getD k []).length := by
  unfold offN
  rw [take_snoc' (get_D (a := []) h), List.map_append, List.sum_append]
  simp
theorem off_all (parts : List Pt) : offN parts parts.length = parts.flatten.length := by
  unfold offN
  rw [List.take_length, flat_len]
theorem flat_cut : ∀ {parts : List Pt} {k : Nat}, k < parts.length → (parts.flatten.drop (offN parts k)).take (parts.getD k []).length = parts.getD k [] ∧ offN parts k + (parts.getD k []).length ≤ parts.flatten.length
  | p :: ps, 0, _ => by
    show ((p ++ ps.flatten).drop 0).take p.length = p ∧ 0 + p.length ≤ (p ++ ps.flatten).length
    rw [List.drop_zero, List.take_left]
    exact ⟨rfl, by rw [List.length_append]; omega⟩
  | p :: ps, k + 1, h => by
    have ih := flat_cut (parts := ps) (k := k) (by simpa using h)
    have e : offN (p :: ps) (k + 1) = p.length + offN ps k := by
      unfold offN
      rw [List.take_succ_cons, List.map_cons, List.sum_cons]
    show ((p ++ ps.flatten).drop _).take (ps.getD k []).length = ps.getD k [] ∧ _ + (ps.getD k []).length ≤ (p ++ ps.flatten).length
    rw [e, ← List.drop_drop, List.drop_left]
    refine ⟨ih.1, ?_⟩
    rw [List.length_append]
    have := ih.2
    omega
theorem cut_mid {α : Type} (g : α → D) (xs : List α) {f j : Nat} (h : f + j ≤ xs.length) : cutD (xs.map g) (some (f : Int)) (some ((f + j : Nat) : Int)) = ((xs.drop f).take j).map g := by
  unfold cutD
  rw [List.length_map]
  simp only [HT.sIx]
  rw [if_neg (by omega), if_neg (by omega), Int.toNat_natCast, Int.toNat_natCast, Nat.min_eq_left h, show min f xs.length = f by omega, show f + j - f = j by omega, List.map_take, List.map_drop]
def cutsF (parts : List Pt) : List Int := (List.range (parts.length - 1)).map fun k => (offN parts (k + 1) : Int)
theorem ends_enc {parts : List Pt} (h : 1 ≤ parts.length) : [PyData.int 0] ++ (cutsF parts).map .int ++ [.int (parts.flatten.length : Int)] = ((List.range (parts.length + 1)).map fun k => (offN parts k : Int)).map .int := by
  obtain ⟨M, hM⟩ : ∃ M, parts.length = M + 1 := ⟨parts.length - 1, by omega⟩
  have e := off_all parts
  unfold cutsF
  rw [← e, hM, Nat.add_sub_cancel, List.range_succ (n := M + 1), List.range_succ_eq_map (n := M), List.map_append, List.map_append, List.map_cons, List.map_map]
  show [PyData.int 0] ++ _ ++ _ = (PyData.int ((offN parts 0 : Nat) : Int) :: _) ++ _
  have e0 : offN parts 0 = 0 := rfl
  rw [e0, List.map_map, List.map_map]
  rfl
def R_parts_of : List D → (D → Prop) → Prop := fun ds Z => ∃ parts : List Pt, ds = [.list (parts.flatten.map encP), .list ((cutsF parts).map .int)] ∧ (1 ≤ parts.length ∧ parts.length ≤ 3) ∧ Z (.list (parts.map partD))
theorem parts_enc (parts : List Pt) : (((rngI 0 parts.length).filter fun _ => true).map fun k => partD (parts.getD k.toNat [])) = parts.map partD := by
  rw [filt_all]
  unfold rngI
  rw [List.map_map]
  apply List.ext_getElem?
  intro k
  by_cases hk : k < parts.length
  · rw [List.getElem?_map, List.getElem?_map, List.getElem?_range hk, get_D (a := []) hk]
    show some (partD (parts.getD ((0 : Int) + (k : Int)).toNat [])) = some (partD (parts.getD k []))
    rw [Int.zero_add, Int.toNat_natCast]
  · rw [List.getElem?_eq_none (by simp; omega), List.getElem?_eq_none (by simp; omega)]
theorem sx_parts_of (K : PySem.W.Frag) (ds : List D) (Z : D → Prop) (h : R_parts_of ds Z) : SX (T_parts_of K) (startE N_parts_of ds) { nx := fun _ => Z .none, rt := fun d _ => Z d } := by
  obtain ⟨parts, rfl, ⟨n1, n3⟩, z⟩ := h
  show SX (T_parts_of K) [.val (.list (parts.flatten.map encP)), .val (.list ((cutsF parts).map .int)), .emp, .emp] _
  have cl : (cutsF parts).length = parts.length - 1 := by unfold cutsF; simp
  unfold T_parts_of
  walk_at "es"
  refine opd_plusL (by simp only [List.length_map, List.length_cons, List.length_nil]; omega) ?_
  walk_at "es"
  rw [List.length_map]
  refine opd_plusL (by simp only [List.length_map, List.length_cons, List.length_nil, List.length_append]; omega) ?_
  rw [ends_enc n1]
  have el : ((List.range (parts.length + 1)).map fun k => (offN parts k : Int)).length = parts.length + 1 := by simp
  have eg : ∀ k, k < parts.length + 1 → ((List.range (parts.length + 1)).map fun k => (offN parts k : Int)).getD k 0 = (offN parts k : Int) := fun k hk => by
    rw [List.getD_eq_getElem?_getD, List.getElem?_map, List.getElem?_range hk]; rfl
  generalize ((List.range (parts.length + 1)).map fun k => (offN parts k : Int)) = ends at el eg ⊢
  refine nx_seq ?_
  walk_at "w"
  refine sx_ret (ex_of (eo_lcP (α := Int) (fun _ => true) (fun k => partD (parts.getD k.toNat [])) (ei_rng1 ?_)))
  walk_at "es"
  rw [List.length_map, el, show (((parts.length + 1 : Nat) : Int) - 1).toNat = parts.length by omega]
  refine ⟨by omega, rngI 0 parts.length, PyData.int, rfl, by rw [rngI_len]; omega, fun i hi => by simp at hi; subst hi; rfl, fun x hx => sg_name (by simp) ⟨rfl, ?_⟩, ?_⟩
  · have hx := rngI_mem.mp hx
    obtain ⟨k, rfl⟩ : ∃ k : Nat, x = (k : Int) := ⟨x.toNat, by omega⟩
    have fc := flat_cut (parts := parts) (k := k) (by omega)
    walk_at "w"
    refine et_yes ⟨rfl, rfl, fun _ => ?_⟩
    walk_at "es"
    refine opd_int (by omega) ?_
    rw [eg k (by omega)]
    walk_at "es"
    rw [show (k : Int) + 1 = ((k + 1 : Nat) : Int) by omega]
    refine opd_int (by omega) ?_
    rw [eg (k + 1) (by omega), off_succ (by omega)]
    walk_at "es"
    rw [cut_mid encP parts.flatten fc.2, fc.1, Int.toNat_natCast]
    exact ⟨rfl, rfl⟩
  rw [parts_enc]
  exact z
/-! ### facts for the law -/
theorem at_hd (k : Int) (t : List Int) : atI ((k :: t).map PyData.int) 0 = some (.int k) := by
  rw [atI_map 0 (by omega) (by simp)]; rfl
theorem filt_rng (p : Nat → Bool) (n : Nat) : (rngI 0 n).filter (fun k => p k.toNat) = ((List.range n).filter p).map fun k : Nat => (k : Int) := by
  unfold rngI
  rw [List.filter_map]
  have e : ((fun k : Int => p k.toNat) ∘ fun k : Nat => (0 : Int) + (k : Int)) = p := by
    funext k
    simp only [Function.comp, Int.zero_add, Int.toNat_natCast]
  rw [e]
  refine List.map_congr_left fun k _ => ?_
  omega
theorem fl_none {p : Nat → Bool} {n : Nat} (h : (List.range n).find? p = none) : (rngI 0 n).filter (fun k => p k.toNat) = [] := by
  rw [filt_rng, List.map_eq_nil_iff, List.filter_eq_nil_iff]
  intro k hk
  rw [find_none.mp h k (List.mem_range.mp hk)]
  exact Bool.false_ne_true
theorem fl_some {p : Nat → Bool} {n k : Nat} (h : (List.range n).find? p = some k) : ∃ t, (rngI 0 n).filter (fun k => p k.toNat) = (k : Int) :: t := by
  rw [filt_rng]
  rw [← List.head?_filter] at h
  cases e : (List.range n).filter p with
  | nil => rw [e] at h; cases h
  | cons a t =>
    rw [e] at h
    cases h
    exact ⟨_, rfl⟩
def Due (ws : Pt) (parts : List Pt) (ms : List Int) (t : Told) : Prop := (∃ ts, HoldOk ws parts ms ts ∧ t = .start ts) ∨ ∃ a : Nat, a < parts.length ∧ LF ws parts ms a = [] ∧ (∀ j, j < a → LF ws parts ms j ≠ []) ∧ t = .never (a : Int) (LL ws parts ms (a + 1))
theorem hold_due {ws : Pt} {parts : List Pt} {ms : List Int} {Z : D → Prop} (s : Sc ws parts ms) (h : ∀ t, Due ws parts ms t → Z (encT t)) : R_hold [.list (ws.map encP), .list (parts.map partD), .list (ms.map .int)] Z :=
  ⟨ws, parts, ms, rfl, s, fun ts ho => h _ (.inl ⟨ts, ho, rfl⟩), fun a h1 h2 h3 => h _ (.inr ⟨a, h1, h2, h3, rfl⟩)⟩
theorem due_ok {ws : Pt} {parts : List Pt} {ms : List Int} {t : Told} (s : Sc ws parts ms) (h : Due ws parts ms t) : TOk t := by
  have p3 := s.p3
  rcases h with ⟨ts, ho, rfl⟩ | ⟨a, h1, _, _, rfl⟩
  · show ts.length ≤ 5
    rw [ho.way.1]; omega
  · show (LL ws parts ms (a + 1)).length ≤ 5
    rw [LL_len]; omega
theorem start_fault {ws : Pt} {parts : List Pt} {ms ts : List Int} (h : Way ws parts ms ts) : faultF ws parts ms (.start ts) = if (decide (ts.length = 0) || decide (ts.getD (ts.length - 1) 0 = (LF ws parts ms (parts.length - 1)).getD 0 0)) = true then .none else one1 "least" := by
  show (if _ then _ else _) = _
  rw [if_pos h.1, Pu.find_no fun k hk => way_pass h hk]
theorem due_fault {ws : Pt} {parts : List Pt} {ms : List Int} {t : Told} (s : Sc ws parts ms) (h : Due ws parts ms t) : faultF ws parts ms t = .none := by
  rcases h with ⟨ts, ho, rfl⟩ | ⟨a, h1, h2, h3, rfl⟩
  · rw [start_fault ho.way, if_pos]
    rw [Bool.or_eq_true, decide_eq_true_eq, decide_eq_true_eq]
    have l := ho.way.1
    by_cases q : parts.length = 0
    · left; omega
    · right
      rw [l]
      exact ho.last (by omega)
  · have ll := LL_len ws parts ms (a + 1)
    show (if _ then _ else _) = _
    rw [if_pos (by rw [Bool.and_eq_true, decide_eq_true_eq, ll]; exact ⟨in_iff.mpr (by omega), by omega⟩), Pu.find_no fun k hk => by
      unfold lotBad
      rw [ll] at hk
      rw [LL_get hk, if_pos rfl]]
    show (if _ then _ else _) = _
    rw [if_pos]
    unfold begB
    rw [ll, Nat.add_sub_cancel, LL_get (by omega), h2, LL_take (by omega)]
    show (true && !((LL ws parts ms a).any List.isEmpty)) = true
    rw [Bool.true_and, Bool.not_eq_true', List.any_eq_false]
    intro row hr
    obtain ⟨j, hj, rfl⟩ := List.mem_map.mp hr
    have := h3 j (List.mem_range.mp hj)
    simpa using this
theorem due_ways {ws : Pt} {parts : List Pt} {ms : List Int} {t : Told} (h : Due ws parts ms t) : decide (0 < (allW ws parts ms parts.length []).length) = match t with | .start _ => true | .never _ _ => false := by
  rcases h with ⟨ts, ho, rfl⟩ | ⟨a, h1, h2, h3, rfl⟩
  · exact decide_eq_true (ways_iff.mpr ho.full)
  · exact decide_eq_false fun z => ways_iff.mp z a h1 h2
theorem one_dp (s : String) : (one1 s).depth ≤ 60 := Nat.le_trans (dpn_tup (dpn_cons (dpn_str (n := 1)) dpn_nil)) (by decide)
theorem at_dp (s : String) (k : Nat) : (at1 s k).depth ≤ 60 := Nat.le_trans (dpn_tup (dpn_cons (dpn_str (n := 1)) (dpn_cons (dpn_int (n := 1)) dpn_nil))) (by decide)
theorem non_dp : (PyData.none).depth ≤ 60 := by simp [PyData.depth]
theorem fault_dp (ws : Pt) (parts : List Pt) (ms : List Int) (t : Told) : (faultF ws parts ms t).depth ≤ 60 := by
  cases t with
  | never a rest =>
    show (if _ then _ else _ : D).depth ≤ 60
    split
    · cases q : (List.range rest.length).findSome? (lotBad ws parts ms rest) with
      | some d =>
        obtain ⟨k, _, e⟩ := List.exists_of_findSome?_eq_some q
        unfold lotBad at e
        split at e
        · cases e
        · cases e; exact at_dp _ _
      | none => show (if _ then _ else _ : D).depth ≤ 60; split <;> first | exact non_dp | exact one_dp _
    · exact one_dp _
  | start ts =>
    show (if _ then _ else _ : D).depth ≤ 60
    split
    · cases q : (List.range parts.length).findSome? (tickBad ws parts ms ts) with
      | some d =>
        obtain ⟨k, _, e⟩ := List.exists_of_findSome?_eq_some q
        unfold tickBad at e
        split at e
        · split at e
          · cases e
          · cases e; exact at_dp _ _
        · cases e; exact at_dp _ _
      | none => show (if _ then _ else _ : D).depth ≤ 60; split <;> first | exact non_dp | exact one_dp _
    · exact one_dp _
def sceneD (ws : Pt) (parts : List Pt) (ms : List Int) : D := .tuple [.list (ws.map encP), .list (parts.map partD), .list (ms.map .int)]
def Bdd (p : Int × Int) : Prop := -100 ≤ p.1 ∧ p.1 ≤ 100 ∧ -100 ≤ p.2 ∧ p.2 ≤ 100
theorem sh_P {p : Int × Int} (h : Bdd p) : Sh (2 * (2000 + 2) + 4) (encP p) := by
  unfold Bdd at h
  exact sh_tup (n := 2000) (m := 2) (sh_cons (sh_int (by omega)) (sh_cons (sh_int (by omega)) sh_nil)) (by simp)
theorem sh_scene {ws : Pt} {parts : List Pt} {ms : List Int} (s : Sc ws parts ms) (hw : ∀ p ∈ ws, Bdd p) (hp : ∀ q ∈ parts, ∀ p ∈ q, Bdd p) : Sh (3 * (50000 + 2) + 4) (sceneD ws parts ms) := by
  refine sh_tup (n := 50000) (m := 3) (sh_cons ((sh_list (n := 4008) (m := 10) (sh_map fun p h => sh_P (hw p h)) (by rw [List.length_map]; exact s.w10)).up (by decide)) (sh_cons ((sh_list (n := 12034) (m := 3) (sh_map fun q h => sh_list (n := 4008) (m := 3) (sh_map fun p h2 => sh_P (hp q h p h2)) (by rw [List.length_map]; exact s.l3 q h)) (by rw [List.length_map]; exact s.p3)).up (by decide)) (sh_cons ((sh_list (n := 2000) (m := 3) (sh_map fun m h => sh_int (by have := s.m0 m h; omega)) (by rw [List.length_map, s.ml]; exact s.p3)).up (by decide)) sh_nil))) (by simp)
theorem encP_dp (p : Int × Int) : DpN 2 (encP p) := dpn_tup (dpn_cons (dpn_int (n := 1)) (dpn_cons (dpn_int (n := 1)) dpn_nil))
theorem partD_dp (p : Pt) : DpN 3 (partD p) := dpn_list (n := 2) (dpn_map fun x _ => encP_dp x)
theorem scene_dp (ws : Pt) (parts : List Pt) (ms : List Int) : (sceneD ws parts ms).depth ≤ 60 := by
  have h : DpN 5 (sceneD ws parts ms) := dpn_tup (dpn_cons (DpN.up (m := 4) (dpn_list (n := 2) (dpn_map fun x _ => encP_dp x)) (by decide)) (dpn_cons (dpn_list (n := 3) (dpn_map fun x _ => partD_dp x)) (dpn_cons (DpN.up (m := 4) (row_dp ms) (by decide)) dpn_nil)))
  exact Nat.le_trans h (by decide)
theorem parts_dp (parts : List Pt) : (PyData.list (parts.map partD)).depth ≤ 60 := Nat.le_trans (dpn_list (n := 3) (dpn_map fun x _ => partD_dp x)) (by decide)
def wordT : Told → String
  | .never _ _ => "never"
  | .start _ => "begin"
def tailT : Told → List D
  | .never a rest => [.int a, .list (rest.map intsD)]
  | .start ts => [.list (ts.map .int)]
theorem encT_wb (t : Told) : encT t = .tuple (.str (Str.ofString (wordT t)) :: tailT t) := by cases t <;> rfl
end Law_k89
namespace Law_k89
open PySem L2 Pu
local macro_rules | `(tactic| walk_at "e") => `(tactic| first
  | ((with_reducible refine nx_seq ?_); (try dsimp only [List.set_cons_succ, List.set_cons_zero]))
  | ((with_reducible refine ex_vr ?_); dsimp only [VQ, List.set_cons_succ, List.set_cons_zero, List.getElem?_cons_zero, List.getElem?_cons_succ]; (fail_if_success (with_reducible show False)))
  | (with_reducible refine sx_seq ?_)
  | (with_reducible refine sx_if ?_)
  | (with_reducible refine sx_next ?_)
  | (with_reducible refine sx_ret ?_)
  | ((fail_if_success (with_reducible refine sx_asgO (eo_lst ?_))); (with_reducible refine sx_asg ?_))
  | (with_reducible refine ex_int ?_)
  | (with_reducible refine ex_str ?_)
  | (with_reducible refine ex_bl ?_)
  | (with_reducible refine ex_non ?_)
  | (with_reducible refine ex_op ?_)
  | (with_reducible refine ex_un ?_)
  | (with_reducible refine ex_chain ?_)
  | (with_reducible refine ex_call ?_)
  | (with_reducible refine ex_isT ?_)
  | (with_reducible refine ex_cb ?_)
  | (with_reducible refine ex_sl ?_)
  | (with_reducible refine ex_tup ?_)
  | (with_reducible refine ex_if ?_)
  | (with_reducible refine ex_of (eo_lst ?_))
  | (with_reducible refine ex_notV ?_)
  | (with_reducible refine ea_nil ?_)
  | (with_reducible refine ea_cons ?_)
  | (with_reducible refine ep_no ?_)
  | (with_reducible refine ep_some ?_)
  | (with_reducible refine et_test ?_)
  | (with_reducible refine et_B ?_)
  | (with_reducible refine et_ch3 ?_)
  | (with_reducible refine et_and ?_)
  | (with_reducible refine et_or ?_)
  | (with_reducible refine et_not ?_)
  | (with_reducible refine et_yes ?_)
  | (with_reducible refine et_truL ?_)
  | (with_reducible refine opd_plusI ?_)
  | (with_reducible refine opd_I0 ?_)
  | (with_reducible refine opd_B0 ?_)
  | (with_reducible refine opd_eqI ?_)
  | (with_reducible refine opd_neI ?_)
  | (with_reducible refine opd_eqS ?_)
  | (with_reducible refine opd_neS ?_)
  | (with_reducible refine opd_is ?_)
  | (with_reducible refine opd_isnt ?_)
  | (with_reducible refine opd_ixT rfl ?_)
  | (with_reducible refine opd_ixL rfl ?_)
  | (with_reducible refine und_neg ?_)
  | (with_reducible refine cbd_lenL ?_)
  | (with_reducible refine cbd_lenT ?_)
  | (with_reducible refine cbd_min2 ?_)
  | (with_reducible refine cbd_max2 ?_)
  | (with_reducible refine cbd_abs ?_)
  | (with_reducible refine cbd_int ?_)
  | (with_reducible refine cbd_tupL ?_)
  | (with_reducible refine cbd_listL ?_)
  | (with_reducible refine cbd_listT ?_)
  | (with_reducible refine cbd_sum ?_)
  | (with_reducible refine sld_T ?_)
  | (with_reducible refine sld_L ?_)
  | (with_reducible refine ex_revL ?_)
  | (with_reducible refine ex_bmL ?_)
  | (with_reducible refine ex_andV ?_)
  | (with_reducible refine ei_list ?_)
  | (with_reducible refine ei_rng1 ?_)
  | (with_reducible refine ei_rng2 ?_)
  | (with_reducible refine ei_enum ?_)
  | (with_reducible refine ei_enumT ?_)
  | (with_reducible refine ei_zip ?_)
  | (with_reducible refine sx_par ?_)
  | (with_reducible refine Exists.intro _ (And.intro rfl ?_))
  | (with_reducible refine Exists.intro _ (Exists.intro _ (And.intro rfl ?_)))
  | ((with_reducible show EX (tCall (spS _) [] _ (tCons (tVar _) _)) _ _); refine ex_callS rfl ?_)
  | ((with_reducible refine And.intro (show (_ : Nat) ≤ 100000 from ?_) ?_); (focus (simp; done)))
  | ((with_reducible refine opd_I ?_ ?_); focus (first | omega | (show CDiv _ _; exact ⟨by omega, by omega⟩) | (show CMul _ _; first | exact Or.inl ⟨by omega, by omega⟩ | exact Or.inr ⟨by omega, by omega⟩))))
local macro_rules | `(tactic| walk_at "es") => `(tactic| repeat walk_at "e")
local macro_rules | `(tactic| walk_at "w") => `(tactic| try dsimp only [wipeE, List.foldl_cons, List.foldl_nil, List.set_cons_succ, List.set_cons_zero])
local macro_rules | `(tactic| walk_at "le") => `(tactic| repeat' first | exact LeE.nil | (refine LeE.eq rfl ?_) | (refine LeE.emp ?_) | (refine LeE.eq ?_ ?_))
local macro_rules | `(tactic| walk_at "no") => `(tactic| ((refine And.intro (fun hb => absurd hb ?_) (fun _ => ?_)); (focus (first | (exact Bool.false_ne_true) | (simp; done) | (simp; omega) | (simp only [decide_eq_true_eq]; omega)))))
local macro_rules | `(tactic| walk_at "yes") => `(tactic| ((refine And.intro (fun _ => ?_) (fun hb => absurd hb ?_)); (rotate_left); (focus (first | (exact Bool.noConfusion) | (simp; done) | (simp; omega) | (simp only [decide_eq_false_iff_not]; omega)))))
local macro_rules | `(tactic| walk_at "ei") => `(tactic| repeat ((fail_if_success (with_reducible show SX (tSeq (tIfS _ _ _) _) _ _)); (fail_if_success (with_reducible show SX (tIfS _ _ _) _ _)); (fail_if_success (with_reducible show SX (tSeq (tAsg (tIf _ _ _) _) _) _ _)); walk_at "e"))
local macro_rules | `(tactic| walk_at "tv") => `(tactic| repeat' first | walk_at "e" | ((with_reducible show (_ = true → _) ∧ (_ = false → _)); refine And.intro (fun _ => ?_) (fun _ => ?_)))
theorem cut1 {α : Type} (f : α → D) (xs : List α) : cutD (xs.map f) (some 1) none = (xs.drop 1).map f := cut_drop f xs 1
def LeastD (ws : Pt) (parts : List Pt) (d : D) : Prop := (∃ (m : Nat) (ts : List Int), (List.range (ws.length + 1)).find? (okM ws parts) = some m ∧ d = .tuple [.int (m : Int), .list (ts.map .int)]) ∨ ((List.range (ws.length + 1)).find? (okM ws parts) = none ∧ d = .none)
theorem least_due {ws : Pt} {parts : List Pt} {ms : List Int} {Z : D → Prop} (s : Sc ws parts ms) (h : ∀ d, LeastD ws parts d → Z d) : R_least [.list (ws.map encP), .list (parts.map partD)] Z :=
  ⟨ws, parts, ms, rfl, s, fun m ts e => h _ (.inl ⟨m, ts, e, rfl⟩), fun e => h _ (.inr ⟨e, rfl⟩)⟩
def R_law : List D → (D → Prop) → Prop := fun ds Z => ∃ ns : List Int, ds = [.list (ns.map .int)] ∧ Z (.bool true)
theorem sx_law (K : PySem.W.Frag) (ds : List D) (Z : D → Prop) (h : R_law ds Z) : SX (T_law K R_state R_hold (R_ways 5) R_lots R_least R_take R_l_fault R_fault R_waits R_parts_of R_pfits R_lfits) (startE N_law ds) { nx := fun _ => Z .none, rt := fun d _ => Z d } := by
  obtain ⟨ns, rfl, z⟩ := h
  show SX (T_law K R_state R_hold (R_ways 5) R_lots R_least R_take R_l_fault R_fault R_waits R_parts_of R_pfits R_lfits) [.val (.list (ns.map .int)), .emp, .emp, .emp, .emp, .emp, .emp, .emp, .emp, .emp, .emp, .emp, .emp, .emp, .emp, .emp, .emp, .emp, .emp, .emp, .emp, .emp, .emp, .emp, .emp, .emp] _
  unfold T_law
  refine sx_seq (sx_asgN (by decide) ?_)
  walk_at "es"
  refine ⟨ns, rfl, fun S0 ok0 => ?_⟩
  refine nx_seq ?_
  walk_at "w"
  refine sx_seq (sx_twoL ?_)
  refine nx_seq ?_
  walk_at "w"
  refine sx_seq (sx_for (J := [4]) (ei_rng1 ?_))
  walk_at "es"
  refine ⟨11, rfl, by omega, by omega, ok0, fun n S1 n0 n1 ok1 => ?_⟩
  walk_at "es"
  refine ⟨by omega, fun k ρ' => ∃ (ws : Pt) (S : Stt), ws.length = k ∧ (∀ p ∈ ws, Bdd p) ∧ Ok S ∧ ρ' = [.val (.list (ns.map .int)), .st S, .own (ws.map encP), .own [], .emp, .emp, .emp, .emp, .emp, .emp, .emp, .emp, .emp, .emp, .emp, .emp, .emp, .emp, .emp, .emp, .emp, .emp, .emp, .emp, .emp, .emp], ⟨[], S1, rfl, by simp, ok1, rfl⟩, ?_, ?_⟩
  · rintro k dd ρ' hd0 ⟨ws, S, hl, hg, ok, rfl⟩
    obtain ⟨hk, rfl⟩ := rng_at hd0
    refine sg_name (by simp) ?_
    walk_at "w"
    walk_at "es"
    refine ⟨6, rfl, by omega, by omega, ok, fun a S2 a0 a1 ok2 => ?_⟩
    walk_at "es"
    refine sx_app rfl ?_
    walk_at "es"
    refine ⟨4, rfl, by omega, by omega, ok2, fun b S3 b0 b1 ok3 => ?_⟩
    walk_at "es"
    refine ⟨by rw [List.length_map]; omega, ?_⟩
    refine ⟨_, ?_, ws ++ [(a - 3, a - 3 + b)], S3, by simp [hl], fun p hp => ?_, ok3, rfl⟩
    · rw [List.map_append]
      walk_at "le"
    · rcases List.mem_append.mp hp with hp | hp
      · exact hg p hp
      · rw [List.mem_singleton.mp hp]
        show -100 ≤ a - 3 ∧ a - 3 ≤ 100 ∧ -100 ≤ a - 3 + b ∧ a - 3 + b ≤ 100
        omega
  rintro ρ' ⟨ws, S1', hl, hgw, ok1', rfl⟩
  rw [rng_size] at hl
  refine nx_seq ?_
  refine sx_seq (sx_for (J := [4]) (ei_rng1 ?_))
  walk_at "es"
  refine ⟨4, rfl, by omega, by omega, ok1', fun n2 S2 n20 n21 ok2 => ?_⟩
  walk_at "es"
  refine ⟨by omega, fun k ρ' => ∃ (parts : List Pt) (S : Stt), parts.length = k ∧ (∀ q ∈ parts, q.length ≤ 3) ∧ (∀ q ∈ parts, ∀ p ∈ q, Bdd p) ∧ Ok S ∧ ρ' = [.val (.list (ns.map .int)), .st S, .own (ws.map encP), .own (parts.map partD), .emp, .emp, .emp, .emp, .emp, .emp, .emp, .emp, .emp, .emp, .emp, .emp, .emp, .emp, .emp, .emp, .emp, .emp, .emp, .emp, .emp, .emp], ⟨[], S2, rfl, by simp, by simp, ok2, rfl⟩, ?_, ?_⟩
  · rintro k dd ρ' hd0 ⟨parts, S, hl, hg1, hg2, ok, rfl⟩
    obtain ⟨hk, rfl⟩ := rng_at hd0
    rw [Int.zero_add]
    refine sg_name (by simp) ?_
    walk_at "w"
    refine sx_seq (sx_asgO (eo_lst (ea_nil ⟨by simp, ?_⟩)))
    refine nx_seq ?_
    walk_at "w"
    refine sx_seq (sx_for (J := [7]) (ei_rng1 ?_))
    walk_at "es"
    refine ⟨4, rfl, by omega, by omega, ok, fun n3 S3 n30 n31 ok3 => ?_⟩
    walk_at "es"
    refine ⟨by omega, fun j ρ' => ∃ (p : Pt) (S : Stt), p.length = j ∧ (∀ q ∈ p, Bdd q) ∧ Ok S ∧ ρ' = [.val (.list (ns.map .int)), .st S, .own (ws.map encP), .own (parts.map partD), .val (.int (k : Int)), .emp, .own (p.map encP), .emp, .emp, .emp, .emp, .emp, .emp, .emp, .emp, .emp, .emp, .emp, .emp, .emp, .emp, .emp, .emp, .emp, .emp, .emp], ⟨[], S3, rfl, by simp, ok3, rfl⟩, ?_, ?_⟩
    · rintro j dd ρ' hd1 ⟨p, S, hl, hg, ok, rfl⟩
      obtain ⟨hj, rfl⟩ := rng_at hd1
      refine sg_name (by simp) ?_
      walk_at "w"
      walk_at "es"
      refine ⟨5, rfl, by omega, by omega, ok, fun a S2 a0 a1 ok2 => ?_⟩
      walk_at "es"
      refine sx_app rfl ?_
      walk_at "es"
      refine ⟨5, rfl, by omega, by omega, ok2, fun b S3 b0 b1 ok3 => ?_⟩
      walk_at "es"
      refine ⟨by rw [List.length_map]; omega, ?_⟩
      refine ⟨_, ?_, p ++ [(0 - a, 0 - a + 3 + b)], S3, by simp [hl], fun q hq => ?_, ok3, rfl⟩
      · rw [List.map_append]
        walk_at "le"
      · rcases List.mem_append.mp hq with hp | hp
        · exact hg q hp
        · rw [List.mem_singleton.mp hp]
          show -100 ≤ 0 - a ∧ 0 - a ≤ 100 ∧ -100 ≤ 0 - a + 3 + b ∧ 0 - a + 3 + b ≤ 100
          omega
    rintro ρ' ⟨p, S4, pl, hpb, ok4, rfl⟩
    rw [rng_size] at pl
    refine nx_seq (sx_freeze 6 rfl ?_)
    walk_at "w"
    refine sx_app rfl ?_
    walk_at "es"
    refine ⟨by rw [List.length_map]; omega, ?_⟩
    refine ⟨_, ?_, parts ++ [p], S4, by simp [hl], fun q hq => ?_, fun q hq => ?_, ok4, rfl⟩
    · rw [List.map_append]
      walk_at "le"
    · rcases List.mem_append.mp hq with h | h
      · exact hg1 q h
      · rw [List.mem_singleton.mp h]; omega
    · rcases List.mem_append.mp hq with h | h
      · exact hg2 q h
      · rw [List.mem_singleton.mp h]; exact hpb
  rintro ρ' ⟨parts, S3, hpl, hp1, hp2, ok3, rfl⟩
  rw [rng_size] at hpl
  refine nx_seq (sx_freeze 2 rfl (sx_freeze 3 rfl ?_))
  walk_at "w"
  refine sx_seq (sx_asg (ex_of (eo_lc (ei_list ?_))))
  walk_at "es"
  refine ⟨fun k acc ρ' => ∃ (ms : List Int) (S : Stt), ms.length = k ∧ (∀ m ∈ ms, 0 ≤ m ∧ m ≤ 10) ∧ Ok S ∧ acc = ms.map .int ∧ ρ' = [.val (.list (ns.map .int)), .st S, .val (.list (ws.map encP)), .val (.list (parts.map partD)), .emp, .emp, .emp, .emp, .emp, .emp, .emp, .emp, .emp, .emp, .emp, .emp, .emp, .emp, .emp, .emp, .emp, .emp, .emp, .emp, .emp, .emp], ⟨[], S3, rfl, by simp, ok3, rfl, rfl⟩, ?_, ?_⟩
  · rintro k dd acc ρ' hd1 ⟨ms, S, hl, hg, ok, rfl, rfl⟩
    obtain ⟨p, hp, rfl⟩ := map_at hd1
    have kl : k < parts.length := (List.getElem?_eq_some_iff.mp hp).1
    refine ⟨(fun i hi => by simp at hi; subst hi; rfl), by rw [List.length_map]; omega, sg_name (by simp) ?_⟩
    walk_at "w"
    refine et_yes ⟨fun _ => ?_, (fun q => by cases q)⟩
    walk_at "es"
    refine ⟨4, rfl, by omega, by omega, ok, fun g S4 g0 g1 ok4 => ?_⟩
    refine ⟨ms ++ [g], S4, by simp [hl], fun m hm => ?_, ok4, by rw [List.map_append]; rfl, rfl⟩
    rcases List.mem_append.mp hm with h | h
    · exact hg m h
    · rw [List.mem_singleton.mp h]; omega
  rintro acc ρ' ⟨ms, S5, hml, hm1, ok5, rfl, rfl⟩
  rw [List.length_map] at hml
  have sc : Sc ws parts ms := ⟨by omega, by omega, hp1, hml, hm1⟩
  have w10 := sc.w10
  have p3 := sc.p3
  have shs := sh_scene sc hgw hp2
  have dps := scene_dp ws parts ms
  refine nx_seq ?_
  walk_at "w"
  walk_at "es"
  refine cbd_repr shs (by decide) dps ?_
  generalize hkt : PyData.shown _ = kt
  refine nx_seq ?_
  walk_at "w"
  walk_at "es"
  refine hold_due sc fun t due => ?_
  have tok := due_ok sc due
  have fno := due_fault sc due
  have dw := due_ways due
  refine nx_seq ?_
  walk_at "w"
  walk_at "es"
  refine ⟨ws, parts, ms, [], rfl, sc, by simp, by simp; omega, ?_⟩
  rw [show parts.length - ([] : List Int).length = parts.length by simp]
  have al := all_len (ws := ws) (parts := parts) (ms := ms) (m := 10) (fun x hx => (hm1 x hx).2) parts.length []
  have h6 : (10 + 1) ^ parts.length ≤ 11 ^ 3 := Nat.pow_le_pow_right (by decide) (by omega)
  have e6 : 11 ^ 3 = 1331 := by decide
  have wmem : ∀ x ∈ allW ws parts ms parts.length [], Way ws parts ms x := fun x hx => mem_all.mp hx
  generalize allW ws parts ms parts.length [] = ways at al wmem dw ⊢
  refine nx_seq ?_
  walk_at "w"
  walk_at "es"
  refine ⟨ws, parts, ms, rfl, sc, ?_⟩
  refine nx_seq ?_
  walk_at "w"
  have fr : faultF ws parts ms t = .none := fno
  refine sx_seq (sx_if (et_val false ?_ ?_))
  · have shp : Pu.rRepr K = Pu.rRepr K := rfl
    cases t with
    | start ts =>
      have dw : decide (0 < ways.length) = true := dw
      unfold encT
      walk_at "es"
      refine ⟨fun q => absurd q (by decide), fun _ => ?_⟩
      walk_at "es"
      rw [List.length_map, dec_p, dw]
      refine ⟨fun _ => ?_, fun q => (by cases q)⟩
      walk_at "es"
      refine ⟨fun q => absurd q (by decide), fun _ => ?_⟩
      walk_at "es"
      refine cbd_repr shs (by decide) dps ?_
      rw [hkt]
      walk_at "es"
      exact ⟨by simp, rfl⟩
    | never a rest =>
      have dw : decide (0 < ways.length) = false := dw
      unfold encT
      walk_at "es"
      refine ⟨fun q => absurd q (by decide), fun _ => ?_⟩
      walk_at "es"
      rw [List.length_map, dec_p, dw]
      refine ⟨fun q => (by cases q), fun _ => ?_⟩
      walk_at "es"
      refine ⟨fun q => absurd q (by decide), fun _ => ?_⟩
      walk_at "es"
      refine cbd_repr shs (by decide) dps ?_
      rw [hkt]
      walk_at "es"
      exact ⟨by simp, rfl⟩
  walk_at "no"
  walk_at "ei"
  refine sx_seq (sx_if (et_val false ?_ ?_))
  · walk_at "es"
    refine ⟨ws, parts, ms, t, rfl, sc, tok, ?_⟩
    rw [fno]
    walk_at "es"
    refine ⟨fun q => absurd q (by decide), fun _ => ?_⟩
    walk_at "es"
    refine ⟨ws, parts, ms, t, rfl, sc, tok, ?_⟩
    rw [fno]
    walk_at "es"
    exact ⟨by decide, rfl⟩
  walk_at "no"
  walk_at "ei"
  refine sx_midP (fun ρ' => ∃ s13 s14, ρ' = [.val (.list (ns.map .int)), .st S5, .val (.list (ws.map encP)), .val (.list (parts.map partD)), .emp, .emp, .emp, .emp, .val (.list (ms.map .int)), .val (.str kt), .val (encT t), .val (.list (ways.map intsD)), .val (.list ((LL ws parts ms parts.length).map intsD)), s13, s14, .emp, .emp, .emp, .emp, .emp, .emp, .emp, .emp, .emp, .emp, .emp]) ?_ ?_
  · rcases due with ⟨ts, ho, rfl⟩ | ⟨a, h1, h2, h3, rfl⟩
    · have tl := ho.way.1
      unfold encT
      walk_at "es"
      refine ⟨fun _ => ?_, fun q => absurd q (by decide)⟩
      walk_at "es"
      refine ex_of (eo_lcP (α := Int) (fun _ => true) (fun k => .int (fnL ts k.toNat - endF parts (fnL ts) k.toNat)) (ei_rng1 ?_))
      walk_at "es"
      rw [List.length_map, Int.toNat_natCast]
      refine ⟨by omega, rngI 0 ts.length, PyData.int, rfl, by rw [rngI_len]; omega, fun i hi => by simp at hi; subst hi; rfl, fun x hx => sg_name (by simp) ⟨rfl, ?_⟩, ?_⟩
      · have hx := rngI_mem.mp hx
        obtain ⟨k, rfl⟩ : ∃ k : Nat, x = (k : Int) := ⟨x.toNat, by omega⟩
        rw [Int.toNat_natCast]
        walk_at "w"
        refine et_yes ⟨rfl, rfl, fun _ => ?_⟩
        walk_at "es"
        refine opd_int (by omega) ?_
        walk_at "es"
        rw [dec_p]
        refine ⟨fun h1 => ?_, fun h1 => ?_⟩
        · have h1 := of_decide_eq_true h1
          walk_at "es"
          rw [show (k : Int) - 1 = ((k - 1 : Nat) : Int) by omega]
          refine opd_int (by omega) ?_
          walk_at "es"
          rw [show (k : Int) - 1 = ((k - 1 : Nat) : Int) by omega]
          refine opd_part (by omega) ?_
          walk_at "es"
          rw [List.length_map]
          refine ⟨?_, rfl⟩
          rw [end_is h1]
          rfl
        · have h1 := of_decide_eq_false h1
          have k0 : k = 0 := by omega
          subst k0
          walk_at "es"
          exact ⟨rfl, rfl⟩
      have ew : (((rngI 0 ts.length).filter fun _ => true).map fun k => PyData.int (fnL ts k.toNat - endF parts (fnL ts) k.toNat)) = (waitsF parts ts parts.length).map .int := by
        rw [filt_all, tl]
        unfold rngI waitsF
        rw [List.map_map, List.map_map]
        refine List.map_congr_left fun k _ => ?_
        simp only [Function.comp, Int.zero_add, Int.toNat_natCast]
      rw [ew]
      refine nx_seq ?_
      walk_at "w"
      refine sx_seq (sx_if (et_val false ?_ ?_))
      · walk_at "es"
        refine ⟨parts, ts, rfl, tl, by omega, ?_⟩
        walk_at "es"
        refine opd_neSelf (Nat.le_trans (row_dp _) (by decide)) ?_
        walk_at "es"
        exact ⟨rfl, rfl⟩
      walk_at "no"
      refine sx_next (nx_seq ?_)
      refine sx_for (J := [15]) (ei_list ?_)
      walk_at "es"
      rw [show (20 : Int) = ((20 : Nat) : Int) from rfl, cut_n]
      refine ⟨fun k ρ' => ρ' = [.val (.list (ns.map .int)), .st S5, .val (.list (ws.map encP)), .val (.list (parts.map partD)), .emp, .emp, .emp, .emp, .val (.list (ms.map .int)), .val (.str kt), .val (.tuple [.str (Str.ofString "begin"), .list (ts.map .int)]), .val (.list (ways.map intsD)), .val (.list ((LL ws parts ms parts.length).map intsD)), .val (.list (ts.map .int)), .val (.list ((waitsF parts ts parts.length).map .int)), .emp, .emp, .emp, .emp, .emp, .emp, .emp, .emp, .emp, .emp, .emp], rfl, ?_, ?_⟩
      · rintro k dd ρ' hd0 rfl
        obtain ⟨x, hx, rfl⟩ := map_at hd0
        have xw := wmem x (List.mem_of_mem_take (List.mem_of_getElem? hx))
        have xf := start_fault xw
        have xl := xw.1
        show SG _ _ (.list (x.map .int)) _ _
        refine sg_name (by simp) ?_
        walk_at "w"
        walk_at "es"
        refine ⟨ws, parts, ms, .start x, rfl, sc, by show x.length ≤ 5; omega, ?_⟩
        rw [xf]
        refine ex_if (et_val (decide (x.length = 0) || decide (x.getD (x.length - 1) 0 = (LF ws parts ms (parts.length - 1)).getD 0 0)) ?_ ⟨fun hq => ?_, fun hq => ?_⟩)
        · walk_at "es"
          rw [List.length_map, dec_0]
          refine ⟨fun h1 => ?_, fun h1 => ?_⟩
          · rw [h1]; exact ⟨rfl, rfl⟩
          · rw [h1]
            have h1 := of_decide_eq_false h1
            walk_at "es"
            refine opd_ixL (last_M 0 (by omega)) ?_
            walk_at "es"
            refine opd_ixL (last_M 0 (by omega)) ?_
            walk_at "es"
            have hl := ho.last (by omega)
            rw [tl, hl]
            exact ⟨rfl, rfl⟩
        · rw [if_pos hq]
          walk_at "es"
          refine opd_neSelf non_dp ?_
          walk_at "es"
          walk_at "no"
          walk_at "es"
          refine ⟨_, ?_, rfl⟩
          walk_at "le"
        · rw [if_neg (by rw [hq]; exact Bool.false_ne_true)]
          walk_at "es"
          refine opd_neSelf (one_dp _) ?_
          walk_at "es"
          walk_at "no"
          walk_at "es"
          refine ⟨_, ?_, rfl⟩
          walk_at "le"
      · rintro ρ' rfl
        exact ⟨_, by walk_at "le", _, _, rfl⟩
    · unfold encT
      walk_at "es"
      refine ⟨fun q => absurd q (by decide), fun _ => ?_⟩
      walk_at "es"
      exact ⟨_, by walk_at "le", _, _, rfl⟩
  rintro ρ1 ⟨s13, s14, rfl⟩
  refine sx_weak (ρ' := [.val (.list (ns.map .int)), .st S5, .val (.list (ws.map encP)), .val (.list (parts.map partD)), .emp, .emp, .emp, .emp, .val (.list (ms.map .int)), .val (.str kt), .val (encT t), .val (.list (ways.map intsD)), .val (.list ((LL ws parts ms parts.length).map intsD)), .emp, .emp, .emp, .emp, .emp, .emp, .emp, .emp, .emp, .emp, .emp, .emp, .emp]) (by walk_at "le") ?_
  refine sx_seq (sx_asg (ex_of (eo_lcP (α := Int) (fun k => okM ws parts k.toNat) PyData.int (ei_rng1 ?_))))
  walk_at "es"
  rw [List.length_map, show ((ws.length : Int) + 1).toNat = ws.length + 1 by omega]
  refine ⟨by omega, rngI 0 (ws.length + 1), PyData.int, rfl, by rw [rngI_len]; omega, fun i hi => by simp at hi; subst hi; rfl, fun x hx => sg_name (by simp) ⟨rfl, ?_⟩, ?_⟩
  · have hx := rngI_mem.mp hx
    obtain ⟨k, rfl⟩ : ∃ k : Nat, x = (k : Int) := ⟨x.toNat, by omega⟩
    rw [Int.toNat_natCast]
    walk_at "w"
    walk_at "es"
    refine ex_of (eo_lcP (α := Pt) (fun _ => true) (fun _ => .int (k : Int)) (ei_list ?_))
    walk_at "es"
    refine ⟨by omega, fun i hi => by simp at hi; subst hi; rfl, fun x hx => sg_name (by simp) ⟨rfl, ?_⟩, ?_⟩
    · walk_at "w"
      refine et_yes ⟨rfl, rfl, fun _ => ?_⟩
      walk_at "es"
      exact ⟨rfl, rfl⟩
    rw [rep_enc]
    walk_at "es"
    refine ⟨ws, parts, List.replicate parts.length (k : Int), [], rfl, sc_rep sc (by omega), by simp, by simp; omega, ?_⟩
    rw [show parts.length - ([] : List Int).length = parts.length by simp]
    walk_at "es"
    rw [List.length_map, dec_p]
    refine ⟨?_, rfl, fun _ => ?_⟩
    · cases o : okM ws parts k with
      | true => exact decide_eq_true (ways_iff.mpr (okM_iff.mp o))
      | false =>
        refine decide_eq_false fun z => ?_
        rw [okM_iff.mpr (ways_iff.mp z)] at o
        cases o
    · walk_at "es"
      exact ⟨rfl, rfl⟩
  obtain ⟨ab, eab⟩ : ∃ ab, ab = (rngI 0 (ws.length + 1)).filter fun k => okM ws parts k.toNat := ⟨_, rfl⟩
  rw [← eab]
  refine nx_seq ?_
  walk_at "w"
  refine sx_seq (sx_asg ?_)
  walk_at "es"
  refine least_due sc fun d ld => ?_
  refine nx_seq ?_
  walk_at "w"
  refine sx_seq (sx_if (et_val false ?_ ?_))
  · rcases ld with ⟨m, ts, f, rfl⟩ | ⟨f, rfl⟩
    · obtain ⟨tt, et⟩ := fl_some f
      rw [et] at eab
      rw [eab]
      walk_at "es"
      refine opd_neB ?_
      rw [show isN (PyData.tuple [.int (m : Int), .list (ts.map .int)]) = false from rfl, show decide ((((((m : Int) :: tt).map PyData.int).length : Nat) : Int) = 0) = false from decide_eq_false (by rw [List.length_map, List.length_cons]; omega)]
      walk_at "es"
      refine ⟨fun q => absurd q (by decide), fun _ => ?_⟩
      walk_at "es"
      refine ⟨fun _ => ?_, fun q => absurd (show true = false from q) (by decide)⟩
      walk_at "es"
      refine opd_ixL (at_hd _ _) ?_
      walk_at "es"
      exact ⟨by simp, rfl⟩
    · rw [fl_none f] at eab
      rw [eab]
      walk_at "es"
      refine opd_neB ?_
      walk_at "es"
      refine ⟨fun q => absurd q (by decide), fun _ => ?_⟩
      walk_at "es"
      refine ⟨fun q => absurd (show false = true from q) (by decide), fun _ => ?_⟩
      exact ⟨rfl, rfl⟩
  walk_at "no"
  refine sx_next (nx_seq ?_)
  refine sx_weak (ρ' := [.val (.list (ns.map .int)), .st S5, .val (.list (ws.map encP)), .val (.list (parts.map partD)), .emp, .emp, .emp, .emp, .val (.list (ms.map .int)), .val (.str kt), .val (encT t), .val (.list (ways.map intsD)), .val (.list ((LL ws parts ms parts.length).map intsD)), .emp, .emp, .emp, .emp, .emp, .emp, .emp, .emp, .emp, .emp, .emp, .emp, .emp]) (by walk_at "le") ?_
  refine sx_seq (sx_for (J := [6]) (ei_list ?_))
  walk_at "es"
  rw [show (2 : Int) = ((2 : Nat) : Int) from rfl, cut_n]
  refine ⟨fun k ρ' => ρ' = [.val (.list (ns.map .int)), .st S5, .val (.list (ws.map encP)), .val (.list (parts.map partD)), .emp, .emp, .emp, .emp, .val (.list (ms.map .int)), .val (.str kt), .val (encT t), .val (.list (ways.map intsD)), .val (.list ((LL ws parts ms parts.length).map intsD)), .emp, .emp, .emp, .emp, .emp, .emp, .emp, .emp, .emp, .emp, .emp, .emp, .emp], rfl, ?_, ?_⟩
  · rintro k dd ρ' hd0 rfl
    obtain ⟨p, hp, rfl⟩ := map_at hd0
    have pl := hp1 p (List.mem_of_mem_take (List.mem_of_getElem? hp))
    show SG _ _ (.list (p.map encP)) _ _
    refine sg_name (by simp) ?_
    walk_at "w"
    refine sx_for (J := [18]) (ei_rng1 ?_)
    walk_at "es"
    rw [List.length_map, Int.toNat_natCast]
    refine ⟨by omega, fun j ρ' => ρ' = [.val (.list (ns.map .int)), .st S5, .val (.list (ws.map encP)), .val (.list (parts.map partD)), .emp, .emp, .val (.list (p.map encP)), .emp, .val (.list (ms.map .int)), .val (.str kt), .val (encT t), .val (.list (ways.map intsD)), .val (.list ((LL ws parts ms parts.length).map intsD)), .emp, .emp, .emp, .emp, .emp, .emp, .emp, .emp, .emp, .emp, .emp, .emp, .emp], rfl, ?_, ?_⟩
    · rintro j dd ρ' hd1 rfl
      obtain ⟨hj, rfl⟩ := rng_at hd1
      rw [Int.zero_add]
      refine sg_name (by simp) ?_
      walk_at "w"
      walk_at "es"
      refine ⟨ws, p, j, rfl, w10, by omega, ?_⟩
      walk_at "es"
      refine ⟨ws, p, (j : Int), rfl, w10, by omega, ?_⟩
      refine opd_neB ?_
      walk_at "es"
      refine ⟨fun q => absurd q (by simp), fun _ => ?_⟩
      walk_at "es"
      refine ⟨_, ?_, rfl⟩
      walk_at "le"
    · rintro ρ' rfl
      refine ⟨_, ?_, rfl⟩
      walk_at "le"
  rintro ρ' rfl
  refine nx_seq ?_
  refine sx_seq (sx_asgO (eo_lst (ea_nil ⟨by simp, ?_⟩)))
  refine nx_seq ?_
  walk_at "w"
  refine sx_seq (sx_for (J := [6]) (ei_list ?_))
  walk_at "es"
  refine ⟨fun k ρ' => ρ' = [.val (.list (ns.map .int)), .st S5, .val (.list (ws.map encP)), .val (.list (parts.map partD)), .emp, .emp, .emp, .emp, .val (.list (ms.map .int)), .val (.str kt), .val (encT t), .val (.list (ways.map intsD)), .val (.list ((LL ws parts ms parts.length).map intsD)), .emp, .emp, .emp, .emp, .emp, .emp, .own ((parts.take k).flatten.map encP), .emp, .emp, .emp, .emp, .emp, .emp], rfl, ?_, ?_⟩
  · rintro k dd ρ' hd0 rfl
    obtain ⟨p, hp, rfl⟩ := map_at hd0
    have kl : k < parts.length := (List.getElem?_eq_some_iff.mp hp).1
    have pl := hp1 p (List.mem_of_getElem? hp)
    have fl9 : (parts.take k).flatten.length ≤ 3 * (parts.take k).length := by
      have go : ∀ qs : List Pt, (∀ q ∈ qs, q.length ≤ 3) → qs.flatten.length ≤ 3 * qs.length := by
        intro qs
        induction qs with
        | nil => simp
        | cons q qs ih =>
          intro h
          rw [List.flatten_cons, List.length_append, List.length_cons]
          have := h q (by simp)
          have := ih fun x hx => h x (by simp [hx])
          omega
      exact go _ fun q hq => hp1 q (List.mem_of_mem_take hq)
    rw [List.length_take] at fl9
    show SG _ _ (.list (p.map encP)) _ _
    refine sg_name (by simp) ?_
    walk_at "w"
    refine sx_ext rfl ?_
    walk_at "es"
    refine ⟨_, _, rfl, rfl, by rw [List.length_map, List.length_map]; omega, ?_⟩
    rw [take_snoc' hp, List.flatten_append, List.map_append]
    refine ⟨_, ?_, rfl⟩
    walk_at "le"
    simp
  rintro ρ' rfl
  rw [List.length_map, List.take_length]
  refine nx_seq (sx_freeze 19 rfl ?_)
  walk_at "w"
  refine sx_seq (sx_asg (ex_of (eo_lcP (α := Int) (fun _ => true) (fun k => .int (offN parts k.toNat : Int)) (ei_rng2 ?_))))
  walk_at "es"
  rw [List.length_map, show ((parts.length : Int) - 1).toNat = parts.length - 1 by omega]
  refine ⟨by omega, rngI 1 (parts.length - 1), PyData.int, rfl, by rw [rngI_len]; omega, fun i hi => by simp at hi; subst hi; rfl, fun x hx => sg_name (by simp) ⟨rfl, ?_⟩, ?_⟩
  · have hx := rngI_mem.mp hx
    obtain ⟨k, rfl⟩ : ∃ k : Nat, x = (k : Int) := ⟨x.toNat, by omega⟩
    rw [Int.toNat_natCast]
    walk_at "w"
    refine et_yes ⟨rfl, rfl, fun _ => ?_⟩
    refine ex_cb (ea_cons (ex_of (eo_lcP (α := Pt) (fun _ => true) (fun p => .int (p.length : Int)) (ei_list ?_))))
    walk_at "es"
    rw [cut_n]
    refine ⟨parts.take k, partD, rfl, by rw [List.length_take]; omega, fun i hi => by simp at hi; subst hi; rfl, fun p hp => sg_name (by simp) ⟨rfl, ?_⟩, ?_⟩
    · walk_at "w"
      refine et_yes ⟨rfl, rfl, fun _ => ?_⟩
      unfold partD
      walk_at "es"
      rw [List.length_map]
      exact ⟨rfl, rfl⟩
    have e : (((parts.take k).filter fun _ => true).map fun p => PyData.int (p.length : Int)) = ((parts.take k).map fun p => (p.length : Int)).map .int := by rw [filt_all, List.map_map]; rfl
    rw [e]
    walk_at "es"
    refine ⟨?_, rfl⟩
    unfold offN
    congr 1
    have go : ∀ qs : List Pt, (qs.map fun p => (p.length : Int)).sum = ((qs.map List.length).sum : Int) := by
      intro qs
      induction qs with
      | nil => rfl
      | cons q qs ih =>
        rw [List.map_cons, List.map_cons, List.sum_cons, List.sum_cons, ih]
        omega
    exact go _
  have ec : (((rngI 1 (parts.length - 1)).filter fun _ => true).map fun k => PyData.int (offN parts k.toNat : Int)) = (cutsF parts).map .int := by
    rw [filt_all]
    unfold rngI cutsF
    rw [List.map_map, List.map_map]
    refine List.map_congr_left fun k _ => ?_
    simp only [Function.comp]
    rw [show ((1 : Int) + (k : Int)).toNat = k + 1 by omega]
  rw [ec]
  refine nx_seq ?_
  walk_at "w"
  refine sx_seq (sx_if (et_val false ?_ ?_))
  · walk_at "es"
    rw [List.length_map]
    refine ⟨fun h1 => ?_, fun h1 => ⟨rfl, rfl⟩⟩
    have h1 := of_decide_eq_true h1
    walk_at "es"
    refine ⟨parts, rfl, by omega, ?_⟩
    walk_at "es"
    refine opd_neSelf (parts_dp parts) ?_
    walk_at "es"
    exact ⟨rfl, rfl⟩
  walk_at "no"
  refine sx_next (nx_seq ?_)
  refine sx_weak (ρ' := [.val (.list (ns.map .int)), .st S5, .val (.list (ws.map encP)), .val (.list (parts.map partD)), .emp, .emp, .emp, .emp, .val (.list (ms.map .int)), .val (.str kt), .val (encT t), .val (.list (ways.map intsD)), .val (.list ((LL ws parts ms parts.length).map intsD)), .emp, .emp, .emp, .emp, .emp, .emp, .emp, .emp, .emp, .emp, .emp, .emp, .emp]) (by walk_at "le") ?_
  refine sx_seq (sx_for (J := [21]) (ei_rng1 ?_))
  walk_at "es"
  refine ⟨by omega, fun k ρ' => ∃ S, Ok S ∧ ρ' = [.val (.list (ns.map .int)), .st S, .val (.list (ws.map encP)), .val (.list (parts.map partD)), .emp, .emp, .emp, .emp, .val (.list (ms.map .int)), .val (.str kt), .val (encT t), .val (.list (ways.map intsD)), .val (.list ((LL ws parts ms parts.length).map intsD)), .emp, .emp, .emp, .emp, .emp, .emp, .emp, .emp, .emp, .emp, .emp, .emp, .emp], ⟨S5, ok5, rfl⟩, ?_, ?_⟩
  · rintro turn dd ρ' hd0 ⟨S6, ok6, rfl⟩
    obtain ⟨hk, rfl⟩ := rng_at hd0
    rw [Int.zero_add]
    refine sg_name (by simp) ?_
    walk_at "w"
    refine sx_midP (fun ρ' => ∃ (S : Stt) (t2 : Told), Ok S ∧ TOk t2 ∧ ρ' = [.val (.list (ns.map .int)), .st S, .val (.list (ws.map encP)), .val (.list (parts.map partD)), .emp, .emp, .emp, .emp, .val (.list (ms.map .int)), .val (.str kt), .val (encT t), .val (.list (ways.map intsD)), .val (.list ((LL ws parts ms parts.length).map intsD)), .emp, .emp, .emp, .emp, .emp, .emp, .emp, .emp, .val (.int (turn : Int)), .emp, .emp, .emp, .val (encT t2)]) ?_ ?_
    · cases t with
      | never a rest =>
        have rl : rest.length ≤ 5 := tok
        have rpos : 0 < rest.length := by
          rcases due with ⟨ts, ho, e⟩ | ⟨a, h1, h2, h3, e⟩
          · cases e
          · cases e
            rw [LL_len]; omega
        have eE : encT (.never a rest) = .tuple [.str (Str.ofString "never"), .int a, .list (rest.map intsD)] := rfl
        rw [eE]
        refine sx_if (et_val true ?_ ⟨fun _ => ?_, fun q => absurd q (by decide)⟩)
        · walk_at "es"
          exact ⟨by decide, rfl⟩
        refine sx_seq (sx_asgO (eo_lcP (α := List Int) (fun _ => true) intsD (ei_list ?_)))
        walk_at "es"
        refine ⟨by omega, fun i hi => by simp at hi; subst hi; rfl, fun x hx => sg_name (by simp) ⟨rfl, ?_⟩, ?_⟩
        · walk_at "w"
          refine et_yes ⟨rfl, rfl, fun _ => ?_⟩
          unfold intsD
          walk_at "es"
          exact ⟨rfl, rfl⟩
        rw [filt_all]
        refine nx_seq ?_
        walk_at "w"
        refine sx_seq (sx_asg (ex_callS rfl (ea_cons (ex_lenO rfl ?_))))
        walk_at "es"
        rw [List.length_map]
        refine ⟨(rest.length : Int), rfl, by omega, by omega, ok6, fun i S7 i0 i1 ok7 => ?_⟩
        refine nx_seq ?_
        walk_at "w"
        have ai : atI (rest.map intsD) i = some (intsD (rest.getD i.toNat [])) := atI_map [] i0 i1
        have nv : ∀ r2 : List Int, SX (tAsg (tOp (rIxA K) (tLst (tCons (tTup (tCons (tC (.str "never")) (tCons (tOp (rIxA K) (tVar 10) (tC (.int 1))) (tCons (tVar 22) tNil)))) (tCons (tTup (tCons (tC (.str "never")) (tCons (tOp (rPlus K) (tOp (rIxA K) (tVar 10) (tC (.int 1))) (tC (.int 1))) (tCons (tVar 22) tNil)))) (tCons (tTup (tCons (tC (.str "begin")) (tCons (tLc (iList K (tVar 3)) (gName 6) tYes (tC (.int 0)) [6]) tNil))) tNil)))) (tCall (spS R_take) [] E0 (tCons (tVar 1) (tCons (tC (.int 3)) tNil)))) (gName 25)) [.val (.list (ns.map .int)), .st S7, .val (.list (ws.map encP)), .val (.list (parts.map partD)), .emp, .emp, .emp, .emp, .val (.list (ms.map .int)), .val (.str kt), .val (.tuple [.str (Str.ofString "never"), .int a, .list (rest.map intsD)]), .val (.list (ways.map intsD)), .val (.list ((LL ws parts ms parts.length).map intsD)), .emp, .emp, .emp, .emp, .emp, .emp, .emp, .emp, .val (.int (turn : Int)), .own ((rest.map intsD).set i.toNat (.list (r2.map .int))), .emp, .val (.int i), .emp] { nx := fun ρ' => ∃ (S : Stt) (t2 : Told), Ok S ∧ TOk t2 ∧ ρ' = [.val (.list (ns.map .int)), .st S, .val (.list (ws.map encP)), .val (.list (parts.map partD)), .emp, .emp, .emp, .emp, .val (.list (ms.map .int)), .val (.str kt), .val (.tuple [.str (Str.ofString "never"), .int a, .list (rest.map intsD)]), .val (.list (ways.map intsD)), .val (.list ((LL ws parts ms parts.length).map intsD)), .emp, .emp, .emp, .emp, .emp, .emp, .emp, .emp, .val (.int (turn : Int)), .emp, .emp, .emp, .val (encT t2)], rt := fun _ _ => False } := fun r2 => by
          have es2 : (rest.map intsD).set i.toNat (.list (r2.map .int)) = (rest.set i.toNat r2).map intsD := by rw [List.map_set]; rfl
          rw [es2]
          have l2 : (rest.set i.toNat r2).length = rest.length := List.length_set
          generalize rest.set i.toNat r2 = rest2 at l2 ⊢
          refine sx_freeze 22 rfl ?_
          walk_at "w"
          refine sx_asg ?_
          walk_at "es"
          refine ex_of (eo_lcP (α := Pt) (fun _ => true) (fun _ => .int 0) (ei_list ?_))
          walk_at "es"
          refine ⟨by omega, fun i hi => by simp at hi; subst hi; rfl, fun x hx => sg_name (by simp) ⟨rfl, ?_⟩, ?_⟩
          · walk_at "w"
            refine et_yes ⟨rfl, rfl, fun _ => ?_⟩
            walk_at "es"
            exact ⟨rfl, rfl⟩
          rw [rep_enc]
          walk_at "es"
          refine ⟨3, rfl, by omega, by omega, ok7, fun r S9 r0 r1 ok9 => ?_⟩
          obtain ⟨t2, et, tok2⟩ : ∃ t2 : Told, atI [.tuple [.str (Str.ofString "never"), .int a, .list (rest2.map intsD)], .tuple [.str (Str.ofString "never"), .int (a + 1), .list (rest2.map intsD)], .tuple [.str (Str.ofString "begin"), .list ((List.replicate parts.length 0).map .int)]] r = some (encT t2) ∧ TOk t2 := by
            rcases (show r = 0 ∨ r = 1 ∨ r = 2 by omega) with rfl | rfl | rfl
            · exact ⟨.never a rest2, rfl, by show rest2.length ≤ 5; omega⟩
            · exact ⟨.never (a + 1) rest2, rfl, by show rest2.length ≤ 5; omega⟩
            · exact ⟨.start (List.replicate parts.length 0), rfl, by show (List.replicate parts.length (0 : Int)).length ≤ 5; rw [List.length_replicate]; omega⟩
          refine opd_ixL et ?_
          exact ⟨_, by walk_at "le", S9, t2, ok9, tok2, rfl⟩
        refine sx_seq (sx_setO (es := rest.map intsD) (ex_if (et_test (ex_op (ex_cb (ea_cons (ex_ixO rfl ?_)))))))
        walk_at "es"
        refine ⟨_, i, _, rfl, rfl, ai, ?_⟩
        refine ea_nil ?_
        show CbD _ [.list ((rest.getD i.toNat []).map .int)] _
        walk_at "es"
        refine ⟨fun _ => ?_, fun _ => ?_⟩
        · refine ex_sl (ex_ixO rfl ?_)
          walk_at "es"
          refine ⟨_, i, _, rfl, rfl, ai, ?_⟩
          refine ep_some ?_
          walk_at "es"
          show SlD _ (.list ((rest.getD i.toNat []).map .int)) _ _ _
          walk_at "es"
          rw [cut1]
          refine ⟨rfl, ?_⟩
          walk_at "es"
          refine ⟨_, i, i.toNat, rfl, rfl, by unfold ixN; rw [List.length_map, if_pos i0, if_pos i1], ?_⟩
          refine nx_seq ?_
          walk_at "w"
          exact nv _
        · walk_at "es"
          refine ⟨rfl, ?_⟩
          walk_at "es"
          refine ⟨_, i, i.toNat, rfl, rfl, by unfold ixN; rw [List.length_map, if_pos i0, if_pos i1], ?_⟩
          refine nx_seq ?_
          walk_at "w"
          exact nv [0]
      | start ts =>
        have tl : ts.length ≤ 5 := tok
        have eE : encT (.start ts) = .tuple [.str (Str.ofString "begin"), .list (ts.map .int)] := rfl
        rw [eE]
        refine sx_if (et_val false ?_ ⟨fun q => absurd q (by decide), fun _ => ?_⟩)
        · walk_at "es"
          exact ⟨by decide, rfl⟩
        refine sx_seq (sx_asgO (eo_cb ?_))
        walk_at "es"
        refine cbo_listL ?_
        refine nx_seq ?_
        walk_at "w"
        refine sx_midP (fun ρ' => ∃ (ts2 : List Int) (S7 : Stt) (s24 : Slot), ts2.length = ts.length ∧ Ok S7 ∧ ρ' = [.val (.list (ns.map .int)), .st S7, .val (.list (ws.map encP)), .val (.list (parts.map partD)), .emp, .emp, .emp, .emp, .val (.list (ms.map .int)), .val (.str kt), .val (.tuple [.str (Str.ofString "begin"), .list (ts.map .int)]), .val (.list (ways.map intsD)), .val (.list ((LL ws parts ms parts.length).map intsD)), .own (ts2.map .int), .emp, .emp, .emp, .emp, .emp, .emp, .emp, .val (.int (turn : Int)), .emp, .emp, s24, .emp]) ?_ ?_
        · refine sx_if (et_test (ex_op (ex_lenO rfl ?_)))
          walk_at "es"
          rw [List.length_map, dec_p]
          refine ⟨fun h1 => ?_, fun h1 => ?_⟩
          · have h1 := of_decide_eq_true h1
            refine sx_seq (sx_asg (ex_callS rfl (ea_cons (ex_lenO rfl ?_))))
            walk_at "es"
            rw [List.length_map]
            refine ⟨(ts.length : Int), rfl, by omega, by omega, ok6, fun i S7 i0 i1 ok7 => ?_⟩
            refine nx_seq ?_
            walk_at "w"
            refine sx_setO (es := ts.map .int) (ex_op (ex_ixO rfl ?_))
            walk_at "es"
            refine ⟨_, i, .int (ts.getD i.toNat 0), rfl, rfl, atI_map 0 i0 i1, ?_⟩
            walk_at "es"
            refine ⟨3, rfl, by omega, by omega, ok7, fun g S8 g0 g1 ok8 => ?_⟩
            obtain ⟨v, ev⟩ : ∃ v : Int, atI [PyData.int 1, .int (0 - 1), .int 3] g = some (.int v) := by
              rcases (show g = 0 ∨ g = 1 ∨ g = 2 by omega) with rfl | rfl | rfl
              · exact ⟨_, rfl⟩
              · exact ⟨_, rfl⟩
              · exact ⟨_, rfl⟩
            refine opd_ixL ev ?_
            walk_at "es"
            refine ⟨rfl, ?_⟩
            walk_at "es"
            refine ⟨_, i, i.toNat, rfl, rfl, by unfold ixN; rw [List.length_map, if_pos i0, if_pos i1], ?_⟩
            refine ⟨_, ?_, ts.set i.toNat (ts.getD i.toNat 0 + v), S8, .emp, List.length_set, ok8, rfl⟩
            rw [List.map_set]
            walk_at "le"
          · walk_at "es"
            exact ⟨_, by walk_at "le", ts, S6, .emp, rfl, ok6, rfl⟩
        rintro ρ1 ⟨ts2, S7, s24, t2l, ok7, rfl⟩
        refine sx_freeze 13 rfl ?_
        walk_at "w"
        refine sx_asg ?_
        walk_at "es"
        rw [cut1]
        walk_at "es"
        refine ⟨3, rfl, by omega, by omega, ok7, fun r S9 r0 r1 ok9 => ?_⟩
        obtain ⟨t2, et, tok2⟩ : ∃ t2 : Told, atI [.tuple [.str (Str.ofString "begin"), .list (ts2.map .int)], .tuple [.str (Str.ofString "begin"), .list ((ts2.drop 1).map .int)], .tuple [.str (Str.ofString "never"), .int 0, .list [.list []]]] r = some (encT t2) ∧ TOk t2 := by
          rcases (show r = 0 ∨ r = 1 ∨ r = 2 by omega) with rfl | rfl | rfl
          · exact ⟨.start ts2, rfl, by show ts2.length ≤ 5; omega⟩
          · exact ⟨.start (ts2.drop 1), rfl, by show (ts2.drop 1).length ≤ 5; rw [List.length_drop]; omega⟩
          · exact ⟨.never 0 [[]], rfl, by show [([] : List Int)].length ≤ 5; simp⟩
        refine opd_ixL et ?_
        exact ⟨_, by walk_at "le", S9, t2, ok9, tok2, rfl⟩
    rintro ρ1 ⟨S7, t2, ok7, tok2, rfl⟩
    walk_at "es"
    refine ⟨ws, parts, ms, t2, rfl, sc, tok2, ?_⟩
    walk_at "es"
    refine ⟨ws, parts, ms, t2, rfl, sc, tok2, ?_⟩
    refine opd_neSelf (fault_dp _ _ _ _) ?_
    walk_at "es"
    walk_at "no"
    walk_at "es"
    refine ⟨_, ?_, S7, ok7, rfl⟩
    walk_at "le"
  rintro ρ' ⟨S6, ok6, rfl⟩
  refine nx_seq ?_
  walk_at "es"
  refine cbd_repr shs (by decide) dps ?_
  rw [hkt]
  walk_at "es"
  simp only [decide_true]
  exact z
end Law_k89
namespace Law_k89
open PySem L2 Pu

def topS (i : Nat) : Stmt := PySem.Challenge.pw_firescore_k89_holds_by_all_waits.main.body.getD i (.Pass ⟨0, 0, 0, 0⟩)
abbrev s_part_fits : Stmt := topS 1
abbrev s_ticks_for_parts : Stmt := topS 2
abbrev s_hold : Stmt := topS 3
abbrev s_hold_fault : Stmt := topS 4
abbrev s_waits_of : Stmt := topS 5
abbrev s_least_hold : Stmt := topS 6
abbrev s_parts_of : Stmt := topS 7
abbrev s_l_state : Stmt := topS 9
abbrev s_l_take : Stmt := topS 10
abbrev s_l_fits : Stmt := topS 11
abbrev s_l_ways : Stmt := topS 12
abbrev s_l_lots : Stmt := topS 13
abbrev s_l_fault : Stmt := topS 14
abbrev s_law : Stmt := topS 15
theorem sc_part_fits : FnScope N_part_fits ["rows", "part", "tick"] (defScope s_part_fits) := ⟨rfl, rfl, rfl, by decide +kernel, rfl, by decide +kernel, by decide +kernel⟩
theorem sc_ticks_for_parts : FnScope N_ticks_for_parts ["rows", "parts", "most"] (defScope s_ticks_for_parts) := ⟨rfl, rfl, rfl, by decide +kernel, rfl, by decide +kernel, by decide +kernel⟩
theorem sc_hold : FnScope N_hold ["rows", "parts", "most"] (defScope s_hold) := ⟨rfl, rfl, rfl, by decide +kernel, rfl, by decide +kernel, by decide +kernel⟩
theorem sc_hold_fault : FnScope N_hold_fault ["rows", "parts", "most", "told"] (defScope s_hold_fault) := ⟨rfl, rfl, rfl, by decide +kernel, rfl, by decide +kernel, by decide +kernel⟩
theorem sc_waits_of : FnScope N_waits_of ["parts", "ticks"] (defScope s_waits_of) := ⟨rfl, rfl, rfl, by decide +kernel, rfl, by decide +kernel, by decide +kernel⟩
theorem sc_least_hold : FnScope N_least_hold ["rows", "parts"] (defScope s_least_hold) := ⟨rfl, rfl, rfl, by decide +kernel, rfl, by decide +kernel, by decide +kernel⟩
theorem sc_parts_of : FnScope N_parts_of ["needs", "cuts"] (defScope s_parts_of) := ⟨rfl, rfl, rfl, by decide +kernel, rfl, by decide +kernel, by decide +kernel⟩
theorem sc_l_state : FnScope N_l_state ["script"] (defScope s_l_state) := ⟨rfl, rfl, rfl, by decide +kernel, rfl, by decide +kernel, by decide +kernel⟩
theorem sc_l_take : FnScope N_l_take ["state", "most"] (defScope s_l_take) := ⟨rfl, rfl, rfl, by decide +kernel, rfl, by decide +kernel, by decide +kernel⟩
theorem sc_l_fits : FnScope N_l_fits ["rows", "part", "tick"] (defScope s_l_fits) := ⟨rfl, rfl, rfl, by decide +kernel, rfl, by decide +kernel, by decide +kernel⟩
theorem sc_l_ways : FnScope N_l_ways ["rows", "parts", "most", "row", "end"] (defScope s_l_ways) := ⟨rfl, rfl, rfl, by decide +kernel, rfl, by decide +kernel, by decide +kernel⟩
theorem sc_l_lots : FnScope N_l_lots ["rows", "parts", "most"] (defScope s_l_lots) := ⟨rfl, rfl, rfl, by decide +kernel, rfl, by decide +kernel, by decide +kernel⟩
theorem sc_l_fault : FnScope N_l_fault ["rows", "parts", "most", "lots", "told"] (defScope s_l_fault) := ⟨rfl, rfl, rfl, by decide +kernel, rfl, by decide +kernel, by decide +kernel⟩
theorem sc_law : FnScope N_law ["script"] (defScope s_law) := ⟨rfl, rfl, rfl, by decide +kernel, rfl, by decide +kernel, by decide +kernel⟩
section
variable {P : Program} {w : World} {K : PySem.W.Frag} {mg : Str → Option Value} {base : Heap} {f : Addr} {fd : FuncData} {k : Nat}
theorem ps_part_fits {cdv : Value} {A : Around} {outer : List PySem.Env} {s : Shared} {H : Hp} {E : XK} (bn : Bn mg) (hr : Room k (A.deeper (PyProof.Rows.envOfC "part_fits" (defScope s_part_fits) s.heap.objs.size f cdv))) :
    PSs (cxOf CX0 P w K mg base N_part_fits "part_fits" (defScope s_part_fits) f cdv A outer s H E).nox (defBody s_part_fits) (T_part_fits K) :=
  have nd := sc_part_fits.nd
  (pss_cons (ps_if (pt_cmpR op_gt (pe_op op_plus (pv 2) (pe_callB Pu.cb_len (by rfl) bn.len_ (by decide +kernel) (pa_cons (pv 1) pa_nil))) (pe_callB Pu.cb_len (by rfl) bn.len_ (by decide +kernel) (pa_cons (pv 0) pa_nil)) (nomark _))
      (pss_one (ps_ret pe_bl))
      pss_nil)
    (pss_one (ps_ret (pe_callB (cb_all rfl) (by rfl) bn.all_ (by decide +kernel) (pa_cons (pe_lc (own := [("at", 4), ("low", 3), ("high", 5)]) (g := (gTup K 2 (gCons (gName 4) (gCons (gTup K 2 (gCons (gName 3) (gCons (gName 5) gNil))) gNil)))) (tt := tYes) rfl nd (pi_enum (by rfl) bn.enumerate_ (pa_cons (pv 1) pa_nil)) (blkOk_by (N := N_part_fits) (sc := defScope s_part_fits) (by decide +kernel)) (fun _ _ _ _ _ => (pg_tup (n := 2) rfl (pgs_cons (pg_name (i := 4) nd rfl (by first | exact Or.inl rfl | exact Or.inr rfl)) (pgs_cons (pg_tup (n := 2) rfl (pgs_cons (pg_name (i := 3) nd rfl (by first | exact Or.inl rfl | exact Or.inr rfl)) (pgs_cons (pg_name (i := 5) nd rfl (by first | exact Or.inl rfl | exact Or.inr rfl)) pgs_nil))) pgs_nil)))) (fun _ _ _ _ _ => pts_nil) (fun _ _ _ _ _ => (pe_and (pe_cmpR op_le (pv 3) (pe_ix ix_any (pe_ix ix_any (pv 0) (pe_op op_plus (pv 2) (pv 4)) (fun _ _ => rfl)) pe_int (fun _ _ => rfl)) (nomark _)) (pe_one (pe_cmpR op_le (pe_ix ix_any (pe_ix ix_any (pv 0) (pe_op op_plus (pv 2) (pv 4)) (fun _ _ => rfl)) pe_int (fun _ _ => rfl)) (pv 5) (nomark _)))))) pa_nil)))))
theorem ok_part_fits {R : List D → (D → Prop) → Prop} (F : Fun K "part_fits" "part_fits" s_part_fits f fd) (bn : Bn mg) (len : ∀ ds Z, R ds Z → ds.length = 3) (sx : ∀ ds Z, R ds Z → SX (T_part_fits K) (startE N_part_fits ds) { nx := fun _ => Z .none, rt := fun d _ => Z d }) :
    FnOk P w K mg base CX0 (k + 1) f fd ["rows", "part", "tick"] (spP R) := fn_pure F sc_part_fits len fun cdv A outer s H E hr => ⟨_, ps_part_fits bn hr, sx⟩
theorem ps_ticks_for_parts {cdv : Value} {A : Around} {outer : List PySem.Env} {s : Shared} {H : Hp} {E : XK} (bn : Bn mg) (hr : Room k (A.deeper (PyProof.Rows.envOfC "ticks_for_parts" (defScope s_ticks_for_parts) s.heap.objs.size f cdv))) {R_part_fits : List D → (D → Prop) → Prop} {k_part_fits : Nat} (C_part_fits : Cal P w K mg base "part_fits" ["rows", "part", "tick"] (spP R_part_fits) k_part_fits) (h_part_fits : k_part_fits ≤ k) :
    PSs (cxOf CX0 P w K mg base N_ticks_for_parts "ticks_for_parts" (defScope s_ticks_for_parts) f cdv A outer s H E).nox (defBody s_ticks_for_parts) (T_ticks_for_parts K R_part_fits) :=
  have nd := sc_ticks_for_parts.nd
  (pss_cons (ps_set (i := 3) nd rfl (by first | exact Or.inl rfl | exact Or.inr rfl) (pe_lst pa_nil))
    (pss_cons (ps_for PassesOwn.never rfl (pi_enum (by rfl) bn.enumerate_ (pa_cons (pv 1) pa_nil)) (pg_tup (n := 2) rfl (pgs_cons (pg_name (i := 4) nd rfl (by first | exact Or.inl rfl | exact Or.inr rfl)) (pgs_cons (pg_name (i := 5) nd rfl (by first | exact Or.inl rfl | exact Or.inr rfl)) pgs_nil)))
      (pss_cons (ps_set (i := 6) nd rfl (by first | exact Or.inl rfl | exact Or.inr rfl) (pe_lst pa_nil))
    (pss_cons (ps_for PassesOwn.never rfl (pi_range1 (by rfl) bn.range_ (pa_cons (pe_op op_plus (pe_callB Pu.cb_len (by rfl) bn.len_ (by decide +kernel) (pa_cons (pv 0) pa_nil)) pe_int) pa_nil)) (pg_name (i := 7) nd rfl (by first | exact Or.inl rfl | exact Or.inr rfl))
      (pss_cons (ps_if (pt_cmpR (op_eqP hr.units) (pv 4) pe_int (nomark _))
      (pss_one (ps_set (i := 8) nd rfl (by first | exact Or.inl rfl | exact Or.inr rfl) (pe_cmpR op_le (pv 7) (pe_ix ix_any (pv 2) pe_int (fun _ _ => rfl)) (nomark _))))
      (pss_cons (ps_set (i := 9) nd rfl (by first | exact Or.inl rfl | exact Or.inr rfl) (pe_callB Pu.cb_len (by rfl) bn.len_ (by decide +kernel) (pa_cons (pe_ix ix_any (pv 1) (pe_op op_sub (pv 4) pe_int) (fun _ _ => rfl)) pa_nil)))
    (pss_one (ps_set (i := 8) nd rfl (by first | exact Or.inl rfl | exact Or.inr rfl) (pe_callB (cb_any rfl) (by rfl) bn.any_ (by decide +kernel) (pa_cons (pe_lc (own := [("before", 10)]) (g := (gName 10)) (tt := tYes) rfl nd (pi_list (pe_ix ix_any (pv 3) (pe_un un_neg pe_int) (fun _ _ => rfl))) (blkOk_by (N := N_ticks_for_parts) (sc := defScope s_ticks_for_parts) (by decide +kernel)) (fun _ _ _ _ _ => (pg_name (i := 10) nd rfl (by first | exact Or.inl rfl | exact Or.inr rfl))) (fun _ _ _ _ _ => pts_nil) (fun _ _ _ _ _ => (pe_chain op_le op_le pe_int (pe_op op_sub (pe_op op_sub (pv 7) (pv 10)) (pv 9)) (pe_ix ix_any (pv 2) (pv 4) (fun _ _ => rfl))))) pa_nil))))))
    (pss_one (ps_if (PW.pt (pw_and (pt_val (pv 8)) (pw_and1 (pt_val (pe_cal C_part_fits (hr.mono h_part_fits) (by rfl) (pa_cons (pv 0) (pa_cons (pv 5) (pa_cons (pv 7) pa_nil))))))))
      (pss_one (ps_expr (pe_bm PySem.F.plainAttrs_list PySem.F.slot_list_append PySem.F.type_list_append mt_append (pv 6) (pa_cons (pv 7) pa_nil))))
      pss_nil))))
    (pss_one (ps_expr (pe_bm PySem.F.plainAttrs_list PySem.F.slot_list_append PySem.F.type_list_append mt_append (pv 3) (pa_cons (pv 6) pa_nil)))))))
    (pss_one (ps_ret (pv 3)))))
theorem ok_ticks_for_parts {R : List D → (D → Prop) → Prop} (F : Fun K "ticks_for_parts" "ticks_for_parts" s_ticks_for_parts f fd) (bn : Bn mg) {R_part_fits : List D → (D → Prop) → Prop} {k_part_fits : Nat} (C_part_fits : Cal P w K mg base "part_fits" ["rows", "part", "tick"] (spP R_part_fits) k_part_fits) (h_part_fits : k_part_fits ≤ k) (len : ∀ ds Z, R ds Z → ds.length = 3) (sx : ∀ ds Z, R ds Z → SX (T_ticks_for_parts K R_part_fits) (startE N_ticks_for_parts ds) { nx := fun _ => Z .none, rt := fun d _ => Z d }) :
    FnOk P w K mg base CX0 (k + 1) f fd ["rows", "parts", "most"] (spP R) := fn_pure F sc_ticks_for_parts len fun cdv A outer s H E hr => ⟨_, ps_ticks_for_parts bn hr C_part_fits h_part_fits, sx⟩
theorem ps_hold {cdv : Value} {A : Around} {outer : List PySem.Env} {s : Shared} {H : Hp} {E : XK} (bn : Bn mg) (hr : Room k (A.deeper (PyProof.Rows.envOfC "hold" (defScope s_hold) s.heap.objs.size f cdv))) {R_ticks_for_parts : List D → (D → Prop) → Prop} {k_ticks_for_parts : Nat} (C_ticks_for_parts : Cal P w K mg base "ticks_for_parts" ["rows", "parts", "most"] (spP R_ticks_for_parts) k_ticks_for_parts) (h_ticks_for_parts : k_ticks_for_parts ≤ k) :
    PSs (cxOf CX0 P w K mg base N_hold "hold" (defScope s_hold) f cdv A outer s H E).nox (defBody s_hold) (T_hold K R_ticks_for_parts) :=
  have nd := sc_hold.nd
  (pss_cons (ps_set (i := 3) nd rfl (by first | exact Or.inl rfl | exact Or.inr rfl) (pe_cal C_ticks_for_parts (hr.mono h_ticks_for_parts) (by rfl) (pa_cons (pv 0) (pa_cons (pv 1) (pa_cons (pv 2) pa_nil)))))
    (pss_cons (ps_for PassesOwn.never rfl (pi_enum (by rfl) bn.enumerate_ (pa_cons (pv 3) pa_nil)) (pg_tup (n := 2) rfl (pgs_cons (pg_name (i := 4) nd rfl (by first | exact Or.inl rfl | exact Or.inr rfl)) (pgs_cons (pg_name (i := 5) nd rfl (by first | exact Or.inl rfl | exact Or.inr rfl)) pgs_nil)))
      (pss_one (ps_if (pt_not (pt_tru (pt_truth (pv 5) (fun _ => rfl))))
      (pss_one (ps_ret (pe_tup (pa_cons pe_str (pa_cons (pv 4) (pa_cons (pe_slice sl_any (pv 3) po_none (po_some (pe_op op_plus (pv 4) pe_int))) pa_nil))))))
      pss_nil)))
    (pss_cons (ps_set (i := 6) nd rfl (by first | exact Or.inl rfl | exact Or.inr rfl) (pe_lst pa_nil))
    (pss_cons (ps_for PassesOwn.never rfl (pi_range3 (by rfl) bn.range_ (pa_cons (pe_op op_sub (pe_callB Pu.cb_len (by rfl) bn.len_ (by decide +kernel) (pa_cons (pv 1) pa_nil)) pe_int) (pa_cons (pe_un un_neg pe_int) (pa_cons (pe_un un_neg pe_int) pa_nil)))) (pg_name (i := 4) nd rfl (by first | exact Or.inl rfl | exact Or.inr rfl))
      (pss_one (ps_if (pt_not (pt_tru (pt_truth (pv 6) (fun _ => rfl))))
      (pss_one (ps_set (i := 6) nd rfl (by first | exact Or.inl rfl | exact Or.inr rfl) (pe_lst (pa_cons (pe_ix ix_any (pe_ix ix_any (pv 3) (pv 4) (fun _ _ => rfl)) pe_int (fun _ _ => rfl)) pa_nil))))
      (pss_cons (ps_set (i := 7) nd rfl (by first | exact Or.inl rfl | exact Or.inr rfl) (pe_callB Pu.cb_len (by rfl) bn.len_ (by decide +kernel) (pa_cons (pe_ix ix_any (pv 1) (pv 4) (fun _ _ => rfl)) pa_nil)))
    (pss_cons (ps_setLc (i := 5) (own := [("tick", 8)]) (g := (gName 8)) (tt := (tTest (tChain (rI0 fun i j => .bl (decide (i ≤ j))) (rI0 fun i j => .bl (decide (i ≤ j))) (tC (.int 0)) (tOp (rI0 fun i j => .int (i - j)) (tOp (rI0 fun i j => .int (i - j)) (tOp (rIxA K) (tVar 6) (tC (.int 0))) (tVar 8)) (tVar 7)) (tOp (rIxA K) (tVar 2) (tOp (rPlus K) (tVar 4) (tC (.int 1))))))) rfl nd rfl rfl (sw_true rfl rfl rfl (by decide +kernel)) (pi_list (pe_ix ix_any (pv 3) (pv 4) (fun _ _ => rfl))) (blkOk_by (N := N_hold) (sc := defScope s_hold) (by decide +kernel)) (fun _ _ _ _ _ => (pg_name (i := 8) nd rfl (by first | exact Or.inl rfl | exact Or.inr rfl))) (fun _ _ _ _ _ => (pts_one (pt_chain op_le op_le pe_int (pe_op op_sub (pe_op op_sub (pe_ix ix_any (pv 6) pe_int (fun _ _ => rfl)) (pv 8)) (pv 7)) (pe_ix ix_any (pv 2) (pe_op op_plus (pv 4) pe_int) (fun _ _ => rfl))))) (fun _ _ _ _ _ => (pv 8)))
    (pss_one (ps_set (i := 6) nd rfl (by first | exact Or.inl rfl | exact Or.inr rfl) (pe_op op_plus (pe_lst (pa_cons (pe_ix ix_any (pv 5) pe_int (fun _ _ => rfl)) pa_nil)) (pv 6)))))))))
    (pss_one (ps_ret (pe_tup (pa_cons pe_str (pa_cons (pv 6) pa_nil)))))))))
theorem ok_hold {R : List D → (D → Prop) → Prop} (F : Fun K "hold" "hold" s_hold f fd) (bn : Bn mg) {R_ticks_for_parts : List D → (D → Prop) → Prop} {k_ticks_for_parts : Nat} (C_ticks_for_parts : Cal P w K mg base "ticks_for_parts" ["rows", "parts", "most"] (spP R_ticks_for_parts) k_ticks_for_parts) (h_ticks_for_parts : k_ticks_for_parts ≤ k) (len : ∀ ds Z, R ds Z → ds.length = 3) (sx : ∀ ds Z, R ds Z → SX (T_hold K R_ticks_for_parts) (startE N_hold ds) { nx := fun _ => Z .none, rt := fun d _ => Z d }) :
    FnOk P w K mg base CX0 (k + 1) f fd ["rows", "parts", "most"] (spP R) := fn_pure F sc_hold len fun cdv A outer s H E hr => ⟨_, ps_hold bn hr C_ticks_for_parts h_ticks_for_parts, sx⟩
theorem ps_hold_fault {cdv : Value} {A : Around} {outer : List PySem.Env} {s : Shared} {H : Hp} {E : XK} (bn : Bn mg) (hr : Room k (A.deeper (PyProof.Rows.envOfC "hold_fault" (defScope s_hold_fault) s.heap.objs.size f cdv))) {R_ticks_for_parts : List D → (D → Prop) → Prop} {k_ticks_for_parts : Nat} (C_ticks_for_parts : Cal P w K mg base "ticks_for_parts" ["rows", "parts", "most"] (spP R_ticks_for_parts) k_ticks_for_parts) (h_ticks_for_parts : k_ticks_for_parts ≤ k) {R_part_fits : List D → (D → Prop) → Prop} {k_part_fits : Nat} (C_part_fits : Cal P w K mg base "part_fits" ["rows", "part", "tick"] (spP R_part_fits) k_part_fits) (h_part_fits : k_part_fits ≤ k) :
    PSs (cxOf CX0 P w K mg base N_hold_fault "hold_fault" (defScope s_hold_fault) f cdv A outer s H E).nox (defBody s_hold_fault) (T_hold_fault K R_ticks_for_parts R_part_fits) :=
  have nd := sc_hold_fault.nd
  (pss_cons (ps_set (i := 4) nd rfl (by first | exact Or.inl rfl | exact Or.inr rfl) (pe_cal C_ticks_for_parts (hr.mono h_ticks_for_parts) (by rfl) (pa_cons (pv 0) (pa_cons (pv 1) (pa_cons (pv 2) pa_nil)))))
    (pss_cons (ps_if (pt_cmpR (op_eqP hr.units) (pe_ix ix_any (pv 3) pe_int (fun _ _ => rfl)) pe_str (nomark _))
      (pss_cons (ps_asg (pv 3) (pg_tup (n := 3) rfl (pgs_cons (pg_name (i := 5) nd rfl (by first | exact Or.inl rfl | exact Or.inr rfl)) (pgs_cons (pg_name (i := 6) nd rfl (by first | exact Or.inl rfl | exact Or.inr rfl)) (pgs_cons (pg_name (i := 7) nd rfl (by first | exact Or.inl rfl | exact Or.inr rfl)) pgs_nil)))))
    (pss_cons (ps_if (PW.pt (pw_or (pt_not (pt_chain op_le op_lt pe_int (pv 6) (pe_callB Pu.cb_len (by rfl) bn.len_ (by decide +kernel) (pa_cons (pv 1) pa_nil)))) (pw_or1 (pt_cmpR (op_neP hr.units) (pe_callB Pu.cb_len (by rfl) bn.len_ (by decide +kernel) (pa_cons (pv 7) pa_nil)) (pe_op op_plus (pv 6) pe_int) (nomark _)))))
      (pss_one (ps_ret (pe_tup (pa_cons pe_str pa_nil))))
      pss_nil)
    (pss_cons (ps_for PassesOwn.never rfl (pi_enum (by rfl) bn.enumerate_ (pa_cons (pv 7) pa_nil)) (pg_tup (n := 2) rfl (pgs_cons (pg_name (i := 8) nd rfl (by first | exact Or.inl rfl | exact Or.inr rfl)) (pgs_cons (pg_name (i := 9) nd rfl (by first | exact Or.inl rfl | exact Or.inr rfl)) pgs_nil)))
      (pss_one (ps_if (pt_cmpR (op_neP hr.units) (pv 9) (pe_ix ix_any (pv 4) (pv 8) (fun _ _ => rfl)) (nomark _))
      (pss_one (ps_ret (pe_tup (pa_cons pe_str (pa_cons (pv 8) pa_nil)))))
      pss_nil)))
    (pss_one (ps_ret (pe_ifExp (PW.pt (pw_and (pt_cmpR (op_eqP hr.units) (pe_ix ix_any (pv 7) (pe_un un_neg pe_int) (fun _ _ => rfl)) (pe_lst pa_nil) (nomark _)) (pw_and1 (pt_cmpR (op_ninP hr.units) (pe_lst pa_nil) (pe_slice sl_any (pv 7) po_none (po_some (pe_un un_neg pe_int))) (by rfl))))) pe_non (pe_tup (pa_cons pe_str pa_nil))))))))
      pss_nil)
    (pss_cons (ps_set (i := 10) nd rfl (by first | exact Or.inl rfl | exact Or.inr rfl) (pe_ix ix_any (pv 3) pe_int (fun _ _ => rfl)))
    (pss_cons (ps_if (pt_cmpR (op_neP hr.units) (pe_callB Pu.cb_len (by rfl) bn.len_ (by decide +kernel) (pa_cons (pv 10) pa_nil)) (pe_callB Pu.cb_len (by rfl) bn.len_ (by decide +kernel) (pa_cons (pv 1) pa_nil)) (nomark _))
      (pss_one (ps_ret (pe_tup (pa_cons pe_str pa_nil))))
      pss_nil)
    (pss_cons (ps_for PassesOwn.never rfl (pi_enum (by rfl) bn.enumerate_ (pa_cons (pv 10) pa_nil)) (pg_tup (n := 2) rfl (pgs_cons (pg_name (i := 6) nd rfl (by first | exact Or.inl rfl | exact Or.inr rfl)) (pgs_cons (pg_name (i := 11) nd rfl (by first | exact Or.inl rfl | exact Or.inr rfl)) pgs_nil)))
      (pss_cons (ps_if (PW.pt (pw_or (pt_cmpR op_lt (pv 11) pe_int (nomark _)) (pw_or1 (pt_not (pt_val (pe_cal C_part_fits (hr.mono h_part_fits) (by rfl) (pa_cons (pv 0) (pa_cons (pe_ix ix_any (pv 1) (pv 6) (fun _ _ => rfl)) (pa_cons (pv 11) pa_nil)))))))))
      (pss_one (ps_ret (pe_tup (pa_cons pe_str (pa_cons (pv 6) pa_nil)))))
      pss_nil)
    (pss_cons (ps_set (i := 12) nd rfl (by first | exact Or.inl rfl | exact Or.inr rfl) (pe_ifExp (pt_cmpR (op_eqP hr.units) (pv 6) pe_int (nomark _)) (pv 11) (pe_op op_sub (pe_op op_sub (pv 11) (pe_ix ix_any (pv 10) (pe_op op_sub (pv 6) pe_int) (fun _ _ => rfl))) (pe_callB Pu.cb_len (by rfl) bn.len_ (by decide +kernel) (pa_cons (pe_ix ix_any (pv 1) (pe_op op_sub (pv 6) pe_int) (fun _ _ => rfl)) pa_nil)))))
    (pss_one (ps_if (pt_not (pt_chain op_le op_le pe_int (pv 12) (pe_ix ix_any (pv 2) (pv 6) (fun _ _ => rfl))))
      (pss_one (ps_ret (pe_tup (pa_cons pe_str (pa_cons (pv 6) pa_nil)))))
      pss_nil)))))
    (pss_one (ps_ret (pe_ifExp (PW.pt (pw_or (pt_not (pt_tru (pt_truth (pv 10) (fun _ => rfl)))) (pw_or1 (pt_cmpR (op_eqP hr.units) (pe_ix ix_any (pv 10) (pe_un un_neg pe_int) (fun _ _ => rfl)) (pe_ix ix_any (pe_ix ix_any (pv 4) (pe_un un_neg pe_int) (fun _ _ => rfl)) pe_int (fun _ _ => rfl)) (nomark _))))) pe_non (pe_tup (pa_cons pe_str pa_nil))))))))))
theorem ok_hold_fault {R : List D → (D → Prop) → Prop} (F : Fun K "hold_fault" "hold_fault" s_hold_fault f fd) (bn : Bn mg) {R_ticks_for_parts : List D → (D → Prop) → Prop} {k_ticks_for_parts : Nat} (C_ticks_for_parts : Cal P w K mg base "ticks_for_parts" ["rows", "parts", "most"] (spP R_ticks_for_parts) k_ticks_for_parts) (h_ticks_for_parts : k_ticks_for_parts ≤ k) {R_part_fits : List D → (D → Prop) → Prop} {k_part_fits : Nat} (C_part_fits : Cal P w K mg base "part_fits" ["rows", "part", "tick"] (spP R_part_fits) k_part_fits) (h_part_fits : k_part_fits ≤ k) (len : ∀ ds Z, R ds Z → ds.length = 4) (sx : ∀ ds Z, R ds Z → SX (T_hold_fault K R_ticks_for_parts R_part_fits) (startE N_hold_fault ds) { nx := fun _ => Z .none, rt := fun d _ => Z d }) :
    FnOk P w K mg base CX0 (k + 1) f fd ["rows", "parts", "most", "told"] (spP R) := fn_pure F sc_hold_fault len fun cdv A outer s H E hr => ⟨_, ps_hold_fault bn hr C_ticks_for_parts h_ticks_for_parts C_part_fits h_part_fits, sx⟩
theorem ps_waits_of {cdv : Value} {A : Around} {outer : List PySem.Env} {s : Shared} {H : Hp} {E : XK} (bn : Bn mg) (hr : Room k (A.deeper (PyProof.Rows.envOfC "waits_of" (defScope s_waits_of) s.heap.objs.size f cdv))) :
    PSs (cxOf CX0 P w K mg base N_waits_of "waits_of" (defScope s_waits_of) f cdv A outer s H E).nox (defBody s_waits_of) (T_waits_of K) :=
  have nd := sc_waits_of.nd
  (pss_cons (ps_set (i := 2) nd rfl (by first | exact Or.inl rfl | exact Or.inr rfl) (pe_lst pa_nil))
    (pss_cons (ps_set (i := 3) nd rfl (by first | exact Or.inl rfl | exact Or.inr rfl) pe_int)
    (pss_cons (ps_for PassesOwn.never rfl (pi_zip (by rfl) bn.zip_ (pa_cons (pv 0) (pa_cons (pv 1) pa_nil))) (pg_tup (n := 2) rfl (pgs_cons (pg_name (i := 4) nd rfl (by first | exact Or.inl rfl | exact Or.inr rfl)) (pgs_cons (pg_name (i := 5) nd rfl (by first | exact Or.inl rfl | exact Or.inr rfl)) pgs_nil)))
      (pss_cons (ps_expr (pe_bm PySem.F.plainAttrs_list PySem.F.slot_list_append PySem.F.type_list_append mt_append (pv 2) (pa_cons (pe_op op_sub (pv 5) (pv 3)) pa_nil)))
    (pss_one (ps_set (i := 3) nd rfl (by first | exact Or.inl rfl | exact Or.inr rfl) (pe_op op_plus (pv 5) (pe_callB Pu.cb_len (by rfl) bn.len_ (by decide +kernel) (pa_cons (pv 4) pa_nil)))))))
    (pss_one (ps_ret (pv 2))))))
theorem ok_waits_of {R : List D → (D → Prop) → Prop} (F : Fun K "waits_of" "waits_of" s_waits_of f fd) (bn : Bn mg) (len : ∀ ds Z, R ds Z → ds.length = 2) (sx : ∀ ds Z, R ds Z → SX (T_waits_of K) (startE N_waits_of ds) { nx := fun _ => Z .none, rt := fun d _ => Z d }) :
    FnOk P w K mg base CX0 (k + 1) f fd ["parts", "ticks"] (spP R) := fn_pure F sc_waits_of len fun cdv A outer s H E hr => ⟨_, ps_waits_of bn hr, sx⟩
theorem ps_least_hold {cdv : Value} {A : Around} {outer : List PySem.Env} {s : Shared} {H : Hp} {E : XK} (bn : Bn mg) (hr : Room k (A.deeper (PyProof.Rows.envOfC "least_hold" (defScope s_least_hold) s.heap.objs.size f cdv))) {R_hold : List D → (D → Prop) → Prop} {k_hold : Nat} (C_hold : Cal P w K mg base "hold" ["rows", "parts", "most"] (spP R_hold) k_hold) (h_hold : k_hold ≤ k) :
    PSs (cxOf CX0 P w K mg base N_least_hold "least_hold" (defScope s_least_hold) f cdv A outer s H E).nox (defBody s_least_hold) (T_least_hold K R_hold) :=
  have nd := sc_least_hold.nd
  (pss_cons (ps_for PassesOwn.never rfl (pi_range1 (by rfl) bn.range_ (pa_cons (pe_op op_plus (pe_callB Pu.cb_len (by rfl) bn.len_ (by decide +kernel) (pa_cons (pv 0) pa_nil)) pe_int) pa_nil)) (pg_name (i := 2) nd rfl (by first | exact Or.inl rfl | exact Or.inr rfl))
      (pss_cons (ps_set (i := 3) nd rfl (by first | exact Or.inl rfl | exact Or.inr rfl) (pe_cal C_hold (hr.mono h_hold) (by rfl) (pa_cons (pv 0) (pa_cons (pv 1) (pa_cons (pe_lc (own := [("_", 4)]) (g := (gName 4)) (tt := tYes) rfl nd (pi_list (pv 1)) (blkOk_by (N := N_least_hold) (sc := defScope s_least_hold) (by decide +kernel)) (fun _ _ _ _ _ => (pg_name (i := 4) nd rfl (by first | exact Or.inl rfl | exact Or.inr rfl))) (fun _ _ _ _ _ => pts_nil) (fun _ _ _ _ _ => (pv 2))) pa_nil)))))
    (pss_one (ps_if (pt_cmpR (op_eqP hr.units) (pe_ix ix_any (pv 3) pe_int (fun _ _ => rfl)) pe_str (nomark _))
      (pss_one (ps_ret (pe_tup (pa_cons (pv 2) (pa_cons (pe_ix ix_any (pv 3) pe_int (fun _ _ => rfl)) pa_nil)))))
      pss_nil))))
    (pss_one (ps_ret pe_non)))
theorem ok_least_hold {R : List D → (D → Prop) → Prop} (F : Fun K "least_hold" "least_hold" s_least_hold f fd) (bn : Bn mg) {R_hold : List D → (D → Prop) → Prop} {k_hold : Nat} (C_hold : Cal P w K mg base "hold" ["rows", "parts", "most"] (spP R_hold) k_hold) (h_hold : k_hold ≤ k) (len : ∀ ds Z, R ds Z → ds.length = 2) (sx : ∀ ds Z, R ds Z → SX (T_least_hold K R_hold) (startE N_least_hold ds) { nx := fun _ => Z .none, rt := fun d _ => Z d }) :
    FnOk P w K mg base CX0 (k + 1) f fd ["rows", "parts"] (spP R) := fn_pure F sc_least_hold len fun cdv A outer s H E hr => ⟨_, ps_least_hold bn hr C_hold h_hold, sx⟩
theorem ps_parts_of {cdv : Value} {A : Around} {outer : List PySem.Env} {s : Shared} {H : Hp} {E : XK} (bn : Bn mg) (hr : Room k (A.deeper (PyProof.Rows.envOfC "parts_of" (defScope s_parts_of) s.heap.objs.size f cdv))) :
    PSs (cxOf CX0 P w K mg base N_parts_of "parts_of" (defScope s_parts_of) f cdv A outer s H E).nox (defBody s_parts_of) (T_parts_of K) :=
  have nd := sc_parts_of.nd
  (pss_cons (ps_set (i := 2) nd rfl (by first | exact Or.inl rfl | exact Or.inr rfl) (pe_op op_plus (pe_op op_plus (pe_lst (pa_cons pe_int pa_nil)) (pe_callTy cb_list (by rfl) bn.list_ (by decide +kernel) (pa_cons (pv 1) pa_nil))) (pe_lst (pa_cons (pe_callB Pu.cb_len (by rfl) bn.len_ (by decide +kernel) (pa_cons (pv 0) pa_nil)) pa_nil))))
    (pss_one (ps_ret (pe_lc (own := [("at", 3)]) (g := (gName 3)) (tt := tYes) rfl nd (pi_range1 (by rfl) bn.range_ (pa_cons (pe_op op_sub (pe_callB Pu.cb_len (by rfl) bn.len_ (by decide +kernel) (pa_cons (pv 2) pa_nil)) pe_int) pa_nil)) (blkOk_by (N := N_parts_of) (sc := defScope s_parts_of) (by decide +kernel)) (fun _ _ _ _ _ => (pg_name (i := 3) nd rfl (by first | exact Or.inl rfl | exact Or.inr rfl))) (fun _ _ _ _ _ => pts_nil) (fun _ _ _ _ _ => (pe_slice sl_any (pv 0) (po_some (pe_ix ix_any (pv 2) (pv 3) (fun _ _ => rfl))) (po_some (pe_ix ix_any (pv 2) (pe_op op_plus (pv 3) pe_int) (fun _ _ => rfl)))))))))
theorem ok_parts_of {R : List D → (D → Prop) → Prop} (F : Fun K "parts_of" "parts_of" s_parts_of f fd) (bn : Bn mg) (len : ∀ ds Z, R ds Z → ds.length = 2) (sx : ∀ ds Z, R ds Z → SX (T_parts_of K) (startE N_parts_of ds) { nx := fun _ => Z .none, rt := fun d _ => Z d }) :
    FnOk P w K mg base CX0 (k + 1) f fd ["needs", "cuts"] (spP R) := fn_pure F sc_parts_of len fun cdv A outer s H E hr => ⟨_, ps_parts_of bn hr, sx⟩
theorem ps_l_state {cdv : Value} {A : Around} {outer : List PySem.Env} {s : Shared} {H : Hp} {E : XK} (bn : Bn mg) (hr : Room k (A.deeper (PyProof.Rows.envOfC "_law_state" (defScope s_l_state) s.heap.objs.size f cdv))) :
    PSs (cxOf CX0 P w K mg base N_l_state "_law_state" (defScope s_l_state) f cdv A outer s H E).nox (defBody s_l_state) (T_l_state K) :=
  have nd := sc_l_state.nd
  (pss_cons (ps_setLc (i := 1) (own := [("cell", 2)]) (g := (gName 2)) (tt := tYes) rfl nd rfl rfl (sw_true rfl rfl rfl (by decide +kernel)) (pi_list (pe_slice sl_any (pv 0) po_none (po_some pe_int))) (blkOk_by (N := N_l_state) (sc := defScope s_l_state) (by decide +kernel)) (fun _ _ _ _ _ => (pg_name (i := 2) nd rfl (by first | exact Or.inl rfl | exact Or.inr rfl))) (fun _ _ _ _ _ => pts_nil) (fun _ _ _ _ _ => (pe_callB cb_abs (by rfl) bn.abs_ (by decide +kernel) (pa_cons (pv 2) pa_nil))))
    (pss_cons (ps_if (pt_cmpR (op_eqP hr.units) (pe_callB Pu.cb_len (by rfl) bn.len_ (by decide +kernel) (pa_cons (pv 1) pa_nil)) pe_int (nomark _))
      (pss_one (ps_set (i := 1) nd rfl (by first | exact Or.inl rfl | exact Or.inr rfl) (pe_lst (pa_cons pe_int pa_nil))))
      pss_nil)
    (pss_one (ps_ret (pe_lst (pa_cons pe_int (pa_cons (pv 1) pa_nil)))))))
theorem ps_l_take {cdv : Value} {A : Around} {outer : List PySem.Env} {s : Shared} {H : Hp} {E : XK} (bn : Bn mg) (hr : Room k (A.deeper (PyProof.Rows.envOfC "_law_take" (defScope s_l_take) s.heap.objs.size f cdv))) :
    PSs (cxOf CX0 P w K mg base N_l_take "_law_take" (defScope s_l_take) f cdv A outer s H E).nox (defBody s_l_take) (T_l_take K) :=
  have nd := sc_l_take.nd
  (pss_cons (ps_set (i := 2) nd rfl (by first | exact Or.inl rfl | exact Or.inr rfl) (pe_ix ix_any (pv 0) pe_int (fun _ _ => rfl)))
    (pss_cons (ps_set (i := 3) nd rfl (by first | exact Or.inl rfl | exact Or.inr rfl) (pe_op op_mod (pe_ix ix_any (pv 0) pe_int (fun _ _ => rfl)) (pe_callB Pu.cb_len (by rfl) bn.len_ (by decide +kernel) (pa_cons (pv 2) pa_nil))))
    (pss_cons (ps_set (i := 4) nd rfl (by first | exact Or.inl rfl | exact Or.inr rfl) (pe_ix ix_any (pv 2) (pv 3) (fun _ _ => rfl)))
    (pss_cons (ps_if (pt_cmpR op_ge (pv 4) pe_int (nomark _))
      (pss_cons (ps_asg (pe_op op_fdiv (pv 4) (pv 1)) (pg_sub (pv 2) (pv 3) set_list))
    (pss_one (ps_ret (pe_op op_mod (pv 4) (pv 1)))))
      pss_nil)
    (pss_cons (ps_asg (pe_op op_plus (pe_ix ix_any (pv 0) pe_int (fun _ _ => rfl)) pe_int) (pg_sub (pv 0) pe_int set_list))
    (pss_cons (ps_set (i := 5) nd rfl (by first | exact Or.inl rfl | exact Or.inr rfl) (pe_op op_mod (pe_callTy cb_int (by rfl) bn.int_ (by decide +kernel) (pa_cons (pe_op op_plus (pe_op op_mul (pv 4) pe_int) (pe_op op_mul (pe_ix ix_any (pv 0) pe_int (fun _ _ => rfl)) pe_int)) pa_nil)) pe_int))
    (pss_cons (ps_set (i := 5) nd rfl (by first | exact Or.inl rfl | exact Or.inr rfl) (pe_op op_mod (pe_callTy cb_int (by rfl) bn.int_ (by decide +kernel) (pa_cons (pe_op op_plus (pe_op op_mul (pv 5) pe_int) (pe_op op_mul (pe_ix ix_any (pv 0) pe_int (fun _ _ => rfl)) pe_int)) pa_nil)) pe_int))
    (pss_one (ps_ret (pe_op op_mod (pe_op op_fdiv (pv 5) pe_int) (pv 1)))))))))))
theorem ps_l_fits {cdv : Value} {A : Around} {outer : List PySem.Env} {s : Shared} {H : Hp} {E : XK} (bn : Bn mg) (hr : Room k (A.deeper (PyProof.Rows.envOfC "_law_fits" (defScope s_l_fits) s.heap.objs.size f cdv))) :
    PSs (cxOf CX0 P w K mg base N_l_fits "_law_fits" (defScope s_l_fits) f cdv A outer s H E).nox (defBody s_l_fits) (T_l_fits K) :=
  have nd := sc_l_fits.nd
  (pss_cons (ps_if (PW.pt (pw_or (pt_cmpR op_lt (pv 2) pe_int (nomark _)) (pw_or1 (pt_cmpR op_gt (pe_op op_plus (pv 2) (pe_callB Pu.cb_len (by rfl) bn.len_ (by decide +kernel) (pa_cons (pv 1) pa_nil))) (pe_callB Pu.cb_len (by rfl) bn.len_ (by decide +kernel) (pa_cons (pv 0) pa_nil)) (nomark _)))))
      (pss_one (ps_ret pe_bl))
      pss_nil)
    (pss_one (ps_ret (pe_cmpR (op_eqP hr.units) (pe_callB Pu.cb_len (by rfl) bn.len_ (by decide +kernel) (pa_cons (pe_lc (own := [("k", 3)]) (g := (gName 3)) (tt := (tOr (tTest (tOp (rI0 fun i j => .bl (decide (i < j))) (tOp (rIxA K) (tOp (rIxA K) (tVar 0) (tOp (rPlus K) (tVar 2) (tVar 3))) (tC (.int 0))) (tOp (rIxA K) (tOp (rIxA K) (tVar 1) (tVar 3)) (tC (.int 0))))) (tTest (tOp (rI0 fun i j => .bl (decide (j < i))) (tOp (rIxA K) (tOp (rIxA K) (tVar 0) (tOp (rPlus K) (tVar 2) (tVar 3))) (tC (.int 1))) (tOp (rIxA K) (tOp (rIxA K) (tVar 1) (tVar 3)) (tC (.int 1))))))) rfl nd (pi_range1 (by rfl) bn.range_ (pa_cons (pe_callB Pu.cb_len (by rfl) bn.len_ (by decide +kernel) (pa_cons (pv 1) pa_nil)) pa_nil)) (blkOk_by (N := N_l_fits) (sc := defScope s_l_fits) (by decide +kernel)) (fun _ _ _ _ _ => (pg_name (i := 3) nd rfl (by first | exact Or.inl rfl | exact Or.inr rfl))) (fun _ _ _ _ _ => (pts_one (PW.pt (pw_or (pt_cmpR op_lt (pe_ix ix_any (pe_ix ix_any (pv 0) (pe_op op_plus (pv 2) (pv 3)) (fun _ _ => rfl)) pe_int (fun _ _ => rfl)) (pe_ix ix_any (pe_ix ix_any (pv 1) (pv 3) (fun _ _ => rfl)) pe_int (fun _ _ => rfl)) (nomark _)) (pw_or1 (pt_cmpR op_gt (pe_ix ix_any (pe_ix ix_any (pv 0) (pe_op op_plus (pv 2) (pv 3)) (fun _ _ => rfl)) pe_int (fun _ _ => rfl)) (pe_ix ix_any (pe_ix ix_any (pv 1) (pv 3) (fun _ _ => rfl)) pe_int (fun _ _ => rfl)) (nomark _))))))) (fun _ _ _ _ _ => (pv 3))) pa_nil)) pe_int (nomark _)))))
theorem ok_l_fits {R : List D → (D → Prop) → Prop} (F : Fun K "_law_fits" "_law_fits" s_l_fits f fd) (bn : Bn mg) (len : ∀ ds Z, R ds Z → ds.length = 3) (sx : ∀ ds Z, R ds Z → SX (T_l_fits K) (startE N_l_fits ds) { nx := fun _ => Z .none, rt := fun d _ => Z d }) :
    FnOk P w K mg base CX0 (k + 1) f fd ["rows", "part", "tick"] (spP R) := fn_pure F sc_l_fits len fun cdv A outer s H E hr => ⟨_, ps_l_fits bn hr, sx⟩
theorem ps_l_ways {cdv : Value} {A : Around} {outer : List PySem.Env} {s : Shared} {H : Hp} {E : XK} (bn : Bn mg) (hr : Room k (A.deeper (PyProof.Rows.envOfC "_law_ways" (defScope s_l_ways) s.heap.objs.size f cdv))) {R_l_fits : List D → (D → Prop) → Prop} {k_l_fits : Nat} (C_l_fits : Cal P w K mg base "_law_fits" ["rows", "part", "tick"] (spP R_l_fits) k_l_fits) (h_l_fits : k_l_fits ≤ k) {R_l_ways : List D → (D → Prop) → Prop} {k_l_ways : Nat} (C_l_ways : Cal P w K mg base "_law_ways" ["rows", "parts", "most", "row", "end"] (spP R_l_ways) k_l_ways) (h_l_ways : k_l_ways ≤ k) :
    PSs (cxOf CX0 P w K mg base N_l_ways "_law_ways" (defScope s_l_ways) f cdv A outer s H E).nox (defBody s_l_ways) (T_l_ways K R_l_fits R_l_ways) :=
  have nd := sc_l_ways.nd
  (pss_cons (ps_if (pt_cmpR (op_eqP hr.units) (pe_callB Pu.cb_len (by rfl) bn.len_ (by decide +kernel) (pa_cons (pv 3) pa_nil)) (pe_callB Pu.cb_len (by rfl) bn.len_ (by decide +kernel) (pa_cons (pv 1) pa_nil)) (nomark _))
      (pss_one (ps_ret (pe_lst (pa_cons (pv 3) pa_nil))))
      pss_nil)
    (pss_cons (ps_set (i := 5) nd rfl (by first | exact Or.inl rfl | exact Or.inr rfl) (pe_lst pa_nil))
    (pss_cons (ps_set (i := 6) nd rfl (by first | exact Or.inl rfl | exact Or.inr rfl) (pe_ix ix_any (pv 1) (pe_callB Pu.cb_len (by rfl) bn.len_ (by decide +kernel) (pa_cons (pv 3) pa_nil)) (fun _ _ => rfl)))
    (pss_cons (ps_for PassesOwn.never rfl (pi_range1 (by rfl) bn.range_ (pa_cons (pe_op op_plus (pe_ix ix_any (pv 2) (pe_callB Pu.cb_len (by rfl) bn.len_ (by decide +kernel) (pa_cons (pv 3) pa_nil)) (fun _ _ => rfl)) pe_int) pa_nil)) (pg_name (i := 7) nd rfl (by first | exact Or.inl rfl | exact Or.inr rfl))
      (pss_one (ps_if (pt_val (pe_cal C_l_fits (hr.mono h_l_fits) (by rfl) (pa_cons (pv 0) (pa_cons (pv 6) (pa_cons (pe_op op_plus (pv 4) (pv 7)) pa_nil)))))
      (pss_one (ps_expr (pe_bm PySem.F.plainAttrs_list PySem.F.slot_list_extend PySem.F.type_list_extend mt_extR (pv 5) (pa_cons (pe_cal C_l_ways (hr.mono h_l_ways) (by rfl) (pa_cons (pv 0) (pa_cons (pv 1) (pa_cons (pv 2) (pa_cons (pe_op op_plus (pv 3) (pe_lst (pa_cons (pe_op op_plus (pv 4) (pv 7)) pa_nil))) (pa_cons (pe_op op_plus (pe_op op_plus (pv 4) (pv 7)) (pe_callB Pu.cb_len (by rfl) bn.len_ (by decide +kernel) (pa_cons (pv 6) pa_nil))) pa_nil)))))) pa_nil))))
      pss_nil)))
    (pss_one (ps_ret (pv 5)))))))
theorem ok_l_ways {R : List D → (D → Prop) → Prop} (F : Fun K "_law_ways" "_law_ways" s_l_ways f fd) (bn : Bn mg) {R_l_fits : List D → (D → Prop) → Prop} {k_l_fits : Nat} (C_l_fits : Cal P w K mg base "_law_fits" ["rows", "part", "tick"] (spP R_l_fits) k_l_fits) (h_l_fits : k_l_fits ≤ k) {R_l_ways : List D → (D → Prop) → Prop} {k_l_ways : Nat} (C_l_ways : Cal P w K mg base "_law_ways" ["rows", "parts", "most", "row", "end"] (spP R_l_ways) k_l_ways) (h_l_ways : k_l_ways ≤ k) (len : ∀ ds Z, R ds Z → ds.length = 5) (sx : ∀ ds Z, R ds Z → SX (T_l_ways K R_l_fits R_l_ways) (startE N_l_ways ds) { nx := fun _ => Z .none, rt := fun d _ => Z d }) :
    FnOk P w K mg base CX0 (k + 1) f fd ["rows", "parts", "most", "row", "end"] (spP R) := fn_pure F sc_l_ways len fun cdv A outer s H E hr => ⟨_, ps_l_ways bn hr C_l_fits h_l_fits C_l_ways h_l_ways, sx⟩
theorem ps_l_lots {cdv : Value} {A : Around} {outer : List PySem.Env} {s : Shared} {H : Hp} {E : XK} (bn : Bn mg) (hr : Room k (A.deeper (PyProof.Rows.envOfC "_law_lots" (defScope s_l_lots) s.heap.objs.size f cdv))) {R_l_ways : List D → (D → Prop) → Prop} {k_l_ways : Nat} (C_l_ways : Cal P w K mg base "_law_ways" ["rows", "parts", "most", "row", "end"] (spP R_l_ways) k_l_ways) (h_l_ways : k_l_ways ≤ k) :
    PSs (cxOf CX0 P w K mg base N_l_lots "_law_lots" (defScope s_l_lots) f cdv A outer s H E).nox (defBody s_l_lots) (T_l_lots K R_l_ways) :=
  have nd := sc_l_lots.nd
  (pss_cons (ps_set (i := 3) nd rfl (by first | exact Or.inl rfl | exact Or.inr rfl) (pe_lst pa_nil))
    (pss_cons (ps_for PassesOwn.never rfl (pi_range1 (by rfl) bn.range_ (pa_cons (pe_callB Pu.cb_len (by rfl) bn.len_ (by decide +kernel) (pa_cons (pv 1) pa_nil)) pa_nil)) (pg_name (i := 4) nd rfl (by first | exact Or.inl rfl | exact Or.inr rfl))
      (pss_one (ps_expr (pe_bm PySem.F.plainAttrs_list PySem.F.slot_list_append PySem.F.type_list_append mt_append (pv 3) (pa_cons (pe_sortSet rfl (by rfl) bn.sorted_ (by rfl) bn.set_ (pe_lc (own := [("row", 5)]) (g := (gName 5)) (tt := tYes) rfl nd (pi_list (pe_cal C_l_ways (hr.mono h_l_ways) (by rfl) (pa_cons (pv 0) (pa_cons (pe_slice sl_any (pv 1) po_none (po_some (pe_op op_plus (pv 4) pe_int))) (pa_cons (pe_slice sl_any (pv 2) po_none (po_some (pe_op op_plus (pv 4) pe_int))) (pa_cons (pe_lst pa_nil) (pa_cons pe_int pa_nil))))))) (blkOk_by (N := N_l_lots) (sc := defScope s_l_lots) (by decide +kernel)) (fun _ _ _ _ _ => (pg_name (i := 5) nd rfl (by first | exact Or.inl rfl | exact Or.inr rfl))) (fun _ _ _ _ _ => pts_nil) (fun _ _ _ _ _ => (pe_ix ix_any (pv 5) (pv 4) (fun _ _ => rfl))))) pa_nil)))))
    (pss_one (ps_ret (pv 3)))))
theorem ok_l_lots {R : List D → (D → Prop) → Prop} (F : Fun K "_law_lots" "_law_lots" s_l_lots f fd) (bn : Bn mg) {R_l_ways : List D → (D → Prop) → Prop} {k_l_ways : Nat} (C_l_ways : Cal P w K mg base "_law_ways" ["rows", "parts", "most", "row", "end"] (spP R_l_ways) k_l_ways) (h_l_ways : k_l_ways ≤ k) (len : ∀ ds Z, R ds Z → ds.length = 3) (sx : ∀ ds Z, R ds Z → SX (T_l_lots K R_l_ways) (startE N_l_lots ds) { nx := fun _ => Z .none, rt := fun d _ => Z d }) :
    FnOk P w K mg base CX0 (k + 1) f fd ["rows", "parts", "most"] (spP R) := fn_pure F sc_l_lots len fun cdv A outer s H E hr => ⟨_, ps_l_lots bn hr C_l_ways h_l_ways, sx⟩
theorem ps_l_fault {cdv : Value} {A : Around} {outer : List PySem.Env} {s : Shared} {H : Hp} {E : XK} (bn : Bn mg) (hr : Room k (A.deeper (PyProof.Rows.envOfC "_law_fault" (defScope s_l_fault) s.heap.objs.size f cdv))) {R_l_fits : List D → (D → Prop) → Prop} {k_l_fits : Nat} (C_l_fits : Cal P w K mg base "_law_fits" ["rows", "part", "tick"] (spP R_l_fits) k_l_fits) (h_l_fits : k_l_fits ≤ k) :
    PSs (cxOf CX0 P w K mg base N_l_fault "_law_fault" (defScope s_l_fault) f cdv A outer s H E).nox (defBody s_l_fault) (T_l_fault K R_l_fits) :=
  have nd := sc_l_fault.nd
  (pss_cons (ps_if (pt_cmpR (op_eqP hr.units) (pe_ix ix_any (pv 4) pe_int (fun _ _ => rfl)) pe_str (nomark _))
      (pss_cons (ps_asg (pv 4) (pg_tup (n := 3) rfl (pgs_cons (pg_name (i := 5) nd rfl (by first | exact Or.inl rfl | exact Or.inr rfl)) (pgs_cons (pg_name (i := 6) nd rfl (by first | exact Or.inl rfl | exact Or.inr rfl)) (pgs_cons (pg_name (i := 7) nd rfl (by first | exact Or.inl rfl | exact Or.inr rfl)) pgs_nil)))))
    (pss_cons (ps_if (PW.pt (pw_or (pt_not (pt_chain op_le op_lt pe_int (pv 6) (pe_callB Pu.cb_len (by rfl) bn.len_ (by decide +kernel) (pa_cons (pv 1) pa_nil)))) (pw_or1 (pt_cmpR (op_neP hr.units) (pe_callB Pu.cb_len (by rfl) bn.len_ (by decide +kernel) (pa_cons (pv 7) pa_nil)) (pe_op op_plus (pv 6) pe_int) (nomark _)))))
      (pss_one (ps_ret (pe_tup (pa_cons pe_str pa_nil))))
      pss_nil)
    (pss_cons (ps_for PassesOwn.never rfl (pi_range1 (by rfl) bn.range_ (pa_cons (pe_callB Pu.cb_len (by rfl) bn.len_ (by decide +kernel) (pa_cons (pv 7) pa_nil)) pa_nil)) (pg_name (i := 8) nd rfl (by first | exact Or.inl rfl | exact Or.inr rfl))
      (pss_one (ps_if (pt_cmpR (op_neP hr.units) (pe_ix ix_any (pv 7) (pv 8) (fun _ _ => rfl)) (pe_ix ix_any (pv 3) (pv 8) (fun _ _ => rfl)) (nomark _))
      (pss_one (ps_ret (pe_tup (pa_cons pe_str (pa_cons (pv 8) pa_nil)))))
      pss_nil)))
    (pss_one (ps_ret (pe_ifExp (PW.pt (pw_and (pt_cmpR (op_eqP hr.units) (pe_ix ix_any (pv 7) (pe_un un_neg pe_int) (fun _ _ => rfl)) (pe_lst pa_nil) (nomark _)) (pw_and1 (pt_cmpR (op_ninP hr.units) (pe_lst pa_nil) (pe_slice sl_any (pv 7) po_none (po_some (pe_un un_neg pe_int))) (by rfl))))) pe_non (pe_tup (pa_cons pe_str pa_nil))))))))
      pss_nil)
    (pss_cons (ps_set (i := 9) nd rfl (by first | exact Or.inl rfl | exact Or.inr rfl) (pe_ix ix_any (pv 4) pe_int (fun _ _ => rfl)))
    (pss_cons (ps_if (pt_cmpR (op_neP hr.units) (pe_callB Pu.cb_len (by rfl) bn.len_ (by decide +kernel) (pa_cons (pv 9) pa_nil)) (pe_callB Pu.cb_len (by rfl) bn.len_ (by decide +kernel) (pa_cons (pv 1) pa_nil)) (nomark _))
      (pss_one (ps_ret (pe_tup (pa_cons pe_str pa_nil))))
      pss_nil)
    (pss_cons (ps_for PassesOwn.never rfl (pi_range1 (by rfl) bn.range_ (pa_cons (pe_callB Pu.cb_len (by rfl) bn.len_ (by decide +kernel) (pa_cons (pv 1) pa_nil)) pa_nil)) (pg_name (i := 8) nd rfl (by first | exact Or.inl rfl | exact Or.inr rfl))
      (pss_cons (ps_if (pt_not (pt_val (pe_cal C_l_fits (hr.mono h_l_fits) (by rfl) (pa_cons (pv 0) (pa_cons (pe_ix ix_any (pv 1) (pv 8) (fun _ _ => rfl)) (pa_cons (pe_ix ix_any (pv 9) (pv 8) (fun _ _ => rfl)) pa_nil))))))
      (pss_one (ps_ret (pe_tup (pa_cons pe_str (pa_cons (pv 8) pa_nil)))))
      pss_nil)
    (pss_cons (ps_set (i := 10) nd rfl (by first | exact Or.inl rfl | exact Or.inr rfl) (pe_op op_sub (pe_ix ix_any (pv 9) (pv 8) (fun _ _ => rfl)) (pe_ifExp (pt_cmpR op_gt (pv 8) pe_int (nomark _)) (pe_op op_plus (pe_ix ix_any (pv 9) (pe_op op_sub (pv 8) pe_int) (fun _ _ => rfl)) (pe_callB Pu.cb_len (by rfl) bn.len_ (by decide +kernel) (pa_cons (pe_ix ix_any (pv 1) (pe_op op_sub (pv 8) pe_int) (fun _ _ => rfl)) pa_nil))) pe_int)))
    (pss_one (ps_if (pt_not (pt_chain op_le op_le pe_int (pv 10) (pe_ix ix_any (pv 2) (pv 8) (fun _ _ => rfl))))
      (pss_one (ps_ret (pe_tup (pa_cons pe_str (pa_cons (pv 8) pa_nil)))))
      pss_nil)))))
    (pss_one (ps_ret (pe_ifExp (PW.pt (pw_or (pt_cmpR (op_eqP hr.units) (pe_callB Pu.cb_len (by rfl) bn.len_ (by decide +kernel) (pa_cons (pv 9) pa_nil)) pe_int (nomark _)) (pw_or1 (pt_cmpR (op_eqP hr.units) (pe_ix ix_any (pv 9) (pe_un un_neg pe_int) (fun _ _ => rfl)) (pe_ix ix_any (pe_ix ix_any (pv 3) (pe_un un_neg pe_int) (fun _ _ => rfl)) pe_int (fun _ _ => rfl)) (nomark _))))) pe_non (pe_tup (pa_cons pe_str pa_nil)))))))))
theorem ok_l_fault {R : List D → (D → Prop) → Prop} (F : Fun K "_law_fault" "_law_fault" s_l_fault f fd) (bn : Bn mg) {R_l_fits : List D → (D → Prop) → Prop} {k_l_fits : Nat} (C_l_fits : Cal P w K mg base "_law_fits" ["rows", "part", "tick"] (spP R_l_fits) k_l_fits) (h_l_fits : k_l_fits ≤ k) (len : ∀ ds Z, R ds Z → ds.length = 5) (sx : ∀ ds Z, R ds Z → SX (T_l_fault K R_l_fits) (startE N_l_fault ds) { nx := fun _ => Z .none, rt := fun d _ => Z d }) :
    FnOk P w K mg base CX0 (k + 1) f fd ["rows", "parts", "most", "lots", "told"] (spP R) := fn_pure F sc_l_fault len fun cdv A outer s H E hr => ⟨_, ps_l_fault bn hr C_l_fits h_l_fits, sx⟩
theorem ps_law {cdv : Value} {A : Around} {outer : List PySem.Env} {s : Shared} {H : Hp} {E : XK} (bn : Bn mg) (hr : Room k (A.deeper (PyProof.Rows.envOfC "law" (defScope s_law) s.heap.objs.size f cdv))) (hgd : (A.deeper (PyProof.Rows.envOfC "law" (defScope s_law) s.heap.objs.size f cdv)).guards = some []) {R_l_state : List D → (Stt → Prop) → Prop} {k_l_state : Nat} (C_l_state : Cal P w K mg base "_law_state" ["script"] (spN R_l_state) k_l_state) (h_l_state : k_l_state ≤ k) {R_hold : List D → (D → Prop) → Prop} {k_hold : Nat} (C_hold : Cal P w K mg base "hold" ["rows", "parts", "most"] (spP R_hold) k_hold) (h_hold : k_hold ≤ k) {R_l_ways : List D → (D → Prop) → Prop} {k_l_ways : Nat} (C_l_ways : Cal P w K mg base "_law_ways" ["rows", "parts", "most", "row", "end"] (spP R_l_ways) k_l_ways) (h_l_ways : k_l_ways ≤ k) {R_l_lots : List D → (D → Prop) → Prop} {k_l_lots : Nat} (C_l_lots : Cal P w K mg base "_law_lots" ["rows", "parts", "most"] (spP R_l_lots) k_l_lots) (h_l_lots : k_l_lots ≤ k) {R_least_hold : List D → (D → Prop) → Prop} {k_least_hold : Nat} (C_least_hold : Cal P w K mg base "least_hold" ["rows", "parts"] (spP R_least_hold) k_least_hold) (h_least_hold : k_least_hold ≤ k) {R_l_take : Stt → List D → (D → Stt → Prop) → Prop} {k_l_take : Nat} (C_l_take : Cal P w K mg base "_law_take" ["state", "most"] (spS R_l_take) k_l_take) (h_l_take : k_l_take ≤ k) {R_l_fault : List D → (D → Prop) → Prop} {k_l_fault : Nat} (C_l_fault : Cal P w K mg base "_law_fault" ["rows", "parts", "most", "lots", "told"] (spP R_l_fault) k_l_fault) (h_l_fault : k_l_fault ≤ k) {R_hold_fault : List D → (D → Prop) → Prop} {k_hold_fault : Nat} (C_hold_fault : Cal P w K mg base "hold_fault" ["rows", "parts", "most", "told"] (spP R_hold_fault) k_hold_fault) (h_hold_fault : k_hold_fault ≤ k) {R_waits_of : List D → (D → Prop) → Prop} {k_waits_of : Nat} (C_waits_of : Cal P w K mg base "waits_of" ["parts", "ticks"] (spP R_waits_of) k_waits_of) (h_waits_of : k_waits_of ≤ k) {R_parts_of : List D → (D → Prop) → Prop} {k_parts_of : Nat} (C_parts_of : Cal P w K mg base "parts_of" ["needs", "cuts"] (spP R_parts_of) k_parts_of) (h_parts_of : k_parts_of ≤ k) {R_part_fits : List D → (D → Prop) → Prop} {k_part_fits : Nat} (C_part_fits : Cal P w K mg base "part_fits" ["rows", "part", "tick"] (spP R_part_fits) k_part_fits) (h_part_fits : k_part_fits ≤ k) {R_l_fits : List D → (D → Prop) → Prop} {k_l_fits : Nat} (C_l_fits : Cal P w K mg base "_law_fits" ["rows", "part", "tick"] (spP R_l_fits) k_l_fits) (h_l_fits : k_l_fits ≤ k) :
    PSs (cxOf CX0 P w K mg base N_law "law" (defScope s_law) f cdv A outer s H E).nox (defBody s_law) (T_law K R_l_state R_hold R_l_ways R_l_lots R_least_hold R_l_take R_l_fault R_hold_fault R_waits_of R_parts_of R_part_fits R_l_fits) :=
  have nd := sc_law.nd
  (pss_cons (ps_set (i := 1) nd rfl (by first | exact Or.inl rfl | exact Or.inr rfl) (pe_cal C_l_state (hr.mono h_l_state) (by rfl) (pa_cons (pv 0) pa_nil)))
    (pss_cons (ps_asg (pe_tup (pa_cons (pe_lst pa_nil) (pa_cons (pe_lst pa_nil) pa_nil))) (pg_tup (n := 2) rfl (pgs_cons (pg_name (i := 2) nd rfl (by first | exact Or.inl rfl | exact Or.inr rfl)) (pgs_cons (pg_name (i := 3) nd rfl (by first | exact Or.inl rfl | exact Or.inr rfl)) pgs_nil))))
    (pss_cons (ps_for PassesOwn.never rfl (pi_range1 (by rfl) bn.range_ (pa_cons (pe_cal C_l_take (hr.mono h_l_take) (by rfl) (pa_cons (pv 1) (pa_cons pe_int pa_nil))) pa_nil)) (pg_name (i := 4) nd rfl (by first | exact Or.inl rfl | exact Or.inr rfl))
      (pss_cons (ps_set (i := 5) nd rfl (by first | exact Or.inl rfl | exact Or.inr rfl) (pe_op op_sub (pe_cal C_l_take (hr.mono h_l_take) (by rfl) (pa_cons (pv 1) (pa_cons pe_int pa_nil))) pe_int))
    (pss_one (ps_expr (pe_bm PySem.F.plainAttrs_list PySem.F.slot_list_append PySem.F.type_list_append mt_append (pv 2) (pa_cons (pe_tup (pa_cons (pv 5) (pa_cons (pe_op op_plus (pv 5) (pe_cal C_l_take (hr.mono h_l_take) (by rfl) (pa_cons (pv 1) (pa_cons pe_int pa_nil)))) pa_nil))) pa_nil))))))
    (pss_cons (ps_for PassesOwn.never rfl (pi_range1 (by rfl) bn.range_ (pa_cons (pe_cal C_l_take (hr.mono h_l_take) (by rfl) (pa_cons (pv 1) (pa_cons pe_int pa_nil))) pa_nil)) (pg_name (i := 4) nd rfl (by first | exact Or.inl rfl | exact Or.inr rfl))
      (pss_cons (ps_set (i := 6) nd rfl (by first | exact Or.inl rfl | exact Or.inr rfl) (pe_lst pa_nil))
    (pss_cons (ps_for PassesOwn.never rfl (pi_range1 (by rfl) bn.range_ (pa_cons (pe_cal C_l_take (hr.mono h_l_take) (by rfl) (pa_cons (pv 1) (pa_cons pe_int pa_nil))) pa_nil)) (pg_name (i := 7) nd rfl (by first | exact Or.inl rfl | exact Or.inr rfl))
      (pss_cons (ps_set (i := 5) nd rfl (by first | exact Or.inl rfl | exact Or.inr rfl) (pe_op op_sub pe_int (pe_cal C_l_take (hr.mono h_l_take) (by rfl) (pa_cons (pv 1) (pa_cons pe_int pa_nil)))))
    (pss_one (ps_expr (pe_bm PySem.F.plainAttrs_list PySem.F.slot_list_append PySem.F.type_list_append mt_append (pv 6) (pa_cons (pe_tup (pa_cons (pv 5) (pa_cons (pe_op op_plus (pe_op op_plus (pv 5) pe_int) (pe_cal C_l_take (hr.mono h_l_take) (by rfl) (pa_cons (pv 1) (pa_cons pe_int pa_nil)))) pa_nil))) pa_nil))))))
    (pss_one (ps_expr (pe_bm PySem.F.plainAttrs_list PySem.F.slot_list_append PySem.F.type_list_append mt_append (pv 3) (pa_cons (pv 6) pa_nil)))))))
    (pss_cons (ps_setLc (i := 8) (own := [("part", 6)]) (g := (gName 6)) (tt := tYes) rfl nd rfl rfl (sw_true rfl rfl rfl (by decide +kernel)) (pi_list (pv 3)) (blkOk_by (N := N_law) (sc := defScope s_law) (by decide +kernel)) (fun _ _ _ _ _ => (pg_name (i := 6) nd rfl (by first | exact Or.inl rfl | exact Or.inr rfl))) (fun _ _ _ _ _ => pts_nil) (fun _ _ _ _ _ => (pe_cal C_l_take (hr.mono h_l_take) (by rfl) (pa_cons (pv 1) (pa_cons pe_int pa_nil)))))
    (pss_cons (ps_set (i := 9) nd rfl (by first | exact Or.inl rfl | exact Or.inr rfl) (pe_callB (cb_repr hr.units hgd) (by rfl) bn.repr_ (by decide +kernel) (pa_cons (pe_tup (pa_cons (pv 2) (pa_cons (pv 3) (pa_cons (pv 8) pa_nil)))) pa_nil)))
    (pss_cons (ps_set (i := 10) nd rfl (by first | exact Or.inl rfl | exact Or.inr rfl) (pe_cal C_hold (hr.mono h_hold) (by rfl) (pa_cons (pv 2) (pa_cons (pv 3) (pa_cons (pv 8) pa_nil)))))
    (pss_cons (ps_set (i := 11) nd rfl (by first | exact Or.inl rfl | exact Or.inr rfl) (pe_cal C_l_ways (hr.mono h_l_ways) (by rfl) (pa_cons (pv 2) (pa_cons (pv 3) (pa_cons (pv 8) (pa_cons (pe_lst pa_nil) (pa_cons pe_int pa_nil)))))))
    (pss_cons (ps_set (i := 12) nd rfl (by first | exact Or.inl rfl | exact Or.inr rfl) (pe_cal C_l_lots (hr.mono h_l_lots) (by rfl) (pa_cons (pv 2) (pa_cons (pv 3) (pa_cons (pv 8) pa_nil)))))
    (pss_cons (ps_if (PW.pt (pw_or (pt_not (pt_val (pe_callB RZ.call_isTy (by rfl) bn.isinstance_ (by decide +kernel) (pa_cons (pv 10) (pa_cons (pe_bltn (v := .ty "tuple") (u := .type "tuple") (by rfl) bn.tuple_ (by decide +kernel) rfl) pa_nil))))) (pw_or (pt_cmpR (op_neP hr.units) (pe_ix ix_any (pv 10) pe_int (fun _ _ => rfl)) (pe_ifExp (pt_cmpR op_gt (pe_callB Pu.cb_len (by rfl) bn.len_ (by decide +kernel) (pa_cons (pv 11) pa_nil)) pe_int (nomark _)) pe_str pe_str) (nomark _)) (pw_or1 (pt_cmpR (op_neP hr.units) (pe_callB (cb_repr hr.units hgd) (by rfl) bn.repr_ (by decide +kernel) (pa_cons (pe_tup (pa_cons (pv 2) (pa_cons (pv 3) (pa_cons (pv 8) pa_nil)))) pa_nil)) (pv 9) (nomark _))))))
      (pss_one (ps_ret pe_bl))
      pss_nil)
    (pss_cons (ps_if (PW.pt (pw_or (pt_cmpR op_isnt (pe_cal C_l_fault (hr.mono h_l_fault) (by rfl) (pa_cons (pv 2) (pa_cons (pv 3) (pa_cons (pv 8) (pa_cons (pv 12) (pa_cons (pv 10) pa_nil)))))) pe_non (nomark _)) (pw_or1 (pt_cmpR op_isnt (pe_cal C_hold_fault (hr.mono h_hold_fault) (by rfl) (pa_cons (pv 2) (pa_cons (pv 3) (pa_cons (pv 8) (pa_cons (pv 10) pa_nil))))) pe_non (nomark _)))))
      (pss_one (ps_ret pe_bl))
      pss_nil)
    (pss_cons (ps_if (pt_cmpR (op_eqP hr.units) (pe_ix ix_any (pv 10) pe_int (fun _ _ => rfl)) pe_str (nomark _))
      (pss_cons (ps_set (i := 13) nd rfl (by first | exact Or.inl rfl | exact Or.inr rfl) (pe_ix ix_any (pv 10) pe_int (fun _ _ => rfl)))
    (pss_cons (ps_setLc (i := 14) (own := [("k", 4)]) (g := (gName 4)) (tt := tYes) rfl nd rfl rfl (sw_true rfl rfl rfl (by decide +kernel)) (pi_range1 (by rfl) bn.range_ (pa_cons (pe_callB Pu.cb_len (by rfl) bn.len_ (by decide +kernel) (pa_cons (pv 13) pa_nil)) pa_nil)) (blkOk_by (N := N_law) (sc := defScope s_law) (by decide +kernel)) (fun _ _ _ _ _ => (pg_name (i := 4) nd rfl (by first | exact Or.inl rfl | exact Or.inr rfl))) (fun _ _ _ _ _ => pts_nil) (fun _ _ _ _ _ => (pe_op op_sub (pe_ix ix_any (pv 13) (pv 4) (fun _ _ => rfl)) (pe_ifExp (pt_cmpR op_gt (pv 4) pe_int (nomark _)) (pe_op op_plus (pe_ix ix_any (pv 13) (pe_op op_sub (pv 4) pe_int) (fun _ _ => rfl)) (pe_callB Pu.cb_len (by rfl) bn.len_ (by decide +kernel) (pa_cons (pe_ix ix_any (pv 3) (pe_op op_sub (pv 4) pe_int) (fun _ _ => rfl)) pa_nil))) pe_int))))
    (pss_cons (ps_if (pt_cmpR (op_neP hr.units) (pe_cal C_waits_of (hr.mono h_waits_of) (by rfl) (pa_cons (pv 3) (pa_cons (pv 13) pa_nil))) (pv 14) (nomark _))
      (pss_one (ps_ret pe_bl))
      pss_nil)
    (pss_one (ps_for PassesOwn.never rfl (pi_list (pe_slice sl_any (pv 11) po_none (po_some pe_int))) (pg_name (i := 15) nd rfl (by first | exact Or.inl rfl | exact Or.inr rfl))
      (pss_one (ps_if (pt_cmpR (op_neP hr.units) (pe_cal C_hold_fault (hr.mono h_hold_fault) (by rfl) (pa_cons (pv 2) (pa_cons (pv 3) (pa_cons (pv 8) (pa_cons (pe_tup (pa_cons pe_str (pa_cons (pv 15) pa_nil))) pa_nil))))) (pe_ifExp (PW.pt (pw_or (pt_cmpR (op_eqP hr.units) (pe_callB Pu.cb_len (by rfl) bn.len_ (by decide +kernel) (pa_cons (pv 15) pa_nil)) pe_int (nomark _)) (pw_or1 (pt_cmpR (op_eqP hr.units) (pe_ix ix_any (pv 15) (pe_un un_neg pe_int) (fun _ _ => rfl)) (pe_ix ix_any (pv 13) (pe_un un_neg pe_int) (fun _ _ => rfl)) (nomark _))))) pe_non (pe_tup (pa_cons pe_str pa_nil))) (nomark _))
      (pss_one (ps_ret pe_bl))
      pss_nil)))))))
      pss_nil)
    (pss_cons (ps_setLc (i := 16) (own := [("k", 4)]) (g := (gName 4)) (tt := (tTest (tOp (rI0 fun i j => .bl (decide (j < i))) (tCB (Pu.rLen K) (tCons (tCall (spP R_l_ways) [] E0 (tCons (tVar 2) (tCons (tVar 3) (tCons (tLc (iList K (tVar 3)) (gName 6) tYes (tVar 4) [6]) (tCons (tLst tNil) (tCons (tC (.int 0)) tNil)))))) tNil)) (tC (.int 0))))) rfl nd rfl rfl (sw_true rfl rfl rfl (by decide +kernel)) (pi_range1 (by rfl) bn.range_ (pa_cons (pe_op op_plus (pe_callB Pu.cb_len (by rfl) bn.len_ (by decide +kernel) (pa_cons (pv 2) pa_nil)) pe_int) pa_nil)) (blkOk_by (N := N_law) (sc := defScope s_law) (by decide +kernel)) (fun _ _ _ _ _ => (pg_name (i := 4) nd rfl (by first | exact Or.inl rfl | exact Or.inr rfl))) (fun _ _ _ _ _ => (pts_one (pt_cmpR op_gt (pe_callB Pu.cb_len (by rfl) bn.len_ (by decide +kernel) (pa_cons (pe_cal C_l_ways (hr.mono h_l_ways) (by rfl) (pa_cons (pv 2) (pa_cons (pv 3) (pa_cons (pe_lc (own := [("part", 6)]) (g := (gName 6)) (tt := tYes) rfl nd (pi_list (pv 3)) (blkOk_by (by with_unfolding_all rfl)) (fun _ _ _ _ _ => (pg_name (i := 6) nd rfl (by first | exact Or.inl rfl | exact Or.inr rfl))) (fun _ _ _ _ _ => pts_nil) (fun _ _ _ _ _ => (pv 4))) (pa_cons (pe_lst pa_nil) (pa_cons pe_int pa_nil)))))) pa_nil)) pe_int (nomark _)))) (fun _ _ _ _ _ => (pv 4)))
    (pss_cons (ps_set (i := 17) nd rfl (by first | exact Or.inl rfl | exact Or.inr rfl) (pe_cal C_least_hold (hr.mono h_least_hold) (by rfl) (pa_cons (pv 2) (pa_cons (pv 3) pa_nil))))
    (pss_cons (ps_if (PW.pt (pw_or (pt_cmpR (op_neP hr.units) (pe_cmpR op_is (pv 17) pe_non (nomark _)) (pe_cmpR (op_eqP hr.units) (pe_callB Pu.cb_len (by rfl) bn.len_ (by decide +kernel) (pa_cons (pv 16) pa_nil)) pe_int (nomark _)) (nomark _)) (pw_or1 (PW.pt (pw_and (pt_cmpR op_isnt (pv 17) pe_non (nomark _)) (pw_and1 (pt_cmpR (op_neP hr.units) (pe_ix ix_any (pv 17) pe_int (fun _ _ => rfl)) (pe_ix ix_any (pv 16) pe_int (fun _ _ => rfl)) (nomark _))))))))
      (pss_one (ps_ret pe_bl))
      pss_nil)
    (pss_cons (ps_for PassesOwn.never rfl (pi_list (pe_slice sl_any (pv 3) po_none (po_some pe_int))) (pg_name (i := 6) nd rfl (by first | exact Or.inl rfl | exact Or.inr rfl))
      (pss_one (ps_for PassesOwn.never rfl (pi_range1 (by rfl) bn.range_ (pa_cons (pe_callB Pu.cb_len (by rfl) bn.len_ (by decide +kernel) (pa_cons (pv 2) pa_nil)) pa_nil)) (pg_name (i := 18) nd rfl (by first | exact Or.inl rfl | exact Or.inr rfl))
      (pss_one (ps_if (pt_cmpR (op_neP hr.units) (pe_cal C_part_fits (hr.mono h_part_fits) (by rfl) (pa_cons (pv 2) (pa_cons (pv 6) (pa_cons (pv 18) pa_nil)))) (pe_cal C_l_fits (hr.mono h_l_fits) (by rfl) (pa_cons (pv 2) (pa_cons (pv 6) (pa_cons (pv 18) pa_nil)))) (nomark _))
      (pss_one (ps_ret pe_bl))
      pss_nil)))))
    (pss_cons (ps_set (i := 19) nd rfl (by first | exact Or.inl rfl | exact Or.inr rfl) (pe_lst pa_nil))
    (pss_cons (ps_for PassesOwn.never rfl (pi_list (pv 3)) (pg_name (i := 6) nd rfl (by first | exact Or.inl rfl | exact Or.inr rfl))
      (pss_one (ps_expr (pe_bm PySem.F.plainAttrs_list PySem.F.slot_list_extend PySem.F.type_list_extend mt_extR (pv 19) (pa_cons (pv 6) pa_nil)))))
    (pss_cons (ps_setLc (i := 20) (own := [("k", 4)]) (g := (gName 4)) (tt := tYes) rfl nd rfl rfl (sw_true rfl rfl rfl (by decide +kernel)) (pi_range2 (by rfl) bn.range_ (pa_cons pe_int (pa_cons (pe_callB Pu.cb_len (by rfl) bn.len_ (by decide +kernel) (pa_cons (pv 3) pa_nil)) pa_nil))) (blkOk_by (N := N_law) (sc := defScope s_law) (by decide +kernel)) (fun _ _ _ _ _ => (pg_name (i := 4) nd rfl (by first | exact Or.inl rfl | exact Or.inr rfl))) (fun _ _ _ _ _ => pts_nil) (fun _ _ _ _ _ => (pe_callB (cr_sum rfl) (by rfl) bn.sum_ (by decide +kernel) (pa_cons (pe_lc (own := [("part", 6)]) (g := (gName 6)) (tt := tYes) rfl nd (pi_list (pe_slice sl_any (pv 3) po_none (po_some (pv 4)))) (blkOk_by (by with_unfolding_all rfl)) (fun _ _ _ _ _ => (pg_name (i := 6) nd rfl (by first | exact Or.inl rfl | exact Or.inr rfl))) (fun _ _ _ _ _ => pts_nil) (fun _ _ _ _ _ => (pe_callB Pu.cb_len (by rfl) bn.len_ (by decide +kernel) (pa_cons (pv 6) pa_nil)))) pa_nil))))
    (pss_cons (ps_if (PW.pt (pw_and (pt_cmpR op_gt (pe_callB Pu.cb_len (by rfl) bn.len_ (by decide +kernel) (pa_cons (pv 3) pa_nil)) pe_int (nomark _)) (pw_and1 (pt_cmpR (op_neP hr.units) (pe_cal C_parts_of (hr.mono h_parts_of) (by rfl) (pa_cons (pv 19) (pa_cons (pv 20) pa_nil))) (pv 3) (nomark _)))))
      (pss_one (ps_ret pe_bl))
      pss_nil)
    (pss_cons (ps_for PassesOwn.never rfl (pi_range1 (by rfl) bn.range_ (pa_cons pe_int pa_nil)) (pg_name (i := 21) nd rfl (by first | exact Or.inl rfl | exact Or.inr rfl))
      (pss_cons (ps_if (pt_cmpR (op_eqP hr.units) (pe_ix ix_any (pv 10) pe_int (fun _ _ => rfl)) pe_str (nomark _))
      (pss_cons (ps_setLc (i := 22) (own := [("lot", 23)]) (g := (gName 23)) (tt := tYes) rfl nd rfl rfl (sw_true rfl rfl rfl (by decide +kernel)) (pi_list (pe_ix ix_any (pv 10) pe_int (fun _ _ => rfl))) (blkOk_by (N := N_law) (sc := defScope s_law) (by decide +kernel)) (fun _ _ _ _ _ => (pg_name (i := 23) nd rfl (by first | exact Or.inl rfl | exact Or.inr rfl))) (fun _ _ _ _ _ => pts_nil) (fun _ _ _ _ _ => (pe_callTy cb_list (by rfl) bn.list_ (by decide +kernel) (pa_cons (pv 23) pa_nil))))
    (pss_cons (ps_set (i := 24) nd rfl (by first | exact Or.inl rfl | exact Or.inr rfl) (pe_cal C_l_take (hr.mono h_l_take) (by rfl) (pa_cons (pv 1) (pa_cons (pe_callB Pu.cb_len (by rfl) bn.len_ (by decide +kernel) (pa_cons (pv 22) pa_nil)) pa_nil))))
    (pss_cons (ps_asg (pe_ifExp (pt_cmpR op_gt (pe_callB Pu.cb_len (by rfl) bn.len_ (by decide +kernel) (pa_cons (pe_ix ix_any (pv 22) (pv 24) (fun _ _ => rfl)) pa_nil)) pe_int (nomark _)) (pe_slice sl_any (pe_ix ix_any (pv 22) (pv 24) (fun _ _ => rfl)) (po_some pe_int) po_none) (pe_lst (pa_cons pe_int pa_nil))) (pg_sub (pv 22) (pv 24) set_list))
    (pss_one (ps_set (i := 25) nd rfl (by first | exact Or.inl rfl | exact Or.inr rfl) (pe_ix ix_any (pe_lst (pa_cons (pe_tup (pa_cons pe_str (pa_cons (pe_ix ix_any (pv 10) pe_int (fun _ _ => rfl)) (pa_cons (pv 22) pa_nil)))) (pa_cons (pe_tup (pa_cons pe_str (pa_cons (pe_op op_plus (pe_ix ix_any (pv 10) pe_int (fun _ _ => rfl)) pe_int) (pa_cons (pv 22) pa_nil)))) (pa_cons (pe_tup (pa_cons pe_str (pa_cons (pe_lc (own := [("part", 6)]) (g := (gName 6)) (tt := tYes) rfl nd (pi_list (pv 3)) (blkOk_by (N := N_law) (sc := defScope s_law) (by decide +kernel)) (fun _ _ _ _ _ => (pg_name (i := 6) nd rfl (by first | exact Or.inl rfl | exact Or.inr rfl))) (fun _ _ _ _ _ => pts_nil) (fun _ _ _ _ _ => pe_int)) pa_nil))) pa_nil)))) (pe_cal C_l_take (hr.mono h_l_take) (by rfl) (pa_cons (pv 1) (pa_cons pe_int pa_nil))) (fun _ _ => rfl)))))))
      (pss_cons (ps_set (i := 13) nd rfl (by first | exact Or.inl rfl | exact Or.inr rfl) (pe_callTy cb_list (by rfl) bn.list_ (by decide +kernel) (pa_cons (pe_ix ix_any (pv 10) pe_int (fun _ _ => rfl)) pa_nil)))
    (pss_cons (ps_if (pt_cmpR op_gt (pe_callB Pu.cb_len (by rfl) bn.len_ (by decide +kernel) (pa_cons (pv 13) pa_nil)) pe_int (nomark _))
      (pss_cons (ps_set (i := 24) nd rfl (by first | exact Or.inl rfl | exact Or.inr rfl) (pe_cal C_l_take (hr.mono h_l_take) (by rfl) (pa_cons (pv 1) (pa_cons (pe_callB Pu.cb_len (by rfl) bn.len_ (by decide +kernel) (pa_cons (pv 13) pa_nil)) pa_nil))))
    (pss_one (ps_asg (pe_op op_plus (pe_ix ix_any (pv 13) (pv 24) (fun _ _ => rfl)) (pe_ix ix_any (pe_lst (pa_cons pe_int (pa_cons (pe_op op_sub pe_int pe_int) (pa_cons pe_int pa_nil)))) (pe_cal C_l_take (hr.mono h_l_take) (by rfl) (pa_cons (pv 1) (pa_cons pe_int pa_nil))) (fun _ _ => rfl))) (pg_sub (pv 13) (pv 24) set_list))))
      pss_nil)
    (pss_one (ps_set (i := 25) nd rfl (by first | exact Or.inl rfl | exact Or.inr rfl) (pe_ix ix_any (pe_lst (pa_cons (pe_tup (pa_cons pe_str (pa_cons (pv 13) pa_nil))) (pa_cons (pe_tup (pa_cons pe_str (pa_cons (pe_slice sl_any (pv 13) (po_some pe_int) po_none) pa_nil))) (pa_cons (pe_tup (pa_cons pe_str (pa_cons pe_int (pa_cons (pe_lst (pa_cons (pe_lst pa_nil) pa_nil)) pa_nil)))) pa_nil)))) (pe_cal C_l_take (hr.mono h_l_take) (by rfl) (pa_cons (pv 1) (pa_cons pe_int pa_nil))) (fun _ _ => rfl)))))))
    (pss_one (ps_if (pt_cmpR (op_neP hr.units) (pe_cal C_hold_fault (hr.mono h_hold_fault) (by rfl) (pa_cons (pv 2) (pa_cons (pv 3) (pa_cons (pv 8) (pa_cons (pv 25) pa_nil))))) (pe_cal C_l_fault (hr.mono h_l_fault) (by rfl) (pa_cons (pv 2) (pa_cons (pv 3) (pa_cons (pv 8) (pa_cons (pv 12) (pa_cons (pv 25) pa_nil)))))) (nomark _))
      (pss_one (ps_ret pe_bl))
      pss_nil))))
    (pss_one (ps_ret (pe_cmpR (op_eqP hr.units) (pe_callB (cb_repr hr.units hgd) (by rfl) bn.repr_ (by decide +kernel) (pa_cons (pe_tup (pa_cons (pv 2) (pa_cons (pv 3) (pa_cons (pv 8) pa_nil)))) pa_nil)) (pv 9) (nomark _)))))))))))))))))))))))))
theorem top_law {R : List D → (D → Prop) → Prop} (F : Fun K "law" "law" s_law f fd) (bn : Bn mg) {R_l_state : List D → (Stt → Prop) → Prop} {k_l_state : Nat} (C_l_state : Cal P w K mg base "_law_state" ["script"] (spN R_l_state) k_l_state) (h_l_state : k_l_state ≤ k) {R_hold : List D → (D → Prop) → Prop} {k_hold : Nat} (C_hold : Cal P w K mg base "hold" ["rows", "parts", "most"] (spP R_hold) k_hold) (h_hold : k_hold ≤ k) {R_l_ways : List D → (D → Prop) → Prop} {k_l_ways : Nat} (C_l_ways : Cal P w K mg base "_law_ways" ["rows", "parts", "most", "row", "end"] (spP R_l_ways) k_l_ways) (h_l_ways : k_l_ways ≤ k) {R_l_lots : List D → (D → Prop) → Prop} {k_l_lots : Nat} (C_l_lots : Cal P w K mg base "_law_lots" ["rows", "parts", "most"] (spP R_l_lots) k_l_lots) (h_l_lots : k_l_lots ≤ k) {R_least_hold : List D → (D → Prop) → Prop} {k_least_hold : Nat} (C_least_hold : Cal P w K mg base "least_hold" ["rows", "parts"] (spP R_least_hold) k_least_hold) (h_least_hold : k_least_hold ≤ k) {R_l_take : Stt → List D → (D → Stt → Prop) → Prop} {k_l_take : Nat} (C_l_take : Cal P w K mg base "_law_take" ["state", "most"] (spS R_l_take) k_l_take) (h_l_take : k_l_take ≤ k) {R_l_fault : List D → (D → Prop) → Prop} {k_l_fault : Nat} (C_l_fault : Cal P w K mg base "_law_fault" ["rows", "parts", "most", "lots", "told"] (spP R_l_fault) k_l_fault) (h_l_fault : k_l_fault ≤ k) {R_hold_fault : List D → (D → Prop) → Prop} {k_hold_fault : Nat} (C_hold_fault : Cal P w K mg base "hold_fault" ["rows", "parts", "most", "told"] (spP R_hold_fault) k_hold_fault) (h_hold_fault : k_hold_fault ≤ k) {R_waits_of : List D → (D → Prop) → Prop} {k_waits_of : Nat} (C_waits_of : Cal P w K mg base "waits_of" ["parts", "ticks"] (spP R_waits_of) k_waits_of) (h_waits_of : k_waits_of ≤ k) {R_parts_of : List D → (D → Prop) → Prop} {k_parts_of : Nat} (C_parts_of : Cal P w K mg base "parts_of" ["needs", "cuts"] (spP R_parts_of) k_parts_of) (h_parts_of : k_parts_of ≤ k) {R_part_fits : List D → (D → Prop) → Prop} {k_part_fits : Nat} (C_part_fits : Cal P w K mg base "part_fits" ["rows", "part", "tick"] (spP R_part_fits) k_part_fits) (h_part_fits : k_part_fits ≤ k) {R_l_fits : List D → (D → Prop) → Prop} {k_l_fits : Nat} (C_l_fits : Cal P w K mg base "_law_fits" ["rows", "part", "tick"] (spP R_l_fits) k_l_fits) (h_l_fits : k_l_fits ≤ k) (room : RoomTop (k + 1)) (len : ∀ ds Z, R ds Z → ds.length = 1) (sx : ∀ ds Z, R ds Z → SX (T_law K R_l_state R_hold R_l_ways R_l_lots R_least_hold R_l_take R_l_fault R_hold_fault R_waits_of R_parts_of R_part_fits R_l_fits) (startE N_law ds) { nx := fun _ => Z .none, rt := fun d _ => Z d }) :
    TopOk P w K mg base f fd ["script"] (spP R) := top_pure F sc_law len room fun cdv s H E hr => ⟨_, ps_law bn hr rfl C_l_state h_l_state C_hold h_hold C_l_ways h_l_ways C_l_lots h_l_lots C_least_hold h_least_hold C_l_take h_l_take C_l_fault h_l_fault C_hold_fault h_hold_fault C_waits_of h_waits_of C_parts_of h_parts_of C_part_fits h_part_fits C_l_fits h_l_fits, sx⟩
end
end Law_k89
namespace Law_k89
open PySem L2 Pu
section
variable {P : Program} {w : World} {K : PySem.W.Frag} {mg : Str → Option Value} {base : Heap} {f : Addr} {fd : FuncData} {k : Nat}
theorem len_part_fits : ∀ ds Z, R_pfits ds Z → ds.length = 3 := by
  intro ds Z h
  unfold R_pfits at h
  repeat (obtain ⟨e, h⟩ := h; try subst e)
  all_goals rfl
theorem len_ticks_for_parts : ∀ ds Z, R_ticks ds Z → ds.length = 3 := by
  intro ds Z h
  unfold R_ticks at h
  repeat (obtain ⟨e, h⟩ := h; try subst e)
  all_goals rfl
theorem len_hold : ∀ ds Z, R_hold ds Z → ds.length = 3 := by
  intro ds Z h
  unfold R_hold at h
  repeat (obtain ⟨e, h⟩ := h; try subst e)
  all_goals rfl
theorem len_l_fits : ∀ ds Z, R_lfits ds Z → ds.length = 3 := by
  intro ds Z h
  unfold R_lfits at h
  repeat (obtain ⟨e, h⟩ := h; try subst e)
  all_goals rfl
theorem len_l_ways : ∀ (n : Nat) ds Z, R_ways n ds Z → ds.length = 5 := by
  intro n ds Z h
  unfold R_ways at h
  repeat (obtain ⟨e, h⟩ := h; try subst e)
  all_goals rfl
theorem len_l_lots : ∀ ds Z, R_lots ds Z → ds.length = 3 := by
  intro ds Z h
  unfold R_lots at h
  repeat (obtain ⟨e, h⟩ := h; try subst e)
  all_goals rfl
theorem len_least_hold : ∀ ds Z, R_least ds Z → ds.length = 2 := by
  intro ds Z h
  unfold R_least at h
  repeat (obtain ⟨e, h⟩ := h; try subst e)
  all_goals rfl
theorem len_l_fault : ∀ ds Z, R_l_fault ds Z → ds.length = 5 := by
  intro ds Z h
  unfold R_l_fault at h
  repeat (obtain ⟨e, h⟩ := h; try subst e)
  all_goals rfl
theorem len_hold_fault : ∀ ds Z, R_fault ds Z → ds.length = 4 := by
  intro ds Z h
  unfold R_fault at h
  repeat (obtain ⟨e, h⟩ := h; try subst e)
  all_goals rfl
theorem len_waits_of : ∀ ds Z, R_waits ds Z → ds.length = 2 := by
  intro ds Z h
  unfold R_waits at h
  repeat (obtain ⟨e, h⟩ := h; try subst e)
  all_goals rfl
theorem len_parts_of : ∀ ds Z, R_parts_of ds Z → ds.length = 2 := by
  intro ds Z h
  unfold R_parts_of at h
  repeat (obtain ⟨e, h⟩ := h; try subst e)
  all_goals rfl
theorem len_law : ∀ ds Z, R_law ds Z → ds.length = 1 := by
  intro ds Z h
  unfold R_law at h
  repeat (obtain ⟨e, h⟩ := h; try subst e)
  all_goals rfl
theorem rec_l_ways (F : Fun K "_law_ways" "_law_ways" s_l_ways f fd) (hm : mg "_law_ways" = some (.ref f)) (bd : Binds K fd ["rows", "parts", "most", "row", "end"] []) (bn : Bn mg) {j : Nat} {k_l_fits : Nat} (C_l_fits : Cal P w K mg base "_law_fits" ["rows", "part", "tick"] (spP R_lfits) k_l_fits) (h_l_fits : k_l_fits ≤ j) : ∀ n : Nat, FnOk P w K mg base CX0 (j + n) f fd ["rows", "parts", "most", "row", "end"] (spP (R_ways n))
  | 0 => fn_noP (no_l_ways)
  | n + 1 => by
    have ih := rec_l_ways F hm bd bn (j := j) C_l_fits h_l_fits n
    exact ok_l_ways (k := j + n) F bn C_l_fits (Nat.le_trans h_l_fits (Nat.le_add_right j n)) ⟨_, _, ih, hm, F.kp, bd⟩ (Nat.le_refl _) (len_l_ways (n + 1)) (sx_l_ways K n)
end
theorem all_mk {l : PySem.W.OpenLaw} {w : World} {K : PySem.W.Frag} {h : Heap} {mg : Str → Option Value} {fa f1 f2 f3 f4 f5 f6 f7 f8 f9 f10 f11 f12 f13 f14 : Addr} (X : K.In h) (G : h.Ns mainGlobals mg) (hfa : mg "law" = some (.ref fa))
    {od1 an1 od2 an2 od3 an3 od4 an4 od5 an5 od6 an6 od7 an7 od8 an8 od9 an9 od10 an10 od11 an11 od12 an12 od13 an13 od14 an14 : Option Addr} {sl1 sl2 sl3 sl4 sl5 sl6 sl7 sl8 sl9 sl10 sl11 sl12 sl13 sl14 : Array (Option Value)}
    {oc1 kV1 dc1 pm1 cd1 ct1 oc2 kV2 dc2 pm2 cd2 ct2 oc3 kV3 dc3 pm3 cd3 ct3 oc4 kV4 dc4 pm4 cd4 ct4 oc5 kV5 dc5 pm5 cd5 ct5 oc6 kV6 dc6 pm6 cd6 ct6 oc7 kV7 dc7 pm7 cd7 ct7 oc8 kV8 dc8 pm8 cd8 ct8 oc9 kV9 dc9 pm9 cd9 ct9 oc10 kV10 dc10 pm10 cd10 ct10 oc11 kV11 dc11 pm11 cd11 ct11 oc12 kV12 dc12 pm12 cd12 ct12 oc13 kV13 dc13 pm13 cd13 ct13 oc14 kV14 dc14 pm14 cd14 ct14 : Value}
    (a1 : PySem.W.nsIn K mainGlobals "part_fits" = some (some (.ref f1))) (l1 : K.lookup f1 = some ⟨oc1, od1, .func (PySem.W.fnOf "part_fits" "part_fits" (defArgs s_part_fits) (defBody s_part_fits) (defScope s_part_fits) .none kV1 dc1 pm1 an1 cd1 ct1), sl1⟩) (c1 : PySem.W.codeIn K cd1 "part_fits" = true) (k1 : PySem.W.keepIn K (.ref f1) = true)
    (a2 : PySem.W.nsIn K mainGlobals "ticks_for_parts" = some (some (.ref f2))) (l2 : K.lookup f2 = some ⟨oc2, od2, .func (PySem.W.fnOf "ticks_for_parts" "ticks_for_parts" (defArgs s_ticks_for_parts) (defBody s_ticks_for_parts) (defScope s_ticks_for_parts) .none kV2 dc2 pm2 an2 cd2 ct2), sl2⟩) (c2 : PySem.W.codeIn K cd2 "ticks_for_parts" = true) (k2 : PySem.W.keepIn K (.ref f2) = true)
    (a3 : PySem.W.nsIn K mainGlobals "hold" = some (some (.ref f3))) (l3 : K.lookup f3 = some ⟨oc3, od3, .func (PySem.W.fnOf "hold" "hold" (defArgs s_hold) (defBody s_hold) (defScope s_hold) .none kV3 dc3 pm3 an3 cd3 ct3), sl3⟩) (c3 : PySem.W.codeIn K cd3 "hold" = true) (k3 : PySem.W.keepIn K (.ref f3) = true)
    (a4 : PySem.W.nsIn K mainGlobals "hold_fault" = some (some (.ref f4))) (l4 : K.lookup f4 = some ⟨oc4, od4, .func (PySem.W.fnOf "hold_fault" "hold_fault" (defArgs s_hold_fault) (defBody s_hold_fault) (defScope s_hold_fault) .none kV4 dc4 pm4 an4 cd4 ct4), sl4⟩) (c4 : PySem.W.codeIn K cd4 "hold_fault" = true) (k4 : PySem.W.keepIn K (.ref f4) = true)
    (a5 : PySem.W.nsIn K mainGlobals "waits_of" = some (some (.ref f5))) (l5 : K.lookup f5 = some ⟨oc5, od5, .func (PySem.W.fnOf "waits_of" "waits_of" (defArgs s_waits_of) (defBody s_waits_of) (defScope s_waits_of) .none kV5 dc5 pm5 an5 cd5 ct5), sl5⟩) (c5 : PySem.W.codeIn K cd5 "waits_of" = true) (k5 : PySem.W.keepIn K (.ref f5) = true)
    (a6 : PySem.W.nsIn K mainGlobals "least_hold" = some (some (.ref f6))) (l6 : K.lookup f6 = some ⟨oc6, od6, .func (PySem.W.fnOf "least_hold" "least_hold" (defArgs s_least_hold) (defBody s_least_hold) (defScope s_least_hold) .none kV6 dc6 pm6 an6 cd6 ct6), sl6⟩) (c6 : PySem.W.codeIn K cd6 "least_hold" = true) (k6 : PySem.W.keepIn K (.ref f6) = true)
    (a7 : PySem.W.nsIn K mainGlobals "parts_of" = some (some (.ref f7))) (l7 : K.lookup f7 = some ⟨oc7, od7, .func (PySem.W.fnOf "parts_of" "parts_of" (defArgs s_parts_of) (defBody s_parts_of) (defScope s_parts_of) .none kV7 dc7 pm7 an7 cd7 ct7), sl7⟩) (c7 : PySem.W.codeIn K cd7 "parts_of" = true) (k7 : PySem.W.keepIn K (.ref f7) = true)
    (a8 : PySem.W.nsIn K mainGlobals "_law_state" = some (some (.ref f8))) (l8 : K.lookup f8 = some ⟨oc8, od8, .func (PySem.W.fnOf "_law_state" "_law_state" (defArgs s_l_state) (defBody s_l_state) (defScope s_l_state) .none kV8 dc8 pm8 an8 cd8 ct8), sl8⟩) (c8 : PySem.W.codeIn K cd8 "_law_state" = true) (k8 : PySem.W.keepIn K (.ref f8) = true)
    (a9 : PySem.W.nsIn K mainGlobals "_law_take" = some (some (.ref f9))) (l9 : K.lookup f9 = some ⟨oc9, od9, .func (PySem.W.fnOf "_law_take" "_law_take" (defArgs s_l_take) (defBody s_l_take) (defScope s_l_take) .none kV9 dc9 pm9 an9 cd9 ct9), sl9⟩) (c9 : PySem.W.codeIn K cd9 "_law_take" = true) (k9 : PySem.W.keepIn K (.ref f9) = true)
    (a10 : PySem.W.nsIn K mainGlobals "_law_fits" = some (some (.ref f10))) (l10 : K.lookup f10 = some ⟨oc10, od10, .func (PySem.W.fnOf "_law_fits" "_law_fits" (defArgs s_l_fits) (defBody s_l_fits) (defScope s_l_fits) .none kV10 dc10 pm10 an10 cd10 ct10), sl10⟩) (c10 : PySem.W.codeIn K cd10 "_law_fits" = true) (k10 : PySem.W.keepIn K (.ref f10) = true)
    (a11 : PySem.W.nsIn K mainGlobals "_law_ways" = some (some (.ref f11))) (l11 : K.lookup f11 = some ⟨oc11, od11, .func (PySem.W.fnOf "_law_ways" "_law_ways" (defArgs s_l_ways) (defBody s_l_ways) (defScope s_l_ways) .none kV11 dc11 pm11 an11 cd11 ct11), sl11⟩) (c11 : PySem.W.codeIn K cd11 "_law_ways" = true) (k11 : PySem.W.keepIn K (.ref f11) = true)
    (a12 : PySem.W.nsIn K mainGlobals "_law_lots" = some (some (.ref f12))) (l12 : K.lookup f12 = some ⟨oc12, od12, .func (PySem.W.fnOf "_law_lots" "_law_lots" (defArgs s_l_lots) (defBody s_l_lots) (defScope s_l_lots) .none kV12 dc12 pm12 an12 cd12 ct12), sl12⟩) (c12 : PySem.W.codeIn K cd12 "_law_lots" = true) (k12 : PySem.W.keepIn K (.ref f12) = true)
    (a13 : PySem.W.nsIn K mainGlobals "_law_fault" = some (some (.ref f13))) (l13 : K.lookup f13 = some ⟨oc13, od13, .func (PySem.W.fnOf "_law_fault" "_law_fault" (defArgs s_l_fault) (defBody s_l_fault) (defScope s_l_fault) .none kV13 dc13 pm13 an13 cd13 ct13), sl13⟩) (c13 : PySem.W.codeIn K cd13 "_law_fault" = true) (k13 : PySem.W.keepIn K (.ref f13) = true)
    (a14 : PySem.W.nsIn K mainGlobals "law" = some (some (.ref f14))) (l14 : K.lookup f14 = some ⟨oc14, od14, .func (PySem.W.fnOf "law" "law" (defArgs s_law) (defBody s_law) (defScope s_law) .none kV14 dc14 pm14 an14 cd14 ct14), sl14⟩) (c14 : PySem.W.codeIn K cd14 "law" = true) (k14 : PySem.W.keepIn K (.ref f14) = true)
    (z1 : PySem.W.nsIn K mainGlobals "len" = some none) (z2 : PySem.W.nsIn K mainGlobals "range" = some none) (z3 : PySem.W.nsIn K mainGlobals "min" = some none) (z4 : PySem.W.nsIn K mainGlobals "max" = some none) (z5 : PySem.W.nsIn K mainGlobals "abs" = some none) (z6 : PySem.W.nsIn K mainGlobals "sum" = some none) (z7 : PySem.W.nsIn K mainGlobals "int" = some none) (z8 : PySem.W.nsIn K mainGlobals "list" = some none) (z9 : PySem.W.nsIn K mainGlobals "tuple" = some none) (z10 : PySem.W.nsIn K mainGlobals "sorted" = some none) (z11 : PySem.W.nsIn K mainGlobals "isinstance" = some none) (z12 : PySem.W.nsIn K mainGlobals "enumerate" = some none) (z13 : PySem.W.nsIn K mainGlobals "zip" = some none) (z14 : PySem.W.nsIn K mainGlobals "set" = some none) (z15 : PySem.W.nsIn K mainGlobals "repr" = some none) (z16 : PySem.W.nsIn K mainGlobals "all" = some none) (z17 : PySem.W.nsIn K mainGlobals "any" = some none) (z18 : PySem.W.nsIn K mainGlobals "dict" = some none) (z19 : PySem.W.nsIn K mainGlobals "reversed" = some none) (z20 : PySem.W.nsIn K mainGlobals "str" = some none) :
    ∃ fd : FuncData, (∀ (s : Shared) (v : Value), BindsTo s fd ⟨[v], []⟩ [("script", v)]) ∧ ∀ base : Heap, K.In base → base.Ns mainGlobals mg → TopOk l.prog w K mg base fa fd ["script"] (spP R_law) := by
  have e := hfa.symm.trans (PySem.W.mg_of X G a14)
  cases e
  have bn : Bn mg := ⟨PySem.W.mg_none_of X G z1, PySem.W.mg_none_of X G z2, PySem.W.mg_none_of X G z3, PySem.W.mg_none_of X G z4, PySem.W.mg_none_of X G z5, PySem.W.mg_none_of X G z6, PySem.W.mg_none_of X G z7, PySem.W.mg_none_of X G z8, PySem.W.mg_none_of X G z9, PySem.W.mg_none_of X G z10, PySem.W.mg_none_of X G z11, PySem.W.mg_none_of X G z12, PySem.W.mg_none_of X G z13, PySem.W.mg_none_of X G z14, PySem.W.mg_none_of X G z15, PySem.W.mg_none_of X G z16, PySem.W.mg_none_of X G z17, PySem.W.mg_none_of X G z18, PySem.W.mg_none_of X G z19, PySem.W.mg_none_of X G z20⟩
  have F1 := fun_mk (st := s_part_fits) l1 c1 k1
  have b1 := F1.binds (ps := ["rows", "part", "tick"]) fun _ _ _ _ _ _ us hl => match us, hl with | [_, _, _], _ => rfl
  have F2 := fun_mk (st := s_ticks_for_parts) l2 c2 k2
  have b2 := F2.binds (ps := ["rows", "parts", "most"]) fun _ _ _ _ _ _ us hl => match us, hl with | [_, _, _], _ => rfl
  have F3 := fun_mk (st := s_hold) l3 c3 k3
  have b3 := F3.binds (ps := ["rows", "parts", "most"]) fun _ _ _ _ _ _ us hl => match us, hl with | [_, _, _], _ => rfl
  have F4 := fun_mk (st := s_hold_fault) l4 c4 k4
  have b4 := F4.binds (ps := ["rows", "parts", "most", "told"]) fun _ _ _ _ _ _ us hl => match us, hl with | [_, _, _, _], _ => rfl
  have F5 := fun_mk (st := s_waits_of) l5 c5 k5
  have b5 := F5.binds (ps := ["parts", "ticks"]) fun _ _ _ _ _ _ us hl => match us, hl with | [_, _], _ => rfl
  have F6 := fun_mk (st := s_least_hold) l6 c6 k6
  have b6 := F6.binds (ps := ["rows", "parts"]) fun _ _ _ _ _ _ us hl => match us, hl with | [_, _], _ => rfl
  have F7 := fun_mk (st := s_parts_of) l7 c7 k7
  have b7 := F7.binds (ps := ["needs", "cuts"]) fun _ _ _ _ _ _ us hl => match us, hl with | [_, _], _ => rfl
  have F8 := fun_mk (st := s_l_state) l8 c8 k8
  have b8 := F8.binds (ps := ["script"]) fun _ _ _ _ _ _ us hl => match us, hl with | [_], _ => rfl
  have F9 := fun_mk (st := s_l_take) l9 c9 k9
  have b9 := F9.binds (ps := ["state", "most"]) fun _ _ _ _ _ _ us hl => match us, hl with | [_, _], _ => rfl
  have F10 := fun_mk (st := s_l_fits) l10 c10 k10
  have b10 := F10.binds (ps := ["rows", "part", "tick"]) fun _ _ _ _ _ _ us hl => match us, hl with | [_, _, _], _ => rfl
  have F11 := fun_mk (st := s_l_ways) l11 c11 k11
  have b11 := F11.binds (ps := ["rows", "parts", "most", "row", "end"]) fun _ _ _ _ _ _ us hl => match us, hl with | [_, _, _, _, _], _ => rfl
  have F12 := fun_mk (st := s_l_lots) l12 c12 k12
  have b12 := F12.binds (ps := ["rows", "parts", "most"]) fun _ _ _ _ _ _ us hl => match us, hl with | [_, _, _], _ => rfl
  have F13 := fun_mk (st := s_l_fault) l13 c13 k13
  have b13 := F13.binds (ps := ["rows", "parts", "most", "lots", "told"]) fun _ _ _ _ _ _ us hl => match us, hl with | [_, _, _, _, _], _ => rfl
  have F14 := fun_mk (st := s_law) l14 c14 k14
  have b14 := F14.binds (ps := ["script"]) fun _ _ _ _ _ _ us hl => match us, hl with | [_], _ => rfl
  refine ⟨PySem.W.fnOf "law" "law" (defArgs s_law) (defBody s_law) (defScope s_law) .none kV14 dc14 pm14 an14 cd14 ct14, fun s v => .of_eq rfl, fun base _ _ => ?_⟩
  have C_l_state : Cal l.prog w K mg base "_law_state" ["script"] (spN R_state) 1 := ⟨_, _, fn_newstate (k := 0) F8 sc_l_state fun cdv A outer s H E hr => ps_l_state bn hr, PySem.W.mg_of X G a8, F8.kp, b8⟩
  have C_part_fits : Cal l.prog w K mg base "part_fits" ["rows", "part", "tick"] (spP R_pfits) 1 := ⟨_, _, ok_part_fits (k := 0) F1 bn len_part_fits (sx_part_fits K), PySem.W.mg_of X G a1, F1.kp, b1⟩
  have C_ticks_for_parts : Cal l.prog w K mg base "ticks_for_parts" ["rows", "parts", "most"] (spP R_ticks) 2 := ⟨_, _, ok_ticks_for_parts (k := 1) F2 bn C_part_fits (by decide) len_ticks_for_parts (sx_ticks_for_parts K), PySem.W.mg_of X G a2, F2.kp, b2⟩
  have C_hold : Cal l.prog w K mg base "hold" ["rows", "parts", "most"] (spP R_hold) 3 := ⟨_, _, ok_hold (k := 2) F3 bn C_ticks_for_parts (by decide) len_hold (sx_hold K), PySem.W.mg_of X G a3, F3.kp, b3⟩
  have C_l_fits : Cal l.prog w K mg base "_law_fits" ["rows", "part", "tick"] (spP R_lfits) 1 := ⟨_, _, ok_l_fits (k := 0) F10 bn len_l_fits (sx_l_fits K), PySem.W.mg_of X G a10, F10.kp, b10⟩
  have C_l_ways : Cal l.prog w K mg base "_law_ways" ["rows", "parts", "most", "row", "end"] (spP (R_ways 5)) 6 := ⟨_, _, rec_l_ways F11 (PySem.W.mg_of X G a11) b11 bn (j := 1) C_l_fits (by decide) 5, PySem.W.mg_of X G a11, F11.kp, b11⟩
  have C_l_lots : Cal l.prog w K mg base "_law_lots" ["rows", "parts", "most"] (spP R_lots) 7 := ⟨_, _, ok_l_lots (k := 6) F12 bn C_l_ways (by decide) len_l_lots (sx_l_lots K), PySem.W.mg_of X G a12, F12.kp, b12⟩
  have C_least_hold : Cal l.prog w K mg base "least_hold" ["rows", "parts"] (spP R_least) 4 := ⟨_, _, ok_least_hold (k := 3) F6 bn C_hold (by decide) len_least_hold (sx_least_hold K), PySem.W.mg_of X G a6, F6.kp, b6⟩
  have C_l_take : Cal l.prog w K mg base "_law_take" ["state", "most"] (spS R_take) 1 := ⟨_, _, fn_take (k := 0) F9 sc_l_take fun cdv A outer s H E hr => ps_l_take bn hr, PySem.W.mg_of X G a9, F9.kp, b9⟩
  have C_l_fault : Cal l.prog w K mg base "_law_fault" ["rows", "parts", "most", "lots", "told"] (spP R_l_fault) 2 := ⟨_, _, ok_l_fault (k := 1) F13 bn C_l_fits (by decide) len_l_fault (sx_l_fault K), PySem.W.mg_of X G a13, F13.kp, b13⟩
  have C_hold_fault : Cal l.prog w K mg base "hold_fault" ["rows", "parts", "most", "told"] (spP R_fault) 3 := ⟨_, _, ok_hold_fault (k := 2) F4 bn C_ticks_for_parts (by decide) C_part_fits (by decide) len_hold_fault (sx_hold_fault K), PySem.W.mg_of X G a4, F4.kp, b4⟩
  have C_waits_of : Cal l.prog w K mg base "waits_of" ["parts", "ticks"] (spP R_waits) 1 := ⟨_, _, ok_waits_of (k := 0) F5 bn len_waits_of (sx_waits_of K), PySem.W.mg_of X G a5, F5.kp, b5⟩
  have C_parts_of : Cal l.prog w K mg base "parts_of" ["needs", "cuts"] (spP R_parts_of) 1 := ⟨_, _, ok_parts_of (k := 0) F7 bn len_parts_of (sx_parts_of K), PySem.W.mg_of X G a7, F7.kp, b7⟩
  exact top_law (k := 7) F14 bn C_l_state (by decide) C_hold (by decide) C_l_ways (by decide) C_l_lots (by decide) C_least_hold (by decide) C_l_take (by decide) C_l_fault (by decide) C_hold_fault (by decide) C_waits_of (by decide) C_parts_of (by decide) C_part_fits (by decide) C_l_fits (by decide) ⟨rfl, by decide, by decide⟩ len_law (sx_law K)
theorem walk {l : PySem.W.OpenLaw} {q : Program} {loose : List Str} {XP : (Str → Option Value) → Heap → Prop} {YP : World → Heap → Prop} {d : DefRec} {K : Params → PySem.W.Frag} (hn : l.most = some 63) (hdf : d.params.defaults = [])
    (hY : ∀ (w : World) (h : Heap), YP w h → (K w.params).In h) (nl : ∀ w : World, noLs (K w.params) = true)
    (F : ∀ (w : World) (mg : Str → Option Value) (fa : Addr) (h : Heap), (K w.params).In h → h.Ns mainGlobals mg → mg d.name = some (.ref fa) →
      ∃ fd : FuncData, (∀ (s : Shared) (u : Value), BindsTo s fd ⟨[u], []⟩ [("script", u)]) ∧ ∀ base : Heap, (K w.params).In base → base.Ns mainGlobals mg → TopOk l.prog w (K w.params) mg base fa fd ["script"] (spP R_law)) :
    PySem.W.WalkO q loose XP YP l.row.toRowW d [] (fun f vs => PySem.call f vs) :=
  walk_top (n := 63) (x := "script") (R := R_law) hn (by decide) hdf hY nl F fun ns hl => ⟨ns, rfl, rfl⟩
end Law_k89
open PySem PySem.W PyProof.Rows
set_option maxHeartbeats 0 in
theorem PySem.Challenge.cw_firescore_k89_holds_by_all_waits_holds : PySem.Challenge.rw_firescore_k89_holds_by_all_waits.Holds := by
  w_on; o_law; k_head; (case hw => w_witness2)
  k_fill
  refine Law_k89.walk (l := PySem.Challenge.rw_firescore_k89_holds_by_all_waits) rfl rfl (fun w h Y => PySem.W.kIn_of Y) (fun w => ?NL) ?F
  case NL => rfl
  case F =>
    intro w mg fa h KX G hmg
    refine' Law_k89.all_mk KX G hmg ?a1 ?l1 ?c1 ?k1 ?a2 ?l2 ?c2 ?k2 ?a3 ?l3 ?c3 ?k3 ?a4 ?l4 ?c4 ?k4 ?a5 ?l5 ?c5 ?k5 ?a6 ?l6 ?c6 ?k6 ?a7 ?l7 ?c7 ?k7 ?a8 ?l8 ?c8 ?k8 ?a9 ?l9 ?c9 ?k9 ?a10 ?l10 ?c10 ?k10 ?a11 ?l11 ?c11 ?k11 ?a12 ?l12 ?c12 ?k12 ?a13 ?l13 ?c13 ?k13 ?a14 ?l14 ?c14 ?k14 ?z1 ?z2 ?z3 ?z4 ?z5 ?z6 ?z7 ?z8 ?z9 ?z10 ?z11 ?z12 ?z13 ?z14 ?z15 ?z16 ?z17 ?z18 ?z19 ?z20
    (case a1 => k_is); (case l1 => k_is); (case c1 => k_is); (case k1 => k_is)
    (case a2 => k_is); (case l2 => k_is); (case c2 => k_is); (case k2 => k_is)
    (case a3 => k_is); (case l3 => k_is); (case c3 => k_is); (case k3 => k_is)
    (case a4 => k_is); (case l4 => k_is); (case c4 => k_is); (case k4 => k_is)
    (case a5 => k_is); (case l5 => k_is); (case c5 => k_is); (case k5 => k_is)
    (case a6 => k_is); (case l6 => k_is); (case c6 => k_is); (case k6 => k_is)
    (case a7 => k_is); (case l7 => k_is); (case c7 => k_is); (case k7 => k_is)
    (case a8 => k_is); (case l8 => k_is); (case c8 => k_is); (case k8 => k_is)
    (case a9 => k_is); (case l9 => k_is); (case c9 => k_is); (case k9 => k_is)
    (case a10 => k_is); (case l10 => k_is); (case c10 => k_is); (case k10 => k_is)
    (case a11 => k_is); (case l11 => k_is); (case c11 => k_is); (case k11 => k_is)
    (case a12 => k_is); (case l12 => k_is); (case c12 => k_is); (case k12 => k_is)
    (case a13 => k_is); (case l13 => k_is); (case c13 => k_is); (case k13 => k_is)
    (case a14 => k_is); (case l14 => k_is); (case c14 => k_is); (case k14 => k_is)
    (case z1 => k_is)
    (case z2 => k_is)
    (case z3 => k_is)
    (case z4 => k_is)
    (case z5 => k_is)
    (case z6 => k_is)
    (case z7 => k_is)
    (case z8 => k_is)
    (case z9 => k_is)
    (case z10 => k_is)
    (case z11 => k_is)
    (case z12 => k_is)
    (case z13 => k_is)
    (case z14 => k_is)
    (case z15 => k_is)
    (case z16 => k_is)
    (case z17 => k_is)
    (case z18 => k_is)
    (case z19 => k_is)
    (case z20 => k_is)
