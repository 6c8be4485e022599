import PyProof.Rows.All
import Wide.All
import OpenK.AllK
import Wide.FinOn
import HandS.ForMost
import HandS.TupAny
import HandS.Zip
import KE.SortData
import KE.DataMinMax
import KE.DataEq
import KE.DataFind
import HandS.Style
import HandS.Dict
import KE.DatumIndex
import HandS.Deep
import HandS.Set
import HandS.SetFor
import KE.DataAny
import HandS.Conv
import HandS.NoneIn
import PySem.Challenge.RW_firescore_k65_trips_by_all_ways
set_option Elab.async false
set_option linter.all false
set_option autoImplicit false
set_option maxRecDepth 100000
set_option maxHeartbeats 4000000
/-! Pu: the hand layer's readings over pure data: slots hold data, own lists, a state; no addresses. -/
namespace Pu
open PySem L2

abbrev D := PyData
mutual
/-- the value v reads as the datum d in the frozen part F of the heap -/
inductive Rp (F : Hp) : V → D → Prop
  | non : Rp F .non .none
  | bl (b : Bool) : Rp F (.bl b) (.bool b)
  | int (i : Int) : Rp F (.int i) (.int i)
  | str (x : Str) : Rp F (.str x) (.str x)
  | lst {a : Addr} {xs : List V} {ds : List D} : Rd F a (.lst xs) → RpA F xs ds → Rp F (.ref a) (.list ds)
  | tup {a : Addr} {xs : List V} {ds : List D} : F a = some (.tup xs) → RpA F xs ds → Rp F (.ref a) (.tuple ds)
inductive RpA (F : Hp) : List V → List D → Prop
  | nil : RpA F [] []
  | cons {v : V} {vs : List V} {d : D} {ds : List D} : Rp F v d → RpA F vs ds → RpA F (v :: vs) (d :: ds)
end
theorem rd_mono {F G : Hp} {a : Addr} {u : HO} (e : Same F G) (h : Rd F a u) : Rd G a u := by
  rcases h with h | ⟨o, h⟩
  · exact .inl (e _ _ h)
  · exact .inr ⟨o, e _ _ h⟩
mutual
theorem Rp.mono {F G : Hp} (e : Same F G) : ∀ (d : D) {v : V}, Rp F v d → Rp G v d
  | .none, _, h => by cases h; exact .non
  | .bool b, _, h => by cases h; exact .bl b
  | .int i, _, h => by cases h; exact .int i
  | .str x, _, h => by cases h; exact .str x
  | .list ds, _, h => by
    cases h with
    | lst h1 h2 => exact .lst (rd_mono e h1) (RpA.mono e ds h2)
  | .tuple ds, _, h => by
    cases h with
    | tup h1 h2 => exact .tup (e _ _ h1) (RpA.mono e ds h2)
  | .dict _, _, h => by cases h
theorem RpA.mono {F G : Hp} (e : Same F G) : ∀ (ds : List D) {vs : List V}, RpA F vs ds → RpA G vs ds
  | [], _, h => by cases h; exact .nil
  | d :: ds, _, h => by
    cases h with
    | cons h1 h2 => exact .cons (Rp.mono e d h1) (RpA.mono e ds h2)
end
theorem Rp.up {F G : Hp} {d : D} {v : V} (h : Rp F v d) (e : Same F G) : Rp G v d := Rp.mono e d h
theorem RpA.up {F G : Hp} {ds : List D} {vs : List V} (h : RpA F vs ds) (e : Same F G) : RpA G vs ds := RpA.mono e ds h
theorem sqL_rd {K : PySem.W.Frag} {F H : Hp} {a : Addr} {xs : List V} (h : Rd F a (.lst xs)) (e : Same F H) : SqL K H a xs := .inl (rd_mono e h)
theorem sqT_rd {K : PySem.W.Frag} {F H : Hp} {a : Addr} {xs : List V} (h : F a = some (.tup xs)) (e : Same F H) : SqT K H a xs := .inl (.inl (e _ _ h))
mutual
theorem Rp.dp {K : PySem.W.Frag} {F H : Hp} (e : Same F H) : ∀ (d : D) {v : V}, Rp F v d → Dp K H v d
  | .none, _, h => by cases h; exact .non
  | .bool b, _, h => by cases h; exact .bl b
  | .int i, _, h => by cases h; exact .int i
  | .str x, _, h => by cases h; exact .str x
  | .list ds, _, h => by
    cases h with
    | lst h1 h2 => exact .lst (sqL_rd h1 e) (RpA.dp e ds h2)
  | .tuple ds, _, h => by
    cases h with
    | tup h1 h2 => exact .tup (sqT_rd h1 e) (RpA.dp e ds h2)
  | .dict _, _, h => by cases h
theorem RpA.dp {K : PySem.W.Frag} {F H : Hp} (e : Same F H) : ∀ (ds : List D) {vs : List V}, RpA F vs ds → DpAll K H vs ds
  | [], _, h => by cases h; exact .nil
  | d :: ds, _, h => by
    cases h with
    | cons h1 h2 => exact .cons (Rp.dp e d h1) (RpA.dp e ds h2)
end
section
variable {F : Hp}
theorem Rp.int_inv {v : V} {i : Int} (h : Rp F v (.int i)) : v = .int i := by cases h; rfl
theorem Rp.bl_inv {v : V} {b : Bool} (h : Rp F v (.bool b)) : v = .bl b := by cases h; rfl
theorem Rp.str_inv {v : V} {x : Str} (h : Rp F v (.str x)) : v = .str x := by cases h; rfl
theorem Rp.non_inv {v : V} (h : Rp F v .none) : v = .non := by cases h; rfl
theorem Rp.lst_inv {v : V} {ds : List D} (h : Rp F v (.list ds)) : ∃ a xs, v = .ref a ∧ Rd F a (.lst xs) ∧ RpA F xs ds := by
  cases h with
  | lst h1 h2 => exact ⟨_, _, rfl, h1, h2⟩
theorem Rp.tup_inv {v : V} {ds : List D} (h : Rp F v (.tuple ds)) : ∃ a xs, v = .ref a ∧ F a = some (.tup xs) ∧ RpA F xs ds := by
  cases h with
  | tup h1 h2 => exact ⟨_, _, rfl, h1, h2⟩
theorem RpA.len : ∀ {vs : List V} {ds : List D}, RpA F vs ds → vs.length = ds.length
  | _, [], h => by cases h; rfl
  | _, d :: ds, h => by
    cases h with
    | cons h1 h2 => simp [RpA.len h2]
theorem RpA.get : ∀ {vs : List V} {ds : List D} {k : Nat} {d : D}, RpA F vs ds → ds[k]? = some d → ∃ v, vs[k]? = some v ∧ Rp F v d
  | _, [], k, d, h, e => by simp at e
  | _, a :: ds, 0, d, h, e => by
    cases h with
    | cons h1 h2 =>
      simp at e
      subst e
      exact ⟨_, rfl, h1⟩
  | _, a :: ds, k + 1, d, h, e => by
    cases h with
    | cons h1 h2 =>
      obtain ⟨v, e1, e2⟩ := RpA.get (k := k) h2 (by simpa using e)
      exact ⟨v, by simpa using e1, e2⟩
theorem RpA.get' : ∀ {vs : List V} {ds : List D} {k : Nat} {v : V}, RpA F vs ds → vs[k]? = some v → ∃ d, ds[k]? = some d ∧ Rp F v d := fun {vs ds k v} h e => by
  have hk : k < ds.length := by rw [← h.len]; exact (List.getElem?_eq_some_iff.mp e).1
  obtain ⟨w, e1, e2⟩ := h.get (List.getElem?_eq_getElem hk)
  rw [e] at e1
  cases e1
  exact ⟨_, List.getElem?_eq_getElem hk, e2⟩
theorem RpA.app : ∀ {vs ws : List V} {ds es : List D}, RpA F vs ds → RpA F ws es → RpA F (vs ++ ws) (ds ++ es)
  | _, _, [], es, h, g => by cases h; exact g
  | _, _, d :: ds, es, h, g => by
    cases h with
    | cons h1 h2 => exact .cons h1 (RpA.app h2 g)
theorem RpA.take : ∀ {vs : List V} {ds : List D} (n : Nat), RpA F vs ds → RpA F (vs.take n) (ds.take n)
  | _, _, 0, h => by simp; exact .nil
  | _, [], n + 1, h => by cases h; exact .nil
  | _, d :: ds, n + 1, h => by
    cases h with
    | cons h1 h2 => exact .cons h1 (RpA.take n h2)
theorem RpA.drop : ∀ {vs : List V} {ds : List D} (n : Nat), RpA F vs ds → RpA F (vs.drop n) (ds.drop n)
  | _, _, 0, h => by simpa using h
  | _, [], n + 1, h => by cases h; exact .nil
  | _, d :: ds, n + 1, h => by
    cases h with
    | cons h1 h2 => exact RpA.drop n h2
theorem RpA.set : ∀ {vs : List V} {ds : List D} {v : V} {d : D} (n : Nat), RpA F vs ds → Rp F v d → RpA F (vs.set n v) (ds.set n d)
  | _, [], _, _, n, h, g => by cases h; exact .nil
  | _, e :: ds, _, _, 0, h, g => by
    cases h with
    | cons h1 h2 => exact .cons g h2
  | _, e :: ds, _, _, n + 1, h, g => by
    cases h with
    | cons h1 h2 => exact .cons h1 (RpA.set n h2 g)
theorem RpA.ints : ∀ (ns : List Int), RpA F (ns.map V.int) (ns.map PyData.int)
  | [] => .nil
  | n :: ns => .cons (.int n) (RpA.ints ns)
theorem RpA.ints_inv : ∀ {ns : List Int} {vs : List V}, RpA F vs (ns.map PyData.int) → vs = ns.map V.int
  | [], _, h => by cases h; rfl
  | n :: ns, _, h => by
    cases h with
    | cons h1 h2 =>
      rw [h1.int_inv, RpA.ints_inv h2]
      rfl
theorem RpA.rev {vs : List V} {ds : List D} (h : RpA F vs ds) : RpA F vs.reverse ds.reverse := by
  induction ds generalizing vs with
  | nil => cases h; exact .nil
  | cons d ds ih =>
    cases h with
    | cons h1 h2 =>
      rw [List.reverse_cons, List.reverse_cons]
      exact (ih h2).app (.cons h1 .nil)
end

/-! ### state, slots, the world -/
inductive Stt where
  | two (a b : Int)
  | cel (a : Int) (cs : List Int)
  | dct (kvs : List (Int × Int))
  /-- a list of lists of ints and None that nobody else has -/
  | grd (rows : List (List (Option Int)))
def ov : Option Int → V
  | none => .non
  | some i => .int i
/-- the inner lists -/
def GrA (H : Hp) : List Addr → List (List (Option Int)) → Prop
  | [], [] => True
  | q :: qs, r :: rows => H q = some (.lst (r.map ov)) ∧ GrA H qs rows
  | _, _ => False
def StAt (H : Hp) : Stt → Addr → List Addr → Prop
  | .two a b, s, as => as = [s] ∧ H s = some (.lst [.int a, .int b])
  | .cel a cs, s, as => ∃ c, as = [s, c] ∧ s ≠ c ∧ H s = some (.lst [.int a, .ref c]) ∧ H c = some (.lst (cs.map V.int))
  | .dct kvs, s, as => as = [s] ∧ H s = some (.dK (kvs.map fun p => ((.inl p.1 : Key), V.int p.2)))
  | .grd rows, s, as => ∃ qs, as = s :: qs ∧ (s :: qs).Nodup ∧ H s = some (.lst (qs.map V.ref)) ∧ GrA H qs rows
theorem GrA.mem {H : Hp} : ∀ {qs : List Addr} {rows : List (List (Option Int))}, GrA H qs rows → ∀ q ∈ qs, H q ≠ none
  | q :: qs, r :: rows, h, x, hx => by
    rcases List.mem_cons.mp hx with rfl | hx
    · rw [h.1]; intro z; cases z
    · exact GrA.mem h.2 x hx
  | [], _, _, x, hx => by cases hx
  | _ :: _, [], h, _, _ => h.elim
theorem GrA.keep {H H' : Hp} : ∀ {qs : List Addr} {rows : List (List (Option Int))}, GrA H qs rows → (∀ q ∈ qs, ∀ o, H q = some o → H' q = some o) → GrA H' qs rows
  | q :: qs, r :: rows, h, k => ⟨k q (by simp) _ h.1, GrA.keep h.2 fun x hx => k x (by simp [hx])⟩
  | [], [], _, _ => trivial
  | [], _ :: _, h, _ => h.elim
  | _ :: _, [], h, _ => h.elim
theorem StAt.mem {H : Hp} {S : Stt} {s : Addr} {as : List Addr} (h : StAt H S s as) : s ∈ as ∧ ∀ a ∈ as, H a ≠ none := by
  cases S with
  | two a b =>
    obtain ⟨rfl, h⟩ := h
    exact ⟨by simp, fun x hx => by
      have e : x = s := by simpa using hx
      rw [e, h]; intro z; cases z⟩
  | dct kvs =>
    obtain ⟨rfl, h⟩ := h
    exact ⟨by simp, fun x hx => by
      have e : x = s := by simpa using hx
      rw [e, h]; intro z; cases z⟩
  | cel a cs =>
    obtain ⟨c, rfl, _, h1, h2⟩ := h
    exact ⟨by simp, fun x hx => by
      have e : x = s ∨ x = c := by simpa using hx
      rcases e with e | e
      · rw [e, h1]; intro z; cases z
      · rw [e, h2]; intro z; cases z⟩
  | grd rows =>
    obtain ⟨qs, rfl, _, h1, h2⟩ := h
    exact ⟨by simp, fun x hx => by
      rcases List.mem_cons.mp hx with rfl | hx
      · rw [h1]; intro z; cases z
      · exact h2.mem x hx⟩
theorem StAt.keep {H H' : Hp} {S : Stt} {s : Addr} {as : List Addr} (h : StAt H S s as) (k : ∀ a ∈ as, ∀ o, H a = some o → H' a = some o) : StAt H' S s as := by
  cases S with
  | two a b =>
    obtain ⟨rfl, h⟩ := h
    exact ⟨rfl, k s (by simp) _ h⟩
  | dct kvs =>
    obtain ⟨rfl, h⟩ := h
    exact ⟨rfl, k s (by simp) _ h⟩
  | cel a cs =>
    obtain ⟨c, rfl, ne, h1, h2⟩ := h
    exact ⟨c, rfl, ne, k s (by simp) _ h1, k c (by simp) _ h2⟩
  | grd rows =>
    obtain ⟨qs, rfl, nd, h1, h2⟩ := h
    exact ⟨qs, rfl, nd, k s (by simp) _ h1, h2.keep fun q hq => k q (by simp [hq])⟩
inductive Slot where
  | emp
  | val (d : D)
  | own (ds : List D)
  | st (S : Stt)
abbrev Env := List Slot
structure Base where
  F0 : Hp
  H0 : Hp
  M : Addr → Prop
  pin : Option (Addr × List Addr) := none
/-- from (F, H) to (F', H'): all is kept but what M has -/
structure Gr (M : Addr → Prop) (F H F' H' : Hp) : Prop where
  ff : Same F F'
  fh : Same F' H'
  kp : ∀ a o, H a = some o → ¬ M a → H' a = some o
  al : ∀ a, H a ≠ none → H' a ≠ none
  fr : ∀ a, H a ≠ none → F a = none → F' a = none
theorem Gr.refl {M : Addr → Prop} {F H : Hp} (e : Same F H) : Gr M F H F H := ⟨Same.refl F, e, fun _ _ h _ => h, fun _ h => h, fun _ _ h => h⟩
theorem Gr.trans {M M1 M2 : Addr → Prop} {F H F1 H1 F2 H2 : Hp} (a : Gr M1 F H F1 H1) (b : Gr M2 F1 H1 F2 H2) (i1 : ∀ x, H x ≠ none → M1 x → M x) (i2 : ∀ x, H x ≠ none → M2 x → M x) : Gr M F H F2 H2 :=
  ⟨a.ff.trans b.ff, b.fh, fun x o h m => b.kp x o (a.kp x o h fun z => m (i1 x (by rw [h]; intro q; cases q) z)) fun z => m (i2 x (by rw [h]; intro q; cases q) z), fun x h => b.al x (a.al x h), fun x h e => b.fr x (a.al x h) (a.fr x h e)⟩
/-- nothing changes -/
abbrev Non : Addr → Prop := fun _ => False

def SlotOk (B : Base) (F H : Hp) : Slot → Option (Option V) → List Addr → Prop
  | .emp, _, as => as = []
  | .val d, x, as => as = [] ∧ ∃ v, x = some (some v) ∧ Rp F v d
  | .own ds, x, as => ∃ p vs, as = [p] ∧ B.H0 p = none ∧ x = some (some (.ref p)) ∧ H p = some (.lst vs) ∧ RpA F vs ds
  | .st S, x, as => ∃ s, x = some (some (.ref s)) ∧ StAt H S s as
/-- a state that came as the first argument stays where it is -/
def PinOk (B : Base) (ad : Nat → List Addr) (ρ : Env) (σ : St) : Prop := ∀ s as, B.pin = some (s, as) → ∀ S, ρ[0]? = some (Slot.st S) → σ[0]? = some (some (.ref s)) ∧ ad 0 = as
theorem PinOk.to {B : Base} {ad ad' : Nat → List Addr} {ρ ρ' : Env} {σ σ' : St} (h : PinOk B ad ρ σ) (k : ∀ S, ρ'[0]? = some (Slot.st S) → (∃ S', ρ[0]? = some (Slot.st S')) ∧ σ'[0]? = σ[0]? ∧ ad' 0 = ad 0) : PinOk B ad' ρ' σ' := fun s as e S q => by
  obtain ⟨⟨S', e1⟩, e2, e3⟩ := k S q
  rw [e2, e3]
  exact h s as e S' e1
structure WA (B : Base) (ad : Nat → List Addr) (ρ : Env) (σ : St) (F H : Hp) : Prop where
  gr : Gr B.M B.F0 B.H0 F H
  len : σ.length = ρ.length
  sl : ∀ i s, ρ[i]? = some s → SlotOk B F H s σ[i]? (ad i)
  fz : ∀ i p, p ∈ ad i → F p = none ∧ (B.H0 p = none ∨ (B.M p ∧ i = 0))
  dj : ∀ i j p, p ∈ ad i → p ∈ ad j → i = j
  out : ∀ i, ρ[i]? = none → ad i = []
  pin : PinOk B ad ρ σ
def W (B : Base) (ρ : Env) (σ : St) (F H : Hp) : Prop := ∃ ad, WA B ad ρ σ F H
/-- the addresses of the states -/
def MS (ad : Nat → List Addr) (ρ : Env) (a : Addr) : Prop := ∃ (i : Nat) (S : Stt), ρ[i]? = some (Slot.st S) ∧ a ∈ ad i
/-- behind an expression -/
structure Post (B : Base) (ad : Nat → List Addr) (σ : St) (ρ : Env) (F H : Hp) (ρ' : Env) (F' H' : Hp) : Prop where
  wa : WA B ad ρ' σ F' H'
  gr : Gr (MS ad ρ) F H F' H'
  sh : ∀ (i : Nat) (S' : Stt), ρ'[i]? = some (Slot.st S') → ∃ S, ρ[i]? = some (Slot.st S)
section
variable {B : Base} {ad : Nat → List Addr} {ρ ρ' ρ1 ρ2 : Env} {σ : St} {F H F' H' F1 H1 F2 H2 : Hp}
theorem Post.refl (w : WA B ad ρ σ F H) : Post B ad σ ρ F H ρ F H := ⟨w, Gr.refl w.gr.fh, fun i S h => ⟨S, h⟩⟩
theorem Post.trans (a : Post B ad σ ρ F H ρ1 F1 H1) (b : Post B ad σ ρ1 F1 H1 ρ2 F2 H2) : Post B ad σ ρ F H ρ2 F2 H2 :=
  ⟨b.wa, a.gr.trans b.gr (fun _ _ h => h) fun x _ ⟨i, S, h, m⟩ => let ⟨S', h'⟩ := a.sh i S h; ⟨i, S', h', m⟩, fun i S h => let ⟨S1, h1⟩ := b.sh i S h; a.sh i S1 h1⟩
theorem WA.lv (w : WA B ad ρ σ F H) {i : Nat} {p : Addr} (h : p ∈ ad i) : H p ≠ none := by
  cases e : ρ[i]? with
  | none => rw [w.out i e] at h; cases h
  | some s =>
    have k := w.sl i s e
    cases s with
    | emp => have k : ad i = [] := k; rw [k] at h; cases h
    | val d => have k : ad i = [] := k.1; rw [k] at h; cases h
    | own ds =>
      obtain ⟨q, vs, k, _, _, k2, _⟩ := k
      rw [k] at h
      have e : p = q := by simpa using h
      rw [e, k2]
      intro z; cases z
    | st S =>
      obtain ⟨s, _, k⟩ := k
      exact k.mem.2 p h
/-- nothing tracked changes, F grows -/
theorem WA.grow (w : WA B ad ρ σ F H) (g : Gr Non F H F' H') : WA B ad ρ σ F' H' where
  gr := w.gr.trans g (fun _ _ h => h) fun _ _ h => h.elim
  len := w.len
  sl := fun i s h => by
    have k := w.sl i s h
    cases s with
    | emp => exact k
    | val d =>
      obtain ⟨k, v, e, r⟩ := k
      exact ⟨k, v, e, r.up g.ff⟩
    | own ds =>
      obtain ⟨p, vs, k, k0, k1, k2, r⟩ := k
      exact ⟨p, vs, k, k0, k1, g.kp _ _ k2 id, r.up g.ff⟩
    | st S =>
      obtain ⟨s, k1, k⟩ := k
      exact ⟨s, k1, k.keep fun a _ o e => g.kp a o e id⟩
  fz := fun i p h => ⟨g.fr p (w.lv h) (w.fz i p h).1, (w.fz i p h).2⟩
  dj := w.dj
  out := w.out
  pin := w.pin
theorem Post.of (w : WA B ad ρ σ F H) (g : Gr Non F H F' H') : Post B ad σ ρ F H ρ F' H' := ⟨w.grow g, ⟨g.ff, g.fh, fun a o h _ => g.kp a o h id, g.al, g.fr⟩, fun i S h => ⟨S, h⟩⟩
theorem Gr.heap (e : Same F H) (g : Same H H') : Gr Non F H F H' where
  ff := Same.refl F
  fh := e.trans g
  kp := fun a o h _ => g a o h
  al := fun a h => by
    cases q : H a with
    | none => exact absurd q h
    | some o =>
      rw [g a o q]
      intro z
      cases z
  fr := fun _ _ h => h
theorem same_upd {p : Addr} {o : HO} (h : H p = none) : Same H (upd H p o) := fun b u q => by rw [upd_ne (ne_of_none q h)]; exact q
/-- a new object is laid and frozen -/
theorem Gr.new {p : Addr} {o : HO} (e : Same F H) (h : H p = none) : Gr Non F H (upd F p o) (upd H p o) where
  ff := same_upd (by
    cases q : F p with
    | none => rfl
    | some u => rw [e p u q] at h; cases h)
  fh := fun a u q => by
    by_cases ha : a = p
    · subst ha; rw [upd_same] at q ⊢; exact q
    · rw [upd_ne ha] at q ⊢; exact e a u q
  kp := fun a u q _ => by rw [upd_ne (ne_of_none q h)]; exact q
  al := fun a q => by
    by_cases ha : a = p
    · subst ha; rw [upd_same]; intro z; cases z
    · rw [upd_ne ha]; exact q
  fr := fun a q z => by
    have ha : a ≠ p := fun z => q (z ▸ h)
    rw [upd_ne ha]
    exact z
end

/-! ### expressions over pure data -/
def EX (te : TE) (ρ : Env) (Q : D → Env → Prop) : Prop := ∀ B ad σ F H, WA B ad ρ σ F H → ∀ Z : VK, (∀ d ρ' v F' H', Q d ρ' → Post B ad σ ρ F H ρ' F' H' → Rp F' v d → Z v H') → te σ H Z
def EA (ta : TA) (ρ : Env) (Q : List D → Env → Prop) : Prop := ∀ B ad σ F H, WA B ad ρ σ F H → ∀ Z : List V → Hp → Prop, (∀ ds ρ' vs F' H', Q ds ρ' → Post B ad σ ρ F H ρ' F' H' → RpA F' vs ds → Z vs H') → ta σ H Z
def ET (tt : TT) (ρ : Env) (Q : Bool → Env → Prop) : Prop := ∀ B ad σ F H, WA B ad ρ σ F H → ∀ Z : Bool → Hp → Prop, (∀ b ρ' F' H', Q b ρ' → Post B ad σ ρ F H ρ' F' H' → Z b H') → tt σ H Z
/-- a new list, not yet frozen -/
def EO (te : TE) (ρ : Env) (Q : List D → Env → Prop) : Prop := ∀ B ad σ F H, WA B ad ρ σ F H → ∀ Z : VK,
  (∀ ds ρ' p vs F' H', Q ds ρ' → Post B ad σ ρ F H ρ' F' H' → F' p = none → H p = none → H' p = some (.lst vs) → RpA F' vs ds → Z (.ref p) H') → te σ H Z
def EPt (to : TO) (ρ : Env) (Q : Option Int → Env → Prop) : Prop := ∀ B ad σ F H, WA B ad ρ σ F H → ∀ Z : Option Int → Hp → Prop, (∀ o ρ' F' H', Q o ρ' → Post B ad σ ρ F H ρ' F' H' → Z o H') → to σ H Z
/-- operations by data -/
def OpD (r : R2) (d1 d2 : D) (K : D → Prop) : Prop := ∀ F H x y, Same F H → Rp F x d1 → Rp F y d2 → ∀ Z : VK, (∀ d v F' H', K d → Gr Non F H F' H' → Rp F' v d → Z v H') → r x y H Z
def OpO (r : R2) (d1 d2 : D) (K : List D → Prop) : Prop := ∀ F H x y, Same F H → Rp F x d1 → Rp F y d2 → ∀ Z : VK, (∀ ds p vs H', K ds → Same H H' → H p = none → H' p = some (.lst vs) → RpA F vs ds → Z (.ref p) H') → r x y H Z
def UnD (r : V → Hp → VK → Prop) (d1 : D) (K : D → Prop) : Prop := ∀ F H x, Same F H → Rp F x d1 → ∀ Z : VK, (∀ d v F' H', K d → Gr Non F H F' H' → Rp F' v d → Z v H') → r x H Z
def CbD (r : List V → Hp → VK → Prop) (ds : List D) (K : D → Prop) : Prop := ∀ F H vs, Same F H → RpA F vs ds → ∀ Z : VK, (∀ d v F' H', K d → Gr Non F H F' H' → Rp F' v d → Z v H') → r vs H Z
def CbO (r : List V → Hp → VK → Prop) (ds : List D) (K : List D → Prop) : Prop := ∀ F H vs, Same F H → RpA F vs ds → ∀ Z : VK, (∀ es p ws H', K es → Same H H' → H p = none → H' p = some (.lst ws) → RpA F ws es → Z (.ref p) H') → r vs H Z
def SlD (r : V → Option Int → Option Int → Hp → VK → Prop) (d1 : D) (lo hi : Option Int) (K : D → Prop) : Prop := ∀ F H x, Same F H → Rp F x d1 → ∀ Z : VK, (∀ d v F' H', K d → Gr Non F H F' H' → Rp F' v d → Z v H') → r x lo hi H Z
def SlO (r : V → Option Int → Option Int → Hp → VK → Prop) (d1 : D) (lo hi : Option Int) (K : List D → Prop) : Prop := ∀ F H x, Same F H → Rp F x d1 → ∀ Z : VK, (∀ ds p vs H', K ds → Same H H' → H p = none → H' p = some (.lst vs) → RpA F vs ds → Z (.ref p) H') → r x lo hi H Z

section
variable {B : Base} {ad : Nat → List Addr} {ρ ρ' ρ1 ρ2 : Env} {σ : St} {F H F' H' F1 H1 F2 H2 : Hp} {te ta tb tc : TE} {tt tu : TT} {t : TA} {Q Q' : D → Env → Prop}
theorem WA.newp (w : WA B ad ρ σ F H) {p : Addr} (h : H p = none) : F p = none ∧ B.H0 p = none ∧ ∀ i, p ∉ ad i := by
  refine ⟨w.gr.fh.free h, ?_, fun i m => w.lv m h⟩
  cases q : B.H0 p with
  | none => rfl
  | some o => exact absurd h (w.gr.al p (by rw [q]; intro z; cases z))
/-- a list that nobody owns is frozen -/
theorem WA.freeze (w : WA B ad ρ σ F H) {p : Addr} {vs : List V} (hF : F p = none) (h0 : B.H0 p = none) (hn : ∀ i, p ∉ ad i) (hp : H p = some (.lst vs)) : WA B ad ρ σ (upd F p (.lst vs)) H where
  gr := ⟨w.gr.ff.trans (same_upd hF), fun a o e => by
    by_cases ha : a = p
    · subst ha; rw [upd_same] at e; rw [hp]; exact e
    · rw [upd_ne ha] at e; exact w.gr.fh a o e, w.gr.kp, w.gr.al, fun a e z => by
    have ha : a ≠ p := fun q => e (by rw [q]; exact h0)
    rw [upd_ne ha]
    exact w.gr.fr a e z⟩
  len := w.len
  sl := fun i s e => by
    have k := w.sl i s e
    have up := same_upd (o := .lst vs) hF
    cases s with
    | emp => exact k
    | val d =>
      obtain ⟨k, v, e, r⟩ := k
      exact ⟨k, v, e, r.up up⟩
    | own ds =>
      obtain ⟨q, ws, k, k0, k1, k2, r⟩ := k
      exact ⟨q, ws, k, k0, k1, k2, r.up up⟩
    | st S => exact k
  fz := fun i q m => by
    have ne : q ≠ p := fun z => hn i (z ▸ m)
    rw [upd_ne ne]
    exact w.fz i q m
  dj := w.dj
  out := w.out
  pin := w.pin
theorem Post.freeze (w : Post B ad σ ρ F H ρ' F' H') (w0 : WA B ad ρ σ F H) {p : Addr} {vs : List V} (hF : F' p = none) (hH : H p = none) (hp : H' p = some (.lst vs)) : Post B ad σ ρ F H ρ' (upd F' p (.lst vs)) H' :=
  have n := w0.newp hH
  have f := w.wa.freeze hF n.2.1 n.2.2 hp
  ⟨f, ⟨w.gr.ff.trans (same_upd hF), f.gr.fh, w.gr.kp, w.gr.al, fun a e z => by
    have ha : a ≠ p := fun q => e (by rw [q]; exact hH)
    rw [upd_ne ha]
    exact w.gr.fr a e z⟩, w.sh⟩

/-! #### the rules -/
theorem EX.imp (h : EX te ρ Q) (k : ∀ d ρ', Q d ρ' → Q' d ρ') : EX te ρ Q' := fun B ad σ F H w Z z => h B ad σ F H w Z fun d ρ' v F' H' q p r => z d ρ' v F' H' (k d ρ' q) p r
theorem ex_of {Q : D → Env → Prop} (h : EO te ρ fun ds ρ' => Q (.list ds) ρ') : EX te ρ Q := fun B ad σ F H w Z z => h B ad σ F H w Z fun ds ρ' p vs F' H' q P hF hH hp r =>
  z _ ρ' _ (upd F' p (.lst vs)) H' q (P.freeze w hF hH hp) (.lst (.inl upd_same) (r.up (same_upd hF)))
theorem ex_var {i : Nat} {d : D} (h : ρ[i]? = some (.val d)) (q : Q d ρ) : EX (tVar i) ρ Q := fun B ad σ F H w Z z => by
  obtain ⟨_, v, e, r⟩ := w.sl i _ h
  exact ⟨v, e, z d ρ v F H q (Post.refl w) r⟩
theorem ex_c {v : V} {d : D} (r : ∀ F, Rp F v d) (q : Q d ρ) : EX (tC v) ρ Q := fun B ad σ F H w Z z => z d ρ v F H q (Post.refl w) (r F)
theorem ex_int {i : Int} (q : Q (.int i) ρ) : EX (tC (.int i)) ρ Q := ex_c (fun _ => .int i) q
theorem ex_str {x : Str} (q : Q (.str x) ρ) : EX (tC (.str x)) ρ Q := ex_c (fun _ => .str x) q
theorem ex_bl {b : Bool} (q : Q (.bool b) ρ) : EX (tC (.bl b)) ρ Q := ex_c (fun _ => .bl b) q
theorem ex_non (q : Q .none ρ) : EX (tC .non) ρ Q := ex_c (fun _ => .non) q
theorem ex_op {r : R2} (h : EX ta ρ fun d1 ρ1 => EX tb ρ1 fun d2 ρ2 => OpD r d1 d2 fun d => Q d ρ2) : EX (tOp r ta tb) ρ Q := fun B ad σ F H w Z z =>
  h B ad σ F H w _ fun d1 ρ1 x F1 H1 q1 p1 r1 => q1 B ad σ F1 H1 p1.wa _ fun d2 ρ2 y F2 H2 q2 p2 r2 =>
    q2 F2 H2 x y p2.wa.gr.fh (r1.up p2.gr.ff) r2 Z fun d v F' H' kd g rv => z d ρ2 v F' H' kd ((p1.trans p2).trans (Post.of p2.wa g)) rv
theorem eo_op {r : R2} {Q : List D → Env → Prop} (h : EX ta ρ fun d1 ρ1 => EX tb ρ1 fun d2 ρ2 => OpO r d1 d2 fun d => Q d ρ2) : EO (tOp r ta tb) ρ Q := fun B ad σ F H w Z z =>
  h B ad σ F H w _ fun d1 ρ1 x F1 H1 q1 p1 r1 => q1 B ad σ F1 H1 p1.wa _ fun d2 ρ2 y F2 H2 q2 p2 r2 =>
    q2 F2 H2 x y p2.wa.gr.fh (r1.up p2.gr.ff) r2 Z fun ds p vs H' kd e hn hp rv => z ds ρ2 p vs F2 H' kd ((p1.trans p2).trans (Post.of p2.wa (Gr.heap p2.wa.gr.fh e))) (p2.wa.newp hn).1 (by
      cases q : H p with
      | none => rfl
      | some o => exact absurd hn (p2.gr.al p (p1.gr.al p (by rw [q]; intro z; cases z)))) hp rv
theorem ex_un {r : V → Hp → VK → Prop} (h : EX ta ρ fun d1 ρ1 => UnD r d1 fun d => Q d ρ1) : EX (tUn r ta) ρ Q := fun B ad σ F H w Z z =>
  h B ad σ F H w _ fun d1 ρ1 x F1 H1 q1 p1 r1 => q1 F1 H1 x p1.wa.gr.fh r1 Z fun d v F' H' kd g rv => z d ρ1 v F' H' kd (p1.trans (Post.of p1.wa g)) rv
theorem ea_nil {Q : List D → Env → Prop} (q : Q [] ρ) : EA tNil ρ Q := fun B ad σ F H w Z z => z [] ρ [] F H q (Post.refl w) .nil
theorem ea_cons {Q : List D → Env → Prop} (h : EX te ρ fun d ρ1 => EA t ρ1 fun ds ρ2 => Q (d :: ds) ρ2) : EA (tCons te t) ρ Q := fun B ad σ F H w Z z =>
  h B ad σ F H w _ fun d ρ1 v F1 H1 q1 p1 r1 => q1 B ad σ F1 H1 p1.wa _ fun ds ρ2 vs F2 H2 q2 p2 r2 => z (d :: ds) ρ2 (v :: vs) F2 H2 q2 (p1.trans p2) (.cons (r1.up p2.gr.ff) r2)
theorem ex_cb {r : List V → Hp → VK → Prop} (h : EA t ρ fun ds ρ1 => CbD r ds fun d => Q d ρ1) : EX (tCB r t) ρ Q := fun B ad σ F H w Z z =>
  h B ad σ F H w _ fun ds ρ1 vs F1 H1 q1 p1 r1 => q1 F1 H1 vs p1.wa.gr.fh r1 Z fun d v F' H' kd g rv => z d ρ1 v F' H' kd (p1.trans (Post.of p1.wa g)) rv
theorem eo_cb {r : List V → Hp → VK → Prop} {Q : List D → Env → Prop} (h : EA t ρ fun ds ρ1 => CbO r ds fun d => Q d ρ1) : EO (tCB r t) ρ Q := fun B ad σ F H w Z z =>
  h B ad σ F H w _ fun ds ρ1 vs F1 H1 q1 p1 r1 => q1 F1 H1 vs p1.wa.gr.fh r1 Z fun es p ws H' kd e hn hp rv => z es ρ1 p ws F1 H' kd (p1.trans (Post.of p1.wa (Gr.heap p1.wa.gr.fh e))) (p1.wa.newp hn).1 (by
      cases q : H p with
      | none => rfl
      | some o => exact absurd hn (p1.gr.al p (by rw [q]; intro z; cases z))) hp rv
theorem ex_tup (h : EA t ρ fun ds ρ1 => ds.length ≤ 100000 ∧ Q (.tuple ds) ρ1) : EX (tTup t) ρ Q := fun B ad σ F H w Z z =>
  h B ad σ F H w _ fun ds ρ1 vs F1 H1 q1 p1 r1 => ⟨Nat.le_trans (by rw [r1.len]; exact q1.1) (by decide), fun p hp =>
    z _ ρ1 _ (upd F1 p (.tup vs)) _ q1.2 (p1.trans (Post.of p1.wa (Gr.new p1.wa.gr.fh hp))) (.tup upd_same (r1.up (Gr.new p1.wa.gr.fh hp).ff))⟩
theorem eo_lst {Q : List D → Env → Prop} (h : EA t ρ fun ds ρ1 => ds.length ≤ 100000 ∧ Q ds ρ1) : EO (tLst t) ρ Q := fun B ad σ F H w Z z =>
  h B ad σ F H w _ fun ds ρ1 vs F1 H1 q1 p1 r1 => ⟨Nat.le_trans (by rw [r1.len]; exact q1.1) (by decide), fun p hp =>
    z _ ρ1 p vs F1 _ q1.2 (p1.trans (Post.of p1.wa (Gr.heap p1.wa.gr.fh (same_upd hp)))) (p1.wa.newp hp).1 (by
      cases q : H p with
      | none => rfl
      | some o => exact absurd hp (p1.gr.al p (by rw [q]; intro z; cases z))) upd_same r1⟩
/-! slices -/
theorem ep_no {Q : Option Int → Env → Prop} (q : Q none ρ) : EPt tNoPart ρ Q := fun B ad σ F H w Z z => z none ρ F H q (Post.refl w)
theorem ep_some {Q : Option Int → Env → Prop} (h : EX te ρ fun d ρ1 => ∃ i, d = .int i ∧ Q (some i) ρ1) : EPt (tPart te) ρ Q := fun B ad σ F H w Z z =>
  h B ad σ F H w _ fun d ρ1 v F1 H1 q1 p1 r1 => by
    obtain ⟨i, rfl, q⟩ := q1
    exact ⟨i, r1.int_inv, z _ ρ1 F1 H1 q p1⟩
theorem ex_sl {r : V → Option Int → Option Int → Hp → VK → Prop} {tl th : TO} (h : EX te ρ fun d1 ρ1 => EPt tl ρ1 fun lo ρ2 => EPt th ρ2 fun hi ρ3 => SlD r d1 lo hi fun d => Q d ρ3) : EX (tSl r te tl th) ρ Q := fun B ad σ F H w Z z =>
  h B ad σ F H w _ fun d1 ρ1 x F1 H1 q1 p1 r1 => q1 B ad σ F1 H1 p1.wa _ fun lo ρ2 F2 H2 q2 p2 => q2 B ad σ F2 H2 p2.wa _ fun hi ρ3 F3 H3 q3 p3 =>
    q3 F3 H3 x p3.wa.gr.fh ((r1.up p2.gr.ff).up p3.gr.ff) Z fun d v F' H' kd g rv => z d ρ3 v F' H' kd (((p1.trans p2).trans p3).trans (Post.of p3.wa g)) rv
theorem eo_sl {r : V → Option Int → Option Int → Hp → VK → Prop} {tl th : TO} {Q : List D → Env → Prop} (h : EX te ρ fun d1 ρ1 => EPt tl ρ1 fun lo ρ2 => EPt th ρ2 fun hi ρ3 => SlO r d1 lo hi fun d => Q d ρ3) : EO (tSl r te tl th) ρ Q := fun B ad σ F H w Z z =>
  h B ad σ F H w _ fun d1 ρ1 x F1 H1 q1 p1 r1 => q1 B ad σ F1 H1 p1.wa _ fun lo ρ2 F2 H2 q2 p2 => q2 B ad σ F2 H2 p2.wa _ fun hi ρ3 F3 H3 q3 p3 =>
    q3 F3 H3 x p3.wa.gr.fh ((r1.up p2.gr.ff).up p3.gr.ff) Z fun ds p vs H' kd e hn hp rv => z ds ρ3 p vs F3 H' kd (((p1.trans p2).trans p3).trans (Post.of p3.wa (Gr.heap p3.wa.gr.fh e))) (p3.wa.newp hn).1 (by
      cases q : H p with
      | none => rfl
      | some o => exact absurd hn (p3.gr.al p (p2.gr.al p (p1.gr.al p (by rw [q]; intro z; cases z))))) hp rv
/-! tests -/
theorem et_imp {Q Q' : Bool → Env → Prop} (h : ET tt ρ Q) (k : ∀ b ρ', Q b ρ' → Q' b ρ') : ET tt ρ Q' := fun B ad σ F H w Z z => h B ad σ F H w Z fun b ρ' F' H' q p => z b ρ' F' H' (k b ρ' q) p
theorem et_test {Q : Bool → Env → Prop} (h : EX te ρ fun d ρ1 => ∃ b, d = .bool b ∧ Q b ρ1) : ET (tTest te) ρ Q := fun B ad σ F H w Z z =>
  h B ad σ F H w _ fun d ρ1 v F1 H1 q1 p1 r1 => by
    obtain ⟨b, rfl, q⟩ := q1
    exact ⟨b, r1.bl_inv, z b ρ1 F1 H1 q p1⟩
theorem et_B {Q : Bool → Env → Prop} (h : EX te ρ fun d ρ1 => ∃ b, d = .bool b ∧ Q b ρ1) : ET (tB te) ρ Q := et_test h
theorem et_and {Q : Bool → Env → Prop} (h : ET tt ρ fun b ρ1 => (b = true → ET tu ρ1 Q) ∧ (b = false → Q false ρ1)) : ET (tAnd tt tu) ρ Q := fun B ad σ F H w Z z =>
  h B ad σ F H w _ fun b ρ1 F1 H1 q1 p1 => by
    cases b with
    | true =>
      show tu σ H1 Z
      exact q1.1 rfl B ad σ F1 H1 p1.wa Z fun b ρ' F' H' q p => z b ρ' F' H' q (p1.trans p)
    | false =>
      show Z false H1
      exact z false ρ1 F1 H1 (q1.2 rfl) p1
theorem et_or {Q : Bool → Env → Prop} (h : ET tt ρ fun b ρ1 => (b = true → Q true ρ1) ∧ (b = false → ET tu ρ1 Q)) : ET (tOr tt tu) ρ Q := fun B ad σ F H w Z z =>
  h B ad σ F H w _ fun b ρ1 F1 H1 q1 p1 => by
    cases b with
    | true =>
      show Z true H1
      exact z true ρ1 F1 H1 (q1.1 rfl) p1
    | false =>
      show tu σ H1 Z
      exact q1.2 rfl B ad σ F1 H1 p1.wa Z fun b ρ' F' H' q p => z b ρ' F' H' q (p1.trans p)
theorem et_not {Q : Bool → Env → Prop} (h : ET tt ρ fun b ρ1 => Q (!b) ρ1) : ET (tNot tt) ρ Q := fun B ad σ F H w Z z => h B ad σ F H w _ fun b ρ1 F1 H1 q p => z (!b) ρ1 F1 H1 q p
theorem ex_andV (h : EX ta ρ fun d ρ1 => ∃ b, d = .bool b ∧ (b = true → EX tb ρ1 Q) ∧ (b = false → Q (.bool false) ρ1)) : EX (tAndV ta tb) ρ Q := fun B ad σ F H w Z z =>
  h B ad σ F H w _ fun d ρ1 v F1 H1 q1 p1 r1 => by
    obtain ⟨b, rfl, k1, k2⟩ := q1
    refine ⟨b, r1.bl_inv, ?_⟩
    cases b with
    | true =>
      show tb σ H1 Z
      exact k1 rfl B ad σ F1 H1 p1.wa Z fun d ρ' v F' H' q p r => z d ρ' v F' H' q (p1.trans p) r
    | false =>
      show Z (.bl false) H1
      exact z _ ρ1 _ F1 H1 (k2 rfl) p1 (.bl false)
theorem ex_orV (h : EX ta ρ fun d ρ1 => ∃ b, d = .bool b ∧ (b = true → Q (.bool true) ρ1) ∧ (b = false → EX tb ρ1 Q)) : EX (tOrV ta tb) ρ Q := fun B ad σ F H w Z z =>
  h B ad σ F H w _ fun d ρ1 v F1 H1 q1 p1 r1 => by
    obtain ⟨b, rfl, k1, k2⟩ := q1
    refine ⟨b, r1.bl_inv, ?_⟩
    cases b with
    | true =>
      show Z (.bl true) H1
      exact z _ ρ1 _ F1 H1 (k1 rfl) p1 (.bl true)
    | false =>
      show tb σ H1 Z
      exact k2 rfl B ad σ F1 H1 p1.wa Z fun d ρ' v F' H' q p r => z d ρ' v F' H' q (p1.trans p) r
theorem ex_notV (h : EX ta ρ fun d ρ1 => ∃ b, d = .bool b ∧ Q (.bool !b) ρ1) : EX (tNotV ta) ρ Q := fun B ad σ F H w Z z =>
  h B ad σ F H w _ fun d ρ1 v F1 H1 q1 p1 r1 => by
    obtain ⟨b, rfl, k⟩ := q1
    exact ⟨b, r1.bl_inv, z _ ρ1 _ F1 H1 k p1 (.bl _)⟩
theorem ex_if (h : ET tt ρ fun b ρ1 => (b = true → EX ta ρ1 Q) ∧ (b = false → EX tb ρ1 Q)) : EX (tIf tt ta tb) ρ Q := fun B ad σ F H w Z z =>
  h B ad σ F H w _ fun b ρ1 F1 H1 q1 p1 => by
    cases b with
    | true =>
      show ta σ H1 Z
      exact q1.1 rfl B ad σ F1 H1 p1.wa Z fun d ρ' v F' H' q p r => z d ρ' v F' H' q (p1.trans p) r
    | false =>
      show tb σ H1 Z
      exact q1.2 rfl B ad σ F1 H1 p1.wa Z fun d ρ' v F' H' q p r => z d ρ' v F' H' q (p1.trans p) r
theorem ex_chain {r r' : R2} (h : EX ta ρ fun d1 ρ1 => EX tb ρ1 fun d2 ρ2 => OpD r d1 d2 fun d => ∃ b, d = .bool b ∧ (b = true → EX tc ρ2 fun d3 ρ3 => OpD r' d2 d3 fun d => Q d ρ3) ∧ (b = false → Q (.bool false) ρ2)) : EX (tChain r r' ta tb tc) ρ Q := fun B ad σ F H w Z z =>
  h B ad σ F H w _ fun d1 ρ1 x F1 H1 q1 p1 r1 => q1 B ad σ F1 H1 p1.wa _ fun d2 ρ2 y F2 H2 q2 p2 r2 =>
    q2 F2 H2 x y p2.wa.gr.fh (r1.up p2.gr.ff) r2 _ fun d v F3 H3 kd g rv => by
      obtain ⟨b, rfl, k1, k2⟩ := kd
      refine ⟨b, rv.bl_inv, ?_⟩
      have p3 := (p1.trans p2).trans (Post.of p2.wa g)
      cases b with
      | true =>
        show tc σ H3 fun w' H4 => r' y w' H4 Z
        exact k1 rfl B ad σ F3 H3 p3.wa _ fun d3 ρ3 u F4 H4 q4 p4 r4 => q4 F4 H4 y u p4.wa.gr.fh ((r2.up g.ff).up p4.gr.ff) r4 Z fun d v F' H' kd g rv => z d ρ3 v F' H' kd ((p3.trans p4).trans (Post.of p4.wa g)) rv
      | false =>
        show Z (.bl false) H3
        exact z _ ρ2 _ F3 H3 (k2 rfl) p3 (.bl false)
end
/-! ### operations -/
section
variable {K : PySem.W.Frag} {Q : D → Prop} {i j : Int} {d d1 d2 : D} {ds es : List D}
theorem opd_I0 {g : Int → Int → Int} (k : Q (.int (g i j))) : OpD (rI0 fun i j => .int (g i j)) (.int i) (.int j) Q := fun F H x y e rx ry Z z => ⟨i, j, rx.int_inv, ry.int_inv, z _ _ F H k (Gr.refl e) (.int _)⟩
theorem opd_B0 {g : Int → Int → Bool} (k : Q (.bool (g i j))) : OpD (rI0 fun i j => .bl (g i j)) (.int i) (.int j) Q := fun F H x y e rx ry Z z => ⟨i, j, rx.int_inv, ry.int_inv, z _ _ F H k (Gr.refl e) (.bl _)⟩
theorem opd_I {C : Int → Int → Prop} {g : Int → Int → Int} (c : C i j) (k : Q (.int (g i j))) : OpD (rI C fun i j => .int (g i j)) (.int i) (.int j) Q := fun F H x y e rx ry Z z => ⟨i, j, rx.int_inv, ry.int_inv, c, z _ _ F H k (Gr.refl e) (.int _)⟩
theorem und_neg (k : Q (.int (-i))) : UnD (rU fun i => .int (-i)) (.int i) Q := fun F H x e rx Z z => ⟨i, rx.int_inv, z _ _ F H k (Gr.refl e) (.int _)⟩
theorem opd_eq (s1 : SeqAt.shaped d1 = true) (s2 : SeqAt.shaped d2 = true) (k : Q (.bool (PyData.eqv d1 d2))) : OpD (rEqD K) d1 d2 Q := fun F H x y e rx ry Z z => ⟨d1, d2, rx.dp e, ry.dp e, s1, s2, z _ _ F H k (Gr.refl e) (.bl _)⟩
theorem opd_ne (s1 : SeqAt.shaped d1 = true) (s2 : SeqAt.shaped d2 = true) (k : Q (.bool (!PyData.eqv d1 d2))) : OpD (rNeD K) d1 d2 Q := fun F H x y e rx ry Z z => ⟨d1, d2, rx.dp e, ry.dp e, s1, s2, z _ _ F H k (Gr.refl e) (.bl _)⟩
def isN : D → Bool
  | .none => true
  | _ => false
theorem isN_of {F : Hp} {x : V} (r : Rp F x d) : decide (x = .non) = isN d := by cases r <;> rfl
def rIs : R2 := fun x y H Q => y = .non ∧ Q (.bl (decide (x = .non))) H
def rIsnt : R2 := fun x y H Q => y = .non ∧ Q (.bl (!decide (x = .non))) H
theorem op_is {X : Cx} : OpR X (compareOp .Is) rIs := op_isN
theorem op_isnt {X : Cx} : OpR X (compareOp .IsNot) rIsnt := op_notN
theorem opd_is (k : Q (.bool (isN d))) : OpD rIs d .none Q := fun F H x y e rx ry Z z => ⟨ry.non_inv, by rw [isN_of rx]; exact z _ _ F H k (Gr.refl e) (.bl _)⟩
theorem opd_isnt (k : Q (.bool (!isN d))) : OpD rIsnt d .none Q := fun F H x y e rx ry Z z => ⟨ry.non_inv, by rw [isN_of rx]; exact z _ _ F H k (Gr.refl e) (.bl _)⟩
/-! an item -/
theorem RpA.at_ {F : Hp} {vs : List V} (r : RpA F vs ds) (h : atI ds i = some d) : ∃ v, atI vs i = some v ∧ Rp F v d := by
  unfold atI at h ⊢
  rw [r.len]
  cases e : ixN ds.length i with
  | none => rw [e] at h; cases h
  | some k =>
    rw [e] at h
    exact r.get (k := k) h
def rIxA (K : PySem.W.Frag) : R2 := fun x y H Q => rIxL K x y H Q ∨ rIxT K x y H Q
theorem ix_any {X : Cx} : IxR X (rIxA X.K) := IxR.or ix_list ix_tup
theorem opd_ixL (h : atI ds i = some d) (k : Q d) : OpD (rIxA K) (.list ds) (.int i) Q := fun F H x y e rx ry Z z => by
  obtain ⟨a, xs, rfl, h1, h2⟩ := rx.lst_inv
  obtain ⟨v, hv, rv⟩ := h2.at_ h
  exact .inl ⟨a, xs, i, v, rfl, ry.int_inv, sqL_rd h1 e, hv, z _ _ F H k (Gr.refl e) rv⟩
theorem opd_ixT (h : atI ds i = some d) (k : Q d) : OpD (rIxA K) (.tuple ds) (.int i) Q := fun F H x y e rx ry Z z => by
  obtain ⟨a, xs, rfl, h1, h2⟩ := rx.tup_inv
  obtain ⟨v, hv, rv⟩ := h2.at_ h
  exact .inr ⟨a, xs, i, v, rfl, ry.int_inv, sqT_rd h1 e, hv, z _ _ F H k (Gr.refl e) rv⟩
/-! + -/
def rCatR : R2 := fun x y H Q => ∃ l b xs zs, x = .ref l ∧ y = .ref b ∧ Rd H l (.lst xs) ∧ Rd H b (.lst zs) ∧ xs.length + zs.length ≤ sizeLine ∧ ∀ p, H p = none → Q (.ref p) (upd H p (.lst (xs ++ zs)))
theorem op_catR {X : Cx} : OpR X (binaryOp .Add) rCatR := by
  intro pins s σ H x y v u Q I rx ry h
  obtain ⟨l, b, xs, zs, rfl, rfl, hH, hB, hz, q⟩ := h
  cases rx
  cases ry
  obtain ⟨z, its, n, r, e⟩ := hH.ok I.hok
  obtain ⟨z2, its2, n2, r2, e2⟩ := hB.ok I.hok
  have hl := r.length
  have hl2 := r2.length
  refine PySem.P.add_list e e2 ?_ (by rw [List.size_toArray, List.size_toArray]; omega)
  have ea : its.toArray ++ its2.toArray = (its ++ its2).toArray := by simp
  rw [ea]
  exact ⟨.ref _, _, I.lnew (t' := s.toks) (r.append r2) (by rw [List.length_append]; omega), rfl, q _ I.fresh⟩
def rPlus (K : PySem.W.Frag) : R2 := fun x y H Q => (fun x y H Q => rI0 (fun i j => .int (i + j)) x y H Q ∨ rCatR x y H Q) x y H Q ∨ rCatA K x y H Q
theorem op_plus {X : Cx} : OpR X (binaryOp .Add) (rPlus X.K) := OpR.or (OpR.or op_add op_catR) op_catA
theorem opd_plusI (k : Q (.int (i + j))) : OpD (rPlus K) (.int i) (.int j) Q := fun F H x y e rx ry Z z => .inl (.inl (opd_I0 k F H x y e rx ry Z z))
theorem opo_plusL {Q : List D → Prop} (hz : ds.length + es.length ≤ 1000000) (k : Q (ds ++ es)) : OpO (rPlus K) (.list ds) (.list es) Q := fun F H x y e rx ry Z z => by
  obtain ⟨a, xs, rfl, h1, h2⟩ := rx.lst_inv
  obtain ⟨b, ys, rfl, g1, g2⟩ := ry.lst_inv
  exact .inl (.inr ⟨a, b, xs, ys, rfl, rfl, rd_mono e h1, rd_mono e g1, Nat.le_trans (by rw [h2.len, g2.len]; exact hz) (by decide), fun p hp => z _ p _ _ k (same_upd hp) hp upd_same (h2.app g2)⟩)
theorem opd_plusT (hz : ds.length + es.length ≤ 1000000) (k : Q (.tuple (ds ++ es))) : OpD (rPlus K) (.tuple ds) (.tuple es) Q := fun F H x y e rx ry Z z => by
  obtain ⟨a, xs, rfl, h1, h2⟩ := rx.tup_inv
  obtain ⟨b, ys, rfl, g1, g2⟩ := ry.tup_inv
  refine .inr ⟨a, b, xs, ys, rfl, rfl, sqT_rd h1 e, sqT_rd g1 e, Nat.le_trans (by rw [h2.len, g2.len]; exact hz) (by decide), fun q => ?_, fun _ q => ?_, fun _ _ p hp => ?_⟩
  · subst q
    cases h2
    exact z _ _ F H k (Gr.refl e) ry
  · subst q
    cases g2
    rw [List.append_nil] at k
    exact z _ _ F H k (Gr.refl e) rx
  · exact z _ _ _ _ k (Gr.new e hp) (.tup upd_same ((h2.app g2).up (Gr.new e hp).ff))
/-! slices -/
def rSl (K : PySem.W.Frag) : V → Option Int → Option Int → Hp → VK → Prop := fun x lo hi H Q => rSlL K x lo hi H Q ∨ rSlA K x lo hi H Q
theorem sl_any {X : Cx} : SlR X (rSl X.K) := SlR.or sl_list sl_tupA
def cutD (xs : List D) (lo hi : Option Int) : List D := (xs.drop (HT.sIx xs.length 0 lo)).take (HT.sIx xs.length xs.length hi - HT.sIx xs.length 0 lo)
theorem RpA.cut {F : Hp} {vs : List V} (r : RpA F vs ds) (lo hi : Option Int) : RpA F (cutV vs lo hi) (cutD ds lo hi) := by
  unfold cutV cutD
  rw [r.len]
  exact (r.drop _).take _
theorem slo_L {Q : List D → Prop} {lo hi : Option Int} (k : Q (cutD ds lo hi)) : SlO (rSl K) (.list ds) lo hi Q := fun F H x e rx Z z => by
  obtain ⟨a, xs, rfl, h1, h2⟩ := rx.lst_inv
  exact .inl ⟨a, xs, rfl, sqL_rd h1 e, fun p hp => z _ p _ _ k (same_upd hp) hp upd_same (h2.cut lo hi)⟩
theorem sld_T {lo hi : Option Int} (k : Q (.tuple (cutD ds lo hi))) : SlD (rSl K) (.tuple ds) lo hi Q := fun F H x e rx Z z => by
  obtain ⟨a, xs, rfl, h1, h2⟩ := rx.tup_inv
  refine .inr ⟨a, xs, rfl, sqT_rd h1 e, fun w => ?_, fun w p hp => z _ _ _ _ k (Gr.new e hp) (.tup upd_same ((h2.cut lo hi).up (Gr.new e hp).ff))⟩
  have ec : cutD ds lo hi = ds := by
    rw [h2.len] at w
    unfold cutD
    rw [w.1, w.2, List.drop_zero, Nat.sub_zero, List.take_length]
  rw [ec] at k
  exact z _ _ F H k (Gr.refl e) rx
/-! built-ins -/
def rLen (K : PySem.W.Frag) : List V → Hp → VK → Prop := fun xs H Q => ∃ x n, xs = [x] ∧ LenV K x H n ∧ Q (.int (n : Int)) H
theorem cb_len {X : Cx} : CallR X (.builtin "len") (rLen X.K) := call_len
theorem RpA.one {F : Hp} {vs : List V} (h : RpA F vs [d]) : ∃ v, vs = [v] ∧ Rp F v d := by
  cases h with
  | cons h1 h2 => cases h2; exact ⟨_, rfl, h1⟩
theorem RpA.two {F : Hp} {vs : List V} (h : RpA F vs [d1, d2]) : ∃ v u, vs = [v, u] ∧ Rp F v d1 ∧ Rp F u d2 := by
  cases h with
  | cons h1 h2 => obtain ⟨u, rfl, r⟩ := h2.one; exact ⟨_, _, rfl, h1, r⟩
theorem cbd_lenL (k : Q (.int (ds.length : Int))) : CbD (rLen K) [.list ds] Q := fun F H vs e r Z z => by
  obtain ⟨v, rfl, rv⟩ := r.one
  obtain ⟨a, xs, rfl, h1, h2⟩ := rv.lst_inv
  exact ⟨_, ds.length, rfl, .inl ⟨xs, sqL_rd h1 e, h2.len.symm⟩, z _ _ F H k (Gr.refl e) (.int _)⟩
theorem cbd_lenT (k : Q (.int (ds.length : Int))) : CbD (rLen K) [.tuple ds] Q := fun F H vs e r Z z => by
  obtain ⟨v, rfl, rv⟩ := r.one
  obtain ⟨a, xs, rfl, h1, h2⟩ := rv.tup_inv
  exact ⟨_, ds.length, rfl, .inr ⟨xs, sqT_rd h1 e, h2.len.symm⟩, z _ _ F H k (Gr.refl e) (.int _)⟩
def rAbs : List V → Hp → VK → Prop := fun xs H Q => ∃ i, xs = [.int i] ∧ Q (.int (if i < 0 then -i else i)) H
theorem cb_abs {X : Cx} : CallR X (.builtin "abs") rAbs := call_abs
theorem cbd_abs (k : Q (.int (i.natAbs : Int))) : CbD rAbs [.int i] Q := fun F H vs e r Z z => by
  obtain ⟨v, rfl, rv⟩ := r.one
  refine ⟨i, by rw [rv.int_inv], ?_⟩
  have e2 : (if i < 0 then -i else i) = (i.natAbs : Int) := by
    by_cases h : i < 0
    · rw [if_pos h]; omega
    · rw [if_neg h]; omega
  rw [e2]
  exact z _ _ F H k (Gr.refl e) (.int _)
def rMx2 : List V → Hp → VK → Prop := fun xs H Q => ∃ i j, xs = [.int i, .int j] ∧ Q (.int (if j > i then j else i)) H
def rMn2 : List V → Hp → VK → Prop := fun xs H Q => ∃ i j, xs = [.int i, .int j] ∧ Q (.int (if j < i then j else i)) H
theorem cb_max2 {X : Cx} (hc : X.calm = true) : CallR X (.builtin "max") rMx2 := call_max2 hc
theorem cb_min2 {X : Cx} (hc : X.calm = true) : CallR X (.builtin "min") rMn2 := call_min2 hc
theorem cbd_max2 (k : Q (.int (max i j))) : CbD rMx2 [.int i, .int j] Q := fun F H vs e r Z z => by
  obtain ⟨v, u, rfl, rv, ru⟩ := r.two
  refine ⟨i, j, by rw [rv.int_inv, ru.int_inv], ?_⟩
  have e2 : (if j > i then j else i) = max i j := by
    by_cases h : j > i
    · rw [if_pos h]; omega
    · rw [if_neg h]; omega
  rw [e2]
  exact z _ _ F H k (Gr.refl e) (.int _)
theorem cbd_min2 (k : Q (.int (min i j))) : CbD rMn2 [.int i, .int j] Q := fun F H vs e r Z z => by
  obtain ⟨v, u, rfl, rv, ru⟩ := r.two
  refine ⟨i, j, by rw [rv.int_inv, ru.int_inv], ?_⟩
  have e2 : (if j < i then j else i) = min i j := by
    by_cases h : j < i
    · rw [if_pos h]; omega
    · rw [if_neg h]; omega
  rw [e2]
  exact z _ _ F H k (Gr.refl e) (.int _)
def rInt : List V → Hp → VK → Prop := fun xs H Q => (∃ i, xs = [.int i] ∧ Q (.int i) H) ∨ ∃ k, xs = [.bl k] ∧ Q (.int (if k then 1 else 0)) H
theorem cb_int {X : Cx} : CallR X (.type "int") rInt := call_int1
theorem cbd_int (k : Q (.int i)) : CbD rInt [.int i] Q := fun F H vs e r Z z => by
  obtain ⟨v, rfl, rv⟩ := r.one
  exact .inl ⟨i, by rw [rv.int_inv], z _ _ F H k (Gr.refl e) (.int _)⟩
def rList (K : PySem.W.Frag) : List V → Hp → VK → Prop := fun xs H Q => ∃ p ys, xs = [.ref p] ∧ (SqL K H p ys ∨ SqT K H p ys) ∧ ∀ l, H l = none → Q (.ref l) (upd H l (.lst ys))
theorem cb_list {X : Cx} : CallR X (.type "list") (rList X.K) := call_list_of
theorem cbo_listL {Q : List D → Prop} (k : Q ds) : CbO (rList K) [.list ds] Q := fun F H vs e r Z z => by
  obtain ⟨v, rfl, rv⟩ := r.one
  obtain ⟨a, xs, rfl, h1, h2⟩ := rv.lst_inv
  exact ⟨a, xs, rfl, .inl (sqL_rd h1 e), fun p hp => z _ p _ _ k (same_upd hp) hp upd_same h2⟩
theorem cbo_listT {Q : List D → Prop} (k : Q ds) : CbO (rList K) [.tuple ds] Q := fun F H vs e r Z z => by
  obtain ⟨v, rfl, rv⟩ := r.one
  obtain ⟨a, xs, rfl, h1, h2⟩ := rv.tup_inv
  exact ⟨a, xs, rfl, .inr (sqT_rd h1 e), fun p hp => z _ p _ _ k (same_upd hp) hp upd_same h2⟩
def rTup (K : PySem.W.Frag) : List V → Hp → VK → Prop := fun xs H Q => ∃ p ys, xs = [.ref p] ∧ ((SqL K H p ys ∧ ∀ l, H l = none → Q (.ref l) (upd H l (.tup ys))) ∨ (SqT K H p ys ∧ Q (.ref p) H))
theorem cb_tuple {X : Cx} : CallR X (.type "tuple") (rTup X.K) := call_tuple_of
theorem cbd_tupL (k : Q (.tuple ds)) : CbD (rTup K) [.list ds] Q := fun F H vs e r Z z => by
  obtain ⟨v, rfl, rv⟩ := r.one
  obtain ⟨a, xs, rfl, h1, h2⟩ := rv.lst_inv
  exact ⟨a, xs, rfl, .inl ⟨sqL_rd h1 e, fun p hp => z _ _ _ _ k (Gr.new e hp) (.tup upd_same (h2.up (Gr.new e hp).ff))⟩⟩
theorem cbd_sum {ns : List Int} (k : Q (.int ns.sum)) : CbD (rSum K) [.list (ns.map .int)] Q := fun F H vs e r Z z => by
  obtain ⟨v, rfl, rv⟩ := r.one
  obtain ⟨a, xs, rfl, h1, h2⟩ := rv.lst_inv
  exact ⟨a, ns, rfl, by rw [← h2.ints_inv]; exact sqL_rd h1 e, z _ _ F H k (Gr.refl e) (.int _)⟩
/-- isinstance(x, tuple) -/
theorem ex_isT {te : TE} {ρ : Env} {Q : D → Env → Prop} (h : EX te ρ fun d ρ1 => ∃ ds, d = .tuple ds ∧ Q (.bool true) ρ1) : EX (tCB RZ.rIsTy (tCons te (tCons (tC (.ty "tuple")) tNil))) ρ Q := fun B ad σ F H w Z z =>
  h B ad σ F H w _ fun d ρ1 v F1 H1 q1 p1 r1 => by
    obtain ⟨ds, rfl, q⟩ := q1
    obtain ⟨a, xs, rfl, h1, h2⟩ := r1.tup_inv
    exact ⟨.ref a, "tuple", rfl, .tup (p1.wa.gr.fh _ _ h1), z _ ρ1 _ F1 H1 q p1 (.bl true)⟩
end

/-! ### own lists -/
section
variable {B : Base} {ad : Nat → List Addr} {ρ ρ' : Env} {σ : St} {F H F' H' : Hp} {te tb : TE} {Q : D → Env → Prop}
theorem get_set {α : Type} {l : List α} {i j : Nat} {x y : α} (h : (l.set i x)[j]? = some y) : (j = i ∧ y = x) ∨ (j ≠ i ∧ l[j]? = some y) := by
  by_cases e : j = i
  · subst e
    by_cases hl : j < l.length
    · rw [List.getElem?_set_self hl] at h
      exact .inl ⟨rfl, (Option.some.inj h).symm⟩
    · rw [List.getElem?_eq_none (by simpa using hl)] at h
      cases h
  · rw [List.getElem?_set_ne (Ne.symm e)] at h
    exact .inr ⟨e, h⟩
theorem get_set' {α : Type} {l : List α} {i j : Nat} {x : α} (h : (l.set i x)[j]? = none) : l[j]? = none := by
  rw [List.getElem?_eq_none_iff] at h ⊢
  simpa using h
/-- slot i's own list is frozen where it stands -/
theorem WA.lend (w : WA B ad ρ σ F H) {i : Nat} {ds : List D} (h : ρ[i]? = some (.own ds)) : ∃ p vs, ad i = [p] ∧ F p = none ∧ H p = some (.lst vs) ∧ RpA F vs ds ∧ B.H0 p = none ∧ σ[i]? = some (some (.ref p)) ∧
    WA B (fun k => if k = i then [] else ad k) (ρ.set i (.val (.list ds))) σ (upd F p (.lst vs)) H := by
  obtain ⟨p, vs, k, k0, k1, k2, r⟩ := w.sl i _ h
  have hF : F p = none := (w.fz i p (by rw [k]; simp)).1
  have up := same_upd (o := .lst vs) hF
  refine ⟨p, vs, k, hF, k2, r, k0, k1, ?_⟩
  have hn : ∀ j, j ≠ i → p ∉ ad j := fun j hj m => hj (w.dj j i p m (by rw [k]; simp))
  refine ⟨⟨w.gr.ff.trans up, fun a o e => ?_, w.gr.kp, w.gr.al, fun a e z => ?_⟩, by rw [List.length_set]; exact w.len, fun j s e => ?_, fun j q m => ?_, fun j1 j2 q m1 m2 => ?_, fun j e => ?_, w.pin.to fun S e => by
    rcases get_set e with ⟨_, q⟩ | ⟨hj, e⟩
    · cases q
    · exact ⟨⟨S, e⟩, rfl, if_neg hj⟩⟩
  · by_cases ha : a = p
    · subst ha; rw [upd_same] at e; rw [k2]; exact e
    · rw [upd_ne ha] at e; exact w.gr.fh a o e
  · have ha : a ≠ p := fun q => e (by rw [q]; exact k0)
    rw [upd_ne ha]
    exact w.gr.fr a e z
  · rcases get_set e with ⟨rfl, rfl⟩ | ⟨hj, e⟩
    · exact ⟨if_pos rfl, _, k1, .lst (.inl upd_same) (r.up up)⟩
    · have q := w.sl j s e
      rw [if_neg hj]
      cases s with
      | emp => exact q
      | val d =>
        obtain ⟨k, v, e, r⟩ := q
        exact ⟨k, v, e, r.up up⟩
      | own es =>
        obtain ⟨q, ws, k, k0, k1, k2, r⟩ := q
        exact ⟨q, ws, k, k0, k1, k2, r.up up⟩
      | st S => exact q
  · by_cases hj : j = i
    · simp [hj] at m
    · simp only [if_neg hj] at m
      have ne : q ≠ p := fun z => hn j hj (z ▸ m)
      rw [upd_ne ne]
      exact w.fz j q m
  · by_cases h1 : j1 = i
    · simp [h1] at m1
    · by_cases h2 : j2 = i
      · simp [h2] at m2
      · simp only [if_neg h1] at m1
        simp only [if_neg h2] at m2
        exact w.dj j1 j2 q m1 m2
  · by_cases hj : j = i
    · show (if j = i then [] else ad j) = []
      rw [if_pos hj]
    · show (if j = i then [] else ad j) = []
      rw [if_neg hj]
      exact w.out j (get_set' e)
def scalD : D → Bool
  | .none => true
  | .bool _ => true
  | .int _ => true
  | .str _ => true
  | _ => false
theorem scal_any {d : D} {v : V} (h : scalD d = true) (r : Rp F v d) : Rp F' v d := by
  cases r with
  | non => exact .non
  | bl b => exact .bl b
  | int i => exact .int i
  | str x => exact .str x
  | lst _ _ => cases h
  | tup _ _ => cases h
/-- behind a loan, with nothing changed but the heap's new objects -/
theorem WA.back (w : WA B ad ρ σ F H) {i : Nat} {ds : List D} (h : ρ[i]? = some (.own ds)) {F1 : Hp} {ad1 : Nat → List Addr} {ρ1 : Env} (e1 : ρ1 = ρ.set i (.val (.list ds))) (ea : ad1 = fun k => if k = i then [] else ad k)
    (hF1 : Same F F1) (p : Post B ad1 σ ρ1 F1 H ρ1 F' H') : Post B ad σ ρ F H ρ F H' := by
  subst e1 ea
  have hi : i < ρ.length := (List.getElem?_eq_some_iff.mp h).1
  have ms : ∀ a, MS (fun k => if k = i then [] else ad k) (ρ.set i (.val (.list ds))) a → MS ad ρ a := fun a ⟨j, S, e, m⟩ => by
    rcases get_set e with ⟨_, q⟩ | ⟨hj, e⟩
    · cases q
    · simp only [if_neg hj] at m
      exact ⟨j, S, e, m⟩
  have fh : Same F H' := (hF1.trans p.gr.ff).trans p.gr.fh
  have nms : ∀ j q, q ∈ ad j → (∀ S, ρ[j]? ≠ some (Slot.st S)) → ¬ MS ad ρ q := fun j q m hj ⟨j', S, e, m'⟩ => by
    have := w.dj j j' q m m'
    subst this
    exact hj S e
  refine ⟨⟨⟨w.gr.ff, fh, p.wa.gr.kp, p.wa.gr.al, w.gr.fr⟩, w.len, fun j s e => ?_, w.fz, w.dj, w.out, w.pin⟩, ⟨Same.refl F, fh, fun a o e m => p.gr.kp a o e fun z => m (ms a z), p.gr.al, fun _ _ z => z⟩, fun j S e => ⟨S, e⟩⟩
  have k := w.sl j s e
  cases s with
  | emp => exact k
  | val d => exact k
  | own es =>
    obtain ⟨q, ws, k, k0, k1, k2, r⟩ := k
    refine ⟨q, ws, k, k0, k1, p.gr.kp q _ k2 fun z => nms j q (by rw [k]; simp) (fun S z => by rw [e] at z; cases z) (ms q z), r⟩
  | st S =>
    have hj : j ≠ i := fun z => by subst z; rw [h] at e; cases e
    have k' := p.wa.sl j (.st S) (by rw [List.getElem?_set_ne (Ne.symm hj)]; exact e)
    simp only [if_neg hj] at k'
    exact k'
theorem ex_lend (i : Nat) {ds : List D} (h : ρ[i]? = some (.own ds)) (k : EX te (ρ.set i (.val (.list ds))) fun d ρ' => ρ' = ρ.set i (.val (.list ds)) ∧ scalD d = true ∧ Q d ρ) : EX te ρ Q := fun B ad σ F H w Z z => by
  obtain ⟨p, vs, k1, k2, k3, k4, k5, k6, w2⟩ := w.lend h
  refine k B _ σ _ H w2 Z fun d ρ' v F' H' q P r => ?_
  obtain ⟨rfl, sc, q⟩ := q
  exact z d ρ v F H' q (w.back h rfl rfl (same_upd k2) P) (scal_any sc r)
theorem et_lend (i : Nat) {tt : TT} {Q : Bool → Env → Prop} {ds : List D} (h : ρ[i]? = some (.own ds)) (k : ET tt (ρ.set i (.val (.list ds))) fun b ρ' => ρ' = ρ.set i (.val (.list ds)) ∧ Q b ρ) : ET tt ρ Q := fun B ad σ F H w Z z => by
  obtain ⟨p, vs, k1, k2, k3, k4, k5, k6, w2⟩ := w.lend h
  refine k B _ σ _ H w2 Z fun d ρ' F' H' q P => ?_
  obtain ⟨rfl, q⟩ := q
  exact z d ρ F H' q (w.back h rfl rfl (same_upd k2) P)
/-- x[k], x an own list -/
theorem ex_ixO {K : PySem.W.Frag} {i : Nat} {es : List D} (h : ρ[i]? = some (.own es)) (k : EX tb ρ fun d ρ2 => ∃ ds j e, ρ2[i]? = some (.own ds) ∧ d = .int j ∧ atI ds j = some e ∧ Q e ρ2) : EX (tOp (rIxA K) (tVar i) tb) ρ Q := fun B ad σ F H w Z z => by
  obtain ⟨p0, _, _, _, k1, _⟩ := w.sl i _ h
  refine ⟨_, k1, k B ad σ F H w _ fun d ρ2 y F2 H2 q2 p2 r2 => ?_⟩
  obtain ⟨ds, j, e, h2, rfl, hj, q⟩ := q2
  obtain ⟨p, vs, _, _, k2, k3, rr⟩ := p2.wa.sl i _ h2
  rw [k1] at k2
  cases k2
  obtain ⟨v, hv, rv⟩ := rr.at_ hj
  exact .inl ⟨_, vs, j, v, rfl, r2.int_inv, .inl (.inl k3), hv, z e ρ2 v F2 H2 q p2 rv⟩
theorem ex_lenO {K : PySem.W.Frag} {i : Nat} {ds : List D} (h : ρ[i]? = some (.own ds)) (q : Q (.int (ds.length : Int)) ρ) : EX (tCB (rLen K) (tCons (tVar i) tNil)) ρ Q := fun B ad σ F H w Z z => by
  obtain ⟨p, vs, _, _, k1, k3, rr⟩ := w.sl i _ h
  exact ⟨_, k1, _, ds.length, rfl, .inl ⟨vs, .inl (.inl k3), rr.len.symm⟩, z _ ρ _ F H q (Post.refl w) (.int _)⟩
end

/-! ### statements -/
structure Po where
  nx : Env → Prop
  rt : D → Env → Prop
  bk : Env → Prop := fun _ => False
  ct : Env → Prop := fun _ => False
def SX (ts : TS) (ρ : Env) (P : Po) : Prop := ∀ B σ F H, W B ρ σ F H → ∀ Dn : Ends, (∀ ρ' σ' F' H', P.nx ρ' → W B ρ' σ' F' H' → Dn.nx σ' H') → (∀ d ρ' σ' v F' H', P.rt d ρ' → W B ρ' σ' F' H' → Rp F' v d → Dn.rt v H') →
  (∀ ρ' σ' F' H', P.bk ρ' → W B ρ' σ' F' H' → Dn.bk σ' H') → (∀ ρ' σ' F' H', P.ct ρ' → W B ρ' σ' F' H' → Dn.ct σ' H') → ts Dn σ H
/-- ρ' knows no more than ρ -/
inductive LeE : Env → Env → Prop
  | nil : LeE [] []
  | emp {s : Slot} {ρ' ρ : Env} : LeE ρ' ρ → LeE (.emp :: ρ') (s :: ρ)
  | eq {s s' : Slot} {ρ' ρ : Env} : s = s' → LeE ρ' ρ → LeE (s :: ρ') (s' :: ρ)
theorem LeE.refl : ∀ ρ, LeE ρ ρ
  | [] => .nil
  | _ :: ρ => .eq rfl (LeE.refl ρ)
theorem LeE.len {ρ' ρ : Env} (h : LeE ρ' ρ) : ρ'.length = ρ.length := by
  induction h with
  | nil => rfl
  | emp _ ih => simp [ih]
  | eq _ _ ih => simp [ih]
theorem LeE.get {ρ' ρ : Env} (h : LeE ρ' ρ) : ∀ {i : Nat} {s : Slot}, ρ'[i]? = some s → s = .emp ∨ ρ[i]? = some s := by
  induction h with
  | nil => intro i s e; simp at e
  | emp _ ih =>
    intro i s e
    cases i with
    | zero => simp at e; exact .inl e.symm
    | succ i => exact ih (by simpa using e)
  | eq q _ ih =>
    intro i s e
    cases i with
    | zero => simp at e; subst e; subst q; exact .inr rfl
    | succ i => exact ih (by simpa using e)
theorem WA.weak {B : Base} {ad : Nat → List Addr} {ρ ρ' : Env} {σ : St} {F H : Hp} (w : WA B ad ρ σ F H) (l : LeE ρ' ρ) : W B ρ' σ F H := by
  refine ⟨fun i => match ρ'[i]? with | some .emp => [] | _ => ad i, w.gr, by rw [l.len]; exact w.len, fun i s e => ?_, fun i p m => ?_, fun i j p m1 m2 => ?_, fun i e => ?_, w.pin.to fun S e => by
    rcases l.get e with h | h
    · cases h
    · exact ⟨⟨S, h⟩, rfl, by
        show (match ρ'[0]? with | some .emp => [] | _ => ad 0) = ad 0
        rw [e]⟩⟩
  · rcases l.get e with h | h
    · subst h
      show (match ρ'[i]? with | some .emp => [] | _ => ad i) = []
      rw [e]
    · have k := w.sl i s h
      show SlotOk B F H s σ[i]? (match ρ'[i]? with | some .emp => [] | _ => ad i)
      rw [e]
      cases s with
      | emp => rfl
      | _ => exact k
  · exact w.fz i p (by
      revert m
      show p ∈ (match ρ'[i]? with | some .emp => [] | _ => ad i) → p ∈ ad i
      split <;> simp)
  · have g : ∀ i, p ∈ (match ρ'[i]? with | some .emp => [] | _ => ad i) → p ∈ ad i := fun i => by split <;> simp
    exact w.dj i j p (g i m1) (g j m2)
  · show (match ρ'[i]? with | some .emp => [] | _ => ad i) = []
    rw [e]
    exact w.out i (by
      rw [List.getElem?_eq_none_iff] at e ⊢
      rw [← l.len]; exact e)
theorem W.weak {B : Base} {ρ ρ' : Env} {σ : St} {F H : Hp} (w : W B ρ σ F H) (l : LeE ρ' ρ) : W B ρ' σ F H := let ⟨_, w⟩ := w; w.weak l
/-- a slot is stored -/
theorem WA.setVal {B : Base} {ad : Nat → List Addr} {ρ : Env} {σ : St} {F H : Hp} (w : WA B ad ρ σ F H) (i : Nat) {d : D} {v : V} (r : Rp F v d) : W B (ρ.set i (.val d)) (σ.set i (some v)) F H := by
  refine ⟨fun k => if k = i then [] else ad k, w.gr, by rw [List.length_set, List.length_set]; exact w.len, fun j s e => ?_, fun j p m => ?_, fun j1 j2 q m1 m2 => ?_, fun j e => ?_, w.pin.to fun S e => by
    rcases get_set e with ⟨_, q⟩ | ⟨hj, e⟩
    · cases q
    · exact ⟨⟨S, e⟩, List.getElem?_set_ne (Ne.symm hj), if_neg hj⟩⟩
  · rcases get_set e with ⟨rfl, rfl⟩ | ⟨hj, e'⟩
    · have hi : j < σ.length := by
        have := (List.getElem?_eq_some_iff.mp e).1
        rw [List.length_set] at this
        rw [w.len]; exact this
      exact ⟨if_pos rfl, v, List.getElem?_set_self hi, r⟩
    · rw [if_neg hj, List.getElem?_set_ne (Ne.symm hj)]
      exact w.sl j s e'
  · by_cases hj : j = i
    · simp [hj] at m
    · simp only [if_neg hj] at m
      exact w.fz j p m
  · by_cases h1 : j1 = i
    · simp [h1] at m1
    · by_cases h2 : j2 = i
      · simp [h2] at m2
      · simp only [if_neg h1] at m1
        simp only [if_neg h2] at m2
        exact w.dj j1 j2 q m1 m2
  · show (if j = i then [] else ad j) = []
    by_cases hj : j = i
    · rw [if_pos hj]
    · rw [if_neg hj]
      exact w.out j (get_set' e)
theorem WA.setOwn {B : Base} {ad : Nat → List Addr} {ρ : Env} {σ : St} {F H : Hp} (w : WA B ad ρ σ F H) (i : Nat) {ds : List D} {p : Addr} {vs : List V} (hF : F p = none) (h0 : B.H0 p = none) (hn : ∀ i, p ∉ ad i) (hp : H p = some (.lst vs)) (r : RpA F vs ds) :
    W B (ρ.set i (.own ds)) (σ.set i (some (.ref p))) F H := by
  refine ⟨fun k => if k = i then (if i < ρ.length then [p] else []) else ad k, w.gr, by rw [List.length_set, List.length_set]; exact w.len, fun j s e => ?_, fun j q m => ?_, fun j1 j2 q m1 m2 => ?_, fun j e => ?_, w.pin.to fun S e => by
    rcases get_set e with ⟨_, q⟩ | ⟨hj, e⟩
    · cases q
    · exact ⟨⟨S, e⟩, List.getElem?_set_ne (Ne.symm hj), if_neg hj⟩⟩
  · rcases get_set e with ⟨rfl, rfl⟩ | ⟨hj, e'⟩
    · have hi : j < ρ.length := by
        have := (List.getElem?_eq_some_iff.mp e).1
        rwa [List.length_set] at this
      exact ⟨p, vs, by rw [if_pos rfl, if_pos hi], h0, List.getElem?_set_self (by rw [w.len]; exact hi), hp, r⟩
    · rw [if_neg hj, List.getElem?_set_ne (Ne.symm hj)]
      exact w.sl j s e'
  · by_cases hj : j = i
    · simp only [if_pos hj] at m
      by_cases hi : i < ρ.length
      · simp only [if_pos hi, List.mem_singleton] at m
        subst m
        exact ⟨hF, .inl h0⟩
      · simp [if_neg hi] at m
    · simp only [if_neg hj] at m
      exact w.fz j q m
  · have g : ∀ j, q ∈ (if j = i then (if i < ρ.length then [p] else []) else ad j) → (j = i ∧ q = p) ∨ (j ≠ i ∧ q ∈ ad j) := fun j m => by
      by_cases hj : j = i
      · simp only [if_pos hj] at m
        by_cases hi : i < ρ.length
        · simp only [if_pos hi, List.mem_singleton] at m
          exact .inl ⟨hj, m⟩
        · simp [if_neg hi] at m
      · simp only [if_neg hj] at m
        exact .inr ⟨hj, m⟩
    rcases g j1 m1 with ⟨a1, b1⟩ | ⟨a1, b1⟩ <;> rcases g j2 m2 with ⟨a2, b2⟩ | ⟨a2, b2⟩
    · rw [a1, a2]
    · exact absurd (b1 ▸ b2) (hn j2)
    · exact absurd (b2 ▸ b1) (hn j1)
    · exact w.dj j1 j2 q b1 b2
  · show (if j = i then (if i < ρ.length then [p] else []) else ad j) = []
    have e' := get_set' e
    by_cases hj : j = i
    · subst hj
      rw [if_pos rfl, if_neg (by rw [List.getElem?_eq_none_iff] at e'; omega)]
    · rw [if_neg hj]
      exact w.out j e'
/-- an own list is changed in place -/
theorem WA.mut {B : Base} {ad : Nat → List Addr} {ρ : Env} {σ : St} {F H : Hp} (w : WA B ad ρ σ F H) {i : Nat} {ds es : List D} {p : Addr} {ws : List V} (h : ρ[i]? = some (.own ds)) (hp : σ[i]? = some (some (.ref p))) (r : RpA F ws es) :
    W B (ρ.set i (.own es)) σ F (upd H p (.lst ws)) := by
  obtain ⟨p', vs, k, k0, k1, k2, _⟩ := w.sl i _ h
  rw [hp] at k1
  cases k1
  have hF : F p = none := (w.fz i p (by rw [k]; simp)).1
  have hn : ∀ j, j ≠ i → p ∉ ad j := fun j hj m => hj (w.dj j i p m (by rw [k]; simp))
  have ne0 : ∀ a o, B.H0 a = some o → a ≠ p := fun a o e z => by rw [z, k0] at e; cases e
  refine ⟨ad, ⟨w.gr.ff, fun a o e => ?_, fun a o e m => ?_, fun a e => ?_, w.gr.fr⟩, by rw [List.length_set]; exact w.len, fun j s e => ?_, w.fz, w.dj, fun j e => w.out j (get_set' e), w.pin.to fun S e => by
    rcases get_set e with ⟨_, q⟩ | ⟨hj, e⟩
    · cases q
    · exact ⟨⟨S, e⟩, rfl, rfl⟩⟩
  · rw [upd_ne (fun z => by rw [z, hF] at e; cases e)]
    exact w.gr.fh a o e
  · rw [upd_ne (ne0 a o e)]
    exact w.gr.kp a o e m
  · by_cases ha : a = p
    · rw [ha, upd_same]; intro z; cases z
    · rw [upd_ne ha]; exact w.gr.al a e
  · rcases get_set e with ⟨rfl, rfl⟩ | ⟨hj, e⟩
    · exact ⟨p, ws, k, k0, hp, upd_same, r⟩
    · have q := w.sl j s e
      cases s with
      | emp => exact q
      | val d => exact q
      | own es =>
        obtain ⟨q, vs, k1, k2, k3, k4, k5⟩ := q
        refine ⟨q, vs, k1, k2, k3, ?_, k5⟩
        rw [upd_ne (fun z => hn j hj (by rw [k1, z]; simp))]
        exact k4
      | st S =>
        obtain ⟨s, k1, q⟩ := q
        exact ⟨s, k1, q.keep fun a m o e => by
          rw [upd_ne (fun z => hn j hj (by rw [← z]; exact m))]
          exact e⟩

/-! #### the rules for statements -/
section
variable {ρ ρ' : Env} {P : Po} {te ta tb : TE} {tt : TT} {t u : TS}
/-- what follows, perhaps with less known -/
def NX (P : Po) (ρ : Env) : Prop := ∃ ρ', LeE ρ' ρ ∧ P.nx ρ'
theorem nx_same (h : P.nx ρ) : NX P ρ := ⟨ρ, LeE.refl ρ, h⟩
theorem nx_le (l : LeE ρ' ρ) (h : P.nx ρ') : NX P ρ := ⟨ρ', l, h⟩
def CTn (P : Po) (ρ : Env) : Prop := ∃ ρ', LeE ρ' ρ ∧ P.ct ρ'
theorem sx_weak (l : LeE ρ' ρ) (h : SX t ρ' P) : SX t ρ P := fun B σ F H w => h B σ F H (w.weak l)
/-- then u -/
def Po.seq (P : Po) (u : TS) : Po := { P with nx := fun ρ' => SX u ρ' P }
theorem nx_seq (h : SX u ρ P) : NX (P.seq u) ρ := nx_same h
theorem nx_seqw (l : LeE ρ' ρ) (h : SX u ρ' P) : NX (P.seq u) ρ := nx_le l h
theorem sx_seq (h : SX t ρ (P.seq u)) : SX (tSeq t u) ρ P := fun B σ F H w Dn n r b c =>
  h B σ F H w { Dn with nx := u Dn } (fun ρ' σ' F' H' q w' => q B σ' F' H' w' Dn n r b c) r b c
theorem sx_next (h : NX P ρ) : SX tNext ρ P := fun B σ F H w Dn n r b c => let ⟨ρ', l, q⟩ := h; n ρ' σ F H q (w.weak l)
theorem sx_asg {i : Nat} (h : EX te ρ fun d ρ1 => NX P (ρ1.set i (.val d))) : SX (tAsg te (gName i)) ρ P := fun B σ F H w Dn n r b c => by
  obtain ⟨ad, w⟩ := w
  exact h B ad σ F H w _ fun d ρ1 v F1 H1 q p rv => let ⟨ρ', l, q⟩ := q; n ρ' _ F1 H1 q ((p.wa.setVal i rv).weak l)
theorem sx_asgO {i : Nat} (h : EO te ρ fun ds ρ1 => NX P (ρ1.set i (.own ds))) : SX (tAsg te (gName i)) ρ P := fun B σ F H w Dn n r b c => by
  obtain ⟨ad, w⟩ := w
  refine h B ad σ F H w _ fun ds ρ1 p vs F1 H1 q P hF hH hp rv => ?_
  obtain ⟨ρ', l, q⟩ := q
  have k := w.newp hH
  exact n ρ' _ F1 H1 q ((P.wa.setOwn i hF k.2.1 k.2.2 hp rv).weak l)
theorem sx_if (h : ET tt ρ fun b ρ1 => (b = true → SX t ρ1 P) ∧ (b = false → SX u ρ1 P)) : SX (tIfS tt t u) ρ P := fun B σ F H w Dn n r bk c => by
  obtain ⟨ad, w⟩ := w
  refine h B ad σ F H w _ fun b ρ1 F1 H1 q p => ?_
  cases b with
  | true =>
    show t Dn σ H1
    exact q.1 rfl B σ F1 H1 ⟨ad, p.wa⟩ Dn n r bk c
  | false =>
    show u Dn σ H1
    exact q.2 rfl B σ F1 H1 ⟨ad, p.wa⟩ Dn n r bk c
theorem sx_ret (h : EX te ρ fun d ρ1 => P.rt d ρ1) : SX (tRet te) ρ P := fun B σ F H w Dn n r b c => by
  obtain ⟨ad, w⟩ := w
  exact h B ad σ F H w _ fun d ρ1 v F1 H1 q p rv => r d ρ1 σ v F1 H1 q ⟨ad, p.wa⟩ rv
theorem sx_retN (h : P.rt .none ρ) : SX tRetN ρ P := fun B σ F H w Dn n r b c => r .none ρ σ .non F H h w .non
theorem sx_brk (h : P.bk ρ) : SX tBreak ρ P := fun B σ F H w Dn n r b c => b ρ σ F H h w
theorem sx_cont (h : CTn P ρ) : SX tCont ρ P := fun B σ F H w Dn n r b c => let ⟨ρ', l, q⟩ := h; c ρ' σ F H q (w.weak l)
theorem sx_drop (h : EX te ρ fun _ ρ1 => NX P ρ1) : SX (tDrop te) ρ P := fun B σ F H w Dn n r b c => by
  obtain ⟨ad, w⟩ := w
  exact h B ad σ F H w _ fun d ρ1 v F1 H1 q p rv => let ⟨ρ', l, q⟩ := q; n ρ' σ F1 H1 q (p.wa.weak l)
theorem W.freeze {B : Base} {σ : St} {F H : Hp} (w : W B ρ σ F H) {i : Nat} {ds : List D} (h : ρ[i]? = some (.own ds)) : ∃ F', W B (ρ.set i (.val (.list ds))) σ F' H := by
  obtain ⟨ad, w⟩ := w
  obtain ⟨p, vs, _, _, _, _, _, _, w2⟩ := w.lend h
  exact ⟨_, _, w2⟩
theorem sx_freeze (i : Nat) {ds : List D} (h : ρ[i]? = some (.own ds)) (k : SX t (ρ.set i (.val (.list ds))) P) : SX t ρ P := fun B σ F H w => by
  obtain ⟨F', w2⟩ := w.freeze h
  exact k B σ F' H w2
/-- x.append(e), x an own list -/
theorem sx_app {K : PySem.W.Frag} {i : Nat} {es : List D} (h : ρ[i]? = some (.own es)) (k : EX te ρ fun d ρ1 => ∃ ds, ρ1[i]? = some (.own ds) ∧ ds.length < 1000000 ∧ NX P (ρ1.set i (.own (ds ++ [d])))) : SX (tDrop (tBM K "list" rAppend (tVar i) (tCons te tNil))) ρ P := fun B σ F H w Dn n r b c => by
  obtain ⟨ad, w⟩ := w
  obtain ⟨p0, vs0, _, _, k1, k0, _⟩ := w.sl i _ h
  refine ⟨_, k1, .inl ⟨rfl, _, .inl (.inl k0)⟩, k B ad σ F H w _ fun d ρ1 v F1 H1 q1 p1 r1 => ?_⟩
  obtain ⟨ds, h1, hz, ρ', l, q⟩ := q1
  obtain ⟨p, vs, _, _, k2, k3, rr⟩ := p1.wa.sl i _ h1
  have e := k1.symm.trans k2
  cases e
  exact ⟨_, vs, v, rfl, rfl, k3, Nat.lt_of_lt_of_le (by rw [rr.len]; exact hz) (by decide), n ρ' σ F1 _ q ((p1.wa.mut h1 k2 (rr.app (.cons r1 .nil))).weak l)⟩
/-- x[j] = e, x an own list -/
theorem sx_setO {i : Nat} {es : List D} (h : EX te ρ fun d ρ1 => ρ1[i]? = some (.own es) ∧ EX tb ρ1 fun j ρ2 => ∃ ds k m, ρ2[i]? = some (.own ds) ∧ j = .int k ∧ ixN ds.length k = some m ∧ NX P (ρ2.set i (.own (ds.set m d)))) : SX (tAsg te (gSub (tVar i) tb rSetL)) ρ P := fun B σ F H w Dn n r b c => by
  obtain ⟨ad, w⟩ := w
  refine h B ad σ F H w _ fun d ρ1 v F1 H1 q1 p1 r1 => ?_
  obtain ⟨h1, q1⟩ := q1
  obtain ⟨p0, vs0, _, _, k1, k0, _⟩ := p1.wa.sl i _ h1
  refine ⟨_, k1, q1 B ad σ F1 H1 p1.wa _ fun j ρ2 y F2 H2 q2 p2 r2 => ?_⟩
  obtain ⟨ds, k, m, h2, rfl, hm, ρ', l, q⟩ := q2
  obtain ⟨p, vs, _, _, k2, k3, rr⟩ := p2.wa.sl i _ h2
  have e := k1.symm.trans k2
  cases e
  exact ⟨_, vs, k, m, rfl, r2.int_inv, k3, by rw [rr.len]; exact hm, n ρ' σ F2 _ q ((p2.wa.mut h2 k2 (rr.set m (r1.up p2.gr.ff))).weak l)⟩
/-- a, b = e, f -/
theorem sx_par {i j : Nat} {t : TA} (h : EA t ρ fun ds ρ1 => ∃ d e, ds = [d, e] ∧ NX P ((ρ1.set i (.val d)).set j (.val e))) : SX (tPar i j t) ρ P := fun B σ F H w Dn n r b c => by
  obtain ⟨ad, w⟩ := w
  refine h B ad σ F H w _ fun ds ρ1 vs F1 H1 q p rv => ?_
  obtain ⟨d, e, rfl, ρ', l, q⟩ := q
  obtain ⟨v, u, rfl, r1, r2⟩ := rv.two
  obtain ⟨ad2, w2⟩ := p.wa.setVal i r1
  exact ⟨v, u, rfl, n ρ' _ F1 H1 q ((w2.setVal j r2).weak l)⟩
/-! targets -/
def SG (J : List Nat) (g : TG) (d : D) (ρ : Env) (Qn : Env → Prop) : Prop := ∀ B ad σ F H v, WA B ad ρ σ F H → (∀ j ∈ J, ad j = []) → Rp F v d → ∀ Z : St → Hp → Prop, (∀ ρ' σ', Qn ρ' → WA B ad ρ' σ' F H → wipe σ' J = wipe σ J → (∀ i, i ∉ J → ρ'[i]? = ρ[i]?) → Z σ' H) → g v σ H Z
def SGs (J : List Nat) (g : TGs) (ds : List D) (ρ : Env) (Qn : Env → Prop) : Prop := ∀ B ad σ F H vs, WA B ad ρ σ F H → (∀ j ∈ J, ad j = []) → RpA F vs ds → ∀ Z : St → Hp → Prop, (∀ ρ' σ', Qn ρ' → WA B ad ρ' σ' F H → wipe σ' J = wipe σ J → (∀ i, i ∉ J → ρ'[i]? = ρ[i]?) → Z σ' H) → g vs σ H Z
theorem wipe_get {σ : St} {i : Nat} : ∀ {vs : List Nat}, (wipe σ vs)[i]? = if i ∈ vs ∧ i < σ.length then some none else σ[i]?
  | [] => by simp [wipe]
  | v :: vs => by
    unfold wipe
    by_cases h : i = v
    · subst h
      by_cases hl : i < σ.length
      · rw [List.getElem?_set_self (by rw [wipe_length]; exact hl)]
        simp [hl]
      · rw [List.getElem?_eq_none (by rw [List.length_set, wipe_length]; omega)]
        simp [hl]
    · rw [List.getElem?_set_ne (Ne.symm h), wipe_get]
      simp [h]
theorem wipe_set {σ : St} {i : Nat} {x : Option V} {J : List Nat} (h : i ∈ J) : wipe (σ.set i x) J = wipe σ J := by
  apply List.ext_getElem?
  intro k
  rw [wipe_get, wipe_get, List.length_set]
  by_cases hk : k ∈ J ∧ k < σ.length
  · rw [if_pos hk, if_pos hk]
  · rw [if_neg hk, if_neg hk]
    by_cases e : k = i
    · subst e
      have : ¬ k < σ.length := fun z => hk ⟨h, z⟩
      rw [List.getElem?_eq_none (by rw [List.length_set]; omega), List.getElem?_eq_none (by omega)]
    · rw [List.getElem?_set_ne (Ne.symm e)]
theorem WA.setVal' {B : Base} {ad : Nat → List Addr} {σ : St} {F H : Hp} (w : WA B ad ρ σ F H) (i : Nat) (hi : ad i = []) {d : D} {v : V} (r : Rp F v d) : WA B ad (ρ.set i (.val d)) (σ.set i (some v)) F H := by
  refine ⟨w.gr, by rw [List.length_set, List.length_set]; exact w.len, fun j s e => ?_, w.fz, w.dj, fun j e => w.out j (get_set' e), w.pin.to fun S e => by
    rcases get_set e with ⟨_, q⟩ | ⟨hj, e⟩
    · cases q
    · exact ⟨⟨S, e⟩, List.getElem?_set_ne (Ne.symm hj), rfl⟩⟩
  rcases get_set e with ⟨rfl, rfl⟩ | ⟨hj, e'⟩
  · have hl : j < σ.length := by
      have := (List.getElem?_eq_some_iff.mp e).1
      rw [List.length_set] at this
      rw [w.len]; exact this
    exact ⟨hi, v, List.getElem?_set_self hl, r⟩
  · rw [List.getElem?_set_ne (Ne.symm hj)]
    exact w.sl j s e'
theorem sg_name {J : List Nat} {i : Nat} {d : D} {Qn : Env → Prop} (hj : i ∈ J) (q : Qn (ρ.set i (.val d))) : SG J (gName i) d ρ Qn := fun B ad σ F H v w hJ r Z z => z _ _ q (w.setVal' i (hJ i hj) r) (wipe_set hj) fun k hk => List.getElem?_set_ne fun e => hk (by rw [← e]; exact hj)
theorem sgs_nil {J : List Nat} {Qn : Env → Prop} (q : Qn ρ) : SGs J gNil [] ρ Qn := fun B ad σ F H vs w hJ r Z z => by
  cases r
  exact ⟨rfl, z ρ σ q w rfl fun _ _ => rfl⟩
theorem sgs_cons {J : List Nat} {g : TG} {gs : TGs} {d : D} {ds : List D} {Qn : Env → Prop} (h : SG J g d ρ fun ρ1 => SGs J gs ds ρ1 Qn) : SGs J (gCons g gs) (d :: ds) ρ Qn := fun B ad σ F H vs w hJ r Z z => by
  cases r with
  | cons r1 r2 =>
    exact ⟨_, _, rfl, h B ad σ F H _ w hJ r1 _ fun ρ1 σ1 q w1 e1 f1 => q B ad σ1 F H _ w1 hJ r2 Z fun ρ2 σ2 q w2 e2 f2 => z ρ2 σ2 q w2 (e2.trans e1) fun i hi => (f2 i hi).trans (f1 i hi)⟩
theorem sg_tup {K : PySem.W.Frag} {J : List Nat} {n : Nat} {gs : TGs} {ds : List D} {Qn : Env → Prop} (hn : ds.length = n) (h : SGs J gs ds ρ Qn) : SG J (gTup K n gs) (.tuple ds) ρ Qn := fun B ad σ F H v w hJ r Z z => by
  obtain ⟨a, xs, rfl, h1, h2⟩ := r.tup_inv
  exact ⟨a, xs, rfl, sqT_rd h1 w.gr.fh, h2.len.trans hn, h B ad σ F H xs w hJ h2 Z z⟩
/-- the slots at vs forgotten -/
def wipeE (ρ : Env) (vs : List Nat) : Env := vs.foldl (fun r v => r.set v .emp) ρ
theorem wipeE_len (ρ : Env) (vs : List Nat) : (wipeE ρ vs).length = ρ.length := by
  unfold wipeE
  induction vs generalizing ρ with
  | nil => rfl
  | cons v vs ih => rw [List.foldl_cons, ih, List.length_set]
theorem wipeE_get : ∀ {vs : List Nat} {ρ : Env} {i : Nat}, (wipeE ρ vs)[i]? = if i ∈ vs ∧ i < ρ.length then some .emp else ρ[i]?
  | [], ρ, i => by simp [wipeE]
  | v :: vs, ρ, i => by
    have e : wipeE ρ (v :: vs) = wipeE (ρ.set v .emp) vs := rfl
    rw [e, wipeE_get, List.length_set]
    by_cases h : i ∈ vs ∧ i < ρ.length
    · rw [if_pos h, if_pos ⟨List.mem_cons_of_mem _ h.1, h.2⟩]
    · rw [if_neg h]
      by_cases hv : i = v
      · subst hv
        by_cases hl : i < ρ.length
        · rw [List.getElem?_set_self hl, if_pos ⟨by simp, hl⟩]
        · rw [List.getElem?_eq_none (by rw [List.length_set]; omega), if_neg (fun z => hl z.2), List.getElem?_eq_none (by omega)]
      · rw [List.getElem?_set_ne (Ne.symm hv)]
        rw [if_neg (fun z => h ⟨(List.mem_cons.mp z.1).resolve_left hv, z.2⟩)]
theorem WA.weakJ {B : Base} {ad : Nat → List Addr} {σ : St} {F H : Hp} (w : WA B ad ρ σ F H) (J : List Nat) : WA B (fun k => if k ∈ J then [] else ad k) (wipeE ρ J) σ F H := by
  have g : ∀ i p, p ∈ (if i ∈ J then [] else ad i) → p ∈ ad i := fun i p m => by
    by_cases h : i ∈ J
    · rw [if_pos h] at m; cases m
    · rw [if_neg h] at m; exact m
  refine ⟨w.gr, by rw [wipeE_len]; exact w.len, fun i s e => ?_, fun i p m => w.fz i p (g i p m), fun i j p m1 m2 => w.dj i j p (g i p m1) (g j p m2), fun i e => ?_, w.pin.to fun S e => by
    rw [wipeE_get] at e
    by_cases h : 0 ∈ J ∧ 0 < ρ.length
    · rw [if_pos h] at e; cases e
    · rw [if_neg h] at e
      have hi : 0 < ρ.length := (List.getElem?_eq_some_iff.mp e).1
      exact ⟨⟨S, e⟩, rfl, if_neg fun z => h ⟨z, hi⟩⟩⟩
  · rw [wipeE_get] at e
    by_cases h : i ∈ J ∧ i < ρ.length
    · rw [if_pos h] at e
      cases e
      exact if_pos h.1
    · rw [if_neg h] at e
      have hi : i < ρ.length := (List.getElem?_eq_some_iff.mp e).1
      have hJ : i ∉ J := fun z => h ⟨z, hi⟩
      simp only [if_neg hJ]
      exact w.sl i s e
  · rw [wipeE_get] at e
    by_cases hJ : i ∈ J
    · exact if_pos hJ
    · show (if i ∈ J then [] else ad i) = []
      rw [if_neg hJ]
      rw [if_neg (fun z => hJ z.1)] at e
      exact w.out i e
theorem sg_go {B : Base} {ad : Nat → List Addr} {σ : St} {F H : Hp} {J : List Nat} {g : TG} {d : D} {v : V} {Qn : Env → Prop} (h : SG J g d (wipeE ρ J) Qn) (w : WA B ad ρ σ F H) (r : Rp F v d) (Z : St → Hp → Prop) (z : ∀ ρ' σ', Qn ρ' → W B ρ' σ' F H → Z σ' H) : g v σ H Z :=
  h B _ σ F H v (w.weakJ J) (fun j hj => if_pos hj) r Z fun ρ' σ' q w' _ _ => z ρ' σ' q ⟨_, w'⟩
/-- (a, b) = e by a target -/
theorem sx_asgT {J : List Nat} {g : TG} (h : EX te ρ fun d ρ1 => SG J g d (wipeE ρ1 J) fun ρ2 => NX P ρ2) : SX (tAsg te g) ρ P := fun B σ F H w Dn n r b c => by
  obtain ⟨ad, w⟩ := w
  exact h B ad σ F H w _ fun d ρ1 v F1 H1 q p rv => sg_go q p.wa rv _ fun ρ2 σ2 q w2 => let ⟨ρ', l, q⟩ := q; n ρ' σ2 F1 H1 q (w2.weak l)
/-! loops -/
structure ItD (J : It) (F : Hp) (ds : List D) : Prop where
  go : ∀ i H, Same F H → i < ds.length → J.go i H
  stop : ∀ i H, Same F H → ds.length ≤ i → J.stop i H
  yld : ∀ i H x H' F1, Same F F1 → Same F1 H → J.yld i H x H' → i < ds.length → ∃ d F2, ds[i]? = some d ∧ Gr Non F1 H F2 H' ∧ Rp F2 x d
/-- what is walked -/
def EI (wi : TI) (ρ : Env) (Q : List D → Env → Prop) : Prop := ∀ B ad σ F H, WA B ad ρ σ F H → ∀ R : It → Hp → Prop, (∀ ds ρ' J F' H', Q ds ρ' → Post B ad σ ρ F H ρ' F' H' → ItD J F' ds → R J H') → wi σ H R
theorem W.rebase {B : Base} {σ : St} {F H : Hp} (w : W B ρ σ F H) : W { F0 := F, H0 := B.H0, M := B.M, pin := B.pin } ρ σ F H := by
  obtain ⟨ad, w⟩ := w
  refine ⟨ad, ⟨Same.refl F, w.gr.fh, w.gr.kp, w.gr.al, fun _ _ z => z⟩, w.len, fun i s e => ?_, w.fz, w.dj, w.out, w.pin⟩
  have k := w.sl i s e
  cases s <;> exact k
theorem W.unbase {B : Base} {σ σ' : St} {F H F' H' : Hp} (w : W B ρ σ F H) (w' : W { F0 := F, H0 := B.H0, M := B.M, pin := B.pin } ρ' σ' F' H') : W B ρ' σ' F' H' ∧ Same F F' := by
  obtain ⟨ad, w⟩ := w
  obtain ⟨ad', w'⟩ := w'
  refine ⟨⟨ad', ⟨w.gr.ff.trans w'.gr.ff, w'.gr.fh, w'.gr.kp, w'.gr.al, fun a e z => w'.gr.fr a e (w.gr.fr a e z)⟩, w'.len, fun i s e => ?_, w'.fz, w'.dj, w'.out, w'.pin⟩, w'.gr.ff⟩
  have k := w'.sl i s e
  cases s <;> exact k
theorem sx_for {wi : TI} {J : List Nat} {g : TG} (h : EI wi ρ fun ds ρ1 => ∃ I : Nat → Env → Prop, I 0 ρ1 ∧ (∀ k d ρ', ds[k]? = some d → I k ρ' → SG J g d (wipeE ρ' J) fun ρ2 => SX t ρ2 { nx := I (k + 1), ct := I (k + 1), bk := NX P, rt := P.rt }) ∧ ∀ ρ', I ds.length ρ' → NX P ρ') :
    SX (tFor wi g t) ρ P := fun B σ F H w Dn n r b c => by
  obtain ⟨ad, w⟩ := w
  refine h B ad σ F H w _ fun ds ρ1 J F1 H1 q1 p1 it => ?_
  obtain ⟨I, i0, turn, done⟩ := q1
  refine ⟨fun i m σ' H' => m = ds.length - i ∧ i ≤ ds.length ∧ ∃ ρ' F', I i ρ' ∧ W B ρ' σ' F' H' ∧ Same F1 F', ⟨_, rfl, Nat.zero_le _, ρ1, F1, i0, ⟨ad, p1.wa⟩, Same.refl _⟩, ?_⟩
  rintro i m σ' H' ⟨rfl, hi, ρ', F', iv, ⟨ad', w'⟩, sf⟩
  by_cases hlt : i < ds.length
  · refine .inr ⟨it.go i H' (sf.trans w'.gr.fh) hlt, fun σ2 H2 => ∃ ρ2 F2, I (i + 1) ρ2 ∧ W B ρ2 σ2 F2 H2 ∧ Same F1 F2, fun σ2 H2 ⟨ρ2, F2, a, b, c⟩ => ⟨ds.length - (i + 1), by omega, rfl, hlt, ρ2, F2, a, b, c⟩, fun x H2 y => ?_⟩
    obtain ⟨d, F2, e, gr, rx⟩ := it.yld i H' x H2 F' sf w'.gr.fh y hlt
    refine sg_go (turn i d ρ' e iv) (w'.grow gr) rx _ fun ρ2 σ2 q w2 => ?_
    exact q _ σ2 F2 H2 w2.rebase _ (fun ρ3 σ3 F3 H3 q3 w3 => let k := w2.unbase w3; ⟨ρ3, F3, q3, k.1, (sf.trans gr.ff).trans k.2⟩) (fun d ρ3 σ3 v F3 H3 q3 w3 rv => r d ρ3 σ3 v F3 H3 q3 (w2.unbase w3).1 rv) (fun ρ3 σ3 F3 H3 q3 w3 => let ⟨ρ4, l, q4⟩ := q3; n ρ4 σ3 F3 H3 q4 ((w2.unbase w3).1.weak l)) (fun ρ3 σ3 F3 H3 q3 w3 => let k := w2.unbase w3; ⟨ρ3, F3, q3, k.1, (sf.trans gr.ff).trans k.2⟩)
  · have e : i = ds.length := by omega
    subst e
    obtain ⟨ρ2, l, q⟩ := done ρ' iv
    exact .inl ⟨it.stop _ H' (sf.trans w'.gr.fh) (Nat.le_refl _), n ρ2 σ' F' H' q (w'.weak l)⟩
theorem sx_while (I : Nat → Env → Prop) (m0 : Nat) (i0 : I m0 ρ) (h : ∀ m ρ', I m ρ' → ET tt ρ' fun b ρ1 => (b = true → SX t ρ1 { nx := fun ρ2 => ∃ m', m' < m ∧ I m' ρ2, ct := fun ρ2 => ∃ m', m' < m ∧ I m' ρ2, bk := NX P, rt := P.rt }) ∧ (b = false → NX P ρ1)) : SX (tWhile tt t) ρ P := fun B σ F H w Dn n r b c => by
  refine ⟨fun m σ' H' => ∃ ρ' F', I m ρ' ∧ W B ρ' σ' F' H', ⟨m0, ρ, F, i0, w⟩, ?_⟩
  rintro m σ' H' ⟨ρ', F', iv, ⟨ad, w'⟩⟩
  refine h m ρ' iv B ad σ' F' H' w' _ fun b1 ρ1 F1 H1 q p => ?_
  cases b1 with
  | true =>
    refine ⟨fun σ2 H2 => ∃ m' ρ2 F2, m' < m ∧ I m' ρ2 ∧ W B ρ2 σ2 F2 H2, fun σ2 H2 ⟨m', ρ2, F2, a, b, c⟩ => ⟨m', a, ρ2, F2, b, c⟩, ?_⟩
    exact q.1 rfl B σ' F1 H1 ⟨ad, p.wa⟩ _ (fun ρ3 σ3 F3 H3 q3 w3 => let ⟨m', a, b⟩ := q3; ⟨m', ρ3, F3, a, b, w3⟩) r (fun ρ3 σ3 F3 H3 q3 w3 => let ⟨ρ4, l, q4⟩ := q3; n ρ4 σ3 F3 H3 q4 (w3.weak l)) (fun ρ3 σ3 F3 H3 q3 w3 => let ⟨m', a, b⟩ := q3; ⟨m', ρ3, F3, a, b, w3⟩)
  | false =>
    show Dn.nx σ' H1
    obtain ⟨ρ2, l, q2⟩ := q.2 rfl
    exact n ρ2 σ' F1 H1 q2 (W.weak ⟨ad, p.wa⟩ l)
/-! what is walked -/
theorem ei_list {K : PySem.W.Frag} {Q : List D → Env → Prop} (h : EX te ρ fun d ρ1 => ∃ ds, d = .list ds ∧ Q ds ρ1) : EI (iList K te) ρ Q := fun B ad σ F H w R z =>
  h B ad σ F H w _ fun d ρ1 v F1 H1 q p r => by
    obtain ⟨ds, rfl, q⟩ := q
    obtain ⟨a, xs, rfl, h1, h2⟩ := r.lst_inv
    refine ⟨a, rfl, ⟨xs, sqL_rd h1 p.wa.gr.fh⟩, z ds ρ1 _ F1 H1 q p ⟨fun i H' e hi => ⟨xs, xs[i]'(by rw [h2.len]; exact hi), sqL_rd h1 e, by simp⟩, fun i H' e hi => ⟨xs, sqL_rd h1 e, by rw [h2.len]; exact hi⟩, fun i H' x H2 F2 e1 e2 y hi => ?_⟩⟩
    obtain ⟨rfl, y⟩ := y
    obtain ⟨d, hd, rd⟩ := h2.get' (y xs (sqL_rd h1 (e1.trans e2)))
    exact ⟨d, F2, hd, Gr.refl e2, rd.up e1⟩
theorem ei_tup {K : PySem.W.Frag} {Q : List D → Env → Prop} (h : EX te ρ fun d ρ1 => ∃ ds, d = .tuple ds ∧ Q ds ρ1) : EI (iTup K te) ρ Q := fun B ad σ F H w R z =>
  h B ad σ F H w _ fun d ρ1 v F1 H1 q p r => by
    obtain ⟨ds, rfl, q⟩ := q
    obtain ⟨a, xs, rfl, h1, h2⟩ := r.tup_inv
    refine ⟨a, rfl, ⟨xs, sqT_rd h1 p.wa.gr.fh⟩, z ds ρ1 _ F1 H1 q p ⟨fun i H' e hi => ⟨xs, xs[i]'(by rw [h2.len]; exact hi), sqT_rd h1 e, by simp⟩, fun i H' e hi => ⟨xs, sqT_rd h1 e, by rw [h2.len]; exact hi⟩, fun i H' x H2 F2 e1 e2 y hi => ?_⟩⟩
    obtain ⟨rfl, y⟩ := y
    obtain ⟨d, hd, rd⟩ := h2.get' (y xs (sqT_rd h1 (e1.trans e2)))
    exact ⟨d, F2, hd, Gr.refl e2, rd.up e1⟩
/-- lo, lo + 1, .., n of them -/
def rngI (lo : Int) (n : Nat) : List Int := (List.range n).map fun k : Nat => lo + (k : Int)
theorem rngI_len (lo : Int) (n : Nat) : (rngI lo n).length = n := by simp [rngI]
theorem rngI_get {lo : Int} {n k : Nat} (h : k < n) : (rngI lo n)[k]? = some (lo + (k : Int)) := by simp [rngI, h]
theorem rngI_mem {lo x : Int} {n : Nat} : x ∈ rngI lo n ↔ lo ≤ x ∧ x < lo + (n : Int) := by
  unfold rngI
  rw [List.mem_map]
  constructor
  · rintro ⟨k, hk, rfl⟩
    rw [List.mem_range] at hk
    omega
  · intro h
    exact ⟨(x - lo).toNat, by rw [List.mem_range]; omega, by omega⟩
theorem itd_rng {F : Hp} (lo : Int) (n : Nat) : ItD (Itr lo n) F ((rngI lo n).map .int) where
  go := fun i H _ h => by rw [List.length_map, rngI_len] at h; exact h
  stop := fun i H _ h => by rw [List.length_map, rngI_len] at h; exact h
  yld := fun i H x H' F1 _ e2 y h => by
    rw [List.length_map, rngI_len] at h
    obtain ⟨rfl, rfl⟩ := y
    exact ⟨.int (lo + (i : Int)), F1, by rw [List.getElem?_map, rngI_get h]; rfl, Gr.refl e2, .int _⟩
theorem ei_rng1 {t : TA} {Q : List D → Env → Prop} (h : EA t ρ fun ds ρ1 => ∃ n, ds = [.int n] ∧ (-1000000000000 ≤ n ∧ n ≤ 1000000000000) ∧ Q ((rngI 0 n.toNat).map .int) ρ1) : EI (iRng1 t) ρ Q := fun B ad σ F H w R z =>
  h B ad σ F H w _ fun ds ρ1 vs F1 H1 q p r => by
    obtain ⟨n, rfl, ⟨hn1, hn2⟩, q⟩ := q
    obtain ⟨v, rfl, rv⟩ := r.one
    exact ⟨n, by rw [rv.int_inv], by omega, by omega, z _ ρ1 _ F1 H1 q p (itd_rng 0 _)⟩
theorem ei_rng2 {t : TA} {Q : List D → Env → Prop} (h : EA t ρ fun ds ρ1 => ∃ l n, ds = [.int l, .int n] ∧ (-1000000000000 ≤ l ∧ l ≤ 1000000000000 ∧ -1000000000000 ≤ n ∧ n ≤ 1000000000000) ∧ Q ((rngI l (n - l).toNat).map .int) ρ1) : EI (iRng2 t) ρ Q := fun B ad σ F H w R z =>
  h B ad σ F H w _ fun ds ρ1 vs F1 H1 q p r => by
    obtain ⟨l, n, rfl, ⟨hl1, hl2, hn1, hn2⟩, q⟩ := q
    obtain ⟨v, u, rfl, rv, ru⟩ := r.two
    exact ⟨l, n, by rw [rv.int_inv, ru.int_inv], ⟨by omega, by omega, by omega, by omega⟩, z _ ρ1 _ F1 H1 q p (itd_rng l _)⟩
/-- enumerate: pairs (index, item) -/
def enumD (k : Nat) : List D → List D
  | [] => []
  | d :: ds => .tuple [.int (k : Int), d] :: enumD (k + 1) ds
theorem enumD_len : ∀ (ds : List D) (k : Nat), (enumD k ds).length = ds.length
  | [], _ => rfl
  | d :: ds, k => by simp [enumD, enumD_len ds]
theorem enumD_get : ∀ (ds : List D) (k i : Nat) {d : D}, ds[i]? = some d → (enumD k ds)[i]? = some (.tuple [.int ((k + i : Nat) : Int), d])
  | [], _, i, _, h => by simp at h
  | e :: ds, k, 0, d, h => by simp at h; subst h; rfl
  | e :: ds, k, i + 1, d, h => by
    have q := enumD_get ds (k + 1) i (by simpa using h)
    show (enumD (k + 1) ds)[i]? = _
    rw [q, show k + 1 + i = k + (i + 1) by omega]
theorem ei_enum {K : PySem.W.Frag} {t : TA} {Q : List D → Env → Prop} (h : EA t ρ fun es ρ1 => ∃ ds, es = [.list ds] ∧ Q (enumD 0 ds) ρ1) : EI (iEnum K t) ρ Q := fun B ad σ F H w R z =>
  h B ad σ F H w _ fun es ρ1 vs F1 H1 q p r => by
    obtain ⟨ds, rfl, q⟩ := q
    obtain ⟨v, rfl, rv⟩ := r.one
    obtain ⟨a, xs, rfl, h1, h2⟩ := rv.lst_inv
    refine ⟨a, xs, rfl, sqL_rd h1 p.wa.gr.fh, z _ ρ1 _ F1 H1 q p ⟨fun i H' e hi => ?_, fun i H' e hi => ?_, fun i H' x H2 F2 e1 e2 y hi => ?_⟩⟩
    · rw [enumD_len] at hi
      exact ⟨xs, xs[i]'(by rw [h2.len]; exact hi), sqL_rd h1 e, by simp⟩
    · rw [enumD_len] at hi
      exact ⟨xs, sqL_rd h1 e, by rw [h2.len]; exact hi⟩
    · obtain ⟨T, x, rfl, hT, rfl, y⟩ := y
      obtain ⟨d, hd, rd⟩ := h2.get' (y xs (sqL_rd h1 (e1.trans e2)))
      have g := Gr.new (o := .tup [.int (i : Nat), x]) e2 hT
      refine ⟨_, upd F2 T (.tup [.int (i : Nat), x]), enumD_get ds 0 i hd, g, .tup upd_same (.cons ?_ (.cons ((rd.up e1).up g.ff) .nil))⟩
      rw [Nat.zero_add]
      exact .int _
theorem ei_zip {K : PySem.W.Frag} {t : TA} {Q : List D → Env → Prop} (h : EA t ρ fun es ρ1 => ∃ ds fs, es = [.list ds, .list fs] ∧ Q (List.zipWith (fun d f => PyData.tuple [d, f]) ds fs) ρ1) : EI (iZip K t) ρ Q := fun B ad σ F H w R z =>
  h B ad σ F H w _ fun es ρ1 vs F1 H1 q p r => by
    obtain ⟨ds, fs, rfl, q⟩ := q
    obtain ⟨v, u, rfl, rv, ru⟩ := r.two
    obtain ⟨a, xs, rfl, h1, h2⟩ := rv.lst_inv
    obtain ⟨b, ys, rfl, g1, g2⟩ := ru.lst_inv
    refine ⟨a, b, xs, ys, rfl, sqL_rd h1 p.wa.gr.fh, sqL_rd g1 p.wa.gr.fh, z _ ρ1 _ F1 H1 q p ⟨fun i H' e hi => ?_, fun i H' e hi => ?_, fun i H' x H2 F2 e1 e2 y hi => ?_⟩⟩
    · rw [List.length_zipWith] at hi
      exact ⟨xs, ys, xs[i]'(by rw [h2.len]; omega), ys[i]'(by rw [g2.len]; omega), sqL_rd h1 e, sqL_rd g1 e, by simp, by simp⟩
    · rw [List.length_zipWith] at hi
      exact ⟨xs, ys, sqL_rd h1 e, sqL_rd g1 e, by rw [h2.len, g2.len]; omega⟩
    · obtain ⟨T, x, y', rfl, hT, rfl, y1, y2⟩ := y
      obtain ⟨d, hd, rd⟩ := h2.get' (y1 xs (sqL_rd h1 (e1.trans e2)))
      obtain ⟨f, hf, rf⟩ := g2.get' (y2 ys (sqL_rd g1 (e1.trans e2)))
      have g := Gr.new (o := .tup [x, y']) e2 hT
      exact ⟨_, upd F2 T (.tup [x, y']), by rw [List.getElem?_zipWith, hd, hf], g, .tup upd_same (.cons ((rd.up e1).up g.ff) (.cons ((rf.up e1).up g.ff) .nil))⟩
end

/-! ### comprehensions -/
section
variable {ρ ρ' : Env} {te : TE} {tt : TT} {wi : TI} {g : TG}
/-- vs's slots as in the first, the others as in the second -/
def unwA : Nat → List Nat → Env → Env → Env
  | k, vs, a :: ρ, b :: ρ' => (if vs.contains k = true then a else b) :: unwA (k + 1) vs ρ ρ'
  | _, _, _, _ => []
abbrev unw (vs : List Nat) (ρ ρ' : Env) : Env := unwA 0 vs ρ ρ'
theorem unwA_len : ∀ {k : Nat} {vs : List Nat} {ρ ρ' : Env}, ρ'.length = ρ.length → (unwA k vs ρ ρ').length = ρ.length
  | _, _, [], [], _ => rfl
  | _, _, [], _ :: _, h => by simp at h
  | _, _, _ :: _, [], h => by simp at h
  | k, vs, a :: ρ, b :: ρ', h => by
    show (unwA (k + 1) vs ρ ρ').length + 1 = ρ.length + 1
    rw [unwA_len (by simpa using h)]
theorem unwA_get : ∀ {k : Nat} {vs : List Nat} {ρ ρ' : Env} {i : Nat}, ρ'.length = ρ.length → (unwA k vs ρ ρ')[i]? = if k + i ∈ vs then ρ[i]? else ρ'[i]?
  | _, _, [], [], i, _ => by simp [unwA]
  | _, _, [], _ :: _, _, h => by simp at h
  | _, _, _ :: _, [], _, h => by simp at h
  | k, vs, a :: ρ, b :: ρ', 0, h => by
    show some (if vs.contains k = true then a else b) = if k + 0 ∈ vs then some a else some b
    by_cases hk : k ∈ vs
    · rw [if_pos (by simpa using hk), if_pos (by simpa using hk)]
    · rw [if_neg (by simpa using hk), if_neg (by simpa using hk)]
  | k, vs, a :: ρ, b :: ρ', i + 1, h => by
    show (unwA (k + 1) vs ρ ρ')[i]? = if k + (i + 1) ∈ vs then ρ[i]? else ρ'[i]?
    rw [unwA_get (by simpa using h), show k + 1 + i = k + (i + 1) by omega]
/-- the slots at vs hold nothing that is owned -/
def isPl : Option Slot → Bool
  | some (.own _) => false
  | some (.st _) => false
  | _ => true
def Plain (ρ : Env) (vs : List Nat) : Prop := ∀ i ∈ vs, isPl ρ[i]? = true
theorem Plain.ad {B : Base} {ad : Nat → List Addr} {σ : St} {F H : Hp} {vs : List Nat} (w : WA B ad ρ σ F H) (pl : Plain ρ vs) : ∀ j ∈ vs, ad j = [] := fun j hj => by
  have k := pl j hj
  cases e : ρ[j]? with
  | none => exact w.out j e
  | some s =>
    have q := w.sl j s e
    rw [e] at k
    cases s with
    | emp => exact q
    | val d => exact q.1
    | own _ => cases k
    | st _ => cases k
theorem WA.wiped {B : Base} {ad : Nat → List Addr} {σ : St} {F H : Hp} {vs : List Nat} (w : WA B ad ρ σ F H) (pl : Plain ρ vs) : WA B ad (wipeE ρ vs) (wipe σ vs) F H where
  gr := w.gr
  len := by rw [wipe_length, wipeE_len]; exact w.len
  sl := fun i s e => by
    rw [wipeE_get] at e
    rw [wipe_get]
    by_cases h : i ∈ vs ∧ i < ρ.length
    · rw [if_pos h] at e
      cases e
      exact pl.ad w i h.1
    · rw [if_neg h] at e
      rw [if_neg (by rw [w.len]; exact h)]
      exact w.sl i s e
  fz := w.fz
  dj := w.dj
  out := fun i e => by
    rw [wipeE_get] at e
    by_cases h : i ∈ vs ∧ i < ρ.length
    · rw [if_pos h] at e; cases e
    · rw [if_neg h] at e; exact w.out i e
  pin := w.pin.to fun S e => by
    rw [wipeE_get] at e
    by_cases h : 0 ∈ vs ∧ 0 < ρ.length
    · rw [if_pos h] at e; cases e
    · rw [if_neg h] at e
      exact ⟨⟨S, e⟩, by rw [wipe_get, if_neg (by rw [w.len]; exact h)], rfl⟩
theorem wipe_eq {σ σ' : St} {vs : List Nat} (h : wipe σ' vs = wipe σ vs) {i : Nat} (hi : i ∉ vs) : σ'[i]? = σ[i]? := by
  have e := congrArg (fun l => l[i]?) h
  simp only [wipe_get] at e
  rwa [if_neg (fun z => hi z.1), if_neg (fun z => hi z.1)] at e
/-- behind the block's turn: the outer slots again -/
theorem Post.unwiped {B : Base} {ad : Nat → List Addr} {σ σ2 : St} {F H F' H' : Hp} {vs : List Nat} {ρ1 ρ2 : Env} (w : WA B ad ρ1 σ F H) (pl : Plain ρ1 vs)
    (hσ : wipe σ2 vs = wipe σ vs) (fr : ∀ i, i ∉ vs → ρ2[i]? = (wipeE ρ1 vs)[i]?) (w2 : WA B ad ρ2 σ2 F H) (p : Post B ad σ2 ρ2 F H ρ' F' H') : Post B ad σ ρ1 F H (unw vs ρ1 ρ') F' H' := by
  have hl : ρ'.length = ρ1.length := by
    have l1 := p.wa.len
    have l2 := congrArg List.length hσ
    rw [wipe_length, wipe_length] at l2
    rw [← l1, l2, w.len]
  have pa := pl.ad w
  have ms : ∀ a, MS ad ρ2 a → MS ad ρ1 a := fun a ⟨i, S, e, m⟩ => by
    have hi : i ∉ vs := fun z => by rw [pa i z] at m; cases m
    rw [fr i hi, wipeE_get, if_neg (fun z => hi z.1)] at e
    exact ⟨i, S, e, m⟩
  refine ⟨⟨p.wa.gr, by rw [unwA_len hl]; exact w.len, fun i s e => ?_, p.wa.fz, p.wa.dj, fun i e => ?_, fun s as hp S e => ?_⟩, ⟨p.gr.ff, p.gr.fh, fun a o e m => p.gr.kp a o e fun z => m (ms a z), p.gr.al, p.gr.fr⟩, fun i S e => ?_⟩
  · rw [unwA_get hl, Nat.zero_add] at e
    by_cases hi : i ∈ vs
    · rw [if_pos hi] at e
      have k := w.sl i s e
      have q := pl i hi
      rw [e] at q
      cases s with
      | emp => exact k
      | val d =>
        obtain ⟨k, v, e, r⟩ := k
        exact ⟨k, v, e, r.up p.gr.ff⟩
      | own _ => cases q
      | st _ => cases q
    · rw [if_neg hi] at e
      rw [← wipe_eq hσ hi]
      exact p.wa.sl i s e
  · rw [List.getElem?_eq_none_iff, unwA_len hl, ← hl, ← List.getElem?_eq_none_iff] at e
    exact p.wa.out i e
  · rw [unwA_get hl, Nat.zero_add] at e
    by_cases hi : 0 ∈ vs
    · rw [if_pos hi] at e
      have q := pl 0 hi
      rw [e] at q
      cases q
    · rw [if_neg hi] at e
      rw [← wipe_eq hσ hi]
      exact p.wa.pin s as hp S e
  · rw [unwA_get hl, Nat.zero_add] at e
    by_cases hi : i ∈ vs
    · rw [if_pos hi] at e
      exact ⟨S, e⟩
    · rw [if_neg hi] at e
      obtain ⟨S', e'⟩ := p.sh i S e
      rw [fr i hi, wipeE_get, if_neg (fun z => hi z.1)] at e'
      exact ⟨S', e'⟩
/-- [e for target in ..], by an invariant over the turn, the items made, the slots -/
theorem eo_lc {vs : List Nat} {Q : List D → Env → Prop} (h : EI wi ρ fun ds ρ1 => ∃ I : Nat → List D → Env → Prop, I 0 [] ρ1 ∧
    (∀ k d acc ρ', ds[k]? = some d → I k acc ρ' → Plain ρ' vs ∧ acc.length < 1000000 ∧ SG vs g d (wipeE ρ' vs) fun ρ2 => ET tt ρ2 fun b ρ3 => (b = true → EX te ρ3 fun e ρ4 => I (k + 1) (acc ++ [e]) (unw vs ρ' ρ4)) ∧ (b = false → I (k + 1) acc (unw vs ρ' ρ3))) ∧
    ∀ acc ρ', I ds.length acc ρ' → Q acc ρ') : EO (tLc wi g tt te vs) ρ Q := fun B ad σ F H w Z z => by
  refine h B ad σ F H w _ fun ds ρ1 J F1 H1 q1 p1 it => ?_
  obtain ⟨I, i0, turn, done⟩ := q1
  intro Dl hD
  have hDH : H Dl = none := by
    cases q : H Dl with
    | none => rfl
    | some o => exact absurd hD (p1.gr.al Dl (by rw [q]; intro z; cases z))
  have nw := p1.wa.newp hD
  -- at each turn: the outer slots, over a heap in which Dl is not seen
  let Inv := fun (i : Nat) (H' : Hp) => ∃ acc ρ' F' vs', I i acc ρ' ∧ Post B ad σ ρ1 F1 H1 ρ' F' H' ∧ F' Dl = none ∧ H' Dl = some (.lst vs') ∧ RpA F' vs' acc
  refine ⟨fun i m H' => m = ds.length - i ∧ i ≤ ds.length ∧ Inv i H', ⟨_, rfl, Nat.zero_le _, [], ρ1, F1, [], i0, Post.of p1.wa (Gr.heap p1.wa.gr.fh (same_upd hD)), nw.1, upd_same, .nil⟩, ?_⟩
  rintro i m H' ⟨rfl, hi, acc, ρ', F', vs', iv, P, hF, hH, ra⟩
  by_cases hlt : i < ds.length
  · refine .inr ⟨it.go i H' (P.gr.ff.trans P.wa.gr.fh) hlt, fun H2 => Inv (i + 1) H2, fun H2 k => ⟨ds.length - (i + 1), by omega, rfl, hlt, k⟩, fun x H2 y => ?_⟩
    obtain ⟨d, F2, e, gr, rx⟩ := it.yld i H' x H2 F' P.gr.ff P.wa.gr.fh y hlt
    obtain ⟨pl, hz, k⟩ := turn i d acc ρ' e iv
    have P2 := P.trans (Post.of P.wa gr)
    have w2 := P.wa.grow gr
    have hF2 : F2 Dl = none := gr.fr Dl (by rw [hH]; intro z; cases z) hF
    have hH2 : H2 Dl = some (.lst vs') := gr.kp Dl _ hH id
    have nms : ∀ (ρ2 : Env), ¬ MS ad ρ2 Dl := fun ρ2 ⟨j, S, _, m⟩ => nw.2.2 j m
    refine k B ad (wipe σ vs) F2 H2 x (w2.wiped pl) (pl.ad w2) rx _ fun ρ2 σ2 q wb e2 fr => ?_
    have e2' : wipe σ2 vs = wipe σ vs := by
      rw [e2]
      apply List.ext_getElem?
      intro j
      rw [wipe_get, wipe_get, wipe_length]
      split
      · rfl
      · first | rfl | rw [wipe_get, if_neg (by assumption)]
    refine ⟨e2', q B ad σ2 F2 H2 wb _ fun b ρ3 F3 H3 q3 p3 => ?_⟩
    cases b with
    | true =>
      show te σ2 H3 _
      refine q3.1 rfl B ad σ2 F3 H3 p3.wa _ fun e ρ4 v F4 H4 q4 p4 rv => ?_
      have p34 := p3.trans p4
      have pu := Post.unwiped w2 pl e2' fr wb p34
      have hH4 : H4 Dl = some (.lst vs') := p34.gr.kp Dl _ hH2 (nms _)
      have hF4 : F4 Dl = none := p34.gr.fr Dl (by rw [hH2]; intro z; cases z) hF2
      have ra4 : RpA F4 (vs' ++ [v]) (acc ++ [e]) := (ra.up (gr.ff.trans p34.gr.ff)).app (.cons rv .nil)
      refine ⟨vs', hH4, Nat.lt_of_lt_of_le (by rw [ra.len]; exact hz) (by decide), acc ++ [e], _, F4, vs' ++ [v], q4, ?_, hF4, upd_same, ra4⟩
      -- Dl grows: nobody sees it
      have pt := P2.trans pu
      have ne1 : ∀ a o, H1 a = some o → a ≠ Dl := fun a o q z => by rw [z, hD] at q; cases q
      have neF : ∀ a o, F4 a = some o → a ≠ Dl := fun a o q z => by rw [z, hF4] at q; cases q
      refine ⟨⟨⟨pt.wa.gr.ff, fun a o q => by rw [upd_ne (neF a o q)]; exact pt.wa.gr.fh a o q, fun a o q m => ?_, fun a q => ?_, pt.wa.gr.fr⟩, pt.wa.len, fun j s q => ?_, pt.wa.fz, pt.wa.dj, pt.wa.out, pt.wa.pin⟩, ⟨pt.gr.ff, fun a o q => by rw [upd_ne (neF a o q)]; exact pt.gr.fh a o q, fun a o q m => by rw [upd_ne (ne1 a o q)]; exact pt.gr.kp a o q m, fun a q => ?_, pt.gr.fr⟩, pt.sh⟩
      · rw [upd_ne (fun z => by rw [z, nw.2.1] at q; cases q)]
        exact pt.wa.gr.kp a o q m
      · by_cases ha : a = Dl
        · rw [ha, upd_same]; intro z; cases z
        · rw [upd_ne ha]; exact pt.wa.gr.al a q
      · have k := pt.wa.sl j s q
        cases s with
        | emp => exact k
        | val d => exact k
        | own es =>
          obtain ⟨p, ws, a1, a2, a3, a4, a5⟩ := k
          refine ⟨p, ws, a1, a2, a3, ?_, a5⟩
          rw [upd_ne (fun z => nw.2.2 j (by rw [a1, z]; simp))]
          exact a4
        | st S =>
          obtain ⟨s, a1, a2⟩ := k
          exact ⟨s, a1, a2.keep fun a m o e => by
            rw [upd_ne (fun z => nw.2.2 j (by rw [← z]; exact m))]
            exact e⟩
      · by_cases ha : a = Dl
        · rw [ha, upd_same]; intro z; cases z
        · rw [upd_ne ha]; exact pt.gr.al a q
    | false =>
      show Inv (i + 1) H3
      have pu := Post.unwiped w2 pl e2' fr wb p3
      exact ⟨acc, _, F3, vs', q3.2 rfl, P2.trans pu, p3.gr.fr Dl (by rw [hH2]; intro z; cases z) hF2, p3.gr.kp Dl _ hH2 (nms _), ra.up (gr.ff.trans p3.gr.ff)⟩
  · have e : i = ds.length := by omega
    subst e
    exact .inl ⟨it.stop _ H' (P.gr.ff.trans P.wa.gr.fh) (Nat.le_refl _), z acc ρ' Dl vs' F' H' (done acc ρ' iv) (p1.trans P) hF hDH hH ra⟩
theorem et_yes {Q : Bool → Env → Prop} (q : Q true ρ) : ET tYes ρ Q := fun B ad σ F H w Z z => z true ρ F H q (Post.refl w)
/-- items that read off a list of one's own; nothing changes: the filter and the map -/
theorem eo_lcP {α : Type} {vs : List Nat} {Q : List D → Env → Prop} (f : α → Bool) (gg : α → D) (h : EI wi ρ fun ds ρ1 => ∃ (xs : List α) (enc : α → D), ds = xs.map enc ∧ xs.length < 1000000 ∧ Plain ρ1 vs ∧
    (∀ x ∈ xs, SG vs g (enc x) (wipeE ρ1 vs) fun ρ2 => unw vs ρ1 ρ2 = ρ1 ∧ ET tt ρ2 fun b ρ3 => b = f x ∧ ρ3 = ρ2 ∧ (f x = true → EX te ρ2 fun e ρ4 => e = gg x ∧ ρ4 = ρ2)) ∧ Q ((xs.filter f).map gg) ρ1) : EO (tLc wi g tt te vs) ρ Q := by
  refine eo_lc fun B ad σ F H w R z => h B ad σ F H w R fun ds ρ1 J F' H' q p it => z ds ρ1 J F' H' ?_ p it
  obtain ⟨xs, enc, rfl, hz, pl, turn, q⟩ := q
  refine ⟨fun k acc ρ' => ρ' = ρ1 ∧ acc = ((xs.take k).filter f).map gg, ⟨rfl, by simp⟩, ?_, ?_⟩
  · rintro k d acc ρ' e ⟨rfl, rfl⟩
    rw [List.getElem?_map] at e
    obtain ⟨x, ex, rfl⟩ : ∃ x, xs[k]? = some x ∧ enc x = d := by
      cases hx : xs[k]? with
      | none => rw [hx] at e; cases e
      | some x => rw [hx] at e; exact ⟨x, rfl, Option.some.inj e⟩
    have hm : x ∈ xs := List.mem_of_getElem? ex
    have hk : k < xs.length := (List.getElem?_eq_some_iff.mp ex).1
    have et : xs.take (k + 1) = xs.take k ++ [x] := by
      rw [List.take_succ, ex]; rfl
    refine ⟨pl, ?_, fun B ad σ F H v w hJ r Z z => turn x hm B ad σ F H v w hJ r Z fun ρ2 σ2 q w2 a b => z ρ2 σ2 (fun B ad σ F H w Z z => q.2 B ad σ F H w Z fun b ρ3 F' H' q2 p => z b ρ3 F' H' ⟨fun hb => ?_, fun hb => ?_⟩ p) w2 a b⟩
    · rw [List.length_map]
      exact Nat.lt_of_le_of_lt (Nat.le_trans (List.length_filter_le _ _) (by rw [List.length_take]; exact Nat.min_le_right _ _)) hz
    · obtain ⟨rfl, rfl, q2⟩ := q2
      refine (q2 hb).imp fun e ρ4 q => ?_
      obtain ⟨rfl, rfl⟩ := q
      exact ⟨‹_ ∧ _›.1, by rw [et, List.filter_append, List.map_append, List.filter_cons, if_pos hb]; rfl⟩
    · obtain ⟨rfl, rfl, q2⟩ := q2
      exact ⟨‹_ ∧ _›.1, by rw [et, List.filter_append, List.filter_cons, if_neg (by rw [hb]; exact Bool.false_ne_true), List.filter_nil, List.append_nil]⟩
  · rintro acc ρ' ⟨rfl, rfl⟩
    rw [List.length_map, List.take_length]
    exact q
end

/-! ### calls -/
/-- what a def of data promises: R tells of the arguments and of what is wanted of the answer -/
def spP (R : List D → (D → Prop) → Prop) : Sp := fun vs H Q _ => ∃ F ds Z, Same F H ∧ RpA F vs ds ∧ R ds Z ∧ ∀ d v F' H', Z d → Gr Non F H F' H' → Rp F' v d → Q v H'
/-- the same with a state ahead of the arguments -/
def spS (R : Stt → List D → (D → Stt → Prop) → Prop) : Sp := fun vs H Q _ => ∃ F s as S us ds Z, vs = .ref s :: us ∧ Same F H ∧ StAt H S s as ∧ (∀ a ∈ as, F a = none) ∧ RpA F us ds ∧ R S ds Z ∧
  ∀ d S' v F' H', Z d S' → Gr (· ∈ as) F H F' H' → StAt H' S' s as → (∀ a ∈ as, F' a = none) → Rp F' v d → Q v H'
/-- a new state is handed back -/
def spN (R : List D → (Stt → Prop) → Prop) : Sp := fun vs H Q _ => ∃ F ds Z, Same F H ∧ RpA F vs ds ∧ R ds Z ∧ ∀ S s as F' H', Z S → Gr Non F H F' H' → StAt H' S s as → (∀ a ∈ as, F' a = none ∧ H a = none) → Q (.ref s) H'
section
variable {ρ ρ' : Env} {te : TE} {tt : TT} {t : TA} {E : XK}
theorem ex_call {R : List D → (D → Prop) → Prop} {Q : D → Env → Prop} (h : EA t ρ fun ds ρ1 => R ds fun d => Q d ρ1) : EX (tCall (spP R) [] E t) ρ Q := fun B ad σ F H w Z z =>
  h B ad σ F H w _ fun ds ρ1 vs F1 H1 q p r => by
    rw [List.append_nil]
    exact ⟨F1, ds, _, p.wa.gr.fh, r, q, fun d v F' H' zd g rv => z d ρ1 v F' H' zd (p.trans (Post.of p.wa g)) rv⟩
/-- f(state, ..) -/
theorem ex_callS {R : Stt → List D → (D → Stt → Prop) → Prop} {i : Nat} {S0 : Stt} {Q : D → Env → Prop} (h0 : ρ[i]? = some (.st S0)) (h : EA t ρ fun ds ρ1 => ∃ S, ρ1[i]? = some (.st S) ∧ R S ds fun d S' => Q d (ρ1.set i (.st S'))) :
    EX (tCall (spS R) [] E (tCons (tVar i) t)) ρ Q := fun B ad σ F H w Z z => by
  obtain ⟨s0, k0, _⟩ := w.sl i _ h0
  refine ⟨_, k0, h B ad σ F H w _ fun ds ρ1 vs F1 H1 q p r => ?_⟩
  obtain ⟨S, h1, q⟩ := q
  obtain ⟨s, k1, k2⟩ := p.wa.sl i _ h1
  rw [k0] at k1
  cases k1
  have hi : i < ρ1.length := (List.getElem?_eq_some_iff.mp h1).1
  rw [List.append_nil]
  refine ⟨F1, s0, ad i, S, vs, ds, _, rfl, p.wa.gr.fh, k2, fun a m => (p.wa.fz i a m).1, r, q, fun d S' v F' H' zd g st fn rv => ?_⟩
  have nm : ∀ j a, j ≠ i → a ∈ ad j → a ∉ ad i := fun j a hj m m' => hj (p.wa.dj j i a m m')
  refine z d _ v F' H' zd (p.trans ⟨⟨?_, ?_, fun j sl e => ?_, fun j a m => ?_, p.wa.dj, fun j e => p.wa.out j (get_set' e), p.wa.pin.to fun S2 e => by
    rcases get_set e with ⟨e0, _⟩ | ⟨hj, e⟩
    · exact ⟨⟨S, by rw [e0]; exact h1⟩, rfl, rfl⟩
    · exact ⟨⟨S2, e⟩, rfl, rfl⟩⟩, ⟨g.ff, g.fh, fun a o e m => g.kp a o e fun z => m ⟨i, S, h1, z⟩, g.al, g.fr⟩, fun j S'' e => ?_⟩) rv
  · refine ⟨p.wa.gr.ff.trans g.ff, g.fh, fun a o e m => g.kp a o (p.wa.gr.kp a o e m) fun z => ?_, fun a e => g.al a (p.wa.gr.al a e), fun a e z => g.fr a (p.wa.gr.al a e) (p.wa.gr.fr a e z)⟩
    rcases (p.wa.fz i a z).2 with q | q
    · rw [q] at e; cases e
    · exact m q.1
  · rw [List.length_set]; exact p.wa.len
  · rcases get_set e with ⟨rfl, rfl⟩ | ⟨hj, e⟩
    · exact ⟨s0, k0, st⟩
    · have k := p.wa.sl j sl e
      cases sl with
      | emp => exact k
      | val d =>
        obtain ⟨k, v, e, r⟩ := k
        exact ⟨k, v, e, r.up g.ff⟩
      | own es =>
        obtain ⟨q, ws, a1, a2, a3, a4, a5⟩ := k
        exact ⟨q, ws, a1, a2, a3, g.kp q _ a4 (nm j q hj (by rw [a1]; simp)), a5.up g.ff⟩
      | st S2 =>
        obtain ⟨s2, a1, a2⟩ := k
        exact ⟨s2, a1, a2.keep fun a m o e => g.kp a o e (nm j a hj m)⟩
  · refine ⟨?_, (p.wa.fz j a m).2⟩
    by_cases hj : j = i
    · subst hj; exact fn a m
    · exact g.fr a (p.wa.lv m) (p.wa.fz j a m).1
  · rcases get_set e with ⟨rfl, _⟩ | ⟨_, e⟩
    · exact ⟨S, h1⟩
    · exact ⟨S'', e⟩
/-- state = f(..) -/
theorem sx_asgN {R : List D → (Stt → Prop) → Prop} {i : Nat} {P : Po} (h00 : i ≠ 0) (h : EA t ρ fun ds ρ1 => R ds fun S => NX P (ρ1.set i (.st S))) : SX (tAsg (tCall (spN R) [] E t) (gName i)) ρ P := fun B σ F H w Dn n r b c => by
  obtain ⟨ad, w⟩ := w
  refine h B ad σ F H w _ fun ds ρ1 vs F1 H1 q p rv => ?_
  rw [List.append_nil]
  refine ⟨F1, ds, _, p.wa.gr.fh, rv, q, fun S s as F' H' zd g st fn => ?_⟩
  obtain ⟨ρ2, l, q⟩ := zd
  have w2 := p.wa.grow g
  have nw : ∀ a ∈ as, B.H0 a = none ∧ ∀ j, a ∉ ad j := fun a m => (p.wa.newp (fn a m).2).2
  refine n ρ2 _ F' H' q (W.weak ⟨fun k => if k = i then (if i < ρ1.length then as else []) else ad k, w2.gr, by rw [List.length_set, List.length_set]; exact w2.len, fun j sl e => ?_, fun j q m => ?_, fun j1 j2 q m1 m2 => ?_, fun j e => ?_, w2.pin.to fun S2 e => by
    rcases get_set e with ⟨e0, _⟩ | ⟨hj, e⟩
    · exact absurd e0.symm h00
    · exact ⟨⟨S2, e⟩, List.getElem?_set_ne (Ne.symm hj), if_neg hj⟩⟩ l)
  · rcases get_set e with ⟨rfl, rfl⟩ | ⟨hj, e'⟩
    · have hi : j < ρ1.length := by
        have := (List.getElem?_eq_some_iff.mp e).1
        rwa [List.length_set] at this
      exact ⟨s, List.getElem?_set_self (by rw [w2.len]; exact hi), by rw [if_pos rfl, if_pos hi]; exact st⟩
    · rw [if_neg hj, List.getElem?_set_ne (Ne.symm hj)]
      exact w2.sl j sl e'
  · by_cases hj : j = i
    · simp only [if_pos hj] at m
      by_cases hi : i < ρ1.length
      · simp only [if_pos hi] at m
        exact ⟨(fn q m).1, .inl (nw q m).1⟩
      · simp [if_neg hi] at m
    · simp only [if_neg hj] at m
      exact w2.fz j q m
  · have g : ∀ j, q ∈ (if j = i then (if i < ρ1.length then as else []) else ad j) → (j = i ∧ q ∈ as) ∨ (j ≠ i ∧ q ∈ ad j) := fun j m => by
      by_cases hj : j = i
      · simp only [if_pos hj] at m
        by_cases hi : i < ρ1.length
        · simp only [if_pos hi] at m
          exact .inl ⟨hj, m⟩
        · simp [if_neg hi] at m
      · simp only [if_neg hj] at m
        exact .inr ⟨hj, m⟩
    rcases g j1 m1 with ⟨a1, b1⟩ | ⟨a1, b1⟩ <;> rcases g j2 m2 with ⟨a2, b2⟩ | ⟨a2, b2⟩
    · rw [a1, a2]
    · exact absurd b2 ((nw q b1).2 j2)
    · exact absurd b1 ((nw q b2).2 j1)
    · exact w2.dj j1 j2 q b1 b2
  · show (if j = i then (if i < ρ1.length then as else []) else ad j) = []
    have e' := get_set' e
    by_cases hj : j = i
    · subst hj
      rw [if_pos rfl, if_neg (by rw [List.getElem?_eq_none_iff] at e'; omega)]
    · rw [if_neg hj]
      exact w2.out j e'
end

/-! ### defs -/
def startE (N : List Str) (ds : List D) : Env := ds.map .val ++ List.replicate (N.length - ds.length) .emp
section
variable {P : Program} {w : World} {K : PySem.W.Frag} {mg : Str → Option Value} {base : Heap} {x qual : Str} {st : Stmt} {f : Addr} {fd : FuncData} {N ps : List Str} {k : Nat}
theorem start_get {N : List Str} {us : List V} {i : Nat} {v : V} (h : us[i]? = some v) : (L2.start N us)[i]? = some (some v) := by
  unfold L2.start
  have hi := (List.getElem?_eq_some_iff.mp h).1
  rw [List.getElem?_append_left (by rw [List.length_map]; exact hi), List.getElem?_map, h]
  rfl
theorem startE_get {N : List Str} {ds : List D} {i : Nat} {s : Slot} (h : (startE N ds)[i]? = some s) : (∃ d, ds[i]? = some d ∧ s = .val d) ∨ s = .emp := by
  unfold startE at h
  by_cases hi : i < ds.length
  · rw [List.getElem?_append_left (by rw [List.length_map]; exact hi), List.getElem?_map] at h
    cases e : ds[i]? with
    | none => rw [e] at h; cases h
    | some d => rw [e] at h; exact .inl ⟨d, rfl, (Option.some.inj h).symm⟩
  · rw [List.getElem?_append_right (by rw [List.length_map]; omega)] at h
    exact .inr (List.eq_of_mem_replicate (List.mem_of_getElem? h))
theorem fn_pure {R : List D → (D → Prop) → Prop} (F : Fun K x qual st f fd) (S : FnScope N ps (defScope st)) (len : ∀ ds Z, R ds Z → ds.length = ps.length)
    (body : ∀ (cdv : Value) (A : Around) (outer : List PySem.Env) (s : Shared) (H : Hp) (E : XK), Room k (A.deeper (PyProof.Rows.envOfC qual (defScope st) s.heap.objs.size f cdv)) →
      ∃ t, PSs (cxOf CX0 P w K mg base N qual (defScope st) f cdv A outer s H E).nox (defBody st) t ∧ ∀ ds Z, R ds Z → SX t (startE N ds) { nx := fun _ => Z .none, rt := fun d _ => Z d }) :
    FnOk P w K mg base CX0 (k + 1) f fd ps (spP R) := by
  refine F.ok S (fun vs H Q E h => ?_) (fun cdv A outer s H vs Q E hr h => ?_)
  · obtain ⟨F, ds, Z, _, r, q, _⟩ := h
    rw [r.len]
    exact len ds Z q
  · obtain ⟨F0, ds, Z, fh, r, q, z⟩ := h
    obtain ⟨t, ht, hs⟩ := body cdv A outer s H E hr
    refine ⟨t, ht, hs ds Z q { F0 := F0, H0 := H, M := Non } (L2.start N vs) F0 H ⟨fun _ => [], Gr.refl fh, ?_, fun i s e => ?_, (fun i p m => by cases m), (fun i j p m => by cases m), fun _ _ => rfl, (fun s as e => by cases e)⟩ _ (fun ρ' σ' F' H' q w' => ?_) (fun d ρ' σ' v F' H' q w' rv => ?_) (fun _ _ _ _ q _ => q.elim) (fun _ _ _ _ q _ => q.elim)⟩
    · unfold L2.start startE
      rw [List.length_append, List.length_append, List.length_map, List.length_map, List.length_replicate, List.length_replicate, r.len]
    · rcases startE_get e with ⟨d, e2, rfl⟩ | rfl
      · obtain ⟨v, e1, rv⟩ := r.get e2
        exact ⟨rfl, v, start_get e1, rv⟩
      · rfl
    · obtain ⟨ad, w'⟩ := w'
      exact z .none .non F' H' q w'.gr .non
    · obtain ⟨ad, w'⟩ := w'
      exact z d v F' H' q w'.gr rv
/-- a def whose first parameter is a state -/
theorem fn_state {R : Stt → List D → (D → Stt → Prop) → Prop} (F : Fun K x qual st f fd) (S : FnScope N ps (defScope st)) (len : ∀ S ds Z, R S ds Z → ds.length + 1 = ps.length)
    (body : ∀ (cdv : Value) (A : Around) (outer : List PySem.Env) (s : Shared) (H : Hp) (E : XK), Room k (A.deeper (PyProof.Rows.envOfC qual (defScope st) s.heap.objs.size f cdv)) →
      ∃ t, PSs (cxOf CX0 P w K mg base N qual (defScope st) f cdv A outer s H E).nox (defBody st) t ∧ ∀ S ds Z, R S ds Z → SX t (.st S :: (ds.map .val ++ List.replicate (N.length - (ds.length + 1)) .emp)) { nx := fun ρ' => ∃ S', ρ'[0]? = some (.st S') ∧ Z .none S', rt := fun d ρ' => ∃ S', ρ'[0]? = some (.st S') ∧ Z d S' }) :
    FnOk P w K mg base CX0 (k + 1) f fd ps (spS R) := by
  refine F.ok S (fun vs H Q E h => ?_) (fun cdv A outer s H vs Q E hr h => ?_)
  · obtain ⟨F, s, as, S, us, ds, Z, rfl, _, _, _, r, q, _⟩ := h
    rw [List.length_cons, r.len]
    exact len S ds Z q
  · obtain ⟨F0, s0, as, S0, us, ds, Z, rfl, fh, sa, fn, r, q, z⟩ := h
    obtain ⟨t, ht, hs⟩ := body cdv A outer s H E hr
    have hm := sa.mem
    have hl : (L2.start N (.ref s0 :: us)).length = (Slot.st S0 :: (ds.map Slot.val ++ List.replicate (N.length - (ds.length + 1)) Slot.emp)).length := by
      unfold L2.start
      simp [r.len]
    have fin : ∀ (d : D) (ρ' : Env) (σ' : St) (v : V) (F' H' : Hp), (∃ S', ρ'[0]? = some (Slot.st S') ∧ Z d S') → W { F0 := F0, H0 := H, M := (· ∈ as), pin := some (s0, as) } ρ' σ' F' H' → Rp F' v d → Q v H' := fun d ρ' σ' v F' H' ⟨S', e, zd⟩ ⟨ad, w'⟩ rv => by
      obtain ⟨e1, e2⟩ := w'.pin s0 as rfl S' e
      obtain ⟨s1, k1, k2⟩ := w'.sl 0 _ e
      rw [e1] at k1
      cases k1
      rw [e2] at k2
      exact z d S' v F' H' zd w'.gr k2 (fun a m => (w'.fz 0 a (by rw [e2]; exact m)).1) rv
    refine ⟨t, ht, hs S0 ds Z q { F0 := F0, H0 := H, M := (· ∈ as), pin := some (s0, as) } (L2.start N (.ref s0 :: us)) F0 H ⟨fun i => if i = 0 then as else [], Gr.refl fh, hl, fun i sl e => ?_, fun i p m => ?_, fun i j p m1 m2 => ?_, fun i e => ?_, fun s as' e S _ => ?_⟩ _ (fun ρ' σ' F' H' q w' => fin .none ρ' σ' .non F' H' q w' .non) (fun d ρ' σ' v F' H' q w' rv => fin d ρ' σ' v F' H' q w' rv) (fun _ _ _ _ q _ => q.elim) (fun _ _ _ _ q _ => q.elim)⟩
    · cases i with
      | zero =>
        cases e
        exact ⟨s0, start_get (us := .ref s0 :: us) rfl, by rw [if_pos rfl]; exact sa⟩
      | succ i =>
        have e' : (startE (List.replicate (N.length - 1) "") ds)[i]? = some sl := by
          unfold startE
          rw [List.length_replicate, show N.length - 1 - ds.length = N.length - (ds.length + 1) by omega]
          exact e
        rw [if_neg (Nat.succ_ne_zero i)]
        rcases startE_get e' with ⟨d, e2, rfl⟩ | rfl
        · obtain ⟨v, e1, rv⟩ := r.get e2
          exact ⟨rfl, v, start_get (us := .ref s0 :: us) (by simpa using e1), rv⟩
        · rfl
    · by_cases hi : i = 0
      · rw [if_pos hi] at m
        exact ⟨fn p m, .inr ⟨m, hi⟩⟩
      · rw [if_neg hi] at m; cases m
    · by_cases hi : i = 0
      · by_cases hj : j = 0
        · rw [hi, hj]
        · rw [if_neg hj] at m2; cases m2
      · rw [if_neg hi] at m1; cases m1
    · by_cases hi : i = 0
      · subst hi; cases e
      · exact if_neg hi
    · cases e
      exact ⟨start_get (us := .ref s0 :: us) rfl, if_pos rfl⟩
end
end Pu
namespace Pu
open PySem L2

/-! ### what the defs call: built-ins, one another -/
/-- no name of a built-in is bound by the module -/
structure Bn (mg : Str → Option Value) : Prop where
  len_ : mg "len" = none
  range_ : mg "range" = none
  min_ : mg "min" = none
  max_ : mg "max" = none
  abs_ : mg "abs" = none
  sum_ : mg "sum" = none
  int_ : mg "int" = none
  list_ : mg "list" = none
  tuple_ : mg "tuple" = none
  sorted_ : mg "sorted" = none
  isinstance_ : mg "isinstance" = none
  enumerate_ : mg "enumerate" = none
  zip_ : mg "zip" = none
  set_ : mg "set" = none
  repr_ : mg "repr" = none
  all_ : mg "all" = none
  any_ : mg "any" = none
  dict_ : mg "dict" = none
  reversed_ : mg "reversed" = none
  str_ : mg "str" = none
/-- a def of the module that keeps a promise -/
inductive Cal (P : Program) (w : World) (K : PySem.W.Frag) (mg : Str → Option Value) (base : Heap) (x : Str) (ps : List Str) (sp : Sp) (k : Nat) : Prop
  | mk (f : Addr) (fd : FuncData) (ok : FnOk P w K mg base CX0 k f fd ps sp) (hm : mg x = some (.ref f)) (kp : PySem.W.keepIn K (.ref f) = true) (bd : Binds K fd ps []) : Cal P w K mg base x ps sp k
theorem pe_cal {X : Cx} {k : Nat} {ps : List Str} {sp : Sp} {x : Str} {p pos : Pos} {e : Expr} {es : List Expr} {t : TA} (C : Cal X.prog X.w X.K X.mg X.base x ps sp k) (hr : Room k X.A) (hg : Gl X x) (ha : PA X (e :: es) t)
    (hdb : (x == ("__debug__" : Str)) = false := by decide) (he : starEach (e :: es) X.env = (false, eval e X.env) :: starEach es X.env := by rfl) (hpl : (backTo pos (starEach es X.env)).any (·.1) = false := by rfl) :
    PE X (.Call (.Name x p) (e :: es) [] pos) (tCall sp [] E0 t) := by
  obtain ⟨f, fd, ok, hm, kp, bd⟩ := C
  exact pe_call ok hr hg hm kp bd .nil pass0 ha hdb he hpl
theorem Cal.imp {P : Program} {w : World} {K : PySem.W.Frag} {mg : Str → Option Value} {base : Heap} {x : Str} {ps : List Str} {sp sp' : Sp} {k : Nat} (C : Cal P w K mg base x ps sp k) (h : ∀ vs H Q E, sp' vs H Q E → sp vs H Q E) : Cal P w K mg base x ps sp' k := by
  obtain ⟨f, fd, ok, hm, kp, bd⟩ := C
  exact ⟨f, fd, ok.imp h, hm, kp, bd⟩
theorem Cal.mono {P : Program} {w : World} {K : PySem.W.Frag} {mg : Str → Option Value} {base : Heap} {x : Str} {ps : List Str} {sp : Sp} {j k : Nat} (C : Cal P w K mg base x ps sp j) (h : j ≤ k) : Cal P w K mg base x ps sp k := by
  obtain ⟨f, fd, ok, hm, kp, bd⟩ := C
  exact ⟨f, fd, ok.mono h, hm, kp, bd⟩

/-! ### reading data off the heap -/
section
variable {X : Cx} {pins : List (Addr × Obj)} {σ : St} {F H : Hp} {s : Shared} {d : D} {ds : List D} {v : V} {u : Value} {vs : List V} {us : List Value}
theorem rp_reads (I : Inv X pins σ H s) (e : Same F H) (r : Rp F v d) (ru : RelV v u) : ∃ as, Reads s.heap u d as := Dp.reads I d v u (r.dp e) ru
theorem rpa_reads (I : Inv X pins σ H s) (e : Same F H) (r : RpA F vs ds) (ru : Vals vs us) : ∃ as, ReadsAll s.heap us ds as := Dp.readsAll I ds vs us (r.dp e) ru
mutual
theorem Rp.plain : ∀ (d : D) {v : V}, Rp F v d → d.plain = true
  | .none, _, _ => by simp only [PyData.plain]
  | .bool _, _, _ => by simp only [PyData.plain]
  | .int _, _, _ => by simp only [PyData.plain]
  | .str _, _, _ => by simp only [PyData.plain]
  | .list ds, _, h => by
    cases h with
    | lst _ h => simp only [PyData.plain]; exact RpA.plain ds h
  | .tuple ds, _, h => by
    cases h with
    | tup _ h => simp only [PyData.plain]; exact RpA.plain ds h
  | .dict _, _, h => by cases h
theorem RpA.plain : ∀ (ds : List D) {vs : List V}, RpA F vs ds → PyData.plainAll ds = true
  | [], _, _ => by simp only [PyData.plainAll]
  | d :: ds, _, h => by
    cases h with
    | cons h1 h2 => simp only [PyData.plainAll, Bool.and_eq_true]; exact ⟨Rp.plain d h1, RpA.plain ds h2⟩
end
/-- at most so deep -/
def DpN (n : Nat) (d : D) : Prop := d.depth ≤ n
theorem dpn_int {n : Nat} {i : Int} : DpN n (.int i) := by simp [DpN, PyData.depth]
theorem dpn_bl {n : Nat} {b : Bool} : DpN n (.bool b) := by simp [DpN, PyData.depth]
theorem dpn_str {n : Nat} {x : Str} : DpN n (.str x) := by simp [DpN, PyData.depth]
theorem dpn_non {n : Nat} : DpN n .none := by simp [DpN, PyData.depth]
theorem depthAll_le {n : Nat} : ∀ {ds : List D}, (∀ d ∈ ds, DpN n d) → PyData.depthAll ds ≤ n
  | [], _ => by simp [PyData.depthAll]
  | d :: ds, h => by
    simp only [PyData.depthAll]
    exact Nat.max_le.mpr ⟨h d (by simp), depthAll_le fun e he => h e (by simp [he])⟩
theorem dpn_list {n : Nat} {ds : List D} (h : ∀ d ∈ ds, DpN n d) : DpN (n + 1) (.list ds) := by
  simp only [DpN, PyData.depth]
  exact Nat.succ_le_succ (depthAll_le h)
theorem dpn_tup {n : Nat} {ds : List D} (h : ∀ d ∈ ds, DpN n d) : DpN (n + 1) (.tuple ds) := by
  simp only [DpN, PyData.depth]
  exact Nat.succ_le_succ (depthAll_le h)
theorem dpn_map {α : Type} {n : Nat} {xs : List α} {f : α → D} (h : ∀ x ∈ xs, DpN n (f x)) : ∀ d ∈ xs.map f, DpN n d := fun d hd => by
  obtain ⟨x, hx, rfl⟩ := List.mem_map.mp hd
  exact h x hx
theorem dpn_nil {n : Nat} : ∀ d ∈ ([] : List D), DpN n d := fun d h => by cases h
theorem dpn_cons {n : Nat} {d : D} {ds : List D} (h : DpN n d) (hs : ∀ e ∈ ds, DpN n e) : ∀ e ∈ d :: ds, DpN n e := fun e he => by
  rcases List.mem_cons.mp he with rfl | he
  · exact h
  · exact hs e he
theorem DpN.up {n m : Nat} {d : D} (h : DpN n d) (k : n ≤ m) : DpN m d := Nat.le_trans h k
end

/-! ### ==, != of data at depth 64 -/
section
variable {X : Cx} {K : PySem.W.Frag} {d d1 d2 : D} {ds es : List D} {Q : D → Prop}
def rEqP (K : PySem.W.Frag) : R2 := fun x y H Q => ∃ d e, Dp K H x d ∧ Dp K H y e ∧ d.plain = true ∧ e.plain = true ∧ min d.depth e.depth ≤ 60 ∧ Q (.bl (PyData.eqv d e)) H
def rNeP (K : PySem.W.Frag) : R2 := fun x y H Q => ∃ d e, Dp K H x d ∧ Dp K H y e ∧ d.plain = true ∧ e.plain = true ∧ min d.depth e.depth ≤ 60 ∧ Q (.bl (!PyData.eqv d e)) H
theorem op_eqP (hu : X.A.units + 64 < cLine) : OpR X (compareOp .Eq) (rEqP X.K) := by
  rintro pins s σ H x y v u Q I rx ry ⟨d, e, hd, he, pd, pe, hz, q⟩
  obtain ⟨as, r1⟩ := Dp.reads I d x v hd rx
  obtain ⟨bs, r2⟩ := Dp.reads I e y u he ry
  exact PySem.SeqAt.eq_plain r1 r2 pd pe (by omega) ⟨.bl _, H, I, rfl, q⟩
theorem op_neP (hu : X.A.units + 64 < cLine) : OpR X (compareOp .NotEq) (rNeP X.K) := by
  rintro pins s σ H x y v u Q I rx ry ⟨d, e, hd, he, pd, pe, hz, q⟩
  obtain ⟨as, r1⟩ := Dp.reads I d x v hd rx
  obtain ⟨bs, r2⟩ := Dp.reads I e y u he ry
  exact PySem.SeqAt.ne_plain r1 r2 pd pe (by omega) ⟨.bl _, H, I, rfl, q⟩
theorem opd_eqP (h : min d1.depth d2.depth ≤ 60) (k : Q (.bool (PyData.eqv d1 d2))) : OpD (rEqP K) d1 d2 Q := fun F H x y e rx ry Z z => ⟨d1, d2, rx.dp e, ry.dp e, Rp.plain _ rx, Rp.plain _ ry, h, z _ _ F H k (Gr.refl e) (.bl _)⟩
theorem opd_neP (h : min d1.depth d2.depth ≤ 60) (k : Q (.bool (!PyData.eqv d1 d2))) : OpD (rNeP K) d1 d2 Q := fun F H x y e rx ry Z z => ⟨d1, d2, rx.dp e, ry.dp e, Rp.plain _ rx, Rp.plain _ ry, h, z _ _ F H k (Gr.refl e) (.bl _)⟩
theorem min_l {n m k : Nat} (h : n ≤ k) : min n m ≤ k := Nat.le_trans (Nat.min_le_left _ _) h
theorem min_r {n m k : Nat} (h : m ≤ k) : min n m ≤ k := Nat.le_trans (Nat.min_le_right _ _) h
/-! in, not in -/
def rInP (K : PySem.W.Frag) : R2 := fun x y H Q => ∃ d es, Dp K H x d ∧ (Dp K H y (.list es) ∨ Dp K H y (.tuple es)) ∧ d.plain = true ∧ PyData.plainAll es = true ∧ min (PyData.depthAll es) d.depth ≤ 60 ∧ Q (.bl (es.any fun y => PyData.eqv y d)) H
def rNinP (K : PySem.W.Frag) : R2 := fun x y H Q => ∃ d es, Dp K H x d ∧ (Dp K H y (.list es) ∨ Dp K H y (.tuple es)) ∧ d.plain = true ∧ PyData.plainAll es = true ∧ min (PyData.depthAll es) d.depth ≤ 60 ∧ Q (.bl (!es.any fun y => PyData.eqv y d)) H
theorem op_inP (hu : X.A.units + 64 < cLine) : OpR X (compareOp .In) (rInP X.K) := by
  rintro pins s σ H x y v u Q I rx ry ⟨d, es, hd, he, pd, pe, hz, q⟩
  obtain ⟨as, r1⟩ := Dp.reads I d x v hd rx
  rcases he with he | he
  · obtain ⟨bs, r2⟩ := Dp.reads I _ y u he ry
    exact PySem.SeqAt.in_list_data r2 r1 pe pd (by omega) ⟨.bl _, H, I, rfl, q⟩
  · obtain ⟨bs, r2⟩ := Dp.reads I _ y u he ry
    exact PySem.SeqAt.in_tuple_data r2 r1 pe pd (by omega) ⟨.bl _, H, I, rfl, q⟩
theorem op_ninP (hu : X.A.units + 64 < cLine) : OpR X (compareOp .NotIn) (rNinP X.K) := by
  rintro pins s σ H x y v u Q I rx ry ⟨d, es, hd, he, pd, pe, hz, q⟩
  obtain ⟨as, r1⟩ := Dp.reads I d x v hd rx
  rcases he with he | he
  · obtain ⟨bs, r2⟩ := Dp.reads I _ y u he ry
    exact PySem.SeqAt.notIn_list_data r2 r1 pe pd (by omega) ⟨.bl _, H, I, rfl, q⟩
  · obtain ⟨bs, r2⟩ := Dp.reads I _ y u he ry
    exact PySem.SeqAt.notIn_tuple_data r2 r1 pe pd (by omega) ⟨.bl _, H, I, rfl, q⟩
theorem opd_inL (h : min (PyData.depthAll es) d.depth ≤ 60) (k : Q (.bool (es.any fun y => PyData.eqv y d))) : OpD (rInP K) d (.list es) Q := fun F H x y e rx ry Z z =>
  ⟨d, es, rx.dp e, .inl (ry.dp e), Rp.plain _ rx, by have := Rp.plain _ ry; simpa only [PyData.plain] using this, h, z _ _ F H k (Gr.refl e) (.bl _)⟩
theorem opd_inT (h : min (PyData.depthAll es) d.depth ≤ 60) (k : Q (.bool (es.any fun y => PyData.eqv y d))) : OpD (rInP K) d (.tuple es) Q := fun F H x y e rx ry Z z =>
  ⟨d, es, rx.dp e, .inr (ry.dp e), Rp.plain _ rx, by have := Rp.plain _ ry; simpa only [PyData.plain] using this, h, z _ _ F H k (Gr.refl e) (.bl _)⟩
theorem opd_ninL (h : min (PyData.depthAll es) d.depth ≤ 60) (k : Q (.bool (!es.any fun y => PyData.eqv y d))) : OpD (rNinP K) d (.list es) Q := fun F H x y e rx ry Z z =>
  ⟨d, es, rx.dp e, .inl (ry.dp e), Rp.plain _ rx, by have := Rp.plain _ ry; simpa only [PyData.plain] using this, h, z _ _ F H k (Gr.refl e) (.bl _)⟩
theorem opd_ninT (h : min (PyData.depthAll es) d.depth ≤ 60) (k : Q (.bool (!es.any fun y => PyData.eqv y d))) : OpD (rNinP K) d (.tuple es) Q := fun F H x y e rx ry Z z =>
  ⟨d, es, rx.dp e, .inr (ry.dp e), Rp.plain _ rx, by have := Rp.plain _ ry; simpa only [PyData.plain] using this, h, z _ _ F H k (Gr.refl e) (.bl _)⟩
/-! min, max of a list of alike data -/
def rMnD (K : PySem.W.Frag) : List V → Hp → VK → Prop := fun vs H Q => ∃ (F : Hp) (a : Addr) (xs : List V) (d : D) (ds : List D), vs = [.ref a] ∧ Same F H ∧ Rd F a (.lst xs) ∧ RpA F xs (d :: ds) ∧ PySem.W.AlikeAll (d :: ds) ∧ PyData.depthAll (d :: ds) ≤ 60 ∧ ∀ v, Rp F v (PySem.W.minD d ds) → Q v H
def rMxD (K : PySem.W.Frag) : List V → Hp → VK → Prop := fun vs H Q => ∃ (F : Hp) (a : Addr) (xs : List V) (d : D) (ds : List D), vs = [.ref a] ∧ Same F H ∧ Rd F a (.lst xs) ∧ RpA F xs (d :: ds) ∧ PySem.W.AlikeAll (d :: ds) ∧ PyData.depthAll (d :: ds) ≤ 60 ∧ ∀ v, Rp F v (PySem.W.maxD d ds) → Q v H
theorem minD_mem (d : D) (ds : List D) : PySem.W.minD d ds ∈ d :: ds := by
  have : ∀ (es : List D) (a : D), es.foldl (fun a y => if PySem.W.dataLt y a then y else a) a ∈ a :: es := by
    intro es
    induction es with
    | nil => intro a; simp
    | cons e es ih =>
      intro a
      rw [List.foldl_cons]
      have q := ih (if PySem.W.dataLt e a then e else a)
      by_cases c : PySem.W.dataLt e a = true
      · rw [if_pos c] at q ⊢
        exact List.mem_cons_of_mem _ q
      · rw [if_neg c] at q ⊢
        rcases List.mem_cons.mp q with q | q
        · rw [q]; exact List.mem_cons_self
        · exact List.mem_cons_of_mem _ (List.mem_cons_of_mem _ q)
  exact this ds d
theorem maxD_mem (d : D) (ds : List D) : PySem.W.maxD d ds ∈ d :: ds := by
  have : ∀ (es : List D) (a : D), es.foldl (fun a y => if PySem.W.dataLt a y then y else a) a ∈ a :: es := by
    intro es
    induction es with
    | nil => intro a; simp
    | cons e es ih =>
      intro a
      rw [List.foldl_cons]
      have q := ih (if PySem.W.dataLt a e then e else a)
      by_cases c : PySem.W.dataLt a e = true
      · rw [if_pos c] at q ⊢
        exact List.mem_cons_of_mem _ q
      · rw [if_neg c] at q ⊢
        rcases List.mem_cons.mp q with q | q
        · rw [q]; exact List.mem_cons_self
        · exact List.mem_cons_of_mem _ (List.mem_cons_of_mem _ q)
  exact this ds d
theorem pick_rp {pins : List (Addr × Obj)} {σ : St} {F H : Hp} {s : Shared} {xs : List V} {its : List Value} {es : List D} {m : D} (I : Inv X pins σ H s) (e : Same F H) (ra : RpA F xs es) (rv : Vals xs its) (al : PySem.W.AlikeAll es) (hm : m ∈ es)
    {i : Nat} {v : Value} {h' : Heap} {bs : List Addr} (hi : its.toArray[i]? = some v) (rd : Reads h' v m bs) (hk : ∀ b o, s.heap.get? b = some o → h'.get? b = some o) : ∃ y, RelV y v ∧ Rp F y m := by
  have hi' : its[i]? = some v := by simpa using hi
  have hl : i < xs.length := by rw [rv.length]; exact (List.getElem?_eq_some_iff.mp hi').1
  obtain ⟨u, hu, ru⟩ := rv.get (List.getElem?_eq_getElem hl)
  rw [hi'] at hu
  cases hu
  obtain ⟨d, hd, rp⟩ := ra.get' (List.getElem?_eq_getElem hl)
  obtain ⟨as, r1⟩ := rp_reads I e rp ru
  have q : d = m := PySem.W.alike_unique d m v as bs (al.1 d (List.mem_of_getElem? hd) m hm) (PyProof.Rows.Reads.keeps hk r1) rd
  rw [q] at rp
  exact ⟨_, ru, rp⟩
theorem cb_minD (hc : X.calm = true) (hu : X.A.units + 64 < cLine) : CallR X (.builtin "min") (rMnD X.K) := by
  rintro pins s σ H vs us Q I r ⟨F, a, xs, d, ds, rfl, e, ha, ra, al, hz, q⟩
  obtain ⟨its, rv, hl, _⟩ := I.list (sqL_rd (K := X.K) ha e)
  obtain ⟨as, rr⟩ := rpa_reads I e ra rv
  rw [Vals.ref1 r]
  refine PySem.W.min_list_data (I.ok.hd hc) hl.isList (by simpa using rr) al (by omega) fun i v h' tk bs hi rd hk => ?_
  obtain ⟨y, ry, rp⟩ := pick_rp I e ra rv al (minD_mem d ds) hi rd hk
  exact ⟨y, H, I.kept hk, ry, q y rp⟩
theorem cb_maxD (hc : X.calm = true) (hu : X.A.units + 64 < cLine) : CallR X (.builtin "max") (rMxD X.K) := by
  rintro pins s σ H vs us Q I r ⟨F, a, xs, d, ds, rfl, e, ha, ra, al, hz, q⟩
  obtain ⟨its, rv, hl, _⟩ := I.list (sqL_rd (K := X.K) ha e)
  obtain ⟨as, rr⟩ := rpa_reads I e ra rv
  rw [Vals.ref1 r]
  refine PySem.W.max_list_data (I.ok.hd hc) hl.isList (by simpa using rr) al (by omega) fun i v h' tk bs hi rd hk => ?_
  obtain ⟨y, ry, rp⟩ := pick_rp I e ra rv al (maxD_mem d ds) hi rd hk
  exact ⟨y, H, I.kept hk, ry, q y rp⟩
theorem cbd_minD (al : PySem.W.AlikeAll (d :: ds)) (hz : PyData.depthAll (d :: ds) ≤ 60) (k : Q (PySem.W.minD d ds)) : CbD (rMnD K) [.list (d :: ds)] Q := fun F H vs e r Z z => by
  obtain ⟨v, rfl, rv⟩ := r.one
  obtain ⟨a, xs, rfl, h1, h2⟩ := rv.lst_inv
  exact ⟨F, a, xs, d, ds, rfl, e, h1, h2, al, hz, fun v rv => z _ _ F H k (Gr.refl e) rv⟩
theorem cbd_maxD (al : PySem.W.AlikeAll (d :: ds)) (hz : PyData.depthAll (d :: ds) ≤ 60) (k : Q (PySem.W.maxD d ds)) : CbD (rMxD K) [.list (d :: ds)] Q := fun F H vs e r Z z => by
  obtain ⟨v, rfl, rv⟩ := r.one
  obtain ⟨a, xs, rfl, h1, h2⟩ := rv.lst_inv
  exact ⟨F, a, xs, d, ds, rfl, e, h1, h2, al, hz, fun v rv => z _ _ F H k (Gr.refl e) rv⟩
theorem alike_ints (ns : List Int) : PySem.W.AlikeAll (ns.map PyData.int) := ⟨fun x hx y hy => by
  obtain ⟨a, _, rfl⟩ := List.mem_map.mp hx
  obtain ⟨b, _, rfl⟩ := List.mem_map.mp hy
  rfl, fun x hx => by
  obtain ⟨a, _, rfl⟩ := List.mem_map.mp hx
  intro z; cases z⟩
def foldMin : List Int → Int
  | [] => 0
  | n :: ns => ns.foldl min n
def foldMax : List Int → Int
  | [] => 0
  | n :: ns => ns.foldl max n
theorem cbd_minI {ns : List Int} (h : 0 < ns.length) (k : Q (.int (foldMin ns))) : CbD (rMnD K) [.list (ns.map .int)] Q := by
  cases ns with
  | nil => cases h
  | cons n ns =>
    refine cbd_minD (alike_ints (n :: ns)) ?_ ?_
    · exact depthAll_le (dpn_map (xs := n :: ns) fun x _ => dpn_int)
    · have e := PySem.W.minD_ints n ns
      show Q (PySem.W.minD (.int n) (ns.map .int))
      rw [e]
      exact k
theorem cbd_maxI {ns : List Int} (h : 0 < ns.length) (k : Q (.int (foldMax ns))) : CbD (rMxD K) [.list (ns.map .int)] Q := by
  cases ns with
  | nil => cases h
  | cons n ns =>
    refine cbd_maxD (alike_ints (n :: ns)) ?_ ?_
    · exact depthAll_le (dpn_map (xs := n :: ns) fun x _ => dpn_int)
    · have e := PySem.W.maxD_ints n ns
      show Q (PySem.W.maxD (.int n) (ns.map .int))
      rw [e]
      exact k
/-! sorted -/
abbrev sortD (ds : List D) : List D := ds.mergeSort (PySem.W.dataLe false id)
def rSrD (K : PySem.W.Frag) : List V → Hp → VK → Prop := fun vs H Q => ∃ (F : Hp) (a : Addr) (xs : List V) (ds : List D), vs = [.ref a] ∧ Same F H ∧ Rd F a (.lst xs) ∧ RpA F xs ds ∧ PySem.W.AllAlike ds ∧ PySem.W.Sortable ds ∧ PyData.depthAll ds ≤ 60 ∧
  ∀ p ys, H p = none → RpA F ys (sortD ds) → Q (.ref p) (upd H p (.lst ys))
theorem rpa_zip {F : Hp} : ∀ {xs : List V} {ds : List D}, RpA F xs ds → ∀ p ∈ xs.zip ds, Rp F p.1 p.2
  | _, [], h, p, hp => by cases h; cases hp
  | _, d :: ds, h, p, hp => by
    cases h with
    | cons h1 h2 =>
      rcases List.mem_cons.mp hp with rfl | hp
      · exact h1
      · exact rpa_zip h2 p hp
theorem rpa_of {F : Hp} : ∀ {zs : List (V × D)}, (∀ p ∈ zs, Rp F p.1 p.2) → RpA F (zs.map Prod.fst) (zs.map Prod.snd)
  | [], _ => .nil
  | z :: zs, h => .cons (h z (by simp)) (rpa_of fun p hp => h p (by simp [hp]))
theorem each_zip {F : Hp} : ∀ {xs : List V} {ds : List D} {its : List Value}, RpA F xs ds → Vals xs its → PySem.W.EachIs (fun v (b : V × D) => RelV b.1 v) its (xs.zip ds)
  | _, [], _, h, r => by cases h; cases r; exact .nil
  | _, d :: ds, _, h, r => by
    cases h with
    | cons h1 h2 =>
      cases r with
      | cons r1 r2 => exact .cons r1 (each_zip h2 r2)
theorem vals_each : ∀ {zs : List (V × D)} {out : List Value}, PySem.W.EachIs (fun v (b : V × D) => RelV b.1 v) out zs → Vals (zs.map Prod.fst) out
  | _, _, .nil => .nil
  | _, _, .cons h t => .cons h (vals_each t)
theorem each_reads {h : Heap} : ∀ {xs : List V} {ds : List D} {its : List Value} {as : List Addr}, xs.length = ds.length → ReadsAll h its ds as → PySem.W.EachIs (fun v (b : V × D) => ∃ as, Reads h v b.2 as) its (xs.zip ds)
  | [], [], _, _, _, r => by cases r; exact .nil
  | x :: xs, d :: ds, _, _, l, r => by
    cases r with
    | cons r1 r2 => exact .cons ⟨_, r1⟩ (each_reads (by simpa using l) r2)
  | [], _ :: _, _, _, l, _ => by simp at l
  | _ :: _, [], _, _, l, _ => by simp at l
theorem depth_mem : ∀ {ds : List D} {d : D}, d ∈ ds → d.depth ≤ PyData.depthAll ds
  | [], _, h => by cases h
  | e :: ds, d, h => by
    simp only [PyData.depthAll]
    rcases List.mem_cons.mp h with rfl | h
    · exact Nat.le_max_left _ _
    · exact Nat.le_trans (depth_mem h) (Nat.le_max_right _ _)
theorem cb_sortD (hu : X.A.units + 64 < cLine) : CallR X (.builtin "sorted") (rSrD X.K) := by
  rintro pins s σ H vs us Q I r ⟨F, a, xs, ds, rfl, e, ha, ra, al, so, hz, q⟩
  obtain ⟨its, rv, hl, hzl⟩ := I.list (sqL_rd (K := X.K) ha e)
  obtain ⟨as, rr⟩ := rpa_reads I e ra rv
  rw [Vals.ref1 r]
  have hmap : (xs.zip ds).map Prod.snd = ds := List.map_snd_zip (by rw [ra.len]; exact Nat.le_refl _)
  have hlen : (xs.zip ds).length = xs.length := by rw [List.length_zip, ra.len, Nat.min_self]
  refine PySem.W.sorted_data (bs := xs.zip ds) (enc := Prod.snd) hl.isList (each_zip ra rv) (each_reads ra.len rr) (by rw [hmap]; exact al) (by rw [hmap]; exact so) (by rw [hlen]; exact hzl)
    (fun b hb => ?_) fun out ho he => ?_
  · have hd : b.2 ∈ ds := by rw [← hmap]; exact List.mem_map_of_mem hb
    have := depth_mem hd
    omega
  · obtain ⟨ep, he'⟩ := PyProof.Rows.sortedAll_at s.heap its out.toArray
    have hv := vals_each he
    have hd : (List.mergeSort (xs.zip ds) (PySem.W.dataLe false Prod.snd)).map Prod.snd = sortD ds := by
      have q := PySem.W.sort_maps (r := PySem.W.dataLe false Prod.snd) (s := PySem.W.dataLe false id) (Prod.snd : V × D → D) (l := xs.zip ds) (fun a _ b _ => rfl)
      rw [q, hmap]
    have hr := rpa_of (F := F) (zs := List.mergeSort (xs.zip ds) (PySem.W.dataLe false Prod.snd)) fun p hp => rpa_zip ra p (List.mem_mergeSort.mp hp)
    rw [hd] at hr
    refine ⟨.ref _, upd H (s.heap.objs.size + 1) (.lst ((List.mergeSort (xs.zip ds) (PySem.W.dataLe false Prod.snd)).map Prod.fst)), I.laid (t' := s.toks) (fun _ _ => PyProof.Rows.sortedAll_old) (Nat.le_succ _) ⟨?_, out, ep, hv, he'⟩, rfl, q _ _ (I.hok.fresh (Nat.le_succ _)) hr⟩
    rw [List.length_map, List.length_mergeSort, hlen]
    exact hzl
theorem cbo_sortD {Q : List D → Prop} (al : PySem.W.AllAlike ds) (so : PySem.W.Sortable ds) (hz : PyData.depthAll ds ≤ 60) (k : Q (sortD ds)) : CbO (rSrD K) [.list ds] Q := fun F H vs e r Z z => by
  obtain ⟨v, rfl, rv⟩ := r.one
  obtain ⟨a, xs, rfl, h1, h2⟩ := rv.lst_inv
  exact ⟨F, a, xs, ds, rfl, e, h1, h2, al, so, hz, fun p ys hp rp => z _ p _ _ k (same_upd hp) hp upd_same rp⟩
/-! x.extend(ys) -/
def rExtR : V → List V → Hp → VK → Prop := fun x vs H Q => ∃ l b xs zs, x = .ref l ∧ vs = [.ref b] ∧ H l = some (.lst xs) ∧ Rd H b (.lst zs) ∧ xs.length + zs.length ≤ sizeLine ∧ Q .non (upd H l (.lst (xs ++ zs)))
theorem mt_extR : MtM X "list.extend" rExtR := by
  intro pins s σ H x vs v us Q I rx rv h
  obtain ⟨l, b, xs, zs, rfl, rfl, hH, hB, hz, q⟩ := h
  cases rx
  obtain ⟨u, rfl, ru⟩ := rv.one
  cases ru
  obtain ⟨z, its, n, r, hl, e⟩ := I.lstM hH
  obtain ⟨z2, its2, n2, r2, e2⟩ := hB.ok I.hok
  have hl2 := r2.length
  have k1 : its.toArray.size + its2.toArray.size ≤ sizeLine := by rw [List.size_toArray, List.size_toArray]; omega
  have k2 : ¬ (!its.toArray.isEmpty && Builtin.List.listTooLong (its.toArray.size + its2.toArray.size)) = true := by rw [notLongL k1, Bool.and_false]; exact Bool.false_ne_true
  refine call_meets F.slot_list_extend ⟨_, e, rfl⟩ F.entry_list_extend (F.args_list_extend_2 _ _) (AutoSeq1.list_extend_list_list_0 l its.toArray n b its2.toArray n2 k2 (by rw [List.size_toArray]; omega) (by omega)) ⟨e, e2, ?_⟩
  refine ⟨.non, _, I.lset (its' := its ++ its2) hH e (by simp) (r.append r2) ?_, rfl, q⟩
  rw [List.length_append]; omega
theorem sx_ext {ρ : Env} {P : Po} {te : TE} {i : Nat} {fs : List D} (h : ρ[i]? = some (.own fs)) (k : EX te ρ fun d ρ1 => ∃ ds es, d = .list es ∧ ρ1[i]? = some (.own ds) ∧ ds.length + es.length ≤ 1000000 ∧ NX P (ρ1.set i (.own (ds ++ es)))) : SX (tDrop (tBM K "list" rExtR (tVar i) (tCons te tNil))) ρ P := fun B σ F H w Dn n r b c => by
  obtain ⟨ad, w⟩ := w
  obtain ⟨p0, vs0, _, _, k1, k0, _⟩ := w.sl i _ h
  refine ⟨_, k1, .inl ⟨rfl, _, .inl (.inl k0)⟩, k B ad σ F H w _ fun d ρ1 v F1 H1 q1 p1 r1 => ?_⟩
  obtain ⟨ds, es, rfl, h1, hz, ρ', l, q⟩ := q1
  obtain ⟨p, vs, _, _, k2, k3, rr⟩ := p1.wa.sl i _ h1
  have e := k1.symm.trans k2
  cases e
  obtain ⟨a, ws, rfl, g1, g2⟩ := r1.lst_inv
  exact ⟨_, a, vs, ws, rfl, rfl, k3, rd_mono p1.wa.gr.fh g1, Nat.le_trans (by rw [rr.len, g2.len]; exact hz) (by decide), n ρ' σ F1 _ q ((p1.wa.mut h1 k2 (rr.app g2)).weak l)⟩
end

/-! ### short forms for a run -/
section
variable {K : PySem.W.Frag} {Q : D → Prop} {i j : Int} {d d1 d2 : D} {ds es : List D}
theorem Gr.frz {F H H' : Hp} {p : Addr} {vs : List V} (e : Same F H) (g : Same H H') (hn : H p = none) (hp : H' p = some (.lst vs)) : Gr Non F H (upd F p (.lst vs)) H' where
  ff := same_upd (e.free hn)
  fh := fun a u q => by
    by_cases ha : a = p
    · subst ha; rw [upd_same] at q; rw [hp]; exact q
    · rw [upd_ne ha] at q; exact g a u (e a u q)
  kp := fun a u q _ => g a u q
  al := fun a q => by
    cases z : H a with
    | none => exact absurd z q
    | some o => rw [g a o z]; intro z; cases z
  fr := fun a q z => by
    have ha : a ≠ p := fun z => q (z ▸ hn)
    rw [upd_ne ha]; exact z
theorem opd_ofO {r : R2} (h : OpO r d1 d2 fun ds => Q (.list ds)) : OpD r d1 d2 Q := fun F H x y e rx ry Z z => h F H x y e rx ry Z fun ds p vs H' q g hn hp rv =>
  z _ _ (upd F p (.lst vs)) H' q (Gr.frz e g hn hp) (.lst (.inl upd_same) (rv.up (Gr.frz e g hn hp).ff))
theorem cbd_ofO {r : List V → Hp → VK → Prop} (h : CbO r ds fun ds => Q (.list ds)) : CbD r ds Q := fun F H vs e rv Z z => h F H vs e rv Z fun ds p vs H' q g hn hp rv =>
  z _ _ (upd F p (.lst vs)) H' q (Gr.frz e g hn hp) (.lst (.inl upd_same) (rv.up (Gr.frz e g hn hp).ff))
theorem sld_ofO {r : V → Option Int → Option Int → Hp → VK → Prop} {lo hi : Option Int} (h : SlO r d lo hi fun ds => Q (.list ds)) : SlD r d lo hi Q := fun F H x e rx Z z => h F H x e rx Z fun ds p vs H' q g hn hp rv =>
  z _ _ (upd F p (.lst vs)) H' q (Gr.frz e g hn hp) (.lst (.inl upd_same) (rv.up (Gr.frz e g hn hp).ff))
theorem opd_plusL (hz : ds.length + es.length ≤ 1000000) (k : Q (.list (ds ++ es))) : OpD (rPlus K) (.list ds) (.list es) Q := opd_ofO (opo_plusL hz k)
theorem sld_L {lo hi : Option Int} (k : Q (.list (cutD ds lo hi))) : SlD (rSl K) (.list ds) lo hi Q := sld_ofO (slo_L k)
theorem cbd_listL (k : Q (.list ds)) : CbD (rList K) [.list ds] Q := cbd_ofO (cbo_listL k)
theorem cbd_listT (k : Q (.list ds)) : CbD (rList K) [.tuple ds] Q := cbd_ofO (cbo_listT k)
theorem cbd_sortD (al : PySem.W.AllAlike ds) (so : PySem.W.Sortable ds) (hz : PyData.depthAll ds ≤ 60) (k : Q (.list (sortD ds))) : CbD (rSrD K) [.list ds] Q := cbd_ofO (cbo_sortD al so hz k)
theorem opd_eqI (k : Q (.bool (decide (i = j)))) : OpD (rEqP K) (.int i) (.int j) Q := opd_eqP (min_l (by simp [PyData.depth])) (by
  have e : PyData.eqv (.int i) (.int j) = decide (i = j) := by simp only [PyData.eqv]; exact Bool.beq_eq_decide_eq i j
  rw [e]; exact k)
theorem opd_neI (k : Q (.bool (!decide (i = j)))) : OpD (rNeP K) (.int i) (.int j) Q := opd_neP (min_l (by simp [PyData.depth])) (by
  have e : PyData.eqv (.int i) (.int j) = decide (i = j) := by simp only [PyData.eqv]; exact Bool.beq_eq_decide_eq i j
  rw [e]; exact k)
theorem opd_eqS {x y : Str} (k : Q (.bool (decide (x = y)))) : OpD (rEqP K) (.str x) (.str y) Q := opd_eqP (min_l (by simp [PyData.depth])) (by
  have e : PyData.eqv (.str x) (.str y) = decide (x = y) := by simp only [PyData.eqv]; by_cases h : x = y <;> simp [h]
  rw [e]; exact k)
theorem opd_neS {x y : Str} (k : Q (.bool (!decide (x = y)))) : OpD (rNeP K) (.str x) (.str y) Q := opd_neP (min_l (by simp [PyData.depth])) (by
  have e : PyData.eqv (.str x) (.str y) = decide (x = y) := by simp only [PyData.eqv]; by_cases h : x = y <;> simp [h]
  rw [e]; exact k)
theorem atI_in {α : Type} {xs : List α} {k : Int} (h0 : 0 ≤ k) (h1 : k < xs.length) : atI xs k = some (xs[k.toNat]'(by omega)) := by
  obtain ⟨n, rfl⟩ : ∃ n : Nat, k = (n : Int) := ⟨k.toNat, by omega⟩
  exact atI_nat (by simp)
/-- an item of a mapped list, told by a default -/
theorem atI_map {α : Type} {xs : List α} {f : α → D} {k : Int} (a : α) (h0 : 0 ≤ k) (h1 : k < xs.length) : atI (xs.map f) k = some (f (xs.getD k.toNat a)) := by
  have hk : k.toNat < xs.length := by omega
  have e := atI_in (xs := xs.map f) h0 (by rw [List.length_map]; exact h1)
  rw [e, List.getElem_map, List.getD_eq_getElem?_getD, List.getElem?_eq_getElem hk]
  rfl
theorem opd_ixM {α : Type} {xs : List α} {f : α → D} {k : Int} (a : α) (h0 : 0 ≤ k) (h1 : k < xs.length) (q : Q (f (xs.getD k.toNat a))) : OpD (rIxA K) (.list (xs.map f)) (.int k) Q := opd_ixL (atI_map a h0 h1) q
end

theorem rng_at {lo : Int} {n k : Nat} {d : D} (h : ((rngI lo n).map PyData.int)[k]? = some d) : k < n ∧ d = .int (lo + (k : Int)) := by
  have hk : k < n := by
    have := (List.getElem?_eq_some_iff.mp h).1
    rw [List.length_map, rngI_len] at this
    exact this
  rw [List.getElem?_map, rngI_get hk] at h
  exact ⟨hk, (Option.some.inj h).symm⟩
theorem rng_size (lo : Int) (n : Nat) : ((rngI lo n).map PyData.int).length = n := by rw [List.length_map, rngI_len]
theorem map_at {α : Type} {xs : List α} {f : α → D} {k : Nat} {d : D} (h : (xs.map f)[k]? = some d) : ∃ x, xs[k]? = some x ∧ d = f x := by
  rw [List.getElem?_map] at h
  cases e : xs[k]? with
  | none => rw [e] at h; cases h
  | some x => rw [e] at h; exact ⟨x, rfl, (Option.some.inj h).symm⟩

/-- what a slot that holds data gives on -/
def VQ (s : Option Slot) (Q : D → Env → Prop) (ρ : Env) : Prop := match s with
  | some (.val d) => Q d ρ
  | _ => False
theorem ex_vr {ρ : Env} {i : Nat} {Q : D → Env → Prop} (h : VQ ρ[i]? Q ρ) : EX (tVar i) ρ Q := by
  unfold VQ at h
  split at h
  · rename_i d e
    exact ex_var e h
  · exact h.elim

section
variable {K : PySem.W.Frag} {Q : D → Prop} {d : D}
/-- two times the same datum -/
theorem opd_eqSelf (h : d.depth ≤ 60) (k : Q (.bool true)) : OpD (rEqP K) d d Q := fun F H x y e rx ry Z z => opd_eqP (Q := Q) (min_l h) (by rw [PySem.SeqAt.eqv_refl_plain d (Rp.plain d rx)]; exact k) F H x y e rx ry Z z
theorem opd_neSelf (h : d.depth ≤ 60) (k : Q (.bool false)) : OpD (rNeP K) d d Q := fun F H x y e rx ry Z z => opd_neP (Q := Q) (min_l h) (by rw [PySem.SeqAt.eqv_refl_plain d (Rp.plain d rx)]; exact k) F H x y e rx ry Z z
/-! pairs of ints -/
def ltP (a b : Int × Int) : Bool := decide (a.1 < b.1 ∨ a.1 = b.1 ∧ a.2 < b.2)
def encP (p : Int × Int) : D := .tuple [.int p.1, .int p.2]
theorem dataLt_P (a b : Int × Int) : PySem.W.dataLt (encP a) (encP b) = ltP a b := by
  unfold encP ltP
  rw [PySem.W.dataLt_pair rfl rfl]
  simp only [PyData.eqv, PySem.W.dataLt_int]
  by_cases h : a.1 = b.1
  · by_cases h2 : a.2 = b.2
    · simp [h, h2]
    · simp [h, h2]
  · simp [h]
def minPs : List (Int × Int) → Int × Int
  | [] => (0, 0)
  | p :: ps => ps.foldl (fun a y => if ltP y a = true then y else a) p
theorem minD_P (p : Int × Int) (ps : List (Int × Int)) : PySem.W.minD (encP p) (ps.map encP) = encP (minPs (p :: ps)) := by
  have h : ∀ (qs : List (Int × Int)) (a : Int × Int), (qs.map encP).foldl (fun a y => if PySem.W.dataLt y a then y else a) (encP a) = encP (qs.foldl (fun a y => if ltP y a = true then y else a) a) := by
    intro qs
    induction qs with
    | nil => intro a; rfl
    | cons q qs ih =>
      intro a
      simp only [List.map_cons, List.foldl_cons, dataLt_P]
      by_cases h : ltP q a = true
      · rw [if_pos h, if_pos h]; exact ih q
      · rw [if_neg h, if_neg h]; exact ih a
  exact h ps p
theorem alike_P (ps : List (Int × Int)) : PySem.W.AlikeAll (ps.map encP) := ⟨fun x hx y hy => by
  obtain ⟨a, _, rfl⟩ := List.mem_map.mp hx
  obtain ⟨b, _, rfl⟩ := List.mem_map.mp hy
  rfl, fun x hx => by
  obtain ⟨a, _, rfl⟩ := List.mem_map.mp hx
  intro z; cases z⟩
theorem cbd_minP {ps : List (Int × Int)} (h : 0 < ps.length) (k : Q (encP (minPs ps))) : CbD (rMnD K) [.list (ps.map encP)] Q := by
  cases ps with
  | nil => cases h
  | cons p ps =>
    refine cbd_minD (alike_P (p :: ps)) (depthAll_le (dpn_map (xs := p :: ps) fun x _ => dpn_tup (dpn_cons dpn_int (dpn_cons dpn_int dpn_nil)))) ?_
    have e := minD_P p ps
    show Q (PySem.W.minD (encP p) (ps.map encP))
    rw [e]
    exact k
theorem minPs_mem : ∀ {ps : List (Int × Int)}, 0 < ps.length → minPs ps ∈ ps
  | p :: ps, _ => by
    have : ∀ (qs : List (Int × Int)) (a : Int × Int), qs.foldl (fun a y => if ltP y a = true then y else a) a ∈ a :: qs := by
      intro qs
      induction qs with
      | nil => intro a; simp
      | cons e es ih =>
        intro a
        rw [List.foldl_cons]
        have q := ih (if ltP e a = true then e else a)
        by_cases c : ltP e a = true
        · rw [if_pos c] at q ⊢; exact List.mem_cons_of_mem _ q
        · rw [if_neg c] at q ⊢
          rcases List.mem_cons.mp q with q | q
          · rw [q]; exact List.mem_cons_self
          · exact List.mem_cons_of_mem _ (List.mem_cons_of_mem _ q)
    exact this ps p
end

/-! ### the ends: nothing asked, the law's own argument -/
section
variable {P : Program} {w : World} {K : PySem.W.Frag} {mg : Str → Option Value} {base : Heap} {f : Addr} {fd : FuncData} {k : Nat} {ps : List Str}
theorem fn_no {sp : Sp} (no : ∀ vs H Q E, ¬ sp vs H Q E) : FnOk P w K mg base CX0 k f fd ps sp := ⟨fun vs H Q E h => absurd h (no vs H Q E), fun A outer s H args us vs Q E _ _ _ _ h => absurd h (no vs H Q E)⟩
theorem fn_noP {R : List D → (D → Prop) → Prop} (no : ∀ ds Z, ¬ R ds Z) : FnOk P w K mg base CX0 k f fd ps (spP R) := fn_no fun vs H Q E h => by
  obtain ⟨F, ds, Z, _, _, q, _⟩ := h
  exact no ds Z q
theorem fn_noS {R : Stt → List D → (D → Stt → Prop) → Prop} (no : ∀ S ds Z, ¬ R S ds Z) : FnOk P w K mg base CX0 k f fd ps (spS R) := fn_no fun vs H Q E h => by
  obtain ⟨F, s, as, S, us, ds, Z, _, _, _, _, _, q, _⟩ := h
  exact no S ds Z q
/-- the written part holds no list -/
def noLs (K : PySem.W.Frag) : Bool := K.all fun p => match p.2.cls with
  | .type s => !(s == "list")
  | _ => true
theorem noLs_at {K : PySem.W.Frag} (h : noLs K = true) : ∀ {a : Addr} {o : Obj}, K.lookup a = some o → o.cls ≠ .type "list" := by
  intro a o e q
  unfold noLs at h
  induction K with
  | nil => cases e
  | cons p r ih =>
    obtain ⟨b, x⟩ := p
    simp only [List.all_cons, Bool.and_eq_true] at h
    simp only [List.lookup] at e
    split at e
    · cases e
      have h1 := h.1
      rw [q] at h1
      revert h1
      decide
    · exact ih h.2 e
theorem sqL_noK {H : Hp} {a : Addr} {xs : List V} (h : noLs K = true) (s : SqL K H a xs) : Rd H a (.lst xs) := by
  rcases s with s | ⟨o, its, n, e, c, _⟩
  · exact s
  · exact absurd c (noLs_at h e)
theorem rpa_ints {F : Hp} : ∀ ns : List Int, RpA F (ns.map V.int) (ns.map PyData.int)
  | [] => .nil
  | n :: ns => .cons (.int n) (rpa_ints ns)
theorem sp_law {R : List D → (D → Prop) → Prop} {H : Hp} {a : Addr} {ns : List Int} {E : XK} (nl : noLs K = true) (s : SqL K H a (ns.map V.int)) (hR : R [.list (ns.map .int)] fun d => d = .bool true) : spP R [.ref a] H (fun v _ => v = .bl true) E :=
  ⟨H, _, _, fun _ _ h => h, .cons (.lst (sqL_noK nl s) (rpa_ints ns)) .nil, hR, fun d v F' H' e _ rv => by
    subst e
    cases rv
    rfl⟩
end
end Pu
/-! the laws' drawing state: its making and its draws, once for all laws -/
namespace Pu
open PySem L2
/-- a state of the laws: a counter, cells from 0 on -/
def Ok : Stt → Prop
  | .cel a cs => 0 < cs.length ∧ cs.length ≤ 100000 ∧ 0 ≤ a ∧ ∀ c ∈ cs, 0 ≤ c
  | _ => False
def R_state : List D → (Stt → Prop) → Prop := fun ds Z => ∃ ns : List Int, ds = [.list (ns.map .int)] ∧ ∀ S, Ok S → Z S
/-- what is drawn: any number below the bound -/
def R_take : Stt → List D → (D → Stt → Prop) → Prop := fun S ds Z => ∃ m : Int, ds = [.int m] ∧ 1 ≤ m ∧ m < 1073741824 ∧ Ok S ∧ ∀ r S', 0 ≤ r → r < m → Ok S' → Z (.int r) S'
def T_state (K : PySem.W.Frag) : TS :=
    (tSeq (tAsg (tLc (iList K (tSl (rSl K) (tVar 0) tNoPart (tPart (tC (.int 63))))) (gName 2) tYes (tCB (rAbs) (tCons (tVar 2) tNil)) [2]) (gName 1))
    (tSeq (tIfS (tTest (tOp (rEqP K) (tCB (rLen K) (tCons (tVar 1) tNil)) (tC (.int 0))))
      (tAsg (tLst (tCons (tC (.int 0)) tNil)) (gName 1))
      tNext)
    (tRet (tLst (tCons (tC (.int 0)) (tCons (tVar 1) tNil))))))
def T_take (K : PySem.W.Frag) : TS :=
    (tSeq (tAsg (tOp (rIxA K) (tVar 0) (tC (.int 1))) (gName 2))
    (tSeq (tAsg (tOp (rI (fun _ j => 0 < j) fun i j => .int (i % j)) (tOp (rIxA K) (tVar 0) (tC (.int 0))) (tCB (rLen K) (tCons (tVar 2) tNil))) (gName 3))
    (tSeq (tAsg (tOp (rIxA K) (tVar 2) (tVar 3)) (gName 4))
    (tSeq (tIfS (tTest (tOp (rI0 fun i j => .bl (decide (j ≤ i))) (tVar 4) (tC (.int 1000000000000000000))))
      (tSeq (tAsg (tOp (rI CDiv fun i j => .int (i / j)) (tVar 4) (tVar 1)) (gSub (tVar 2) (tVar 3) rSetL))
    (tRet (tOp (rI (fun _ j => 0 < j) fun i j => .int (i % j)) (tVar 4) (tVar 1))))
      tNext)
    (tSeq (tAsg (tOp (rPlus K) (tOp (rIxA K) (tVar 0) (tC (.int 0))) (tC (.int 1))) (gSub (tVar 0) (tC (.int 0)) rSetL))
    (tSeq (tAsg (tOp (rI (fun _ j => 0 < j) fun i j => .int (i % j)) (tCB (rInt) (tCons (tOp (rPlus K) (tOp (rI CMul fun i j => .int (i * j)) (tVar 4) (tC (.int 48271))) (tOp (rI CMul fun i j => .int (i * j)) (tOp (rIxA K) (tVar 0) (tC (.int 0))) (tC (.int 69621)))) tNil)) (tC (.int 2147483647))) (gName 5))
    (tSeq (tAsg (tOp (rI (fun _ j => 0 < j) fun i j => .int (i % j)) (tCB (rInt) (tCons (tOp (rPlus K) (tOp (rI CMul fun i j => .int (i * j)) (tVar 5) (tC (.int 16807))) (tOp (rI CMul fun i j => .int (i * j)) (tOp (rIxA K) (tVar 0) (tC (.int 0))) (tC (.int 7919)))) tNil)) (tC (.int 1000000007))) (gName 5))
    (tRet (tOp (rI (fun _ j => 0 < j) fun i j => .int (i % j)) (tOp (rI CDiv fun i j => .int (i / j)) (tVar 5) (tC (.int 7))) (tVar 1))))))))))
theorem W.first {F H : Hp} {N : List Str} {vs : List V} {ds : List D} (fh : Same F H) (r : RpA F vs ds) : W { F0 := F, H0 := H, M := Non } (startE N ds) (L2.start N vs) F H := by
  refine ⟨fun _ => [], Gr.refl fh, ?_, fun i s e => ?_, (fun i p m => by cases m), (fun i j p m => by cases m), fun _ _ => rfl, (fun s as e => by cases e)⟩
  · unfold L2.start startE
    rw [List.length_append, List.length_append, List.length_map, List.length_map, List.length_replicate, List.length_replicate, r.len]
  · rcases startE_get e with ⟨d, e2, rfl⟩ | rfl
    · obtain ⟨v, e1, rv⟩ := r.get e2
      exact ⟨rfl, v, start_get e1, rv⟩
    · rfl
theorem mem_cut {xs : List D} {lo hi : Option Int} {x : D} (h : x ∈ cutD xs lo hi) : x ∈ xs := List.mem_of_mem_drop (List.mem_of_mem_take h)
theorem cut_map {α : Type} {f : α → D} (xs : List α) (lo hi : Option Int) : ∃ ys : List α, cutD (xs.map f) lo hi = ys.map f ∧ ys.length ≤ xs.length := by
  refine ⟨(xs.drop (HT.sIx (xs.map f).length 0 lo)).take (HT.sIx (xs.map f).length (xs.map f).length hi - HT.sIx (xs.map f).length 0 lo), ?_, ?_⟩
  · unfold cutD
    rw [← List.map_drop, ← List.map_take]
  · rw [List.length_take, List.length_drop]
    omega
theorem run_state {K : PySem.W.Frag} {vs : List V} {H : Hp} {Q : VK} {E : XK} (h : spN R_state vs H Q E) : T_state K { nx := fun _ H' => Q .non H', rt := Q } (L2.start ["script", "cells", "cell"] vs) H := by
  obtain ⟨F, ds, Z, fh, r, ⟨ns, rfl, hz⟩, z⟩ := h
  -- the cells, then the state
  have s1 : SX (tAsg (tLc (iList K (tSl (rSl K) (tVar 0) tNoPart (tPart (tC (.int 63))))) (gName 2) tYes (tCB (rAbs) (tCons (tVar 2) tNil)) [2]) (gName 1)) [.val (.list (ns.map .int)), .emp, .emp]
      { nx := fun ρ' => ∃ cs : List Int, (cs.length ≤ 63 ∧ ∀ c ∈ cs, 0 ≤ c) ∧ ρ' = [.val (.list (ns.map .int)), .own (cs.map .int), .emp], rt := fun _ _ => False } := by
    refine sx_asgO (eo_lcP (α := Int) (fun _ => true) (fun c => .int (c.natAbs : Int)) (ei_list (ex_of (eo_sl (ex_var rfl (ep_no (ep_some (ex_int ⟨63, rfl, slo_L ?_⟩))))))))
    obtain ⟨ys, ey, ly⟩ : ∃ ys : List Int, cutD (ns.map PyData.int) none (some 63) = ys.map PyData.int ∧ ys.length ≤ 63 := by
      refine ⟨(ns.drop (HT.sIx (ns.map PyData.int).length 0 none)).take (HT.sIx (ns.map PyData.int).length (ns.map PyData.int).length (some 63) - HT.sIx (ns.map PyData.int).length 0 none), ?_, ?_⟩
      · unfold cutD
        rw [← List.map_drop, ← List.map_take]
      · rw [List.length_take]
        refine Nat.le_trans (Nat.min_le_left _ _) ?_
        unfold HT.sIx
        simp
        omega
    refine ⟨_, rfl, ys, .int, ey, by omega, fun i hi => by simp at hi; subst hi; rfl, fun x _ => sg_name (by simp) ⟨rfl, et_yes ⟨rfl, rfl, fun _ => ex_cb (ea_cons (ex_var rfl (ea_nil (cbd_abs ⟨rfl, rfl⟩))))⟩⟩, ?_⟩
    refine nx_same ⟨ys.map fun c => (c.natAbs : Int), ⟨by rw [List.length_map]; exact ly, fun c hc => ?_⟩, ?_⟩
    · obtain ⟨x, _, rfl⟩ := List.mem_map.mp hc
      omega
    · rw [List.filter_eq_self.mpr (fun _ _ => rfl), List.map_map]
      rfl
  have s2 : ∀ cs : List Int, (cs.length ≤ 63 ∧ ∀ c ∈ cs, 0 ≤ c) → SX (tIfS (tTest (tOp (rEqP K) (tCB (rLen K) (tCons (tVar 1) tNil)) (tC (.int 0)))) (tAsg (tLst (tCons (tC (.int 0)) tNil)) (gName 1)) tNext) [.val (.list (ns.map .int)), .own (cs.map .int), .emp]
      { nx := fun ρ' => ∃ cs : List Int, (0 < cs.length ∧ cs.length ≤ 63 ∧ ∀ c ∈ cs, 0 ≤ c) ∧ ρ' = [.val (.list (ns.map .int)), .own (cs.map .int), .emp], rt := fun _ _ => False } := fun cs hcs => by
    refine sx_if (et_test (ex_op (ex_lenO rfl (ex_int (opd_eqP (min_l (by simp [PyData.depth])) ⟨_, rfl, fun hb => ?_, fun hb => ?_⟩)))))
    · exact sx_asgO (eo_lst (ea_cons (ex_int (ea_nil ⟨by simp, nx_same ⟨[0], by simp, rfl⟩⟩))))
    · refine sx_next (nx_same ⟨cs, ⟨?_, hcs⟩, rfl⟩)
      simp only [PyData.eqv, List.length_map, beq_eq_false_iff_ne, ne_eq] at hb
      omega
  have w0 := W.first (N := ["script", "cells", "cell"]) fh r
  refine s1 _ _ F H w0 _ (fun ρ1 σ1 F1 H1 q1 w1 => ?_) (fun _ _ _ _ _ _ q => q.elim) (fun _ _ _ _ q => q.elim) (fun _ _ _ _ q => q.elim)
  obtain ⟨cs, hcs, rfl⟩ := q1
  refine s2 cs hcs _ _ F1 H1 w1 _ (fun ρ2 σ2 F2 H2 q2 w2 => ?_) (fun _ _ _ _ _ _ q => q.elim) (fun _ _ _ _ q => q.elim) (fun _ _ _ _ q => q.elim)
  obtain ⟨cs, hcs, rfl⟩ := q2
  obtain ⟨ad, w2⟩ := w2
  obtain ⟨p, us, ka, k0, k1, k2, kr⟩ := w2.sl 1 _ rfl
  refine ⟨_, k1, by show 2 ≤ sizeLine; decide, fun q hq => ?_⟩
  have nq := w2.newp hq
  have npq : p ≠ q := ne_of_none k2 hq
  have g := w2.gr
  refine z (.cel 0 cs) q [q, p] F2 _ (hz _ ⟨hcs.1, by omega, Int.le_refl 0, hcs.2.2⟩) ⟨g.ff, g.fh.trans (same_upd hq), fun a o e m => same_upd hq _ _ (g.kp a o e m), fun a e => ?_, g.fr⟩ ⟨p, rfl, npq.symm, upd_same, ?_⟩ fun a ha => ?_
  · by_cases ha : a = q
    · rw [ha, upd_same]; intro z; cases z
    · rw [upd_ne ha]; exact g.al a e
  · rw [upd_ne npq, k2, kr.ints_inv]
  · have e : a = q ∨ a = p := by simpa using ha
    rcases e with e | e
    · rw [e]; exact ⟨nq.1, nq.2.1⟩
    · rw [e]; exact ⟨(w2.fz 1 p (by rw [ka]; simp)).1, k0⟩
theorem run_take {K : PySem.W.Frag} {vs : List V} {H : Hp} {Q : VK} {E : XK} (h : spS R_take vs H Q E) : T_take K { nx := fun _ H' => Q .non H', rt := Q } (L2.start ["state", "most", "cells", "at", "cell", "mixed"] vs) H := by
  obtain ⟨F, s, as, S, us, ds, Z, rfl, fh, sa, fn, r, ⟨m, rfl, hm1, hm2, ok, hz⟩, z⟩ := h
  obtain ⟨v, rfl, rv⟩ := r.one
  have ev := rv.int_inv
  subst ev
  cases S with
  | two a b => exact ok.elim
  | dct kvs => exact ok.elim
  | grd rows => exact ok.elim
  | cel a cs =>
    obtain ⟨c, rfl, ne, hs, hc⟩ := sa
    obtain ⟨hl, hl2, ha, hcs⟩ := ok
    have hlen : (cs.map V.int).length = cs.length := List.length_map _
    have hi0 : 0 ≤ a % (cs.length : Int) := Int.emod_nonneg _ (by omega)
    have hi1 : a % (cs.length : Int) < (cs.length : Int) := Int.emod_lt_of_pos _ (by omega)
    obtain ⟨i, ei⟩ : ∃ i : Nat, a % (cs.length : Int) = (i : Int) := ⟨(a % (cs.length : Int)).toNat, by omega⟩
    have hi : i < cs.length := by omega
    -- cells = state[1]; at = state[0] % len(cells); cell = cells[at]
    refine ⟨_, rfl, .inl ⟨s, _, 1, .ref c, rfl, rfl, .inl (.inl hs), rfl, ?_⟩⟩
    refine ⟨_, rfl, .inl ⟨s, _, 0, .int a, rfl, rfl, .inl (.inl hs), rfl, ?_⟩⟩
    refine ⟨_, rfl, _, cs.length, rfl, .inl ⟨_, .inl (.inl hc), hlen.symm⟩, a, (cs.length : Int), rfl, rfl, by omega, ?_⟩
    refine ⟨_, rfl, _, rfl, .inl ⟨c, _, (i : Int), .int cs[i], rfl, congrArg V.int ei, .inl (.inl hc), atI_nat (by rw [List.getElem?_map, List.getElem?_eq_getElem hi]; rfl), ?_⟩⟩
    refine ⟨_, rfl, _, _, rfl, rfl, _, rfl, ?_⟩
    have gr : ∀ H', (∀ b o, H b = some o → b ≠ s → b ≠ c → H' b = some o) → (∃ o, H' s = some o) → (∃ o, H' c = some o) → Gr (· ∈ [s, c]) F H F H' := fun H' k1 k2 k3 => by
      have fs := fn s (by simp)
      have fc := fn c (by simp)
      refine ⟨Same.refl F, fun b o e => k1 b o (fh b o e) (fun q => by rw [q, fs] at e; cases e) (fun q => by rw [q, fc] at e; cases e), fun b o e m => k1 b o e (fun q => m (by simp [q])) (fun q => m (by simp [q])), fun b e => ?_, fun _ _ z => z⟩
      by_cases h1 : b = s
      · obtain ⟨o, k⟩ := k2
        rw [h1, k]; intro z; cases z
      · by_cases h2 : b = c
        · obtain ⟨o, k⟩ := k3
          rw [h2, k]; intro z; cases z
        · cases q : H b with
          | none => exact absurd q e
          | some o => rw [k1 b o q h1 h2]; intro z; cases z
    refine ite2 (fun hbig => ?_) (fun hsmall => ?_)
    · -- cells[at] = cell // most; return cell % most
      refine ⟨_, rfl, _, rfl, cs[i], m, rfl, rfl, ⟨by omega, by omega⟩, ?_⟩
      refine ⟨_, rfl, _, rfl, c, _, (i : Int), i, rfl, congrArg V.int ei, hc, ?_, ?_⟩
      · unfold ixN
        rw [hlen, if_pos (by omega), if_pos (by omega)]
        simp
      refine ⟨_, rfl, _, rfl, cs[i], m, rfl, rfl, by omega, ?_⟩
      have hd : 0 ≤ cs[i] := hcs _ (List.getElem_mem hi)
      refine z (.int (cs[i] % m)) (.cel a (cs.set i (cs[i] / m))) _ F _ (hz _ _ (Int.emod_nonneg _ (by omega)) (Int.emod_lt_of_pos _ (by omega)) ⟨by rw [List.length_set]; exact hl, by rw [List.length_set]; exact hl2, ha, fun x hx => ?_⟩) (gr _ (fun b o e h1 h2 => by rw [upd_ne h2]; exact e) ⟨_, by rw [upd_ne ne]; exact hs⟩ ⟨_, upd_same⟩) ⟨c, rfl, ne, by rw [upd_ne ne]; exact hs, by rw [upd_same, List.map_set]⟩ fn (.int _)
      rcases List.mem_or_eq_of_mem_set hx with h | h
      · exact hcs x h
      · rw [h]; exact Int.ediv_nonneg hd (by omega)
    · -- state[0] = state[0] + 1
      refine ⟨_, rfl, .inl ⟨s, _, 0, .int a, rfl, rfl, .inl (.inl hs), rfl, ?_⟩⟩
      refine .inl (.inl ⟨a, 1, rfl, rfl, ?_⟩)
      refine ⟨_, rfl, s, _, 0, 0, rfl, rfl, hs, rfl, ?_⟩
      have hs' : upd H s (.lst ([.int a, .ref c].set 0 (.int (a + 1)))) s = some (.lst [.int (a + 1), .ref c]) := upd_same
      -- mixed
      refine ⟨_, rfl, _, _, rfl, rfl, .inr ⟨by decide, by decide⟩, ?_⟩
      refine ⟨_, rfl, .inl ⟨s, _, 0, .int (a + 1), rfl, rfl, .inl (.inl hs'), rfl, ?_⟩⟩
      refine ⟨_, _, rfl, rfl, .inr ⟨by decide, by decide⟩, ?_⟩
      refine .inl (.inl ⟨_, _, rfl, rfl, ?_⟩)
      refine .inl ⟨_, rfl, ?_⟩
      refine ⟨_, _, rfl, rfl, (by decide : (0 : Int) < 2147483647), ?_⟩
      refine ⟨_, rfl, _, _, rfl, rfl, .inr ⟨by decide, by decide⟩, ?_⟩
      refine ⟨_, rfl, .inl ⟨s, _, 0, .int (a + 1), rfl, rfl, .inl (.inl hs'), rfl, ?_⟩⟩
      refine ⟨_, _, rfl, rfl, .inr ⟨by decide, by decide⟩, ?_⟩
      refine .inl (.inl ⟨_, _, rfl, rfl, ?_⟩)
      refine .inl ⟨_, rfl, ?_⟩
      refine ⟨_, _, rfl, rfl, (by decide : (0 : Int) < 1000000007), ?_⟩
      refine ⟨_, rfl, _, _, rfl, rfl, ⟨by decide, by decide⟩, ?_⟩
      refine ⟨_, rfl, _, _, rfl, rfl, by omega, ?_⟩
      exact z _ (.cel (a + 1) cs) _ F _ (hz _ _ (Int.emod_nonneg _ (by omega)) (Int.emod_lt_of_pos _ (by omega)) ⟨hl, hl2, by omega, hcs⟩) (gr _ (fun b o e h1 h2 => by rw [upd_ne h1]; exact e) ⟨_, upd_same⟩ ⟨_, by rw [upd_ne ne.symm]; exact hc⟩) ⟨c, rfl, ne, hs', by rw [upd_ne ne.symm]; exact hc⟩ fn (.int _)

section
variable {P : Program} {w : World} {K : PySem.W.Frag} {mg : Str → Option Value} {base : Heap} {f : Addr} {fd : FuncData} {k : Nat} {x qual : Str} {st : Stmt}
theorem fn_newstate (F : Fun K x qual st f fd) (S : FnScope ["script", "cells", "cell"] ["script"] (defScope st))
    (body : ∀ (cdv : Value) (A : Around) (outer : List PySem.Env) (s : Shared) (H : Hp) (E : XK), Room k (A.deeper (PyProof.Rows.envOfC qual (defScope st) s.heap.objs.size f cdv)) →
      PSs (cxOf CX0 P w K mg base ["script", "cells", "cell"] qual (defScope st) f cdv A outer s H E).nox (defBody st) (T_state K)) : FnOk P w K mg base CX0 (k + 1) f fd ["script"] (spN R_state) :=
  F.ok S (fun vs H Q E h => by
    obtain ⟨F, ds, Z, _, r, ⟨ns, rfl, _⟩, _⟩ := h
    rw [r.len]; rfl) fun cdv A outer s H vs Q E hr h => ⟨_, body cdv A outer s H E hr, run_state h⟩
theorem fn_take (F : Fun K x qual st f fd) (S : FnScope ["state", "most", "cells", "at", "cell", "mixed"] ["state", "most"] (defScope st))
    (body : ∀ (cdv : Value) (A : Around) (outer : List PySem.Env) (s : Shared) (H : Hp) (E : XK), Room k (A.deeper (PyProof.Rows.envOfC qual (defScope st) s.heap.objs.size f cdv)) →
      PSs (cxOf CX0 P w K mg base ["state", "most", "cells", "at", "cell", "mixed"] qual (defScope st) f cdv A outer s H E).nox (defBody st) (T_take K)) : FnOk P w K mg base CX0 (k + 1) f fd ["state", "most"] (spS R_take) :=
  F.ok S (fun vs H Q E h => by
    obtain ⟨F, s, as, S, us, ds, Z, rfl, _, _, _, r, ⟨m, rfl, _⟩, _⟩ := h
    rw [List.length_cons, r.len]; rfl) fun cdv A outer s H vs Q E hr h => ⟨_, body cdv A outer s H E hr, run_take h⟩
end
end Pu
/-! PuC: xs[::-1], xs.index(n), sorted rows -/
namespace Pu
open PySem L2
section
variable {ρ : Pu.Env} {te to : TE} {t : TA} {K : PySem.W.Frag} {Q : D → Pu.Env → Prop}
theorem ex_revL (h : EX te ρ fun d ρ1 => ∃ ds, d = .list ds ∧ Q (.list ds.reverse) ρ1) : EX (tRevL K te) ρ Q := fun B ad σ F H w Z z =>
  h B ad σ F H w _ fun d1 ρ1 x F1 H1 q1 p1 r1 => by
    obtain ⟨ds, rfl, q⟩ := q1
    obtain ⟨a, xs, rfl, h1, h2⟩ := r1.lst_inv
    refine ⟨a, xs, rfl, sqL_rd h1 p1.wa.gr.fh, fun p hp => ?_⟩
    have g := Gr.frz (F := F1) (H := H1) (H' := upd H1 p (.lst xs.reverse)) (p := p) (vs := xs.reverse) p1.wa.gr.fh (same_upd hp) hp upd_same
    exact z _ ρ1 _ _ _ q (p1.trans (Post.of p1.wa g)) (.lst (.inl upd_same) (h2.rev.up g.ff))
/-- a method that changes nothing -/
def MtD (r : V → List V → Hp → VK → Prop) (d : D) (es : List D) (Q : D → Prop) : Prop := ∀ (F H : Hp) (x : V) (vs : List V), Same F H → Rp F x d → RpA F vs es → ∀ Z : VK, (∀ e v F' H', Q e → Gr Non F H F' H' → Rp F' v e → Z v H') → r x vs H Z
theorem ex_bmL {r : V → List V → Hp → VK → Prop} (h : EX to ρ fun d ρ1 => ∃ ds, d = .list ds ∧ EA t ρ1 fun es ρ2 => MtD r (.list ds) es fun e => Q e ρ2) : EX (tBM K "list" r to t) ρ Q := fun B ad σ F H w Z z =>
  h B ad σ F H w _ fun d1 ρ1 x F1 H1 q1 p1 r1 => by
    obtain ⟨ds, rfl, q⟩ := q1
    obtain ⟨a, xs, rfl, h1, h2⟩ := r1.lst_inv
    refine ⟨?_, q B ad σ F1 H1 p1.wa _ fun es ρ2 vs F2 H2 q2 p2 r2 => ?_⟩
    · exact .inl ⟨rfl, xs, sqL_rd h1 p1.wa.gr.fh⟩
    · exact q2 F2 H2 (.ref a) vs p2.wa.gr.fh (r1.up p2.gr.ff) r2 Z fun e v F' H' k g rv => z e ρ2 v F' H' k ((p1.trans p2).trans (Post.of p2.wa g)) rv
theorem rpa_intsI {F : Hp} : ∀ {ns : List Int} {vs : List V}, RpA F vs (ns.map .int) → vs = ns.map V.int
  | [], _, h => by cases h; rfl
  | n :: ns, _, h => by
    cases h with
    | cons h1 h2 => rw [h1.int_inv, rpa_intsI h2]; rfl
theorem mtd_indexI {ns : List Int} {n : Int} {Q : D → Prop} (hn : n ∈ ns) (k : Q (.int (ns.idxOf n : Nat))) : MtD (rIndex K) (.list (ns.map .int)) [.int n] Q := fun F H x vs e r rv Z z => by
  obtain ⟨a, xs, rfl, h1, h2⟩ := r.lst_inv
  obtain ⟨v, rfl, rv1⟩ := rv.one
  have e1 := rv1.int_inv
  have e2 := rpa_intsI h2
  subst e1 e2
  have hl : ns.idxOf n < ns.length := List.idxOf_lt_length_iff.mpr hn
  refine ⟨a, ns.map V.int, .int n, ns.idxOf n, .int n, rfl, rfl, sqL_rd h1 e, rfl, ?_, ?_, ?_, fun m z' hm hz => ?_, z _ _ F H k (Gr.refl e) (.int _)⟩
  · rw [List.all_eq_true]
    intro x hx
    obtain ⟨i, _, rfl⟩ := List.mem_map.mp hx
    rfl
  · rw [List.getElem?_map, List.getElem?_eq_getElem hl, List.getElem_idxOf hl]; rfl
  · show (n == n) = true
    simp
  · rw [List.getElem?_map] at hz
    have hml : m < ns.length := by omega
    rw [List.getElem?_eq_getElem hml] at hz
    cases hz
    show (ns[m] == n) = false
    exact List.not_of_lt_findIdx (p := fun x => x == n) hm
end
/-! sorted -/
theorem uniq_of {α : Type} {le : α → α → Bool} (anti : ∀ a b, le a b = true → le b a = true → a = b) : ∀ {xs ys : List α}, xs.Perm ys → xs.Pairwise (fun a b => le a b = true) → ys.Pairwise (fun a b => le a b = true) → xs = ys
  | [], ys, p, _, _ => (List.nil_perm.mp p).symm
  | a :: xs, [], p, _, _ => absurd p.length_eq (by simp)
  | a :: xs, b :: ys, p, h1, h2 => by
    have e : a = b := by
      by_cases e : a = b
      · exact e
      · have ha : a ∈ ys := (List.mem_cons.mp (p.mem_iff.mp (by simp : a ∈ a :: xs))).resolve_left e
        have hb : b ∈ xs := (List.mem_cons.mp (p.mem_iff.mpr (by simp : b ∈ b :: ys))).resolve_left (fun q => e q.symm)
        exact anti a b ((List.pairwise_cons.mp h1).1 b hb) ((List.pairwise_cons.mp h2).1 a ha)
    subst e
    rw [uniq_of anti (p.cons_inv) (List.pairwise_cons.mp h1).2 (List.pairwise_cons.mp h2).2]
theorem sortD_of {α : Type} {enc : α → D} {xs ys : List α} {lt : α → α → Bool} (hlt : ∀ a b, PySem.W.dataLt (enc a) (enc b) = lt a b) (ntr : ∀ a b c, lt b a = false → lt c b = false → lt c a = false) (as : ∀ a b, lt a b = true → lt b a = false) (tot : ∀ a b, lt a b = false → lt b a = false → a = b)
    (hp : xs.Perm ys) (hs : ys.Pairwise fun a b => lt a b = true) : sortD (xs.map enc) = ys.map enc := by
  have e := PySem.W.sort_maps (r := fun a b => !lt b a) (s := PySem.W.dataLe false id) enc (l := xs) (fun a _ b _ => by
    show (!lt b a) = (!PySem.W.dataLt (enc b) (enc a))
    rw [hlt])
  show (xs.map enc).mergeSort (PySem.W.dataLe false id) = ys.map enc
  rw [← e]
  have u : xs.mergeSort (fun a b => !lt b a) = ys := uniq_of (le := fun a b => !lt b a) (fun a b h1 h2 => by
      simp only [Bool.not_eq_true'] at h1 h2
      exact tot a b h2 h1) ((List.mergeSort_perm _ _).trans hp) (List.pairwise_mergeSort (fun a b c h1 h2 => by
        simp only [Bool.not_eq_true'] at h1 h2 ⊢
        exact ntr a b c h1 h2) (fun a b => by
        cases h : lt b a with
        | false => rfl
        | true => simp [as _ _ h]) xs) (hs.imp fun {a b} h => by simp [as _ _ h])
  rw [u]
/-! ### dict(pairs of ints), d[k] -/
section
variable {ρ : Pu.Env} {ty : TE} {K : PySem.W.Frag} {Q : D → Pu.Env → Prop}
def kvOf (p : Int × Int) : Key × V := ((.inl p.1 : Key), V.int p.2)
/-- pairs with different keys -/
def R_dict : List D → (Stt → Prop) → Prop := fun ds Z => ∃ kvs : List (Int × Int), ds = [.list (kvs.map encP)] ∧ (kvs.map Prod.fst).Nodup ∧ Z (.dct kvs)
theorem merge_new : ∀ (more acc : List (Int × Int)), ((acc ++ more).map Prod.fst).Nodup → mergeK (acc.map kvOf) (more.map kvOf) = (acc ++ more).map kvOf
  | [], acc, _ => by simp [mergeK]
  | p :: more, acc, h => by
    have h2 : ((acc ++ [p] ++ more).map Prod.fst).Nodup := by simpa using h
    have ih := merge_new more (acc ++ [p]) h2
    have np : ∀ q ∈ acc, q.1 ≠ p.1 := fun q hq e => by
      have h3 : ((acc.map Prod.fst) ++ (p.1 :: more.map Prod.fst)).Nodup := by simpa using h
      exact (List.nodup_append.mp h3).2.2 q.1 (List.mem_map_of_mem hq) p.1 (by simp) e
    have e1 : ((acc.map kvOf).any fun kv => decide (kv.1 = (kvOf p).1)) = false := by
      rw [List.any_eq_false]
      intro x hx
      obtain ⟨q, hq, rfl⟩ := List.mem_map.mp hx
      simp only [decide_eq_true_eq, kvOf, Sum.inl.injEq]
      exact np q hq
    show mergeK (putK (acc.map kvOf) (kvOf p).1 (kvOf p).2) (more.map kvOf) = _
    unfold putK
    rw [e1, if_neg Bool.false_ne_true]
    have e2 : acc.map kvOf ++ [((kvOf p).1, (kvOf p).2)] = (acc ++ [p]).map kvOf := by simp
    rw [e2, ih]
    simp
theorem paired_of {H F : Hp} (e : Same F H) : ∀ {kvs : List (Int × Int)} {xs : List V}, RpA F xs (kvs.map encP) → ∃ ps : List Addr, xs = ps.map V.ref ∧ Paired (fun p kv => SqT K H p [kV kv.1, kv.2]) ps (kvs.map kvOf)
  | [], _, h => by cases h; exact ⟨[], rfl, .nil⟩
  | p :: kvs, _, h => by
    cases h with
    | cons h1 h2 =>
      obtain ⟨ps, rfl, hp⟩ := paired_of e h2
      obtain ⟨a, ys, rfl, g1, g2⟩ := h1.tup_inv
      obtain ⟨u, v, rfl, r1, r2⟩ := g2.two
      have e1 := r1.int_inv
      have e2 := r2.int_inv
      subst e1 e2
      exact ⟨a :: ps, rfl, .cons (sqT_rd g1 e) hp⟩
theorem dict_fits {H : Hp} {vs : List V} {Q : VK} {E : XK} (h : spN R_dict vs H Q E) : ∃ (a : Addr) (ps : List Addr) (kvs : List (Key × V)), vs = [.ref a] ∧ SqL K H a (ps.map V.ref) ∧ Paired (fun p kv => SqT K H p [kV kv.1, kv.2]) ps kvs ∧
    ∀ p, H p = none → Q (.ref p) (upd H p (.dK (mergeK [] kvs))) := by
  obtain ⟨F, ds, Z, e, r, ⟨kvs, rfl, nd, hz⟩, z⟩ := h
  obtain ⟨v, rfl, rv⟩ := r.one
  obtain ⟨a, xs, rfl, h1, h2⟩ := rv.lst_inv
  obtain ⟨ps, rfl, hp⟩ := paired_of (K := K) e h2
  refine ⟨a, ps, kvs.map kvOf, rfl, sqL_rd h1 e, hp, fun p hn => ?_⟩
  have em : mergeK [] (kvs.map kvOf) = kvs.map kvOf := merge_new kvs [] nd
  rw [em]
  exact z (.dct kvs) p [p] F _ hz (Gr.heap e (same_upd hn)) ⟨rfl, upd_same⟩ fun b hb => by
    rw [List.mem_singleton.mp hb]
    refine ⟨?_, hn⟩
    cases q : F p with
    | none => rfl
    | some o => rw [e p o q] at hn; cases hn
theorem cb_dictN {X : Cx} (hcalm : X.calm = true) : CallR X (.type "dict") fun vs H Q => spN R_dict (vs ++ []) H Q E0 := fun pins s σ H vs us Q I r h => call_dictP hcalm pins s σ H vs us Q I r (dict_fits (E := E0) (by have h : spN R_dict (vs ++ []) H Q E0 := h; rw [List.append_nil] at h; exact h))
theorem valV_int : ∀ {kvs : List (Int × Int)} {k v : Int}, kvs.lookup k = some v → valV (kvs.map kvOf) (.inl k : Key) = some (V.int v)
  | [], _, _, h => by cases h
  | p :: kvs, k, v, h => by
    obtain ⟨a, b⟩ := p
    by_cases c : a = k
    · subst c
      simp only [List.lookup, beq_self_eq_true] at h
      cases h
      exact valV_pos rfl
    · have c2 : (k == a) = false := beq_eq_false_iff_ne.mpr (fun q => c q.symm)
      simp only [List.lookup, c2] at h
      rw [List.map_cons, valV_neg (by simp [kvOf, c])]
      exact valV_int h
theorem ex_dget {i : Nat} {S0 : Stt} (h0 : ρ[i]? = some (.st S0)) (h : EX ty ρ fun d ρ1 => ∃ k v kvs, d = .int k ∧ ρ1[i]? = some (.st (.dct kvs)) ∧ kvs.lookup k = some v ∧ Q (.int v) ρ1) : EX (tDGet (tVar i) ty) ρ Q := fun B ad σ F H w Z z => by
  obtain ⟨s0, k0, _⟩ := w.sl i _ h0
  refine ⟨_, k0, h B ad σ F H w _ fun d ρ1 y F1 H1 q1 p1 r1 => ?_⟩
  obtain ⟨k, v, kvs, rfl, h1, hl, q⟩ := q1
  obtain ⟨s1, k1, st1⟩ := p1.wa.sl i _ h1
  have e := k0.symm.trans k1
  cases e
  have ey := r1.int_inv
  subst ey
  have g := DGet.k (k := (.inl k : Key)) st1.2
  have ev := valV_int hl
  have g' : DGet H1 s0 (.int k) (some (.int v)) := by
    have e2 : (kvs.map fun p => ((.inl p.1 : Key), V.int p.2)) = kvs.map kvOf := rfl
    rw [e2, ev] at g
    exact g
  exact ⟨s0, .int v, rfl, g', z (.int v) ρ1 (.int v) F1 H1 q p1 (.int v)⟩
end
/-! ### a op b op c op d, as a test -/
section
open PyProof.Rows
def tCh3 (r r' r'' : R2) (ta tb tc td : TE) : TT := fun σ H Q => ta σ H fun x H1 => tb σ H1 fun y H2 => r x y H2 fun z H3 => ∃ k, z = .bl k ∧
  (if k = true then tc σ H3 fun x3 H4 => r' y x3 H4 fun z2 H5 => ∃ k2, z2 = .bl k2 ∧ (if k2 = true then td σ H5 fun x4 H6 => r'' x3 x4 H6 fun z3 H7 => ∃ k3, z3 = .bl k3 ∧ Q k3 H7 else Q false H5) else Q false H3)
theorem pt_chain3 {X : Cx} {a b c d : Expr} {ta tb tc td : TE} {pos : Pos} {op op' op'' : CmpOp} {r r' r'' : R2} (ho : OpR X (compareOp op) r) (ho' : OpR X (compareOp op') r') (ho'' : OpR X (compareOp op'') r'') (ha : PE X a ta) (hb : PE X b tb) (hc : PE X c tc) (hd : PE X d td)
    (hm : lastMarks [op, op', op''] [b, c, d] = false := by with_unfolding_all rfl) : PT X (.Compare a [op, op', op''] [b, c, d] pos) (tCh3 r r' r'' ta tb tc td) := by
  refine ⟨fun pins s σ H Q I h => ?_⟩
  refine isTrue_chain (thn (ha.run pins s σ H _ I h) fun v s1 ⟨x, H1, I1, r1, q1⟩ => test_link (thn (hb.run pins s1 σ H1 _ I1 q1) fun u s2 ⟨y, H2, I2, r2, q2⟩ => thn (ho pins s2 σ H2 x y v u _ I2 r1 r2 q2) fun _ s3 ⟨z, H3, I3, r3, k, e, q3⟩ => ?_)) hm
  subst e
  cases r3
  refine wpAny_truthy_bool ?_
  cases k with
  | false => exact ite_ff ⟨H3, I3, q3⟩
  | true =>
    refine ite_tt (test_link (thn (hc.run pins s3 σ H3 _ I3 q3) fun u3 s4 ⟨x3, H4, I4, r4, q4⟩ => thn (ho' pins s4 σ H4 y x3 u u3 _ I4 r2 r4 q4) fun _ s5 ⟨z2, H5, I5, r5, k2, e2, q5⟩ => ?_))
    subst e2
    cases r5
    refine wpAny_truthy_bool ?_
    cases k2 with
    | false => exact ite_ff ⟨H5, I5, q5⟩
    | true =>
      refine ite_tt (test_last (thn (hd.run pins s5 σ H5 _ I5 q5) fun u4 s6 ⟨x4, H6, I6, r6, q6⟩ => thn (ho'' pins s6 σ H6 x3 x4 u3 u4 _ I6 r4 r6 q6) fun _ s7 ⟨z3, H7, I7, r7, k3, e3, q7⟩ => ?_))
      subst e3
      cases r7
      exact wpAny_truthy_bool ⟨H7, I7, q7⟩
theorem et_ch3 {ρ : Pu.Env} {r r' r'' : R2} {ta tb tc td : TE} {Q : Bool → Pu.Env → Prop} (h : EX ta ρ fun d1 ρ1 => EX tb ρ1 fun d2 ρ2 => OpD r d1 d2 fun d => ∃ b, d = .bool b ∧ (b = true → EX tc ρ2 fun d3 ρ3 => OpD r' d2 d3 fun d => ∃ b2, d = .bool b2 ∧
    (b2 = true → EX td ρ3 fun d4 ρ4 => OpD r'' d3 d4 fun d => ∃ b3, d = .bool b3 ∧ Q b3 ρ4) ∧ (b2 = false → Q false ρ3)) ∧ (b = false → Q false ρ2)) : ET (tCh3 r r' r'' ta tb tc td) ρ Q := fun B ad σ F H w Z z =>
  h B ad σ F H w _ fun d1 ρ1 x F1 H1 q1 p1 r1 => q1 B ad σ F1 H1 p1.wa _ fun d2 ρ2 y F2 H2 q2 p2 r2 => q2 F2 H2 x y p2.wa.gr.fh (r1.up p2.gr.ff) r2 _ fun d v F3 H3 kd g rv => by
    obtain ⟨b, rfl, k1, k2⟩ := kd
    refine ⟨b, rv.bl_inv, ?_⟩
    have p3 := (p1.trans p2).trans (Post.of p2.wa g)
    cases b with
    | false => exact z false ρ2 F3 H3 (k2 rfl) p3
    | true =>
      show tc σ H3 _
      refine k1 rfl B ad σ F3 H3 p3.wa _ fun d3 ρ3 u F4 H4 q4 p4 r4 => q4 F4 H4 y u p4.wa.gr.fh ((r2.up g.ff).up p4.gr.ff) r4 _ fun d v F5 H5 kd2 g2 rv2 => ?_
      obtain ⟨b2, rfl, m1, m2⟩ := kd2
      refine ⟨b2, rv2.bl_inv, ?_⟩
      have p5 := (p3.trans p4).trans (Post.of p4.wa g2)
      cases b2 with
      | false => exact z false ρ3 F5 H5 (m2 rfl) p5
      | true =>
        show td σ H5 _
        refine m1 rfl B ad σ F5 H5 p5.wa _ fun d4 ρ4 u4 F6 H6 q6 p6 r6 => q6 F6 H6 u u4 p6.wa.gr.fh ((r4.up g2.ff).up p6.gr.ff) r6 _ fun d v F7 H7 kd3 g3 rv3 => ?_
        obtain ⟨b3, rfl, q⟩ := kd3
        exact ⟨b3, rv3.bl_inv, z b3 ρ4 F7 H7 q ((p5.trans p6).trans (Post.of p6.wa g3))⟩
end
/-! ### a list times an int -/
section
open PyProof.Rows
def rRepR : R2 := fun x y H Q => ∃ l k xs, x = .ref l ∧ y = .int k ∧ Rd H l (.lst xs) ∧ (-1000000 ≤ k ∧ k ≤ 1000000) ∧ xs.length * k.toNat ≤ sizeLine ∧ ∀ p, H p = none → Q (.ref p) (upd H p (.lst (List.replicate k.toNat xs).flatten))
theorem op_repR {X : Cx} : OpR X (binaryOp .Mult) rRepR := by
  rintro pins sh σ H x y v u Q I rx ry ⟨l, k, xs, rfl, rfl, hd, ⟨k1, k2⟩, room, q⟩
  cases rx
  obtain ⟨t, rfl⟩ := ry
  obtain ⟨z, its, n, rv, ob⟩ := hd.ok I.hok
  have ln := rv.length
  have sz : its.toArray.size * k.toNat ≤ sizeLine := by rw [List.size_toArray, ← ln]; exact room
  have fits : ¬ (!Builtin.List.listFitsIndex k) = true := by
    rw [fitsIndex_both (by omega) (by omega)]
    decide
  have cap : ¬ its.toArray.size * k.toNat > (2 ^ 63 - 1) / 8 := Nat.not_lt.mpr (Nat.le_trans sz (by decide))
  have long : ¬ Builtin.List.listTooLong (its.toArray.size * k.toNat) = true := by
    rw [notLongL sz]
    decide
  have flat : ∀ m : Nat, List.foldl (fun a b => a ++ b) #[] (List.replicate m its.toArray) = (List.replicate m its).flatten.toArray := fun m => by
    have f := foldl_rep its m []
    rwa [List.nil_append] at f
  have made : List.foldl (fun a b => a ++ b) #[] (List.replicate (if its.toArray.isEmpty = true then 0 else k.toNat) its.toArray) = (List.replicate k.toNat its).flatten.toArray := by
    rw [flat]
    cases its with
    | nil => simp
    | cons a r => rw [if_neg (by simp)]
  refine wpAny_binaryOp_repeat_ref (U := "int") (T := "list") (by decide) ⟨_, ob, rfl⟩ (fun g => typeIs_int g k t) noFill_list_mul F.fills_int_mul F.slot_int_rmul repeat_list F.slot_int_index.lookup (call_meets F.slot_int_rmul (typeIs_int sh k t) F.entry_int_rmul (F.args_int_rmul_2 _ _) (int___rmul___int_list k t l its.toArray n) ⟨ob, rfl, ⟨_, ob, rfl⟩, call_meets F.slot_list_mul ⟨_, ob, rfl⟩ F.entry_list_mul (F.args_list_mul_2 _ _) (AutoListH.list___mul___list_int_3 l its.toArray n k t fits cap long) ⟨ob, ?_⟩⟩)
  rw [made]
  exact ⟨.ref _, _, I.lnew (t' := sh.toks) (rv.rep k.toNat) (by rw [PyProof.Rows.lm_len_rep_flat, Nat.mul_comm]; exact room), rfl, q _ I.fresh⟩
theorem RpA.rep {F : Hp} {vs : List V} {ds : List D} (h : RpA F vs ds) : ∀ k : Nat, RpA F (List.replicate k vs).flatten (List.replicate k ds).flatten
  | 0 => .nil
  | k + 1 => by
    rw [List.replicate_succ, List.replicate_succ, List.flatten_cons, List.flatten_cons]
    exact h.app (RpA.rep h k)
theorem opo_rep {ds : List D} {k : Int} {Q : List D → Prop} (hk : -1000000 ≤ k ∧ k ≤ 1000000) (hz : ds.length * k.toNat ≤ 1000000) (q : Q (List.replicate k.toNat ds).flatten) : OpO rRepR (.list ds) (.int k) Q := fun F H x y e rx ry Z z => by
  obtain ⟨a, xs, rfl, h1, h2⟩ := rx.lst_inv
  exact ⟨a, k, xs, rfl, ry.int_inv, rd_mono e h1, hk, Nat.le_trans (by rw [h2.len]; exact hz) (by decide), fun p hp => z _ p _ _ q (same_upd hp) hp upd_same (h2.rep _)⟩
theorem opd_rep {ds : List D} {k : Int} {Q : D → Prop} (hk : -1000000 ≤ k ∧ k ≤ 1000000) (hz : ds.length * k.toNat ≤ 1000000) (q : Q (.list (List.replicate k.toNat ds).flatten)) : OpD rRepR (.list ds) (.int k) Q := opd_ofO (opo_rep hk hz q)
end
end Pu
/-! PuG: the law's def at the claim's caller alone, where no repr is under way; so repr of data may be told -/
namespace Pu
open PySem L2 PySem.Spec PyProof.Rows
section
variable {P : Program} {w : World} {K : PySem.W.Frag} {mg mb : Str → Option Value} {base : Heap} {f : Addr} {fd : FuncData} {k : Nat} {x qual : Str} {st : Stmt} {N ps : List Str}
/-- room at the claim's caller -/
abbrev RoomTop (k : Nat) : Prop := Room k callerA
/-- the promise of the law's def when the claim's caller calls it -/
def TopOk (P : Program) (w : World) (K : PySem.W.Frag) (mg : Str → Option Value) (base : Heap) (f : Addr) (fd : FuncData) (ps : List Str) (sp : Sp) : Prop :=
  ∀ (sh : Shared) (G : Hp) (args : Args) (us : List Value) (ws : List V) (Z : VK) (E : XK), Env0 P w K mg base callerA [] sh G → BindsTo sh fd args (ps.zip us) → Vals ws us → sp ws G Z E →
    codeAny (model P w) callerA (.call (.ref f) args) (CR CX0 [] P w G sh Z E) sh
theorem top_of {sp : Sp} (F : Fun K x qual st f fd) (S : FnScope N ps (defScope st)) (len : ∀ vs H Q E, sp vs H Q E → vs.length = ps.length) (room : Room (k + 1) callerA)
    (body : ∀ (cdv : Value) (sh : Shared) (G : Hp) (ws : List V) (Z : VK) (E : XK), Room k (callerA.deeper (envOfC qual (defScope st) sh.heap.objs.size f cdv)) → sp ws G Z E →
      ∃ t, PSs (cxOf CX0 P w K mg base N qual (defScope st) f cdv callerA [] sh G E).nox (defBody st) t ∧ t { nx := fun _ G' => Z .non G', rt := Z } (L2.start N ws) G) : TopOk P w K mg base f fd ps sp := by
  obtain ⟨oc, od, kV, doc, pm, an, cdv, ct, osl, rfl, lk, hcd⟩ := F.ex
  intro sh G args us ws Z E e0 hb rv hz
  have hlen := len _ _ _ _ hz
  have kin : K.In sh.heap := e0.mod.kin.keeps fun b o q => (e0.bs b o q).1
  have nolim : sh.heap.NoLimit := e0.mod.nolimit.keeps fun b o q => (e0.bs b o q).1
  have kinds : ∀ z ∈ ps.zip us, (defScope st).names.lookup z.1 = some .local ∨ ((defScope st).names.lookup z.1 = some .cell ∧ ((cellsFrom (sh.heap.objs.size + 1) (defScope st).names []).lookup z.1).isSome = true) := fun ⟨n, u⟩ hz => by
    have hn := S.par n (List.of_mem_zip hz).1
    exact hn.imp id fun q => ⟨q, PySem.W.cellsFrom_some _ _ _ (.inl q)⟩
  refine codeAny_call_function room.depth (kin _ _ lk) rfl S.co S.gen rfl (PySem.W.codeRec_of kin hcd) (hb _ _ _ _ (wpAny_newFunctionEnv_cells S.kind kinds fun env he s1 inc => ?_))
  subst he
  refine ⟨nolim.keeps inc.toInCall.keep, codeAny_func ?_⟩
  obtain ⟨t, ht, hq⟩ := body cdv sh G ws Z E (room.deeper _) hz
  have I0 : Inv (cxOf CX0 P w K mg base N qual (defScope st) f cdv callerA [] sh G E) [] (L2.start N ws) G s1 := inv_start S room.hd e0 hlen rv inc
  refine wpAny_mono (ht.nox.run [] s1 (L2.start N ws) G _ I0 hq) (fun fl s' hs => ?_) fun _ _ hs => hs
  cases fl with
  | ret u =>
    obtain ⟨v, σ', H', J, r, q⟩ := hs
    exact ⟨v, H', J.os, J.bare, J.base, J.hok, r, q⟩
  | next =>
    obtain ⟨σ', H', J, q⟩ := hs
    exact ⟨V.non, H', J.os, J.bare, J.base, J.hok, rfl, q⟩
  | brk => exact hs.elim fun _ hs => hs.elim fun _ hs => (hs.2 : False).elim
  | cont => exact hs.elim fun _ hs => hs.elim fun _ hs => (hs.2 : False).elim
/-- the script as it stands ahead of the call: one frozen list -/
def scriptH (a : Addr) (vs : List Value) (ns : List Int) : Hp := fun b => if b = a then some (.frz { cls := .type "list", data := .seq vs.toArray } (.lst (ns.map V.int))) else none
theorem scriptH_at (a : Addr) (vs : List Value) (ns : List Int) : scriptH a vs ns a = some (.frz { cls := .type "list", data := .seq vs.toArray } (.lst (ns.map V.int))) := if_pos rfl
theorem scriptH_no {a b : Addr} {vs : List Value} {ns : List Int} (h : b ≠ a) : scriptH a vs ns b = none := if_neg h
theorem top_call {fa a : Addr} {sh : Shared} {vs : List Value} {ns : List Int} {R : List D → (D → Prop) → Prop} (kin : K.In sh.heap) (gl : sh.heap.Ns mainGlobals mg) (bl : sh.heap.Ns builtinsNs mb) (bb : ∀ y : Str, y ≠ "__name__" → mb y = bootBuiltins y) (nolim : sh.heap.NoLimit) (gens : sh.gens = #[])
    (hs : sh.heap.get? a = some { cls := .type "list", data := .seq vs.toArray }) (hi : IntsAre vs ns) (hl : ns.length ≤ sizeLine) (nl : noLs K = true)
    (F : ∀ base : Heap, K.In base → base.Ns mainGlobals mg → TopOk P w K mg base fa fd [x] (spP R)) (hbind : ∀ (s : Shared) (u : Value), BindsTo s fd ⟨[u], []⟩ [(x, u)]) (hR : R [.list (ns.map .int)] fun d => d = .bool true) :
    codeAny (model P w) callerA (.call (.ref fa) ⟨[.ref a], []⟩) (fun r s' => r = .ok (.ret (.bool true)) ∧ OldK sh.heap s'.heap ∧ s'.os = sh.os ∧ AllBare s'.gens) sh := by
  let G := scriptH a vs ns
  have gAt : G a = some (.frz { cls := .type "list", data := .seq vs.toArray } (.lst (ns.map V.int))) := scriptH_at a vs ns
  have gNo : ∀ {b : Addr}, b ≠ a → G b = none := fun h => scriptH_no h
  have keep : ∀ {b : Addr} {o : Obj}, sh.heap.get? b = some o → b ≠ a → (hidT sh.heap G).get? b = some o := fun e h => hidT_get e (gNo h)
  have notDict : ∀ {b : Addr} {o : Obj} {es : Array DictEntry} {ep : Nat}, sh.heap.get? b = some o → o.data = .dict es ep → b ≠ a := fun {b o es ep} e d q => by
    subst q
    rw [hs] at e
    cases e
    cases d
  have nsOf : ∀ {b : Addr} {m : Str → Option Value}, sh.heap.Ns b m → (hidT sh.heap G).Ns b m := fun {b m} ⟨o, es, ep, e, d, r⟩ => ⟨o, es, ep, keep e (notDict e d), d, r⟩
  have kin' : K.In (hidT sh.heap G) := fun b o e => keep (kin b o e) fun q => by
    subst q
    have z := kin b o e
    rw [hs] at z
    cases z
    exact noLs_at nl e rfl
  have md : Mod K mg (hidT sh.heap G) := ⟨kin', nsOf gl, ⟨mb, nsOf bl, bb⟩, nolim.elim fun mc h => ⟨mc, nsOf h.1, h.2⟩⟩
  have vals := vals_ints hi
  have gok : HOk P w G sh.heap := fun b u z => by
    by_cases q : b = a
    · subst q
      rw [gAt] at z
      cases z
      exact ⟨hs, by rw [List.length_map]; exact hl, vs, _, vals, hs⟩
    · rw [gNo q] at z; cases z
  have e0 : Env0 P w K mg (hidT sh.heap G) callerA [] sh G := ⟨rfl, md, fun b o e => of_hidT e, Nat.le_of_eq (hidT_size _ _), trivial, fun b hb => (by cases hb), gok, .of_eq gens⟩
  have spec : spP R [.ref a] G (fun v _ => v = .bl true) fun _ _ _ => False := sp_law nl (.inl (.inr ⟨_, gAt⟩)) hR
  refine codeAny_mono (F _ kin' (nsOf gl) sh G ⟨[.ref a], []⟩ [.ref a] [.ref a] _ _ e0 (hbind sh (.ref a)) (.cons rfl .nil) spec) fun r s' h => ?_
  cases r with
  | error e => exact (show False from h).elim
  | ok fl =>
    cases fl with
    | next => exact h.elim
    | brk => exact h.elim
    | cont => exact h.elim
    | ret u =>
      obtain ⟨v, G', os, bare, un, gok', rv, q⟩ := h
      have q : v = .bl true := q
      subst q
      have rv : u = Value.bool true := rv
      subst rv
      refine ⟨rfl, OldK.of_keep fun b o e => ?_, os, bare⟩
      by_cases hb : b = a
      · subst hb
        have z := un.frzs b _ _ gAt
        have e1 := (gok b _ gAt).1
        rw [e] at e1
        cases e1
        exact (gok' b _ z).1
      · exact un.keep b o e (gNo hb) (fun z => by cases z) (fun z => by cases z)
/-- a law's def whose argument is the script -/
theorem top_pure {R : List D → (D → Prop) → Prop} (F : Fun K x qual st f fd) (S : FnScope N ps (defScope st)) (len : ∀ ds Z, R ds Z → ds.length = ps.length) (room : Room (k + 1) callerA)
    (body : ∀ (cdv : Value) (s : Shared) (H : Hp) (E : XK), Room k (callerA.deeper (envOfC qual (defScope st) s.heap.objs.size f cdv)) →
      ∃ t, PSs (cxOf CX0 P w K mg base N qual (defScope st) f cdv callerA [] s H E).nox (defBody st) t ∧ ∀ ds Z, R ds Z → SX t (startE N ds) { nx := fun _ => Z .none, rt := fun d _ => Z d }) :
    TopOk P w K mg base f fd ps (spP R) := by
  refine top_of F S (fun vs H Q E h => ?_) room (fun cdv s H vs Q E hr h => ?_)
  · obtain ⟨F, ds, Z, _, r, q, _⟩ := h
    rw [r.len]
    exact len ds Z q
  · obtain ⟨F0, ds, Z, fh, r, q, z⟩ := h
    obtain ⟨t, ht, hs⟩ := body cdv s H E hr
    refine ⟨t, ht, hs ds Z q { F0 := F0, H0 := H, M := Non } (L2.start N vs) F0 H ⟨fun _ => [], Gr.refl fh, ?_, fun i s e => ?_, (fun i p m => by cases m), (fun i j p m => by cases m), fun _ _ => rfl, (fun s as e => by cases e)⟩ _ (fun ρ' σ' F' H' q w' => ?_) (fun d ρ' σ' v F' H' q w' rv => ?_) (fun _ _ _ _ q _ => q.elim) (fun _ _ _ _ q _ => q.elim)⟩
    · unfold L2.start startE
      rw [List.length_append, List.length_append, List.length_map, List.length_map, List.length_replicate, List.length_replicate, r.len]
    · rcases startE_get e with ⟨d, e2, rfl⟩ | rfl
      · obtain ⟨v, e1, rv⟩ := r.get e2
        exact ⟨rfl, v, start_get e1, rv⟩
      · rfl
    · obtain ⟨ad, w'⟩ := w'
      exact z .none .non F' H' q w'.gr .non
    · obtain ⟨ad, w'⟩ := w'
      exact z d v F' H' q w'.gr rv
/-- the law's statement out of the law's def at the claim's caller -/
theorem walk_top {l : PySem.W.OpenLaw} {n : Nat} {q : Program} {loose : List Str} {XP : (Str → Option Value) → Heap → Prop} {YP : World → Heap → Prop} {d : DefRec} {K : Params → PySem.W.Frag} {R : List D → (D → Prop) → Prop} {x : Str} (hn : l.most = some n) (hn2 : n ≤ sizeLine) (hdf : d.params.defaults = [])
    (hY : ∀ (w : World) (h : Heap), YP w h → (K w.params).In h) (nl : ∀ w : World, noLs (K w.params) = true)
    (F : ∀ (w : World) (mg : Str → Option Value) (fa : Addr) (h : Heap), (K w.params).In h → h.Ns mainGlobals mg → mg d.name = some (.ref fa) →
      ∃ fd : FuncData, (∀ (s : Shared) (u : Value), BindsTo s fd ⟨[u], []⟩ [(x, u)]) ∧ ∀ base : Heap, (K w.params).In base → base.Ns mainGlobals mg → TopOk l.prog w (K w.params) mg base fa fd [x] (spP R))
    (hR : ∀ ns : List Int, ns.length ≤ n → R [.list (ns.map .int)] fun d => d = .bool true) : PySem.W.WalkO q loose XP YP l.row.toRowW d [] (fun f vs => PySem.call f vs) := by
  refine Att.attach_call hn hdf fun w s₀ s₁ mg mb fa o pm cd doc a vs ns G Y ho hd hcd hm hs hi hlen hg => ?_
  obtain ⟨fd, hb, hF⟩ := F w mg fa _ (hY w _ Y) G.T.g hm
  exact top_call (hY w _ Y) G.T.g G.T.b G.T.builtins G.T.nolimit hg hs hi (Nat.le_trans hlen hn2) (nl w) hF hb (hR ns hlen)
end
/-! ### repr of data -/
theorem textFrom_le : ∀ (ts : List Str) (k n : Nat) (acc : Str), (∀ t ∈ ts, t.length ≤ n) → (textFrom k acc ts).length ≤ acc.length + ts.length * (n + 2)
  | [], k, n, acc, _ => by
    show acc.length ≤ _
    omega
  | t :: r, k, n, acc, h => by
    have ih := textFrom_le r (k + 1) n (acc ++ (if k > 0 then ", " else "" : String) ++ t) fun u hu => h u (by simp [hu])
    have ht := h t (by simp)
    have hl : (acc ++ (if k > 0 then ", " else "" : String) ++ t : Str).length ≤ acc.length + 2 + t.length := by
      rw [Str.length_append, Str.length_append]
      by_cases c : k > 0
      · rw [if_pos c]
        have e : (Str.ofString ", ").length = 2 := by decide +kernel
        have e2 : (", " : Str).length = 2 := e
        omega
      · rw [if_neg c]
        have e : (Str.ofString "").length = 0 := by decide +kernel
        have e2 : ("" : Str).length = 0 := e
        omega
    show (textFrom (k + 1) (acc ++ (if k > 0 then ", " else "" : String) ++ t) r).length ≤ _
    rw [List.length_cons, Nat.succ_mul]
    omega
theorem listText_le {ts : List Str} {n : Nat} (h : ∀ t ∈ ts, t.length ≤ n) : (listText ts).length ≤ ts.length * (n + 2) + 2 := by
  unfold listText
  rw [Str.length_append]
  have q := textFrom_le ts 0 n "[" h
  have e1 : ("[" : Str).length = 1 := (by decide +kernel : (Str.ofString "[").length = 1)
  have e2 : ("]" : Str).length = 1 := (by decide +kernel : (Str.ofString "]").length = 1)
  omega
theorem piled_le : ∀ {ts : List Str} {n : Nat}, (∀ t ∈ ts, t.length ≤ n) → piled ts ≤ ts.length * (n + 2)
  | [], n, _ => by simp [piled]
  | t :: ts, n, h => by
    have h1 := h t (by simp)
    have h2 := piled_le (ts := ts) fun u hu => h u (by simp [hu])
    rw [piled_cons, List.length_cons, Nat.succ_mul]
    omega
theorem tupleText_le {ts : List Str} {n : Nat} (h : ∀ t ∈ ts, t.length ≤ n) : (tupleText ts).length ≤ ts.length * (n + 2) + 4 := by
  unfold tupleText
  rw [Str.length_append, Str.length_append]
  have e1 : ("(" : Str).length = 1 := (by decide +kernel : (Str.ofString "(").length = 1)
  have e2 : ((if ts.length == 1 then ",)" else ")" : String) : Str).length ≤ 2 := by
    split
    · exact (by decide +kernel : (Str.ofString ",)").length ≤ 2)
    · exact (by decide +kernel : (Str.ofString ")").length ≤ 2)
  have e3 : (Str.join ", " ts).length ≤ ts.length * (n + 2) := by
    cases ts with
    | nil =>
      have e : (Str.join (Str.ofString ", ") []).length = 0 := by decide +kernel
      have e' : (Str.join ", " []).length = 0 := e
      omega
    | cons t ts =>
      have q := join_length_add (t :: ts) (by simp)
      have p := piled_le h
      omega
  omega
/-- text that can be shown, of at most so many signs -/
structure Sh (n : Nat) (d : D) : Prop where
  sh : d.showable = true
  nd : d.hasDict = false
  ln : d.shown.length ≤ n
theorem sh_int {i : Int} (h : i.natAbs < 2 ^ 64) : Sh 2000 (.int i) where
  sh := by
    simp only [PyData.showable, decide_eq_true_eq]
    rcases Nat.eq_zero_or_pos i.natAbs with z | z
    · rw [z]; decide
    · exact Nat.lt_of_lt_of_le ((Nat.log2_lt (by omega)).mpr h) (by decide)
  nd := by simp only [PyData.hasDict]
  ln := by
    simp only [PyData.shown]
    refine Nat.le_trans (int_text_len_1921 ?_) (by decide)
    rcases Nat.eq_zero_or_pos i.natAbs with z | z
    · rw [z]; decide
    · exact Nat.lt_of_lt_of_le ((Nat.log2_lt (by omega)).mpr h) (by decide)
theorem sh_non : Sh 2000 .none := ⟨by simp only [PyData.showable], by simp only [PyData.hasDict], by simp only [PyData.shown]; decide +kernel⟩
theorem sh_all {n : Nat} : ∀ {ds : List D}, (∀ d ∈ ds, Sh n d) → PyData.showableAll ds = true ∧ PyData.hasDictAll ds = false ∧ (∀ t ∈ PyData.shownAll ds, t.length ≤ n) ∧ (PyData.shownAll ds).length = ds.length
  | [], _ => ⟨by simp only [PyData.showableAll], by simp only [PyData.hasDictAll], (fun t ht => by simp [PyData.shownAll] at ht), by simp [PyData.shownAll]⟩
  | d :: ds, h => by
    have h1 := h d (by simp)
    obtain ⟨a, b, c, e⟩ := sh_all (ds := ds) fun x hx => h x (by simp [hx])
    refine ⟨by simp only [PyData.showableAll, h1.sh, a, Bool.and_self], by simp only [PyData.hasDictAll, h1.nd, b, Bool.or_self], fun t ht => ?_, by simp [PyData.shownAll, e]⟩
    simp only [PyData.shownAll, List.mem_cons] at ht
    rcases ht with rfl | ht
    · exact h1.ln
    · exact c t ht
theorem sh_list {n m : Nat} {ds : List D} (h : ∀ d ∈ ds, Sh n d) (hm : ds.length ≤ m) : Sh (m * (n + 2) + 4) (.list ds) := by
  obtain ⟨a, b, c, e⟩ := sh_all h
  refine ⟨by simp only [PyData.showable]; exact a, by simp only [PyData.hasDict]; exact b, ?_⟩
  simp only [PyData.shown]
  have q := listText_le c
  rw [e] at q
  have q2 : ds.length * (n + 2) ≤ m * (n + 2) := Nat.mul_le_mul_right _ hm
  omega
theorem sh_tup {n m : Nat} {ds : List D} (h : ∀ d ∈ ds, Sh n d) (hm : ds.length ≤ m) : Sh (m * (n + 2) + 4) (.tuple ds) := by
  obtain ⟨a, b, c, e⟩ := sh_all h
  refine ⟨by simp only [PyData.showable]; exact a, by simp only [PyData.hasDict]; exact b, ?_⟩
  simp only [PyData.shown]
  have q := tupleText_le c
  rw [e] at q
  have q2 : ds.length * (n + 2) ≤ m * (n + 2) := Nat.mul_le_mul_right _ hm
  omega
theorem Sh.up {n m : Nat} {d : D} (h : Sh n d) (k : n ≤ m) : Sh m d := ⟨h.sh, h.nd, Nat.le_trans h.ln k⟩
theorem sh_map {α : Type} {n : Nat} {xs : List α} {f : α → D} (h : ∀ x ∈ xs, Sh n (f x)) : ∀ d ∈ xs.map f, Sh n d := fun d hd => by
  obtain ⟨x, hx, rfl⟩ := List.mem_map.mp hd
  exact h x hx
theorem sh_nil {n : Nat} : ∀ d ∈ ([] : List D), Sh n d := fun d h => by cases h
theorem sh_cons {n : Nat} {d : D} {ds : List D} (h : Sh n d) (hs : ∀ e ∈ ds, Sh n e) : ∀ e ∈ d :: ds, Sh n e := fun e he => by
  rcases List.mem_cons.mp he with rfl | he
  · exact h
  · exact hs e he
def rRepr (_ : PySem.W.Frag) : List V → Hp → VK → Prop := fun vs H Q => ∃ (F : Hp) (v : V) (d : D), vs = [v] ∧ Same F H ∧ Rp F v d ∧ Sh sizeLine d ∧ d.depth ≤ 60 ∧ Q (.str d.shown) H
theorem cb_repr {X : Cx} (hu : X.A.units + 64 < cLine) (hg : X.A.guards = some []) : CallR X (.builtin "repr") (rRepr X.K) := by
  rintro pins s σ H vs us Q I r ⟨F, v, d, rfl, e, rp, ⟨hs, hnd, hl⟩, hz, q⟩
  obtain ⟨u, rfl, ru⟩ := r.one
  obtain ⟨as, rd⟩ := rp_reads I e rp ru
  have disp : isDisplay d = true → wpAny (model X.prog X.w) X.A (call (.builtin "repr") [u]) (EP X pins σ Q) X.xe s := fun hd => by
    obtain ⟨a, rfl⟩ := isRef_of_reads rd hd
    exact repr_of_reads' rd hs (PyData.noDict_hsm hnd) hg (by omega) (fun _ _ e => e) (fun h' u tk hk => ⟨.str d.shown, H, I.kept hk, ⟨u, rfl⟩, q⟩) hl
  cases d with
  | none =>
    cases rp
    have ru : u = Value.none := ru
    subst ru
    simp only [PyData.shown] at q
    exact PySem.P.repr_of_none ⟨.str "None", H, I.tok _, ⟨_, rfl⟩, q⟩
  | bool b =>
    cases rp
    have ru : u = Value.bool b := ru
    subst ru
    simp only [PyData.shown] at q
    exact PySem.P.repr_of_bool ⟨.str _, H, I.tok _, ⟨_, rfl⟩, q⟩
  | int i =>
    cases rp
    obtain ⟨t, rfl⟩ := ru
    simp only [PyData.shown] at q
    simp only [PyData.showable, decide_eq_true_eq] at hs
    exact PySem.P.repr_of_int hs ⟨.str _, H, I.tok _, ⟨_, rfl⟩, q⟩
  | str x =>
    cases rp
    obtain ⟨t, rfl⟩ := ru
    simp only [PyData.shown] at q hl
    exact PySem.P.repr_of_str ⟨.str _, H, I.tok _, ⟨_, rfl⟩, q⟩ hl
  | list xs => exact disp rfl
  | tuple xs => exact disp rfl
  | dict xs => simp only [PyData.hasDict] at hnd; cases hnd
theorem cbd_repr {K : PySem.W.Frag} {d : D} {n : Nat} {Q : D → Prop} (h : Sh n d) (hn : n ≤ sizeLine) (hz : d.depth ≤ 60) (k : Q (.str d.shown)) : CbD (rRepr K) [d] Q := fun F H vs e r Z z => by
  obtain ⟨v, rfl, rv⟩ := r.one
  exact ⟨F, v, d, rfl, e, rv, h.up hn, hz, z _ _ F H k (Gr.refl e) (.str _)⟩
end Pu
/-! PuD: the drawing state of the laws k00 .. k45: a list of two ints, read and written by its owner -/
namespace Pu
open PySem L2
section
variable {ρ : Pu.Env} {te : TE} {K : PySem.W.Frag} {Q : D → Pu.Env → Prop} {P : Po} {i : Nat}
theorem WA.stp {B : Base} {ad : Nat → List Addr} {σ : St} {F H F' H' : Hp} {s : Addr} {S S' : Stt} (w : WA B ad ρ σ F H) (h1 : ρ[i]? = some (.st S)) (k0 : σ[i]? = some (some (.ref s))) (g : Gr (· ∈ ad i) F H F' H') (st : StAt H' S' s (ad i)) (fn : ∀ a ∈ ad i, F' a = none) : WA B ad (ρ.set i (.st S')) σ F' H' := by
  have nm : ∀ j a, j ≠ i → a ∈ ad j → a ∉ ad i := fun j a hj m m' => hj (w.dj j i a m m')
  refine ⟨⟨w.gr.ff.trans g.ff, g.fh, fun a o e m => g.kp a o (w.gr.kp a o e m) fun z => ?_, fun a e => g.al a (w.gr.al a e), fun a e z => g.fr a (w.gr.al a e) (w.gr.fr a e z)⟩, by rw [List.length_set]; exact w.len, fun j sl e => ?_, fun j a m => ⟨?_, (w.fz j a m).2⟩, w.dj, fun j e => w.out j (get_set' e), w.pin.to fun S2 e => by
    rcases get_set e with ⟨e0, _⟩ | ⟨hj, e⟩
    · exact ⟨⟨S, by rw [e0]; exact h1⟩, rfl, rfl⟩
    · exact ⟨⟨S2, e⟩, rfl, rfl⟩⟩
  · rcases (w.fz i a z).2 with q | q
    · rw [q] at e; cases e
    · exact m q.1
  · rcases get_set e with ⟨rfl, rfl⟩ | ⟨hj, e⟩
    · exact ⟨s, k0, st⟩
    · have k := w.sl j sl e
      cases sl with
      | emp => exact k
      | val d =>
        obtain ⟨k, v, e, r⟩ := k
        exact ⟨k, v, e, r.up g.ff⟩
      | own es =>
        obtain ⟨q, ws, a1, a2, a3, a4, a5⟩ := k
        exact ⟨q, ws, a1, a2, a3, g.kp q _ a4 (nm j q hj (by rw [a1]; simp)), a5.up g.ff⟩
      | st S2 =>
        obtain ⟨s2, a1, a2⟩ := k
        exact ⟨s2, a1, a2.keep fun a m o e => g.kp a o e (nm j a hj m)⟩
  · by_cases hj : j = i
    · subst hj; exact fn a m
    · exact g.fr a (w.lv m) (w.fz j a m).1
/-- a fresh list of two ints is the state from now on -/
theorem W.toTwo {B : Base} {σ : St} {F H : Hp} {a b : Int} (h00 : i ≠ 0) (h : ρ[i]? = some (.own [.int a, .int b])) (w : W B ρ σ F H) : W B (ρ.set i (.st (.two a b))) σ F H := by
  obtain ⟨ad, w⟩ := w
  obtain ⟨p, vs, hp, a1, a2, a3, rr⟩ := w.sl i _ h
  obtain ⟨u, v, rfl, r1, r2⟩ := rr.two
  have e1 := r1.int_inv
  have e2 := r2.int_inv
  subst e1 e2
  refine ⟨ad, w.gr, by rw [List.length_set]; exact w.len, fun j sl e => ?_, w.fz, w.dj, fun j e => w.out j (get_set' e), w.pin.to fun S2 e => by
    rcases get_set e with ⟨e0, _⟩ | ⟨hj, e⟩
    · exact absurd e0.symm h00
    · exact ⟨⟨S2, e⟩, rfl, rfl⟩⟩
  rcases get_set e with ⟨rfl, rfl⟩ | ⟨hj, e⟩
  · exact ⟨p, a2, hp, a3⟩
  · exact w.sl j sl e
theorem sx_toTwo {t : TS} {a b : Int} (h00 : i ≠ 0) (h : ρ[i]? = some (.own [.int a, .int b])) (k : SX t (ρ.set i (.st (.two a b))) P) : SX t ρ P := fun B σ F H w Dn n r bk c => k B σ F H (W.toTwo h00 h w) Dn n r bk c
theorem ex_st0 {a b : Int} (h : ρ[i]? = some (.st (.two a b))) (q : Q (.int a) ρ) : EX (tOp (rIxA K) (tVar i) (tC (.int 0))) ρ Q := fun B ad σ F H w Z z => by
  obtain ⟨s, k0, _, hs⟩ := w.sl i _ h
  exact ⟨_, k0, .inl ⟨s, [.int a, .int b], 0, .int a, rfl, rfl, .inl (.inl hs), rfl, z (.int a) ρ (.int a) F H q (Post.refl w) (.int a)⟩⟩
theorem ex_st1 {a b : Int} (h : ρ[i]? = some (.st (.two a b))) (q : Q (.int b) ρ) : EX (tOp (rIxA K) (tVar i) (tC (.int 1))) ρ Q := fun B ad σ F H w Z z => by
  obtain ⟨s, k0, _, hs⟩ := w.sl i _ h
  exact ⟨_, k0, .inl ⟨s, [.int a, .int b], 1, .int b, rfl, rfl, .inl (.inl hs), rfl, z (.int b) ρ (.int b) F H q (Post.refl w) (.int b)⟩⟩
theorem two_grow {F H : Hp} {s : Addr} {a b c d : Int} {as : List Addr} (ha : as = [s]) (fh : Same F H) (hs : H s = some (.lst [.int a, .int b])) (fn : ∀ x ∈ as, F x = none) : Gr (· ∈ as) F H F (upd H s (.lst [.int c, .int d])) := by
  subst ha
  have fs := fn s (by simp)
  refine ⟨Same.refl F, fun x o e => ?_, fun x o e m => ?_, fun x e => ?_, fun _ _ z => z⟩
  · have ne : x ≠ s := fun q => by rw [q, fs] at e; cases e
    rw [upd_ne ne]; exact fh x o e
  · rw [upd_ne (fun q => m (by simp [q]))]; exact e
  · by_cases q : x = s
    · rw [q, upd_same]; intro z; cases z
    · rw [upd_ne q]; exact e
theorem sx_st0 (h : EX te ρ fun d ρ1 => ∃ v a b, d = .int v ∧ ρ1[i]? = some (.st (.two a b)) ∧ NX P (ρ1.set i (.st (.two v b)))) : SX (tAsg te (gSub (tVar i) (tC (.int 0)) rSetL)) ρ P := fun B σ F H w Dn n r bk c => by
  obtain ⟨ad, w⟩ := w
  refine h B ad σ F H w _ fun d ρ1 v F1 H1 q1 p1 r1 => ?_
  obtain ⟨x, a, b, rfl, h1, ρ', l, q⟩ := q1
  have ev := r1.int_inv
  subst ev
  obtain ⟨s, k0, as, hs⟩ := p1.wa.sl i _ h1
  have g := two_grow (c := x) (d := b) as p1.wa.gr.fh hs fun y hy => (p1.wa.fz i y hy).1
  exact ⟨_, k0, s, [.int a, .int b], 0, 0, rfl, rfl, hs, rfl, n ρ' σ F1 _ q (W.weak ⟨ad, p1.wa.stp (S' := .two x b) h1 k0 g ⟨as, upd_same⟩ fun y hy => (p1.wa.fz i y hy).1⟩ l)⟩
theorem sx_st1 (h : EX te ρ fun d ρ1 => ∃ v a b, d = .int v ∧ ρ1[i]? = some (.st (.two a b)) ∧ NX P (ρ1.set i (.st (.two a v)))) : SX (tAsg te (gSub (tVar i) (tC (.int 1)) rSetL)) ρ P := fun B σ F H w Dn n r bk c => by
  obtain ⟨ad, w⟩ := w
  refine h B ad σ F H w _ fun d ρ1 v F1 H1 q1 p1 r1 => ?_
  obtain ⟨x, a, b, rfl, h1, ρ', l, q⟩ := q1
  have ev := r1.int_inv
  subst ev
  obtain ⟨s, k0, as, hs⟩ := p1.wa.sl i _ h1
  have g := two_grow (c := a) (d := x) as p1.wa.gr.fh hs fun y hy => (p1.wa.fz i y hy).1
  exact ⟨_, k0, s, [.int a, .int b], 1, 1, rfl, rfl, hs, rfl, n ρ' σ F1 _ q (W.weak ⟨ad, p1.wa.stp (S' := .two a x) h1 k0 g ⟨as, upd_same⟩ fun y hy => (p1.wa.fz i y hy).1⟩ l)⟩
end
def T_draw (K : PySem.W.Frag) : TS :=
    (tSeq (tIfS (tTest (tOp (rEqP K) (tOp (rIxA K) (tVar 0) (tC (.int 1))) (tC (.int 0))))
      (tSeq (tAsg (tC (.int 0)) (gName 3))
    (tSeq (tIfS (tTest (tOp (rI0 fun i j => .bl (decide (j < i))) (tCB (rLen K) (tCons (tVar 1) tNil)) (tC (.int 0))))
      (tAsg (tOp (rIxA K) (tVar 1) (tOp (rI (fun _ j => 0 < j) fun i j => .int (i % j)) (tOp (rIxA K) (tVar 0) (tC (.int 0))) (tCB (rLen K) (tCons (tVar 1) tNil)))) (gName 3))
      tNext)
    (tSeq (tIfS (tTest (tOp (rI0 fun i j => .bl (decide (i < j))) (tVar 3) (tC (.int 0))))
      (tAsg (tOp (rI0 fun i j => .int (i - j)) (tC (.int 1)) (tOp (rI CMul fun i j => .int (i * j)) (tC (.int 2)) (tVar 3))) (gName 3))
      tNext)
    (tSeq (tAsg (tOp (rI (fun _ j => 0 < j) fun i j => .int (i % j)) (tCB (rInt) (tCons (tOp (rI CMul fun i j => .int (i * j)) (tOp (rPlus K) (tOp (rPlus K) (tVar 3) (tOp (rI CMul fun i j => .int (i * j)) (tOp (rIxA K) (tVar 0) (tC (.int 0))) (tC (.int 7919)))) (tC (.int 1))) (tC (.int 48271))) tNil)) (tC (.int 2147483647))) (gName 4))
    (tSeq (tAsg (tOp (rI (fun _ j => 0 < j) fun i j => .int (i % j)) (tCB (rInt) (tCons (tOp (rPlus K) (tOp (rI CMul fun i j => .int (i * j)) (tVar 4) (tC (.int 69621))) (tOp (rI CMul fun i j => .int (i * j)) (tOp (rIxA K) (tVar 0) (tC (.int 0))) (tC (.int 104729)))) tNil)) (tC (.int 4294967291))) (gSub (tVar 0) (tC (.int 1)) rSetL))
    (tSeq (tIfS (tAnd (tTest (tOp (rI0 fun i j => .bl (decide (j ≤ i))) (tVar 3) (tOp (rI CPow fun i j => .int (i ^ j.toNat)) (tC (.int 10)) (tC (.int 18))))) (tTest (tOp (rI0 fun i j => .bl (decide (i < j))) (tOp (rIxA K) (tVar 0) (tC (.int 0))) (tCB (rLen K) (tCons (tVar 1) tNil)))))
      (tAsg (tVar 3) (gSub (tVar 0) (tC (.int 1)) rSetL))
      tNext)
    (tAsg (tOp (rPlus K) (tOp (rIxA K) (tVar 0) (tC (.int 0))) (tC (.int 1))) (gSub (tVar 0) (tC (.int 0)) rSetL))))))))
      tNext)
    (tSeq (tAsg (tOp (rI (fun _ j => 0 < j) fun i j => .int (i % j)) (tCB (rInt) (tCons (tOp (rIxA K) (tVar 0) (tC (.int 1))) tNil)) (tVar 2)) (gName 5))
    (tSeq (tAsg (tOp (rI CDiv fun i j => .int (i / j)) (tOp (rIxA K) (tVar 0) (tC (.int 1))) (tVar 2)) (gSub (tVar 0) (tC (.int 1)) rSetL))
    (tRet (tVar 5)))))
def T_dr3 (K : PySem.W.Frag) : TS :=
    (tSeq (tAsg (tOp (rI (fun _ j => 0 < j) fun i j => .int (i % j)) (tCB (rInt) (tCons (tOp (rIxA K) (tVar 0) (tC (.int 1))) tNil)) (tVar 2)) (gName 5))
    (tSeq (tAsg (tOp (rI CDiv fun i j => .int (i / j)) (tOp (rIxA K) (tVar 0) (tC (.int 1))) (tVar 2)) (gSub (tVar 0) (tC (.int 1)) rSetL))
    (tRet (tVar 5))))
def T_dr4 (K : PySem.W.Frag) : TS :=
    (tSeq (tAsg (tOp (rI (fun _ j => 0 < j) fun i j => .int (i % j)) (tCB (rInt) (tCons (tOp (rI CMul fun i j => .int (i * j)) (tOp (rPlus K) (tOp (rPlus K) (tVar 3) (tOp (rI CMul fun i j => .int (i * j)) (tOp (rIxA K) (tVar 0) (tC (.int 0))) (tC (.int 7919)))) (tC (.int 1))) (tC (.int 48271))) tNil)) (tC (.int 2147483647))) (gName 4))
    (tSeq (tAsg (tOp (rI (fun _ j => 0 < j) fun i j => .int (i % j)) (tCB (rInt) (tCons (tOp (rPlus K) (tOp (rI CMul fun i j => .int (i * j)) (tVar 4) (tC (.int 69621))) (tOp (rI CMul fun i j => .int (i * j)) (tOp (rIxA K) (tVar 0) (tC (.int 0))) (tC (.int 104729)))) tNil)) (tC (.int 4294967291))) (gSub (tVar 0) (tC (.int 1)) rSetL))
    (tSeq (tIfS (tAnd (tTest (tOp (rI0 fun i j => .bl (decide (j ≤ i))) (tVar 3) (tOp (rI CPow fun i j => .int (i ^ j.toNat)) (tC (.int 10)) (tC (.int 18))))) (tTest (tOp (rI0 fun i j => .bl (decide (i < j))) (tOp (rIxA K) (tVar 0) (tC (.int 0))) (tCB (rLen K) (tCons (tVar 1) tNil)))))
      (tAsg (tVar 3) (gSub (tVar 0) (tC (.int 1)) rSetL))
      tNext)
    (tAsg (tOp (rPlus K) (tOp (rIxA K) (tVar 0) (tC (.int 0))) (tC (.int 1))) (gSub (tVar 0) (tC (.int 0)) rSetL)))))
def T_dr2 (K : PySem.W.Frag) : TS :=
    (tSeq (tIfS (tTest (tOp (rI0 fun i j => .bl (decide (i < j))) (tVar 3) (tC (.int 0))))
      (tAsg (tOp (rI0 fun i j => .int (i - j)) (tC (.int 1)) (tOp (rI CMul fun i j => .int (i * j)) (tC (.int 2)) (tVar 3))) (gName 3))
      tNext)
    (T_dr4 K))
def Ok2 : Stt → Prop
  | .two a b => 0 ≤ a ∧ 0 ≤ b
  | _ => False
def R_draw : Stt → List D → (D → Stt → Prop) → Prop := fun S ds Z => ∃ (ns : List Int) (m : Int), ds = [.list (ns.map .int), .int m] ∧ (1 ≤ m ∧ m < 1073741824) ∧ Ok2 S ∧ ∀ (r : Int) (S' : Stt), 0 ≤ r → r < m → Ok2 S' → Z (.int r) S'
local macro_rules | `(tactic| walk_at "e") => `(tactic| first
  | ((with_reducible refine nx_seq ?_); (try dsimp only [List.set_cons_succ, List.set_cons_zero]))
  | ((with_reducible refine ex_vr ?_); dsimp only [VQ, List.set_cons_succ, List.set_cons_zero, List.getElem?_cons_zero, List.getElem?_cons_succ]; (fail_if_success (with_reducible show False)))
  | (with_reducible refine sx_seq ?_)
  | (with_reducible refine sx_if ?_)
  | (with_reducible refine sx_next ?_)
  | (with_reducible refine sx_ret ?_)
  | ((fail_if_success (with_reducible refine sx_asgO (eo_lst ?_))); (with_reducible refine sx_asg ?_))
  | (with_reducible refine ex_int ?_)
  | (with_reducible refine ex_str ?_)
  | (with_reducible refine ex_bl ?_)
  | (with_reducible refine ex_non ?_)
  | (with_reducible refine ex_op ?_)
  | (with_reducible refine ex_un ?_)
  | (with_reducible refine ex_chain ?_)
  | (with_reducible refine ex_call ?_)
  | (with_reducible refine ex_isT ?_)
  | (with_reducible refine ex_cb ?_)
  | (with_reducible refine ex_sl ?_)
  | (with_reducible refine ex_tup ?_)
  | (with_reducible refine ex_if ?_)
  | (with_reducible refine ex_of (eo_lst ?_))
  | (with_reducible refine ex_notV ?_)
  | (with_reducible refine ea_nil ?_)
  | (with_reducible refine ea_cons ?_)
  | (with_reducible refine ep_no ?_)
  | (with_reducible refine ep_some ?_)
  | (with_reducible refine et_test ?_)
  | (with_reducible refine et_B ?_)
  | (with_reducible refine et_and ?_)
  | (with_reducible refine et_or ?_)
  | (with_reducible refine et_not ?_)
  | (with_reducible refine et_yes ?_)
  | (with_reducible refine opd_plusI ?_)
  | (with_reducible refine opd_I0 ?_)
  | (with_reducible refine opd_B0 ?_)
  | (with_reducible refine opd_eqI ?_)
  | (with_reducible refine opd_neI ?_)
  | (with_reducible refine opd_eqS ?_)
  | (with_reducible refine opd_neS ?_)
  | (with_reducible refine opd_is ?_)
  | (with_reducible refine opd_isnt ?_)
  | (with_reducible refine opd_ixT rfl ?_)
  | (with_reducible refine opd_ixL rfl ?_)
  | (with_reducible refine und_neg ?_)
  | (with_reducible refine cbd_lenL ?_)
  | (with_reducible refine cbd_lenT ?_)
  | (with_reducible refine cbd_min2 ?_)
  | (with_reducible refine cbd_max2 ?_)
  | (with_reducible refine cbd_abs ?_)
  | (with_reducible refine cbd_int ?_)
  | (with_reducible refine cbd_tupL ?_)
  | (with_reducible refine cbd_listL ?_)
  | (with_reducible refine cbd_listT ?_)
  | (with_reducible refine cbd_sum ?_)
  | (with_reducible refine sld_T ?_)
  | (with_reducible refine sld_L ?_)
  | (with_reducible refine ex_revL ?_)
  | (with_reducible refine ex_bmL ?_)
  | (with_reducible refine ex_andV ?_)
  | (with_reducible refine ei_list ?_)
  | (with_reducible refine ei_rng1 ?_)
  | (with_reducible refine ei_rng2 ?_)
  | (with_reducible refine ei_enum ?_)
  | (with_reducible refine ei_enumT ?_)
  | (with_reducible refine ei_zip ?_)
  | (with_reducible refine sx_par ?_)
  | (with_reducible refine Exists.intro _ (And.intro rfl ?_))
  | (with_reducible refine Exists.intro _ (Exists.intro _ (And.intro rfl ?_)))
  | ((with_reducible show EX (tCall (spS _) [] _ (tCons (tVar _) _)) _ _); refine ex_callS rfl ?_)
  | ((with_reducible refine And.intro (show (_ : Nat) ≤ 100000 from ?_) ?_); (focus (simp; done)))
  | ((with_reducible refine opd_I ?_ ?_); focus (first | omega | (show CDiv _ _; exact ⟨by omega, by omega⟩) | (show CMul _ _; first | exact Or.inl ⟨by omega, by omega⟩ | exact Or.inr ⟨by omega, by omega⟩))))
local macro_rules | `(tactic| walk_at "es") => `(tactic| repeat walk_at "e")
local macro_rules | `(tactic| walk_at "w") => `(tactic| try dsimp only [wipeE, List.foldl_cons, List.foldl_nil, List.set_cons_succ, List.set_cons_zero])
local macro_rules | `(tactic| walk_at "le") => `(tactic| repeat' first | exact LeE.nil | (refine LeE.eq rfl ?_) | (refine LeE.emp ?_) | (refine LeE.eq ?_ ?_))
local macro_rules | `(tactic| walk_at "no") => `(tactic| ((refine And.intro (fun hb => absurd hb ?_) (fun _ => ?_)); (focus (first | (exact Bool.false_ne_true) | (simp; done) | (simp; omega) | (simp only [decide_eq_true_eq]; omega)))))
local macro_rules | `(tactic| walk_at "yes") => `(tactic| ((refine And.intro (fun _ => ?_) (fun hb => absurd hb ?_)); (rotate_left); (focus (first | (exact Bool.noConfusion) | (simp; done) | (simp; omega) | (simp only [decide_eq_false_iff_not]; omega)))))
local macro_rules | `(tactic| walk_at "e") => `(tactic| first
  | ((with_reducible show EX (tOp (rIxA _) (tVar 0) (tC (.int 0))) _ _); refine ex_st0 rfl ?_)
  | ((with_reducible show EX (tOp (rIxA _) (tVar 0) (tC (.int 1))) _ _); refine ex_st1 rfl ?_))
theorem sx_draw (K : PySem.W.Frag) (S : Stt) (ds : List D) (Z : D → Stt → Prop) (h : R_draw S ds Z) :
    SX (T_draw K) (.st S :: (ds.map .val ++ List.replicate (6 - (ds.length + 1)) .emp)) { nx := fun ρ' => ∃ S', ρ'[0]? = some (.st S') ∧ Z .none S', rt := fun d ρ' => ∃ S', ρ'[0]? = some (.st S') ∧ Z d S' } := by
  obtain ⟨ns, m, rfl, ⟨m1, m2⟩, ok, z⟩ := h
  cases S with
  | cel a cs => exact ok.elim
  | dct kvs => exact ok.elim
  | grd rows => exact ok.elim
  | two a b =>
  obtain ⟨a0, b0⟩ := ok
  show SX (T_draw K) [.st (.two a b), .val (.list (ns.map .int)), .val (.int m), .emp, .emp, .emp] _
  have fin : ∀ (a b : Int) (s3 s4 : Slot), 0 ≤ a → 0 ≤ b → SX (T_dr3 K) [.st (.two a b), .val (.list (ns.map .int)), .val (.int m), s3, s4, .emp] { nx := fun ρ' => ∃ S', ρ'[0]? = some (.st S') ∧ Z .none S', rt := fun d ρ' => ∃ S', ρ'[0]? = some (.st S') ∧ Z d S' } := fun a b s3 s4 a0 b0 => by
    unfold T_dr3
    refine sx_seq (sx_asg (ex_op (ex_cb (ea_cons (ex_st1 rfl (ea_nil (cbd_int ?_)))))))
    walk_at "es"
    refine sx_st1 (ex_op (ex_st1 rfl ?_))
    walk_at "es"
    refine ⟨_, a, b, rfl, rfl, ?_⟩
    walk_at "es"
    exact z _ _ (Int.emod_nonneg _ (by omega)) (Int.emod_lt_of_pos _ (by omega)) ⟨a0, Int.ediv_nonneg b0 (by omega)⟩
  have fill : ∀ (cell : Int), SX (T_dr4 K) [.st (.two a b), .val (.list (ns.map .int)), .val (.int m), .val (.int cell), .emp, .emp] (({ nx := fun ρ' => ∃ S', ρ'[0]? = some (.st S') ∧ Z .none S', rt := fun d ρ' => ∃ S', ρ'[0]? = some (.st S') ∧ Z d S' } : Po).seq (T_dr3 K)) := fun cell => by
    unfold T_dr4
    walk_at "es"
    have v0 : ∀ x : Int, 0 ≤ x % 4294967291 := fun x => Int.emod_nonneg _ (by decide)
    refine sx_st1 ?_
    walk_at "es"
    refine ⟨_, a, b, rfl, rfl, ?_⟩
    walk_at "es"
    have last : ∀ (b' : Int) (s4 : Slot), 0 ≤ b' → SX (tAsg (tOp (rPlus K) (tOp (rIxA K) (tVar 0) (tC (.int 0))) (tC (.int 1))) (gSub (tVar 0) (tC (.int 0)) rSetL)) [.st (.two a b'), .val (.list (ns.map .int)), .val (.int m), .val (.int cell), s4, .emp] (({ nx := fun ρ' => ∃ S', ρ'[0]? = some (.st S') ∧ Z .none S', rt := fun d ρ' => ∃ S', ρ'[0]? = some (.st S') ∧ Z d S' } : Po).seq (T_dr3 K)) := fun b' s4 hb' => by
      refine sx_st0 ?_
      walk_at "es"
      refine ⟨_, a, b', rfl, rfl, ?_⟩
      exact nx_seq (fin _ _ _ _ (by omega) hb')
    refine opd_I (C := CPow) ⟨by decide, by decide, by decide⟩ ?_
    walk_at "es"
    refine ⟨fun hc => ?_, fun hc => ?_⟩
    · have hc := of_decide_eq_true hc
      have h18 : (0 : Int) ≤ 10 ^ (18 : Int).toNat := by decide
      walk_at "es"
      refine ⟨fun hd => ?_, fun hd => ?_⟩
      · refine sx_st1 ?_
        walk_at "es"
        refine ⟨_, a, _, rfl, rfl, ?_⟩
        exact nx_seq (last _ _ (by omega))
      · exact sx_next (nx_seq (last _ _ (v0 _)))
    · refine ⟨(fun q => by cases q), fun _ => ?_⟩
      exact sx_next (nx_seq (last _ _ (v0 _)))
  have second : ∀ (cell : Int), SX (T_dr2 K) [.st (.two a b), .val (.list (ns.map .int)), .val (.int m), .val (.int cell), .emp, .emp] (({ nx := fun ρ' => ∃ S', ρ'[0]? = some (.st S') ∧ Z .none S', rt := fun d ρ' => ∃ S', ρ'[0]? = some (.st S') ∧ Z d S' } : Po).seq (T_dr3 K)) := fun cell => by
    unfold T_dr2
    refine sx_seq (sx_if (et_test (ex_op ?_)))
    walk_at "es"
    refine ⟨fun hc => ?_, fun hc => ?_⟩
    · refine sx_asg (ex_op (ex_int (ex_op (ex_int ?_))))
      walk_at "es"
      exact fill _
    · exact sx_next (nx_seq (fill _))
  unfold T_draw
  walk_at "es"
  refine ⟨fun hb => ?_, fun hb => ?_⟩
  · walk_at "es"
    refine ⟨fun hc => ?_, fun hc => ?_⟩
    · have hc := of_decide_eq_true hc
      rw [List.length_map] at hc
      refine sx_asg (ex_op ?_)
      walk_at "es"
      rw [List.length_map]
      refine opd_I (C := fun _ j => 0 < j) hc ?_
      refine opd_ixM 0 (Int.emod_nonneg _ (by omega)) (Int.emod_lt_of_pos _ hc) ?_
      exact nx_seq (second _)
    · exact sx_next (nx_seq (second _))
  · exact sx_next (nx_seq (fin _ _ _ _ a0 b0))
end Pu
/-! Comprehensions of two clauses over data. -/
namespace Pu
open PySem L2
section
variable {B : Base} {ad : Nat → List Addr} {ρ ρ' : Pu.Env} {σ : St} {F H F' H' F1 H1 : Hp}
theorem WA.updD (w : WA B ad ρ σ F H) {p : Addr} {o : HO} (nb : B.H0 p = none) (nad : ∀ i, p ∉ ad i) (hF : F p = none) : WA B ad ρ σ F (upd H p o) := by
  have neF : ∀ a o, F a = some o → a ≠ p := fun a o q z => by rw [z, hF] at q; cases q
  refine ⟨⟨w.gr.ff, fun a o q => by rw [upd_ne (neF a o q)]; exact w.gr.fh a o q, fun a o q m => ?_, fun a q => ?_, w.gr.fr⟩, w.len, fun j s q => ?_, w.fz, w.dj, w.out, w.pin⟩
  · rw [upd_ne (fun z => by rw [z, nb] at q; cases q)]
    exact w.gr.kp a o q m
  · by_cases ha : a = p
    · rw [ha, upd_same]; intro z; cases z
    · rw [upd_ne ha]; exact w.gr.al a q
  · have k := w.sl j s q
    cases s with
    | emp => exact k
    | val d => exact k
    | own es =>
      obtain ⟨p', ws, a1, a2, a3, a4, a5⟩ := k
      refine ⟨p', ws, a1, a2, a3, ?_, a5⟩
      rw [upd_ne (fun z => nad j (by rw [a1, z]; simp))]
      exact a4
    | st S =>
      obtain ⟨s, a1, a2⟩ := k
      exact ⟨s, a1, a2.keep fun a m o e => by
        rw [upd_ne (fun z => nad j (by rw [← z]; exact m))]
        exact e⟩
theorem Post.updD (pt : Post B ad σ ρ F1 H1 ρ' F H) {p : Addr} {o : HO} (hD : H1 p = none) (nb : B.H0 p = none) (nad : ∀ i, p ∉ ad i) (hF : F p = none) : Post B ad σ ρ F1 H1 ρ' F (upd H p o) := by
  have ne1 : ∀ a o, H1 a = some o → a ≠ p := fun a o q z => by rw [z, hD] at q; cases q
  have neF : ∀ a o, F a = some o → a ≠ p := fun a o q z => by rw [z, hF] at q; cases q
  refine ⟨pt.wa.updD nb nad hF, ⟨pt.gr.ff, fun a o q => by rw [upd_ne (neF a o q)]; exact pt.gr.fh a o q, fun a o q m => by rw [upd_ne (ne1 a o q)]; exact pt.gr.kp a o q m, fun a q => ?_, pt.gr.fr⟩, pt.sh⟩
  by_cases ha : a = p
  · rw [ha, upd_same]; intro z; cases z
  · rw [upd_ne ha]; exact pt.gr.al a q
end
/-- a value's truth as a test -/
def tTru (K : PySem.W.Frag) (te : TE) : TT := fun σ H Q => te σ H fun x H' => ∃ k, TruV K x H' k ∧ Q k H'
theorem pt_tru {X : Cx} {a : Expr} {te : TE} (h : PT X a (fun σ H Q => te σ H fun x H' => ∃ k, TruV X.K x H' k ∧ Q k H')) : PT X a (tTru X.K te) := h
theorem et_truL {K : PySem.W.Frag} {ρ : Pu.Env} {te : TE} {Q : Bool → Pu.Env → Prop} (h : EX te ρ fun d ρ1 => ∃ ds, d = .list ds ∧ Q (!ds.isEmpty) ρ1) : ET (tTru K te) ρ Q := fun B ad σ F H w Z z =>
  h B ad σ F H w _ fun d ρ1 v F1 H1 q1 p1 r1 => by
    obtain ⟨ds, rfl, q⟩ := q1
    obtain ⟨a, xs, rfl, h1, h2⟩ := r1.lst_inv
    refine ⟨!ds.isEmpty, .inl ⟨xs, sqL_rd h1 p1.wa.gr.fh, ?_⟩, z _ ρ1 F1 H1 q p1⟩
    have e := h2.len
    cases xs <;> cases ds <;> simp at e <;> rfl
section
variable {ρ : Pu.Env} {wi wi1 : TI} {g g1 : TG} {tt tt1 : TT} {te : TE}
def lc2L {α β : Type} (f : α → Bool) (ys : α → List β) (f1 : α → β → Bool) (gg : α → β → D) (xs : List α) : List D := (xs.filter f).flatMap fun x => ((ys x).filter (f1 x)).map (gg x)
theorem lc2L_snoc {α β : Type} {f : α → Bool} {ys : α → List β} {f1 : α → β → Bool} {gg : α → β → D} {xs : List α} {x : α} : lc2L f ys f1 gg (xs ++ [x]) = lc2L f ys f1 gg xs ++ (if f x = true then ((ys x).filter (f1 x)).map (gg x) else []) := by
  unfold lc2L
  rw [List.filter_append, List.flatMap_append]
  cases h : f x <;> simp [List.filter_cons, h]
theorem lc2L_le {α β : Type} {f : α → Bool} {ys : α → List β} {f1 : α → β → Bool} {gg : α → β → D} {xs : List α} {k : Nat} {x : α} (hx : xs[k]? = some x) (hf : f x = true) (j : Nat) :
    (lc2L f ys f1 gg (xs.take k) ++ (((ys x).take j).filter (f1 x)).map (gg x)).length ≤ (lc2L f ys f1 gg xs).length := by
  have hk : k < xs.length := (List.getElem?_eq_some_iff.mp hx).1
  have e : xs = xs.take k ++ [x] ++ xs.drop (k + 1) := by
    have h1 : xs.take k ++ [x] = xs.take (k + 1) := by rw [List.take_add_one, hx]; rfl
    rw [h1, List.take_append_drop]
  have e2 : lc2L f ys f1 gg xs = lc2L f ys f1 gg (xs.take k) ++ (((ys x).filter (f1 x)).map (gg x) ++ lc2L f ys f1 gg (xs.drop (k + 1))) := by
    conv => lhs; rw [e]
    have : lc2L f ys f1 gg (xs.take k ++ [x] ++ xs.drop (k + 1)) = lc2L f ys f1 gg (xs.take k ++ [x]) ++ lc2L f ys f1 gg (xs.drop (k + 1)) := by
      unfold lc2L; rw [List.filter_append, List.flatMap_append]
    rw [this, lc2L_snoc, if_pos hf, List.append_assoc]
  rw [e2]
  simp only [List.length_append, List.length_map]
  have : (((ys x).take j).filter (f1 x)).length ≤ ((ys x).filter (f1 x)).length := (List.Sublist.filter _ (List.take_sublist _ _)).length_le
  omega
/-- [e for target in .. if .. for target1 in .. if ..], nothing changes -/
theorem eo_lc2P {α β : Type} {vs vs1 : List Nat} {Q : List D → Pu.Env → Prop} (f : α → Bool) (ys : α → List β) (f1 : α → β → Bool) (enc1 : α → β → D) (gg : α → β → D) (h : EI wi ρ fun ds ρ1 => ∃ (xs : List α) (enc : α → D), ds = xs.map enc ∧ (lc2L f ys f1 gg xs).length < 1000000 ∧ Plain ρ1 vs ∧
    (∀ x ∈ xs, SG vs g (enc x) (wipeE ρ1 vs) fun ρ2 => unw vs ρ1 ρ2 = ρ1 ∧ Plain ρ2 vs1 ∧ ET tt ρ2 fun b ρ3 => b = f x ∧ ρ3 = ρ2 ∧ (f x = true → EI wi1 ρ2 fun ds1 ρ4 => ds1 = (ys x).map (enc1 x) ∧ ρ4 = ρ2 ∧
      ∀ y ∈ ys x, SG vs1 g1 (enc1 x y) (wipeE ρ2 vs1) fun ρ5 => unw vs1 ρ2 ρ5 = ρ2 ∧ ET tt1 ρ5 fun b ρ6 => b = f1 x y ∧ ρ6 = ρ5 ∧ (f1 x y = true → EX te ρ5 fun e ρ7 => e = gg x y ∧ ρ7 = ρ5))) ∧ Q (lc2L f ys f1 gg xs) ρ1) : EO (tLc2 wi g tt wi1 g1 tt1 te vs vs1) ρ Q := fun B ad σ F H w Z z => by
  refine h B ad σ F H w _ fun ds ρ1 J F1 H1 q1 p1 it => ?_
  obtain ⟨xs, enc, rfl, hz, pl, turn, done⟩ := q1
  intro Dl hD
  have hDH : H Dl = none := by
    cases q : H Dl with
    | none => rfl
    | some o => exact absurd hD (p1.gr.al Dl (by rw [q]; intro z; cases z))
  have nw := p1.wa.newp hD
  have nms : ∀ (ρ2 : Pu.Env), ¬ MS ad ρ2 Dl := fun ρ2 ⟨j, S, _, m⟩ => nw.2.2 j m
  let Inv := fun (i : Nat) (H' : Hp) => ∃ F' vs', Post B ad σ ρ1 F1 H1 ρ1 F' H' ∧ F' Dl = none ∧ H' Dl = some (.lst vs') ∧ RpA F' vs' (lc2L f ys f1 gg (xs.take i))
  refine ⟨fun i m H' => m = (xs.map enc).length - i ∧ i ≤ (xs.map enc).length ∧ Inv i H', ⟨_, rfl, Nat.zero_le _, F1, [], Post.of p1.wa (Gr.heap p1.wa.gr.fh (same_upd hD)), nw.1, upd_same, .nil⟩, ?_⟩
  rintro i m H' ⟨rfl, hi, F', vs', P, hF, hH, ra⟩
  by_cases hlt : i < (xs.map enc).length
  · refine .inr ⟨it.go i H' (P.gr.ff.trans P.wa.gr.fh) hlt, fun H2 => Inv (i + 1) H2, fun H2 k => ⟨(xs.map enc).length - (i + 1), by omega, rfl, hlt, k⟩, fun x H2 y => ?_⟩
    obtain ⟨d, F2, e, gr, rx⟩ := it.yld i H' x H2 F' P.gr.ff P.wa.gr.fh y hlt
    rw [List.getElem?_map] at e
    obtain ⟨a, ex, rfl⟩ : ∃ a, xs[i]? = some a ∧ enc a = d := by
      cases hx : xs[i]? with
      | none => rw [hx] at e; cases e
      | some a => rw [hx] at e; exact ⟨a, rfl, Option.some.inj e⟩
    have hm : a ∈ xs := List.mem_of_getElem? ex
    have et : xs.take (i + 1) = xs.take i ++ [a] := by rw [List.take_add_one, ex]; rfl
    have P2 := P.trans (Post.of P.wa gr)
    have w2 := P.wa.grow gr
    have hF2 : F2 Dl = none := gr.fr Dl (by rw [hH]; intro z; cases z) hF
    have hH2 : H2 Dl = some (.lst vs') := gr.kp Dl _ hH id
    refine turn a hm B ad (wipe σ vs) F2 H2 x (w2.wiped pl) (pl.ad w2) rx _ fun ρ2 σ2 q wb e2 fr => ?_
    obtain ⟨un2, pl1, q⟩ := q
    have e2' : wipe σ2 vs = wipe σ vs := by
      rw [e2]
      apply List.ext_getElem?
      intro j
      rw [wipe_get, wipe_get, wipe_length]
      split
      · rfl
      · first | rfl | rw [wipe_get, if_neg (by assumption)]
    refine ⟨e2', q B ad σ2 F2 H2 wb _ fun b ρ3 F3 H3 q3 p3 => ?_⟩
    obtain ⟨rfl, rfl, q3⟩ := q3
    cases hb : f a with
    | false =>
      show Inv (i + 1) H3
      have pu := Post.unwiped w2 pl e2' fr wb p3
      rw [un2] at pu
      refine ⟨F3, vs', P2.trans pu, p3.gr.fr Dl (by rw [hH2]; intro z; cases z) hF2, p3.gr.kp Dl _ hH2 (nms _), ?_⟩
      rw [et, lc2L_snoc, if_neg (by rw [hb]; decide), List.append_nil]
      exact ra.up (gr.ff.trans p3.gr.ff)
    | true =>
      show wi1 σ2 H3 _
      refine q3 hb B ad σ2 F3 H3 p3.wa _ fun ds1 ρ4 J1 F4 H4 q4 p4 it1 => ?_
      obtain ⟨rfl, rfl, turn1⟩ := q4
      have p34 := p3.trans p4
      have pu := Post.unwiped w2 pl e2' fr wb p34
      rw [un2] at pu
      let Inv1 := fun (j : Nat) (H' : Hp) => ∃ F' vs', Post B ad σ ρ1 F1 H1 ρ1 F' H' ∧ WA B ad ρ4 σ2 F' H' ∧ Same F4 F' ∧ F' Dl = none ∧ H' Dl = some (.lst vs') ∧ RpA F' vs' (lc2L f ys f1 gg (xs.take i) ++ (((ys a).take j).filter (f1 a)).map (gg a))
      refine ⟨fun j k H' => k = ((ys a).map (enc1 a)).length - j ∧ j ≤ ((ys a).map (enc1 a)).length ∧ Inv1 j H', ⟨_, rfl, Nat.zero_le _, F4, vs', P2.trans pu, p34.wa, Same.refl F4, p34.gr.fr Dl (by rw [hH2]; intro z; cases z) hF2, p34.gr.kp Dl _ hH2 (nms _), by
        show RpA F4 vs' (lc2L f ys f1 gg (xs.take i) ++ [])
        rw [List.append_nil]; exact ra.up (gr.ff.trans p34.gr.ff)⟩, ?_⟩
      rintro j k H5 ⟨rfl, hj, F5, vs5, P5, w5, f45, hF5, hH5, ra5⟩
      by_cases hl1 : j < ((ys a).map (enc1 a)).length
      · refine .inr ⟨it1.go j H5 (f45.trans w5.gr.fh) hl1, fun H6 => Inv1 (j + 1) H6, fun H6 k => ⟨((ys a).map (enc1 a)).length - (j + 1), by omega, rfl, hl1, k⟩, fun x1 H6 y1 => ?_⟩
        obtain ⟨d1, F6, e1, gr1, rx1⟩ := it1.yld j H5 x1 H6 F5 f45 w5.gr.fh y1 hl1
        rw [List.getElem?_map] at e1
        obtain ⟨c, ec, rfl⟩ : ∃ c, (ys a)[j]? = some c ∧ enc1 a c = d1 := by
          cases hx : (ys a)[j]? with
          | none => rw [hx] at e1; cases e1
          | some c => rw [hx] at e1; exact ⟨c, rfl, Option.some.inj e1⟩
        have hc : c ∈ ys a := List.mem_of_getElem? ec
        have et1 : (ys a).take (j + 1) = (ys a).take j ++ [c] := by rw [List.take_add_one, ec]; rfl
        have P6 := P5.trans (Post.of P5.wa gr1)
        have w6 := w5.grow gr1
        have hF6 : F6 Dl = none := gr1.fr Dl (by rw [hH5]; intro z; cases z) hF5
        have hH6 : H6 Dl = some (.lst vs5) := gr1.kp Dl _ hH5 id
        refine turn1 c hc B ad (wipe σ2 vs1) F6 H6 x1 (w6.wiped pl1) (pl1.ad w6) rx1 _ fun ρ5 σ5 q wb5 e5 fr5 => ?_
        obtain ⟨un5, q⟩ := q
        have e5' : wipe σ5 vs1 = wipe σ2 vs1 := by
          rw [e5]
          apply List.ext_getElem?
          intro j
          rw [wipe_get, wipe_get, wipe_length]
          split
          · rfl
          · first | rfl | rw [wipe_get, if_neg (by assumption)]
        refine ⟨e5', q B ad σ5 F6 H6 wb5 _ fun b ρ6 F7 H7 q6 p6 => ?_⟩
        obtain ⟨rfl, rfl, q6⟩ := q6
        have low : ∀ {F8 H8 : Hp}, Post B ad σ5 ρ6 F6 H6 ρ6 F8 H8 → Post B ad σ2 ρ4 F6 H6 ρ4 F8 H8 ∧ Post B ad σ ρ1 F6 H6 ρ1 F8 H8 := fun p => by
          have a1 := Post.unwiped w6 pl1 e5' fr5 wb5 p
          rw [un5] at a1
          have a2 := Post.unwiped P6.wa pl e2' fr w6 a1
          rw [un2] at a2
          exact ⟨a1, a2⟩
        cases hb1 : f1 a c with
        | false =>
          show Inv1 (j + 1) H7
          obtain ⟨a1, a2⟩ := low p6
          refine ⟨F7, vs5, P6.trans a2, a1.wa, f45.trans (gr1.ff.trans p6.gr.ff), p6.gr.fr Dl (by rw [hH6]; intro z; cases z) hF6, p6.gr.kp Dl _ hH6 (nms _), ?_⟩
          rw [et1, List.filter_append, List.filter_cons, if_neg (by rw [hb1]; decide), List.filter_nil, List.append_nil]
          exact ra5.up (gr1.ff.trans p6.gr.ff)
        | true =>
          show te σ5 H7 _
          refine q6 hb1 B ad σ5 F7 H7 p6.wa _ fun e ρ7 v F8 H8 q7 p7 rv => ?_
          obtain ⟨rfl, rfl⟩ := q7
          obtain ⟨a1, a2⟩ := low (p6.trans p7)
          have p67 := p6.trans p7
          have hF8 : F8 Dl = none := p67.gr.fr Dl (by rw [hH6]; intro z; cases z) hF6
          have hH8 : H8 Dl = some (.lst vs5) := p67.gr.kp Dl _ hH6 (nms _)
          have ra8 := (ra5.up (gr1.ff.trans p67.gr.ff)).app (.cons rv .nil)
          refine ⟨vs5, hH8, Nat.lt_of_lt_of_le (by rw [ra5.len]; exact Nat.lt_of_le_of_lt (lc2L_le ex hb j) hz) (by decide), ?_⟩
          show Inv1 (j + 1) _
          refine ⟨F8, vs5 ++ [v], (P6.trans a2).updD hD nw.2.1 nw.2.2 hF8, a1.wa.updD nw.2.1 nw.2.2 hF8, f45.trans (gr1.ff.trans p67.gr.ff), hF8, upd_same, ?_⟩
          rw [et1, List.filter_append, List.map_append, List.filter_cons, if_pos hb1, List.filter_nil, ← List.append_assoc]
          exact ra8
      · have e : j = (ys a).length := by rw [List.length_map] at hl1 hj; omega
        subst e
        rw [List.take_length] at ra5
        refine .inl ⟨it1.stop _ H5 (f45.trans w5.gr.fh) (by rw [List.length_map]; exact Nat.le_refl _), ?_⟩
        show Inv (i + 1) H5
        refine ⟨F5, vs5, P5, hF5, hH5, ?_⟩
        rw [et, lc2L_snoc, if_pos hb]
        exact ra5
  · have e : i = xs.length := by rw [List.length_map] at hlt hi; omega
    subst e
    rw [List.take_length] at ra
    exact .inl ⟨it.stop _ H' (P.gr.ff.trans P.wa.gr.fh) (by rw [List.length_map]; exact Nat.le_refl _), z _ ρ1 Dl vs' F' H' done (p1.trans P) hF hDH hH ra⟩
end
end Pu
namespace Pu
open PySem L2
theorem ex_val {te : TE} {ρ : Pu.Env} {Q : D → Pu.Env → Prop} (d0 : D) (h : EX te ρ fun d ρ' => d = d0 ∧ ρ' = ρ) (q : Q d0 ρ) : EX te ρ Q := h.imp fun d ρ' e => by rw [e.1, e.2]; exact q
theorem et_val {tt : TT} {ρ : Pu.Env} {Q : Bool → Pu.Env → Prop} (b0 : Bool) (h : ET tt ρ fun b ρ' => b = b0 ∧ ρ' = ρ) (q : Q b0 ρ) : ET tt ρ Q := et_imp h fun b ρ' e => by rw [e.1, e.2]; exact q
theorem sx_mid {t u : TS} {ρ : Pu.Env} {P : Po} (ρ1 : Pu.Env) (h : SX t ρ { nx := fun ρ' => ρ' = ρ1, rt := fun _ _ => False }) (k : SX u ρ1 P) : SX (tSeq t u) ρ P := sx_seq fun B σ F H w Dn n r b c =>
  h B σ F H w Dn (fun ρ' σ' F' H' e w' => n ρ' σ' F' H' (by rw [e]; exact k) w') (fun _ _ _ _ _ _ q => q.elim) (fun _ _ _ _ q => q.elim) (fun _ _ _ _ q => q.elim)
/-- the same with what holds of the slots behind t -/
theorem sx_midP {t u : TS} {ρ : Pu.Env} {P : Po} (J : Pu.Env → Prop) (h : SX t ρ { nx := J, rt := fun _ _ => False }) (k : ∀ ρ1, J ρ1 → SX u ρ1 P) : SX (tSeq t u) ρ P := sx_seq fun B σ F H w Dn n r b c =>
  h B σ F H w Dn (fun ρ' σ' F' H' e w' => n ρ' σ' F' H' (k ρ' e) w') (fun _ _ _ _ _ _ q => q.elim) (fun _ _ _ _ q => q.elim) (fun _ _ _ _ q => q.elim)
theorem cbd_intB {b : Bool} {Q : D → Prop} (k : Q (.int (if b then 1 else 0))) : CbD rInt [.bool b] Q := fun F H vs e r Z z => by
  obtain ⟨v, rfl, rv⟩ := r.one
  cases rv.bl_inv
  exact .inr ⟨_, rfl, z _ _ F H k (Gr.refl e) (.int _)⟩
theorem last_at (ds : List D) (d : D) : atI (ds ++ [d]) (-1) = some d := by
  have e : ixN (ds.length + 1) (-1) = some ds.length := by
    unfold ixN
    simp
    omega
  simp [atI, e]
theorem enum_zip {α : Type} (f : α → D) : ∀ (k : Nat) (xs : List α), enumD k (xs.map f) = (xs.zipIdx k).map fun p => .tuple [.int (p.2 : Int), f p.1]
  | _, [] => rfl
  | k, x :: xs => by
    rw [List.map_cons, List.zipIdx_cons, List.map_cons, ← enum_zip f (k + 1) xs]
    rfl
theorem enum_at {α : Type} {f : α → D} {xs : List α} {k : Nat} {d : D} (h : (enumD 0 (xs.map f))[k]? = some d) : ∃ x, xs[k]? = some x ∧ d = .tuple [.int (k : Int), f x] := by
  rw [enum_zip, List.getElem?_map, List.getElem?_zipIdx] at h
  cases e : xs[k]? with
  | none => rw [e] at h; simp at h
  | some x =>
    rw [e] at h
    simp at h
    exact ⟨x, rfl, h.symm⟩
theorem enum_len {α : Type} {f : α → D} {xs : List α} : (enumD 0 (xs.map f)).length = xs.length := by rw [enum_zip, List.length_map, List.length_zipIdx]
theorem find_first {α : Type} {g : Nat → Option α} {n k : Nat} {d : α} (hk : k < n) (h : ∀ j, j < k → g j = none) (e : g k = some d) : (List.range n).findSome? g = some d := by
  obtain ⟨m, rfl⟩ : ∃ m, n = k + 1 + m := ⟨n - (k + 1), by omega⟩
  rw [List.range_add, List.range_succ, List.findSome?_append, List.findSome?_append]
  have : (List.range k).findSome? g = none := List.findSome?_eq_none_iff.mpr fun x hx => h x (List.mem_range.mp hx)
  rw [this]
  simp [e]
theorem find_no {α : Type} {g : Nat → Option α} {n : Nat} (h : ∀ j, j < n → g j = none) : (List.range n).findSome? g = none := List.findSome?_eq_none_iff.mpr fun x hx => h x (List.mem_range.mp hx)
theorem fmin_all : ∀ (ns : List Int) (a : Int), ns.foldl min a ≤ a ∧ (∀ x ∈ ns, ns.foldl min a ≤ x) ∧ (ns.foldl min a = a ∨ ns.foldl min a ∈ ns)
  | [], a => ⟨Int.le_refl _, ⟨(fun _ h => by cases h), Or.inl rfl⟩⟩
  | n :: ns, a => by
    obtain ⟨h1, h2, h3⟩ := fmin_all ns (min a n)
    rw [List.foldl_cons]
    refine ⟨by omega, fun x hx => ?_, ?_⟩
    · rcases List.mem_cons.mp hx with rfl | q
      · omega
      · exact h2 x q
    · rcases h3 with q | q
      · rcases (show min a n = a ∨ min a n = n by omega) with z | z
        · left; rw [q, z]
        · right; rw [q, z]; simp
      · right; exact List.mem_cons_of_mem _ q
theorem foldMin_is {ns : List Int} {m : Int} (hm : m ∈ ns) (h : ∀ x ∈ ns, m ≤ x) : foldMin ns = m := by
  cases ns with
  | nil => cases hm
  | cons n ns =>
    show ns.foldl min n = m
    obtain ⟨h1, h2, h3⟩ := fmin_all ns n
    have a : ns.foldl min n ≤ m := by
      rcases List.mem_cons.mp hm with rfl | q
      · exact h1
      · exact h2 m q
    have b : m ≤ ns.foldl min n := by
      rcases h3 with q | q
      · rw [q]; exact h n (by simp)
      · exact h _ (List.mem_cons_of_mem _ q)
    omega
theorem foldMin_le {ns : List Int} {x : Int} (hm : x ∈ ns) : foldMin ns ≤ x := by
  cases ns with
  | nil => cases hm
  | cons n ns =>
    show ns.foldl min n ≤ x
    obtain ⟨h1, h2, h3⟩ := fmin_all ns n
    rcases List.mem_cons.mp hm with rfl | q
    · exact h1
    · exact h2 x q
theorem foldMin_mem {ns : List Int} (h : 0 < ns.length) : foldMin ns ∈ ns := by
  cases ns with
  | nil => simp at h
  | cons n ns =>
    show ns.foldl min n ∈ n :: ns
    rcases (fmin_all ns n).2.2 with q | q
    · rw [q]; simp
    · exact List.mem_cons_of_mem _ q
theorem take_snoc' {α : Type} {l : List α} {k : Nat} {x : α} (h : l[k]? = some x) : l.take (k + 1) = l.take k ++ [x] := by rw [List.take_add_one, h]; rfl
theorem get_D {α : Type} {l : List α} {k : Nat} {a : α} (h : k < l.length) : l[k]? = some (l.getD k a) := by rw [List.getD_eq_getElem?_getD]; simp [h]
theorem mem_D {α : Type} {l : List α} {k : Nat} {a : α} (h : k < l.length) : l.getD k a ∈ l := List.mem_of_getElem? (get_D h)
theorem flat_snoc' {α β : Type} {l : List α} {x : α} {f : α → List β} : (l ++ [x]).flatMap f = l.flatMap f ++ f x := by simp
theorem eqv_encP (u v : Int × Int) : PyData.eqv (encP u) (encP v) = decide (u = v) := by
  show PyData.eqvAll [.int u.1, .int u.2] [.int v.1, .int v.2] = _
  simp only [PyData.eqvAll, PyData.eqv, Bool.and_true]
  by_cases h : u = v
  · subst h; simp
  · rw [decide_eq_false h]
    by_cases h1 : u.1 = v.1
    · have h2 : u.2 ≠ v.2 := fun q => h (Prod.ext h1 q)
      simp [h2]
    · simp [h1]
theorem any_encP (ws : List (Int × Int)) (w : Int × Int) : ((ws.map encP).any fun y => PyData.eqv y (encP w)) = decide (w ∈ ws) := by
  rw [Bool.eq_iff_iff, List.any_eq_true, decide_eq_true_eq]
  constructor
  · rintro ⟨x, hx, e⟩
    obtain ⟨u, hu, rfl⟩ := List.mem_map.mp hx
    rw [eqv_encP, decide_eq_true_eq] at e
    rwa [← e]
  · intro h
    exact ⟨encP w, List.mem_map.mpr ⟨w, h, rfl⟩, by rw [eqv_encP]; simp⟩
theorem eqv_listP : ∀ (xs ys : List (Int × Int)), PyData.eqvAll (xs.map encP) (ys.map encP) = decide (xs = ys)
  | [], [] => by simp [PyData.eqvAll]
  | [], _ :: _ => by simp [PyData.eqvAll]
  | _ :: _, [] => by simp [PyData.eqvAll]
  | x :: xs, y :: ys => by
    rw [List.map_cons, List.map_cons, PyData.eqvAll, eqv_encP, eqv_listP xs ys]
    by_cases h1 : x = y <;> by_cases h2 : xs = ys <;> simp [h1, h2]
theorem eqv_LP (xs ys : List (Int × Int)) : PyData.eqv (.list (xs.map encP)) (.list (ys.map encP)) = decide (xs = ys) := by
  show PyData.eqvAll _ _ = _
  exact eqv_listP xs ys
/-- l.index(x) of data -/
theorem mtd_indexD {K : PySem.W.Frag} {ds : List D} {d z : D} {j : Nat} {Q : D → Prop} (s1 : PySem.SeqAt.shaped (.list ds) = true) (s2 : PySem.SeqAt.shaped d = true) (hz : ds[j]? = some z) (he : PyData.eqv z d = true)
    (hno : ∀ (m : Nat) (z' : D), m < j → ds[m]? = some z' → PyData.eqv z' d = false) (k : Q (.int (j : Nat))) : MtD (rIndexD K) (.list ds) [d] Q := fun F H x vs e r rv Z z' => by
  obtain ⟨v, rfl, rv1⟩ := rv.one
  have r' := r.dp (K := K) e
  obtain ⟨a, xs, rfl, h1, h2⟩ := r.lst_inv
  exact ⟨a, v, d, ds, j, z, rfl, rfl, r', rv1.dp e, s1, s2, hz, he, hno, z' _ _ F H k (Gr.refl e) (.int _)⟩
theorem lay_encP (xs : List (Int × Int)) : PyData.canLayAll0 (xs.map encP) = true := by
  induction xs with
  | nil => simp [PyData.canLayAll0]
  | cons x xs ih => rw [List.map_cons, PyData.canLayAll0, ih]; simp [encP, PyData.canLay0, PyData.canLayAll0]
theorem mtd_indexP {K : PySem.W.Frag} {ws : List (Int × Int)} {w : Int × Int} {Q : D → Prop} (hw : w ∈ ws) (k : Q (.int (ws.idxOf w : Nat))) : MtD (rIndexD K) (.list (ws.map encP)) [encP w] Q := by
  have hl : ws.idxOf w < ws.length := List.idxOf_lt_length_iff.mpr hw
  have d1 : (PyData.list (ws.map encP)).depth ≤ 64 := by
    have h : DpN 3 (PyData.list (ws.map encP)) := dpn_list (dpn_map fun x _ => dpn_tup (dpn_cons dpn_int (dpn_cons dpn_int dpn_nil)))
    exact Nat.le_trans h (by decide)
  have d2 : (encP w).depth ≤ 64 := by
    have h : DpN 2 (encP w) := dpn_tup (dpn_cons dpn_int (dpn_cons dpn_int dpn_nil))
    exact Nat.le_trans h (by decide)
  refine mtd_indexD (z := encP w) (j := ws.idxOf w) ?_ ?_ ?_ ?_ (fun m z' hm hz => ?_) k
  · unfold PySem.SeqAt.shaped
    rw [decide_eq_true d1, Bool.and_true]
    show PyData.canLayAll0 _ = true
    exact lay_encP ws
  · unfold PySem.SeqAt.shaped
    rw [decide_eq_true d2, Bool.and_true]
    simp [encP, PyData.canLay0, PyData.canLayAll0]
  · rw [List.getElem?_map, List.getElem?_eq_getElem hl, List.getElem_idxOf hl]; rfl
  · rw [eqv_encP]; simp
  · rw [List.getElem?_map, List.getElem?_eq_getElem (by omega)] at hz
    cases hz
    rw [eqv_encP, decide_eq_false_iff_not]
    have := List.not_of_lt_findIdx (p := fun x => x == w) hm
    simpa using this
theorem enum_rng {α : Type} {f : α → D} (a : α) (xs : List α) : enumD 0 (xs.map f) = (rngI 0 xs.length).map fun k => .tuple [.int k, f (xs.getD k.toNat a)] := by
  refine List.ext_getElem? fun k => ?_
  rw [enum_zip, List.getElem?_map, List.getElem?_zipIdx, List.getElem?_map]
  by_cases h : k < xs.length
  · rw [rngI_get h, get_D (a := a) h]
    simp
  · rw [List.getElem?_eq_none (by omega), List.getElem?_eq_none (by rw [rngI_len]; omega)]
    rfl
theorem units65 {k : Nat} {A : Around} (r : Room k A) : A.units + 65 < cLine := by have := r.un; omega
end Pu
/-! PuN: a list of lists of ints and None that is changed within: a state (Stt.grd) from a comprehension [list(x) for x in ..], read, changed, frozen. -/
namespace Pu
open PySem L2
def optD : Option Int → D
  | none => .none
  | some i => .int i
def rowD (row : List (Option Int)) : D := .list (row.map optD)
theorem rp_ov (F : Hp) (x : Option Int) : Rp F (ov x) (optD x) := by
  cases x with
  | none => exact .non
  | some i => exact .int i
theorem ov_inv {F : Hp} {v : V} {x : Option Int} (h : Rp F v (optD x)) : v = ov x := by
  cases x with
  | none => exact h.non_inv
  | some i => exact h.int_inv
theorem rpa_ov (F : Hp) : ∀ row : List (Option Int), RpA F (row.map ov) (row.map optD)
  | [] => .nil
  | x :: row => .cons (rp_ov F x) (rpa_ov F row)
theorem ovs_inv {F : Hp} : ∀ {row : List (Option Int)} {vs : List V}, RpA F vs (row.map optD) → vs = row.map ov
  | [], _, h => by cases h; rfl
  | x :: row, _, h => by
    cases h with
    | cons h1 h2 => rw [ov_inv h1, ovs_inv h2]; rfl
theorem GrA.len {H : Hp} : ∀ {qs : List Addr} {rows : List (List (Option Int))}, GrA H qs rows → qs.length = rows.length
  | [], [], _ => rfl
  | q :: qs, r :: rows, h => by rw [List.length_cons, List.length_cons, GrA.len h.2]
  | [], _ :: _, h => h.elim
  | _ :: _, [], h => h.elim
theorem GrA.get {H : Hp} : ∀ {qs : List Addr} {rows : List (List (Option Int))} {i : Nat} {r : List (Option Int)}, GrA H qs rows → rows[i]? = some r → ∃ q, qs[i]? = some q ∧ H q = some (.lst (r.map ov))
  | q :: qs, r :: rows, 0, _, h, e => by
    cases e
    exact ⟨q, rfl, h.1⟩
  | q :: qs, r :: rows, i + 1, r', h, e => by
    have := GrA.get h.2 (show rows[i]? = some r' by simpa using e)
    simpa using this
  | [], [], _, _, _, e => by simp at e
  | [], _ :: _, _, _, h, _ => h.elim
  | _ :: _, [], _, _, h, _ => h.elim
theorem GrA.app {H : Hp} {l : Addr} {r : List (Option Int)} (hl : H l = some (.lst (r.map ov))) : ∀ {qs : List Addr} {rows : List (List (Option Int))}, GrA H qs rows → GrA H (qs ++ [l]) (rows ++ [r])
  | [], [], _ => ⟨hl, trivial⟩
  | q :: qs, s :: rows, h => ⟨h.1, GrA.app hl h.2⟩
  | [], _ :: _, h => h.elim
  | _ :: _, [], h => h.elim
theorem GrA.out {H : Hp} {p : Addr} {o : HO} : ∀ {qs : List Addr} {rows : List (List (Option Int))}, p ∉ qs → GrA H qs rows → GrA (upd H p o) qs rows
  | [], [], _, _ => trivial
  | q :: qs, r :: rows, hn, h => ⟨by rw [upd_ne (fun e => hn (by rw [e]; simp))]; exact h.1, GrA.out (fun m => hn (by simp [m])) h.2⟩
  | [], _ :: _, _, h => h.elim
  | _ :: _, [], _, h => h.elim
theorem GrA.set {H : Hp} {r' : List (Option Int)} : ∀ {qs : List Addr} {rows : List (List (Option Int))} {i : Nat} {q : Addr}, qs.Nodup → GrA H qs rows → qs[i]? = some q → GrA (upd H q (.lst (r'.map ov))) qs (rows.set i r')
  | p :: qs, r :: rows, 0, _, nd, h, e => by
    cases e
    rw [List.nodup_cons] at nd
    exact ⟨upd_same, GrA.out nd.1 h.2⟩
  | p :: qs, r :: rows, i + 1, q, nd, h, e => by
    rw [List.nodup_cons] at nd
    have e : qs[i]? = some q := by simpa using e
    refine ⟨?_, GrA.set nd.2 h.2 e⟩
    rw [upd_ne (fun z => nd.1 (by rw [z]; exact List.mem_of_getElem? e))]
    exact h.1
  | [], [], _, _, _, _, e => by simp at e
  | [], _ :: _, _, _, _, h, _ => h.elim
  | _ :: _, [], _, _, _, h, _ => h.elim
/-- an expression that makes a state -/
def EN (te : TE) (ρ : Pu.Env) (Q : Stt → Pu.Env → Prop) : Prop := ∀ B ad σ F H, WA B ad ρ σ F H → ∀ Z : VK,
  (∀ S s as ρ1 F1 H1 F' H', Q S ρ1 → Post B ad σ ρ F H ρ1 F1 H1 → Gr Non F1 H1 F' H' → StAt H' S s as → (∀ a ∈ as, F' a = none ∧ H1 a = none) → Z (.ref s) H') → te σ H Z
section
variable {ρ : Pu.Env} {P : Po} {te tb tc : TE} {t : TS} {K : PySem.W.Frag}
theorem WA.setVal2 {B : Base} {ad : Nat → List Addr} {ρ : Pu.Env} {σ : St} {F H : Hp} (w : WA B ad ρ σ F H) (i : Nat) {d : D} {v : V} (r : Rp F v d) : WA B (fun k => if k = i then [] else ad k) (ρ.set i (.val d)) (σ.set i (some v)) F H := by
  refine ⟨w.gr, by rw [List.length_set, List.length_set]; exact w.len, fun j s e => ?_, fun j p m => ?_, fun j1 j2 q m1 m2 => ?_, fun j e => ?_, w.pin.to fun S e => by
    rcases get_set e with ⟨_, q⟩ | ⟨hj, e⟩
    · cases q
    · exact ⟨⟨S, e⟩, List.getElem?_set_ne (Ne.symm hj), if_neg hj⟩⟩
  · rcases get_set e with ⟨rfl, rfl⟩ | ⟨hj, e'⟩
    · have hi : j < σ.length := by
        have := (List.getElem?_eq_some_iff.mp e).1
        rw [List.length_set] at this
        rw [w.len]; exact this
      exact ⟨if_pos rfl, v, List.getElem?_set_self hi, r⟩
    · rw [if_neg hj, List.getElem?_set_ne (Ne.symm hj)]
      exact w.sl j s e'
  · by_cases hj : j = i
    · simp [hj] at m
    · simp only [if_neg hj] at m
      exact w.fz j p m
  · by_cases h1 : j1 = i
    · simp [h1] at m1
    · by_cases h2 : j2 = i
      · simp [h2] at m2
      · simp only [if_neg h1] at m1
        simp only [if_neg h2] at m2
        exact w.dj j1 j2 q m1 m2
  · show (if j = i then [] else ad j) = []
    by_cases hj : j = i
    · rw [if_pos hj]
    · rw [if_neg hj]
      exact w.out j (get_set' e)
theorem WA.setOwn2 {B : Base} {ad : Nat → List Addr} {ρ : Pu.Env} {σ : St} {F H : Hp} (w : WA B ad ρ σ F H) (i : Nat) {ds : List D} {p : Addr} {vs : List V} (hF : F p = none) (h0 : B.H0 p = none) (hn : ∀ i, p ∉ ad i) (hp : H p = some (.lst vs)) (r : RpA F vs ds) :
    WA B (fun k => if k = i then (if i < ρ.length then [p] else []) else ad k) (ρ.set i (.own ds)) (σ.set i (some (.ref p))) F H := by
  refine ⟨w.gr, by rw [List.length_set, List.length_set]; exact w.len, fun j s e => ?_, fun j q m => ?_, fun j1 j2 q m1 m2 => ?_, fun j e => ?_, w.pin.to fun S e => by
    rcases get_set e with ⟨_, q⟩ | ⟨hj, e⟩
    · cases q
    · exact ⟨⟨S, e⟩, List.getElem?_set_ne (Ne.symm hj), if_neg hj⟩⟩
  · rcases get_set e with ⟨rfl, rfl⟩ | ⟨hj, e'⟩
    · have hi : j < ρ.length := by
        have := (List.getElem?_eq_some_iff.mp e).1
        rwa [List.length_set] at this
      exact ⟨p, vs, by rw [if_pos rfl, if_pos hi], h0, List.getElem?_set_self (by rw [w.len]; exact hi), hp, r⟩
    · rw [if_neg hj, List.getElem?_set_ne (Ne.symm hj)]
      exact w.sl j s e'
  · by_cases hj : j = i
    · simp only [if_pos hj] at m
      by_cases hi : i < ρ.length
      · simp only [if_pos hi, List.mem_singleton] at m
        subst m
        exact ⟨hF, .inl h0⟩
      · simp [if_neg hi] at m
    · simp only [if_neg hj] at m
      exact w.fz j q m
  · have g : ∀ j, q ∈ (if j = i then (if i < ρ.length then [p] else []) else ad j) → (j = i ∧ q = p) ∨ (j ≠ i ∧ q ∈ ad j) := fun j m => by
      by_cases hj : j = i
      · simp only [if_pos hj] at m
        by_cases hi : i < ρ.length
        · simp only [if_pos hi, List.mem_singleton] at m
          exact .inl ⟨hj, m⟩
        · simp [if_neg hi] at m
      · simp only [if_neg hj] at m
        exact .inr ⟨hj, m⟩
    rcases g j1 m1 with ⟨a1, b1⟩ | ⟨a1, b1⟩ <;> rcases g j2 m2 with ⟨a2, b2⟩ | ⟨a2, b2⟩
    · rw [a1, a2]
    · exact absurd (b1 ▸ b2) (hn j2)
    · exact absurd (b2 ▸ b1) (hn j1)
    · exact w.dj j1 j2 q b1 b2
  · show (if j = i then (if i < ρ.length then [p] else []) else ad j) = []
    have e' := get_set' e
    by_cases hj : j = i
    · subst hj
      rw [if_pos rfl, if_neg (by rw [List.getElem?_eq_none_iff] at e'; omega)]
    · rw [if_neg hj]
      exact w.out j e'
theorem WA.setSt2 {B : Base} {ad : Nat → List Addr} {ρ : Pu.Env} {σ : St} {F H : Hp} {S : Stt} {s : Addr} {as : List Addr} (w : WA B ad ρ σ F H) (i : Nat) (h00 : i ≠ 0) (st : StAt H S s as) (hF : ∀ a ∈ as, F a = none) (nw : ∀ a ∈ as, B.H0 a = none ∧ ∀ j, a ∉ ad j) :
    WA B (fun k => if k = i then (if i < ρ.length then as else []) else ad k) (ρ.set i (.st S)) (σ.set i (some (.ref s))) F H := by
  refine ⟨w.gr, by rw [List.length_set, List.length_set]; exact w.len, fun j sl e => ?_, fun j q m => ?_, fun j1 j2 q m1 m2 => ?_, fun j e => ?_, w.pin.to fun S2 e => by
    rcases get_set e with ⟨e0, _⟩ | ⟨hj, e⟩
    · exact absurd e0.symm h00
    · exact ⟨⟨S2, e⟩, List.getElem?_set_ne (Ne.symm hj), if_neg hj⟩⟩
  · rcases get_set e with ⟨rfl, rfl⟩ | ⟨hj, e'⟩
    · have hi : j < ρ.length := by
        have := (List.getElem?_eq_some_iff.mp e).1
        rwa [List.length_set] at this
      exact ⟨s, List.getElem?_set_self (by rw [w.len]; exact hi), by rw [if_pos rfl, if_pos hi]; exact st⟩
    · rw [if_neg hj, List.getElem?_set_ne (Ne.symm hj)]
      exact w.sl j sl e'
  · by_cases hj : j = i
    · simp only [if_pos hj] at m
      by_cases hi : i < ρ.length
      · simp only [if_pos hi] at m
        exact ⟨hF q m, .inl (nw q m).1⟩
      · simp [if_neg hi] at m
    · simp only [if_neg hj] at m
      exact w.fz j q m
  · have g : ∀ j, q ∈ (if j = i then (if i < ρ.length then as else []) else ad j) → (j = i ∧ q ∈ as) ∨ (j ≠ i ∧ q ∈ ad j) := fun j m => by
      by_cases hj : j = i
      · simp only [if_pos hj] at m
        by_cases hi : i < ρ.length
        · simp only [if_pos hi] at m
          exact .inl ⟨hj, m⟩
        · simp [if_neg hi] at m
      · simp only [if_neg hj] at m
        exact .inr ⟨hj, m⟩
    rcases g j1 m1 with ⟨a1, b1⟩ | ⟨a1, b1⟩ <;> rcases g j2 m2 with ⟨a2, b2⟩ | ⟨a2, b2⟩
    · rw [a1, a2]
    · exact absurd b2 ((nw q b1).2 j2)
    · exact absurd b1 ((nw q b2).2 j1)
    · exact w.dj j1 j2 q b1 b2
  · show (if j = i then (if i < ρ.length then as else []) else ad j) = []
    have e' := get_set' e
    by_cases hj : j = i
    · subst hj
      rw [if_pos rfl, if_neg (by rw [List.getElem?_eq_none_iff] at e'; omega)]
    · rw [if_neg hj]
      exact w.out j e'
theorem sx_asgE {i : Nat} (h00 : i ≠ 0) (h : EN te ρ fun S ρ1 => NX P (ρ1.set i (.st S))) : SX (tAsg te (gName i)) ρ P := fun B σ F H w Dn n r b c => by
  obtain ⟨ad, w⟩ := w
  refine h B ad σ F H w _ fun S s as ρ1 F1 H1 F' H' q p g st fn => ?_
  obtain ⟨ρ2, l, q⟩ := q
  exact n ρ2 _ F' H' q (W.weak ⟨_, (p.wa.grow g).setSt2 i h00 st (fun a m => (fn a m).1) fun a m => (p.wa.newp (fn a m).2).2⟩ l)
theorem wipe_twice (σ : St) (vs : List Nat) : wipe (wipe σ vs) vs = wipe σ vs := by
  apply List.ext_getElem?
  intro j
  rw [wipe_get, wipe_get, wipe_length]
  split
  · rfl
  · first | rfl | rw [wipe_get, if_neg (by assumption)]
/-- [list(x) for x in ..]: the lists that it makes are a state -/
theorem en_grid {r : Nat} {Q : Stt → Pu.Env → Prop} (h : EX te ρ fun d ρ1 => ∃ rows, d = .list (rows.map rowD) ∧ rows.length < 1000000 ∧ r < ρ1.length ∧ Q (.grd rows) ρ1) :
    EN (tLc (iList K te) (gName r) tYes (tCB (rList K) (tCons (tVar r) tNil)) [r]) ρ Q := fun B ad σ F H w Z z => by
  have hi : EI (iList K te) ρ fun ds ρ1 => ∃ rows : List (List (Option Int)), ds = rows.map rowD ∧ rows.length < 1000000 ∧ r < ρ1.length ∧ Q (.grd rows) ρ1 := ei_list (h.imp fun d ρ1 e => by
    obtain ⟨rows, e, k⟩ := e
    exact ⟨_, e, rows, rfl, k⟩)
  refine hi B ad σ F H w _ fun ds ρ1 J F1 H1 q1 p1 it => ?_
  obtain ⟨rows, rfl, hz, hr, q⟩ := q1
  intro Dl hD
  have hrs : r < σ.length := by rw [p1.wa.len]; exact hr
  have nF1 : F1 Dl = none := (p1.wa.newp hD).1
  let Inv := fun (k : Nat) (H' : Hp) => ∃ qs F', Gr Non F1 H1 F' H' ∧ (Dl :: qs).Nodup ∧ (∀ a ∈ Dl :: qs, F' a = none ∧ H1 a = none) ∧ H' Dl = some (.lst (qs.map V.ref)) ∧ GrA H' qs (rows.take k) ∧ qs.length = k
  refine ⟨fun i m H' => m = (rows.map rowD).length - i ∧ i ≤ (rows.map rowD).length ∧ Inv i H', ⟨_, rfl, Nat.zero_le _, [], F1, Gr.heap p1.wa.gr.fh (same_upd hD), by simp, fun a ha => ?_, upd_same, trivial, rfl⟩, ?_⟩
  · have e : a = Dl := by simpa using ha
    rw [e]
    exact ⟨nF1, hD⟩
  rintro i m H' ⟨rfl, hi, qs, F', g, nd, fn, hl, hg, ql⟩
  by_cases hlt : i < (rows.map rowD).length
  · refine .inr ⟨it.go i H' (g.ff.trans g.fh) hlt, fun H2 => Inv (i + 1) H2, fun H2 k => ⟨(rows.map rowD).length - (i + 1), by omega, rfl, hlt, k⟩, fun x H2 y => ?_⟩
    obtain ⟨d, F2, e, gr, rx⟩ := it.yld i H' x H2 F' g.ff g.fh y hlt
    rw [List.getElem?_map] at e
    obtain ⟨row, ex, rfl⟩ : ∃ row, rows[i]? = some row ∧ rowD row = d := by
      cases hx : rows[i]? with
      | none => rw [hx] at e; cases e
      | some a => rw [hx] at e; exact ⟨a, rfl, Option.some.inj e⟩
    obtain ⟨p, xs, rfl, h1, h2⟩ := rx.lst_inv
    have hxs := ovs_inv h2
    subst hxs
    have g2 : Gr Non F1 H1 F2 H2 := g.trans gr (fun _ _ z => z) fun _ _ z => z
    have alive : ∀ a ∈ Dl :: qs, H' a ≠ none := fun a ha => by
      rcases List.mem_cons.mp ha with rfl | ha
      · rw [hl]; intro z; cases z
      · exact hg.mem a ha
    have hl2 : H2 Dl = some (.lst (qs.map V.ref)) := gr.kp _ _ hl id
    have hg2 : GrA H2 qs (rows.take i) := hg.keep fun a _ o e => gr.kp a o e id
    refine ⟨?_, ?_⟩
    · rw [wipe_set (by simp), wipe_twice]
    show tCB (rList K) (tCons (tVar r) tNil) _ H2 _
    refine ⟨_, List.getElem?_set_self (by rw [wipe_length]; exact hrs), p, row.map ov, rfl, .inl (sqL_rd h1 gr.fh), fun l hl0 => ?_⟩
    have ne : l ≠ Dl := fun z => by rw [z, hl2] at hl0; cases hl0
    have lout : ∀ a ∈ Dl :: qs, a ≠ l := fun a ha z => gr.al a (alive a ha) (by rw [z]; exact hl0)
    have F2l : F2 l = none := by
      cases q : F2 l with
      | none => rfl
      | some o => rw [g2.fh l o q] at hl0; cases hl0
    have H1l : H1 l = none := by
      cases q : H1 l with
      | none => rfl
      | some o => exact absurd hl0 (g2.al l (by rw [q]; intro z; cases z))
    have F2D : ∀ a ∈ Dl :: qs, F2 a = none := fun a ha => gr.fr a (alive a ha) (fn a ha).1
    refine ⟨qs.map V.ref, by rw [upd_ne (Ne.symm ne)]; exact hl2, ?_, ?_⟩
    · rw [List.length_map, ql]
      have : i < rows.length := by rw [List.length_map] at hlt; exact hlt
      exact Nat.lt_trans (Nat.lt_trans this hz) (by decide)
    show Inv (i + 1) _
    have nf : ∀ a o, F2 a = some o → a ≠ l ∧ a ≠ Dl := fun a o e => ⟨(fun z => by rw [z, F2l] at e; cases e), (fun z => by rw [z, F2D Dl (by simp)] at e; cases e)⟩
    have n1 : ∀ a, H1 a ≠ none → a ≠ l ∧ a ≠ Dl := fun a e => ⟨fun z => e (by rw [z]; exact H1l), fun z => e (by rw [z]; exact hD)⟩
    refine ⟨qs ++ [l], F2, ⟨g2.ff, fun a o e => ?_, fun a o e m => ?_, fun a e => ?_, g2.fr⟩, ?_, ?_, ?_, ?_, by simp [ql]⟩
    · rw [upd_ne (nf a o e).2, upd_ne (nf a o e).1]
      exact g2.fh a o e
    · have na := n1 a (by rw [e]; intro z; cases z)
      rw [upd_ne na.2, upd_ne na.1]
      exact g2.kp a o e m
    · have na := n1 a e
      rw [upd_ne na.2, upd_ne na.1]
      exact g2.al a e
    · rw [List.nodup_cons] at nd ⊢
      refine ⟨fun m => ?_, ?_⟩
      · rcases List.mem_append.mp m with m | m
        · exact nd.1 m
        · exact ne (List.mem_singleton.mp m).symm
      · refine List.nodup_append.mpr ⟨nd.2, by simp, fun a ha b hb e => ?_⟩
        rw [List.mem_singleton.mp hb] at e
        exact lout a (by simp [ha]) e
    · intro a ha
      rcases List.mem_cons.mp ha with rfl | ha
      · exact ⟨F2D _ (by simp), hD⟩
      · rcases List.mem_append.mp ha with ha | ha
        · exact ⟨F2D a (by simp [ha]), (fn a (by simp [ha])).2⟩
        · rw [List.mem_singleton.mp ha]; exact ⟨F2l, H1l⟩
    · rw [upd_same, List.map_append]; rfl
    · rw [take_snoc' ex]
      refine GrA.out (fun m => ?_) (GrA.app upd_same (GrA.out (fun m => lout l (by simp [m]) rfl) hg2))
      rcases List.mem_append.mp m with m | m
      · exact (List.nodup_cons.mp nd).1 m
      · exact ne (List.mem_singleton.mp m).symm
  · have e : i = rows.length := by rw [List.length_map] at hlt hi; omega
    subst e
    rw [List.take_length] at hg
    exact .inl ⟨it.stop _ H' (g.ff.trans g.fh) (by rw [List.length_map]; exact Nat.le_refl _), z (.grd rows) Dl (Dl :: qs) ρ1 F1 H1 F' H' q p1 g ⟨qs, rfl, nd, hl, hg⟩ fn⟩
/-- x[a][b] of such a state -/
theorem ex_grd {i : Nat} {rows0 : List (List (Option Int))} {Q : D → Pu.Env → Prop} (h : ρ[i]? = some (.st (.grd rows0))) (k : EX tb ρ fun d ρ1 => ∃ a m rows1 r1, d = .int a ∧ ρ1[i]? = some (.st (.grd rows1)) ∧ ixN rows1.length a = some m ∧ rows1[m]? = some r1 ∧
    EX tc ρ1 fun e ρ2 => ∃ b rows r x, e = .int b ∧ ρ2[i]? = some (.st (.grd rows)) ∧ rows[m]? = some r ∧ atI r b = some x ∧ Q (optD x) ρ2) : EX (tOp (rIxA K) (tOp (rIxA K) (tVar i) tb) tc) ρ Q := fun B ad σ F H w Z z => by
  obtain ⟨s, k0, qs0, has0, _, _, _⟩ := w.sl i _ h
  refine ⟨_, k0, k B ad σ F H w _ fun d ρ1 y F1 H1 q1 p1 ry => ?_⟩
  obtain ⟨a, m, rows1, r1, rfl, h1, hm, hr1, q1⟩ := q1
  obtain ⟨s1, k1, qs1, has1, nd1, hs1, hg1⟩ := p1.wa.sl i _ h1
  rw [k0] at k1
  cases k1
  obtain ⟨q, hq, _⟩ := hg1.get hr1
  have hat : atI (qs1.map V.ref) a = some (V.ref q) := by
    unfold atI
    rw [List.length_map, hg1.len, hm]
    show (qs1.map V.ref)[m]? = _
    rw [List.getElem?_map, hq]
    rfl
  refine .inl ⟨s, qs1.map V.ref, a, .ref q, rfl, ry.int_inv, .inl (.inl hs1), hat, ?_⟩
  refine q1 B ad σ F1 H1 p1.wa _ fun e ρ2 u F2 H2 q2 p2 ru => ?_
  obtain ⟨b, rows, r, x, rfl, h2, hr, hx, q2⟩ := q2
  obtain ⟨s2, k2, qs2, has2, nd2, hs2, hg2⟩ := p2.wa.sl i _ h2
  rw [k0] at k2
  cases k2
  have eq : qs2 = qs1 := by
    have := has2.symm.trans has1
    simpa using this
  subst eq
  obtain ⟨q', hq', hH⟩ := hg2.get hr
  rw [hq] at hq'
  cases hq'
  have hx' : atI (r.map ov) b = some (ov x) := by
    unfold atI at hx ⊢
    rw [List.length_map]
    cases e : ixN r.length b with
    | none => rw [e] at hx; cases hx
    | some j =>
      rw [e] at hx
      show (r.map ov)[j]? = _
      rw [List.getElem?_map, show r[j]? = some x from hx]
      rfl
  exact .inl ⟨q, r.map ov, b, ov x, rfl, ru.int_inv, .inl (.inl hH), hx', z _ ρ2 _ F2 H2 q2 (p1.trans p2) (rp_ov F2 x)⟩
theorem ex_lenG {i : Nat} {rows : List (List (Option Int))} {Q : D → Pu.Env → Prop} (h : ρ[i]? = some (.st (.grd rows))) (q : Q (.int (rows.length : Int)) ρ) : EX (tCB (rLen K) (tCons (tVar i) tNil)) ρ Q := fun B ad σ F H w Z z => by
  obtain ⟨s, k0, qs, _, _, hs, hg⟩ := w.sl i _ h
  exact ⟨_, k0, _, rows.length, rfl, .inl ⟨qs.map V.ref, .inl (.inl hs), by rw [List.length_map, hg.len]⟩, z _ ρ _ F H q (Post.refl w) (.int _)⟩
theorem ex_lenG1 {i : Nat} {rows0 : List (List (Option Int))} {Q : D → Pu.Env → Prop} (h : ρ[i]? = some (.st (.grd rows0))) (k : EX tb ρ fun d ρ1 => ∃ a m rows r, d = .int a ∧ ρ1[i]? = some (.st (.grd rows)) ∧ ixN rows.length a = some m ∧ rows[m]? = some r ∧ Q (.int (r.length : Int)) ρ1) :
    EX (tCB (rLen K) (tCons (tOp (rIxA K) (tVar i) tb) tNil)) ρ Q := fun B ad σ F H w Z z => by
  obtain ⟨s, k0, qs0, has0, _, _, _⟩ := w.sl i _ h
  refine ⟨_, k0, k B ad σ F H w _ fun d ρ1 y F1 H1 q1 p1 ry => ?_⟩
  obtain ⟨a, m, rows1, r1, rfl, h1, hm, hr1, q1⟩ := q1
  obtain ⟨s1, k1, qs1, has1, nd1, hs1, hg1⟩ := p1.wa.sl i _ h1
  rw [k0] at k1
  cases k1
  obtain ⟨q, hq, hH⟩ := hg1.get hr1
  have hat : atI (qs1.map V.ref) a = some (V.ref q) := by
    unfold atI
    rw [List.length_map, hg1.len, hm]
    show (qs1.map V.ref)[m]? = _
    rw [List.getElem?_map, hq]
    rfl
  refine .inl ⟨s, qs1.map V.ref, a, .ref q, rfl, ry.int_inv, .inl (.inl hs1), hat, ?_⟩
  exact ⟨_, r1.length, rfl, .inl ⟨r1.map ov, .inl (.inl hH), by rw [List.length_map]⟩, z _ ρ1 _ F1 H1 q1 p1 (.int _)⟩
/-- x[a][b] = e -/
theorem sx_setG {i : Nat} (h : EX te ρ fun d ρ1 => ∃ x rows1, d = optD x ∧ ρ1[i]? = some (.st (.grd rows1)) ∧ EX tb ρ1 fun a' ρ2 => ∃ a m rows2 r2, a' = .int a ∧ ρ2[i]? = some (.st (.grd rows2)) ∧ ixN rows2.length a = some m ∧ rows2[m]? = some r2 ∧
    EX tc ρ2 fun b' ρ3 => ∃ b j rows r, b' = .int b ∧ ρ3[i]? = some (.st (.grd rows)) ∧ rows[m]? = some r ∧ ixN r.length b = some j ∧ NX P (ρ3.set i (.st (.grd (rows.set m (r.set j x)))))) :
    SX (tAsg te (gSub (tOp (rIxA K) (tVar i) tb) tc rSetL)) ρ P := fun B σ F H w Dn n rt bk ct => by
  obtain ⟨ad, w⟩ := w
  refine h B ad σ F H w _ fun d ρ1 v F1 H1 q1 p1 rv => ?_
  obtain ⟨x, rows1, rfl, h1, q1⟩ := q1
  have ev := ov_inv rv
  obtain ⟨s, k0, qs0, has0, _, _, _⟩ := p1.wa.sl i _ h1
  refine ⟨_, k0, q1 B ad σ F1 H1 p1.wa _ fun a' ρ2 y F2 H2 q2 p2 ry => ?_⟩
  obtain ⟨a, m, rows2, r2, rfl, h2, hm, hr2, q2⟩ := q2
  obtain ⟨s1, k1, qs1, has1, nd1, hs1, hg1⟩ := p2.wa.sl i _ h2
  rw [k0] at k1
  cases k1
  obtain ⟨q, hq, _⟩ := hg1.get hr2
  have hat : atI (qs1.map V.ref) a = some (V.ref q) := by
    unfold atI
    rw [List.length_map, hg1.len, hm]
    show (qs1.map V.ref)[m]? = _
    rw [List.getElem?_map, hq]
    rfl
  refine .inl ⟨s, qs1.map V.ref, a, .ref q, rfl, ry.int_inv, .inl (.inl hs1), hat, ?_⟩
  refine q2 B ad σ F2 H2 p2.wa _ fun b' ρ3 u F3 H3 q3 p3 ru => ?_
  obtain ⟨b, j, rows, r, rfl, h3, hr, hj, ρ', l, q3⟩ := q3
  have st3 := p3.wa.sl i _ h3
  obtain ⟨s2, k2, qs2, has2, nd2, hs2, hg2⟩ := st3
  rw [k0] at k2
  cases k2
  have eq : qs2 = qs1 := by
    have := has2.symm.trans has1
    simpa using this
  subst eq
  obtain ⟨q', hq', hH⟩ := hg2.get hr
  rw [hq] at hq'
  cases hq'
  have hqm : q ∈ qs2 := List.mem_of_getElem? hq
  have hqa : q ∈ ad i := by rw [has2]; simp [hqm]
  have hFq : F3 q = none := (p3.wa.fz i q hqa).1
  have hsq : s ≠ q := fun e => (List.nodup_cons.mp nd2).1 (by rw [e]; exact hqm)
  refine ⟨q, r.map ov, b, j, rfl, ru.int_inv, hH, by rw [List.length_map]; exact hj, ?_⟩
  have eset : (r.map ov).set j v = (r.set j x).map ov := by rw [ev, List.map_set]
  rw [eset]
  have g : Gr (· ∈ ad i) F3 H3 F3 (upd H3 q (.lst ((r.set j x).map ov))) := ⟨Same.refl F3, fun a o e => by
      rw [upd_ne (fun z => by rw [z, hFq] at e; cases e)]
      exact p3.wa.gr.fh a o e, fun a o e mm => by
      rw [upd_ne (fun z => mm (by rw [z]; exact hqa))]
      exact e, fun a e => by
      by_cases ha : a = q
      · rw [ha, upd_same]; intro z; cases z
      · rw [upd_ne ha]; exact e, fun _ _ z => z⟩
  refine n ρ' σ F3 _ q3 (W.weak ⟨ad, p3.wa.stp (S' := .grd (rows.set m (r.set j x))) h3 k0 g ⟨qs2, has2, nd2, ?_, ?_⟩ fun a ha => (p3.wa.fz i a ha).1⟩ l)
  · rw [upd_ne hsq]; exact hs2
  · exact GrA.set (List.nodup_cons.mp nd2).2 hg2 hq
/-- the lists are data from now on -/
theorem rpa_grd {F : Hp} : ∀ {qs : List Addr} {rows : List (List (Option Int))}, GrA F qs rows → RpA F (qs.map V.ref) (rows.map rowD)
  | [], [], _ => .nil
  | q :: qs, r :: rows, h => .cons (.lst (.inl h.1) (rpa_ov F r)) (rpa_grd h.2)
  | [], _ :: _, h => h.elim
  | _ :: _, [], h => h.elim
theorem sx_frzG (i : Nat) (h00 : i ≠ 0) {rows : List (List (Option Int))} (h : ρ[i]? = some (.st (.grd rows))) (k : SX t (ρ.set i (.val (.list (rows.map rowD)))) P) : SX t ρ P := fun B σ F H w => by
  obtain ⟨ad, w⟩ := w
  obtain ⟨s, k0, qs, has, nd, hs, hg⟩ := w.sl i _ h
  have hn : ∀ p ∈ ad i, B.H0 p = none := fun p m => by
    rcases (w.fz i p m).2 with q | q
    · exact q
    · exact absurd q.2 h00
  have up : Same F (fun a => if a ∈ ad i then H a else F a) := fun a o e => by
    have : a ∉ ad i := fun m => by rw [(w.fz i a m).1] at e; cases e
    show (if a ∈ ad i then H a else F a) = some o
    rw [if_neg this]; exact e
  have at1 : ∀ a ∈ ad i, (if a ∈ ad i then H a else F a) = H a := fun a m => if_pos m
  refine k B σ (fun a => if a ∈ ad i then H a else F a) H ⟨fun j => if j = i then [] else ad j, ⟨w.gr.ff.trans up, fun a o e => ?_, w.gr.kp, w.gr.al, fun a e z => ?_⟩, by rw [List.length_set]; exact w.len, fun j sl e => ?_, fun j q m => ?_, fun j1 j2 q m1 m2 => ?_, fun j e => ?_, w.pin.to fun S2 e => by
    rcases get_set e with ⟨e0, _⟩ | ⟨hj, e⟩
    · exact absurd e0.symm h00
    · exact ⟨⟨S2, e⟩, rfl, if_neg hj⟩⟩
  · have e : (if a ∈ ad i then H a else F a) = some o := e
    by_cases m : a ∈ ad i
    · rw [at1 a m] at e; exact e
    · skip
      rw [if_neg m] at e; exact w.gr.fh a o e
  · have m : a ∉ ad i := fun m => e (hn a m)
    show (if a ∈ ad i then H a else F a) = none
    rw [if_neg m]
    exact w.gr.fr a e z
  · rcases get_set e with ⟨rfl, rfl⟩ | ⟨hj, e⟩
    · refine ⟨if_pos rfl, .ref s, k0, .lst (xs := qs.map V.ref) (.inl ?_) (rpa_grd (hg.keep fun q hq o e => ?_))⟩
      · exact (at1 s (by rw [has]; simp)).trans hs
      · exact (at1 q (by rw [has]; simp [hq])).trans e
    · rw [if_neg hj]
      have k := w.sl j sl e
      cases sl with
      | emp => exact k
      | val d =>
        obtain ⟨k, v, e, r⟩ := k
        exact ⟨k, v, e, r.up up⟩
      | own es =>
        obtain ⟨q, ws, a1, a2, a3, a4, a5⟩ := k
        exact ⟨q, ws, a1, a2, a3, a4, a5.up up⟩
      | st S2 => exact k
  · by_cases hj : j = i
    · simp only [if_pos hj] at m; cases m
    · simp only [if_neg hj] at m
      have : q ∉ ad i := fun m' => hj (w.dj j i q m m')
      refine ⟨?_, (w.fz j q m).2⟩
      show (if q ∈ ad i then H q else F q) = none
      rw [if_neg this]
      exact (w.fz j q m).1
  · by_cases h1 : j1 = i
    · simp only [if_pos h1] at m1; cases m1
    · by_cases h2 : j2 = i
      · simp only [if_pos h2] at m2; cases m2
      · simp only [if_neg h1] at m1
        simp only [if_neg h2] at m2
        exact w.dj j1 j2 q m1 m2
  · show (if j = i then [] else ad j) = []
    by_cases hj : j = i
    · rw [if_pos hj]
    · rw [if_neg hj]; exact w.out j (get_set' e)
/-- a, b, c = (an own list), (data), (a state): a tuple that nobody keeps -/
theorem sx_parOVN {K : PySem.W.Frag} {a b c : Nat} {te1 te2 te3 : TE} (h00 : c ≠ 0) (h : EO te1 ρ fun ds1 ρ1 => EX te2 ρ1 fun d2 ρ2 => EN te3 ρ2 fun S ρ3 => NX P (((ρ3.set a (.own ds1)).set b (.val d2)).set c (.st S))) :
    SX (tAsg (tTup (tCons te1 (tCons te2 (tCons te3 tNil)))) (gTup K 3 (gCons (gName a) (gCons (gName b) (gCons (gName c) gNil))))) ρ P := fun B σ F H w Dn n r bk ct => by
  obtain ⟨ad, w⟩ := w
  refine h B ad σ F H w _ fun ds1 ρ1 p1 vs1 F1 H1 q1 P1 hF1 hH1 hp1 rv1 => ?_
  refine q1 B ad σ F1 H1 P1.wa _ fun d2 ρ2 v2 F2 H2 q2 P2 rv2 => ?_
  refine q2 B ad σ F2 H2 P2.wa _ fun S s as ρ3 F4 H4 F3 H3 q3 P4 g st fn => ?_
  obtain ⟨ρ', l, q⟩ := q3
  refine ⟨by show 3 ≤ sizeLine; decide, fun T hT => ?_⟩
  have P3 := P4.trans (Post.of P4.wa g)
  have n1 := w.newp hH1
  have nms : ∀ (ρ2 : Pu.Env), ¬ MS ad ρ2 p1 := fun ρ2 ⟨j, S, _, m⟩ => n1.2.2 j m
  have hp2 : H2 p1 = some (.lst vs1) := P2.gr.kp p1 _ hp1 (nms _)
  have hp4 : H4 p1 = some (.lst vs1) := P4.gr.kp p1 _ hp2 (nms _)
  have hp1' : H3 p1 = some (.lst vs1) := P3.gr.kp p1 _ hp2 (nms _)
  have hF1' : F3 p1 = none := P3.gr.fr p1 (by rw [hp2]; intro z; cases z) (P2.gr.fr p1 (by rw [hp1]; intro z; cases z) hF1)
  have nT := P3.wa.newp hT
  have ne1 : p1 ≠ T := fun e => by rw [e, hT] at hp1'; cases hp1'
  have nas : ∀ x ∈ as, x ≠ T := fun x hx e => (st.mem.2 x hx) (by rw [e]; exact hT)
  have nap : ∀ x ∈ as, x ≠ p1 := fun x hx e => by have := (fn x hx).2; rw [e, hp4] at this; cases this
  have w4 := P3.wa.updD (o := .tup [.ref p1, v2, .ref s]) nT.2.1 nT.2.2 nT.1
  have w5 := w4.setOwn2 a hF1' n1.2.1 n1.2.2 (by rw [upd_ne ne1]; exact hp1') (rv1.up (P2.gr.ff.trans P3.gr.ff))
  have w6 := w5.setVal2 b (rv2.up P3.gr.ff)
  have w7 := w6.setSt2 c (S := S) (s := s) (as := as) h00 (st.keep fun x hx o e => by rw [upd_ne (nas x hx)]; exact e) (fun x hx => (fn x hx).1) fun x hx => ⟨(P4.wa.newp (fn x hx).2).2.1, fun i m => by
    by_cases hb : i = b
    · simp only [if_pos hb] at m; cases m
    · simp only [if_neg hb] at m
      by_cases ha : i = a
      · simp only [if_pos ha] at m
        split at m
        · exact nap x hx (List.mem_singleton.mp m)
        · cases m
      · simp only [if_neg ha] at m
        exact (P4.wa.newp (fn x hx).2).2.2 i m⟩
  refine ⟨T, [.ref p1, v2, .ref s], rfl, .inl (.inl upd_same), rfl, _, _, rfl, _, _, rfl, _, _, rfl, rfl, ?_⟩
  exact n ρ' _ F3 _ q (W.weak ⟨_, w7⟩ l)
/-- a, b, c = (an own list), (data), (a state), plain local names -/
theorem sx_par3N {a b c : Nat} {te1 te2 te3 : TE} (h00 : c ≠ 0) (h : EO te1 ρ fun ds1 ρ1 => EX te2 ρ1 fun d2 ρ2 => EN te3 ρ2 fun S ρ3 => NX P (((ρ3.set a (.own ds1)).set b (.val d2)).set c (.st S))) :
    SX (tPar3 a b c (tCons te1 (tCons te2 (tCons te3 tNil)))) ρ P := fun B σ F H w Dn n r bk ct => by
  obtain ⟨ad, w⟩ := w
  refine h B ad σ F H w _ fun ds1 ρ1 p1 vs1 F1 H1 q1 P1 hF1 hH1 hp1 rv1 => ?_
  refine q1 B ad σ F1 H1 P1.wa _ fun d2 ρ2 v2 F2 H2 q2 P2 rv2 => ?_
  refine q2 B ad σ F2 H2 P2.wa _ fun S s as ρ3 F4 H4 F3 H3 q3 P4 g st fn => ?_
  obtain ⟨ρ', l, q⟩ := q3
  have P3 := P4.trans (Post.of P4.wa g)
  have n1 := w.newp hH1
  have nms : ∀ (ρ2 : Pu.Env), ¬ MS ad ρ2 p1 := fun ρ2 ⟨j, S, _, m⟩ => n1.2.2 j m
  have hp2 : H2 p1 = some (.lst vs1) := P2.gr.kp p1 _ hp1 (nms _)
  have hp4 : H4 p1 = some (.lst vs1) := P4.gr.kp p1 _ hp2 (nms _)
  have hp1' : H3 p1 = some (.lst vs1) := P3.gr.kp p1 _ hp2 (nms _)
  have hF1' : F3 p1 = none := P3.gr.fr p1 (by rw [hp2]; intro z; cases z) (P2.gr.fr p1 (by rw [hp1]; intro z; cases z) hF1)
  have nap : ∀ x ∈ as, x ≠ p1 := fun x hx e => by have := (fn x hx).2; rw [e, hp4] at this; cases this
  have w5 := P3.wa.setOwn2 a hF1' n1.2.1 n1.2.2 hp1' (rv1.up (P2.gr.ff.trans P3.gr.ff))
  have w6 := w5.setVal2 b (rv2.up P3.gr.ff)
  have w7 := w6.setSt2 c (S := S) (s := s) (as := as) h00 st (fun x hx => (fn x hx).1) fun x hx => ⟨(P4.wa.newp (fn x hx).2).2.1, fun i m => by
    by_cases hb : i = b
    · simp only [if_pos hb] at m; cases m
    · simp only [if_neg hb] at m
      by_cases ha : i = a
      · simp only [if_pos ha] at m
        split at m
        · exact nap x hx (List.mem_singleton.mp m)
        · cases m
      · simp only [if_neg ha] at m
        exact (P4.wa.newp (fn x hx).2).2.2 i m⟩
  refine ⟨.ref p1, v2, .ref s, rfl, ?_⟩
  exact n ρ' _ F3 _ q (W.weak ⟨_, w7⟩ l)
theorem eo_if {tt : TT} {ta tb : TE} {Q : List D → Pu.Env → Prop} (h : ET tt ρ fun b ρ1 => (b = true → EO ta ρ1 Q) ∧ (b = false → EO tb ρ1 Q)) : EO (tIf tt ta tb) ρ Q := fun B ad σ F H w Z z =>
  h B ad σ F H w _ fun b ρ1 F1 H1 q1 p1 => by
    have up : ∀ p, H1 p = none → H p = none := fun p h => by
      cases q : H p with
      | none => rfl
      | some o => exact absurd h (p1.gr.al p (by rw [q]; intro z; cases z))
    cases b with
    | true =>
      show ta σ H1 Z
      exact q1.1 rfl B ad σ F1 H1 p1.wa Z fun ds ρ' p vs F' H' q pp a b c r => z ds ρ' p vs F' H' q (p1.trans pp) a (up p b) c r
    | false =>
      show tb σ H1 Z
      exact q1.2 rfl B ad σ F1 H1 p1.wa Z fun ds ρ' p vs F' H' q pp a b c r => z ds ρ' p vs F' H' q (p1.trans pp) a (up p b) c r
end
/-- l, l - 1, .., n of them -/
def dnI (l : Int) (n : Nat) : List Int := (List.range n).map fun k : Nat => l - (k : Int)
theorem dnI_len (l : Int) (n : Nat) : (dnI l n).length = n := by simp [dnI]
theorem dnI_get {l : Int} {n k : Nat} (h : k < n) : (dnI l n)[k]? = some (l - (k : Int)) := by simp [dnI, h]
theorem itd_dn {F : Hp} (l : Int) (n : Nat) : ItD (Itc l (-1) n) F ((dnI l n).map .int) where
  go := fun i H _ h => by rw [List.length_map, dnI_len] at h; exact h
  stop := fun i H _ h => by rw [List.length_map, dnI_len] at h; exact h
  yld := fun i H x H' F1 _ e2 y h => by
    rw [List.length_map, dnI_len] at h
    obtain ⟨rfl, rfl⟩ := y
    refine ⟨.int (l - (i : Int)), F1, by rw [List.getElem?_map, dnI_get h]; rfl, Gr.refl e2, ?_⟩
    have e : l + ((i : Nat) : Int) * (-1) = l - (i : Int) := by omega
    rw [e]
    exact .int _
theorem ei_rngD {ρ : Pu.Env} {t : TA} {Q : List D → Pu.Env → Prop} (h : EA t ρ fun ds ρ1 => ∃ l n, ds = [.int l, .int n, .int (-1)] ∧ (-1000000000000 ≤ l ∧ l ≤ 1000000000000 ∧ -1000000000000 ≤ n ∧ n ≤ 1000000000000) ∧ Q ((dnI l (l - n).toNat).map .int) ρ1) : EI (iRng3 t) ρ Q := fun B ad σ F H w R z =>
  h B ad σ F H w _ fun ds ρ1 vs F1 H1 q p r => by
    obtain ⟨l, n, rfl, ⟨hl1, hl2, hn1, hn2⟩, q⟩ := q
    cases r with
    | cons r1 r =>
      cases r with
      | cons r2 r =>
        cases r with
        | cons r3 r =>
          cases r
          exact ⟨l, n, -1, (l - n).toNat, by rw [r1.int_inv, r2.int_inv, r3.int_inv], RgC.neg (by omega) (by omega) (by omega) (by omega), z _ ρ1 _ F1 H1 q p (itd_dn l _)⟩
end Pu
/-! PuU: set(a list of ints), sorted and len of it; all and any of a list of truth values. -/
namespace Pu
open PySem PySem.Spec PyProof.Rows L2
abbrev newSet (w : World) : Obj := { cls := .type "set", dict := none, data := .set #[] 0 (.fresh 0 0 (!w.params.followText "set-order")) }
section
variable {P : Program} {w : World} {A : Around} {E : Value → Shared → Prop} {s : Shared}
set_option maxHeartbeats 8000000 in
theorem call_set_lstI {l : Addr} {items : Array Value} (ns : List Int) {Q : Value → Shared → Prop} (hh : A.handled = none) (hl : s.heap.IsList l items) (hit : IntsAre items.toList ns) (hb : ns.length + 1 < scanBound)
    (h : ∀ (h' : Heap) (tk c : Nat), SetR w h' s.heap.objs.size (fun j => decide (j ∈ ns)) c → c ≤ ns.length → (∀ b o, s.heap.get? b = some o → h'.get? b = some o) → Q (.ref s.heap.objs.size) { s with heap := h', toks := tk }) :
    wpAny (model P w) A (call (.type "set") [.ref l]) Q E s := by
  have hisz : items.size = ns.length := by
    have q := IntsAre.length hit
    rwa [Array.length_toList] at q
  obtain ⟨c, tl, hmro⟩ := F.called_set.mro
  have hmade := F.called_set.made
  have hsub := F.called_set.sub
  refine wpAny_call (codeAny_of_tree ?_)
  show wpAny _ _ (callAny (.type "set") _) _ _ _
  refine wpAny_pure ⟨Code.quiet_builtin _ (by decide +kernel), codeAny_builtin F.entry_type_call ?_⟩
  rw [Around.under_plain (weight_type_call_type "set" [.ref l] []) rfl]
  have h1 := F.called_set.notType
  have h2 := F.called_set.canCreate
  have hct := F.typeCall_set_1 (.ref l)
  repeat (any_goals (first | assumption | wp_step))

  refine codeAny_mono (code_set_led1 (.ref l) (E := E) (Q₁ := fun obj s₁ => obj = .ref s.heap.objs.size ∧ s₁ = { s with heap := s.heap.push (newSet w) }) ⟨rfl, rfl⟩) fun r s₁ hr => ?_
  cases r with
  | error e => exact hr
  | ok fl =>
    cases fl with
    | ret obj =>
      obtain ⟨rfl, rfl⟩ := hr
      have hS : (s.heap.push (newSet w)).get? s.heap.objs.size = some (newSet w) := Heap.get?_push_size _ rfl
      have hT : Shared.TypeIs { s with heap := s.heap.push (newSet w) } (.ref s.heap.objs.size) "set" := ⟨_, hS, rfl⟩
      have hli := F.called_set.init.lookup
      have hbi := F.called_set.init.bind (.ref s.heap.objs.size)
      repeat (any_goals (first | assumption | wp_step))

      refine codeAny_mono (codeAny_call_builtin (R := wants (fun r s₂ => r = .none ∧ ∃ h' tk c, s₂ = { s with heap := h', toks := tk } ∧ SetR w h' s.heap.objs.size (fun j => decide (j ∈ ns)) c ∧ c ≤ ns.length ∧
          (∀ b o, s.heap.get? b = some o → h'.get? b = some o)) E) F.called_set.init.plain F.entry_set_init (check_set_init_1 hT ?_)) fun r₂ s₂ hr₂ => ?_
      · obtain ⟨ol, hol, hcl, nl, hdl⟩ := hl
        obtain ⟨ocls, odict, odata, oslots⟩ := ol
        simp only at hcl hdl
        subst hcl; subst hdl
        have hol' : (s.heap.push (newSet w)).get? l = some { cls := .type "list", dict := odict, data := .seq items nl, slots := oslots } := Heap.get?_push_of_some _ hol
        have hsls := F.sub_list_set
        have hslf := F.sub_list_frozenset
        have hne : (Value.type "list" == Value.type "dict") = false := by decide
        have hl1 : (s.heap.push (newSet w)).IsList l items := ⟨_, hol', rfl, nl, rfl⟩
        unfold Builtin.«set.__init__» noKeywords Builtin.Frozenset.updateFrom
        generalize hPI : pyIter = PI
        wp_walk
        subst hPI

        refine wpAny_pyIter_list hl1 ?_
        refine wpAny_bind (wpAny_runValue ?_)
        have hlS : l < s.heap.objs.size := Heap.lt_size hol
        have hh3 : A.in1.in1.in1.handled = none := by simp [hh]
        have hneI : l ≠ (s.heap.push (newSet w)).objs.size := by
          rw [Heap.size_push]; exact Nat.ne_of_lt (Nat.lt_succ_of_lt hlS)
        have hSf : s.heap.objs.size ∉ [(s.heap.push (newSet w)).objs.size, l] := by
          rw [Heap.size_push]; simp only [List.mem_cons, List.not_mem_nil, or_false, not_or]
          exact ⟨Nat.ne_of_lt (Nat.lt_succ_self _), Nat.ne_of_gt hlS⟩
        have hval : ∀ (i : Nat) (v : Value), items[i]? = some v → ∃ k t, ns[i]? = some k ∧ v = .int k t := fun i v hv => by
          have hi : i < ns.length := by rw [← hisz]; exact (Array.getElem?_eq_some_iff.mp hv).1
          obtain ⟨t, e⟩ := PyProof.Rows.IntsAre.int_at hit i v (by rw [Array.getElem?_toList]; exact hv)
          refine ⟨ns[i], t, List.getElem?_eq_getElem hi, ?_⟩
          rw [e, List.getD_eq_getElem?_getD, List.getElem?_eq_getElem hi] <;> rfl
        refine set_update_ints ((Walks.list hh3 _ l hneI items).toS) s.heap.objs.size hSf ns hisz hb hval (items.size - 0) 0 _ (by omega) (Nat.zero_le _) ⟨⟨_, Heap.get?_push_size _ rfl, rfl, rfl⟩, (hl1.push _)⟩ ⟨0, Nat.le_refl 0, setR_new_at (Heap.get?_push_of_some _ hS)⟩ ?_
        intro s' c' hm hc' hS'
        obtain ⟨h', g2, d', tk', os'⟩ := s'
        have eg : g2 = s.gens := hm.gens
        have ed : d' = s.drawn := hm.drawn
        have eo : os' = s.os := hm.os
        subst eg; subst ed; subst eo
        show wpAny _ _ _ _ _ _
        refine wpAny_pure ?_
        show wpAny _ _ (ret Value.none) _ _ _
        rw [hisz] at hc'
        refine wpAny_pure ⟨rfl, h', tk', c', rfl, hS', hc', fun b o e => ?_⟩
        have hb0 : b < s.heap.objs.size := Heap.lt_size e
        have hb1 : b ≠ s.heap.objs.size := Nat.ne_of_lt hb0
        have hb2 : b ≠ (s.heap.push (newSet w)).objs.size := by
          rw [Heap.size_push]; exact Nat.ne_of_lt (Nat.lt_succ_of_lt hb0)
        exact hm.heap b o (by simp only [List.mem_cons, List.not_mem_nil, or_false, not_or]; exact ⟨hb1, hb2⟩) (Heap.get?_push_of_some _ (Heap.get?_push_of_some _ e))

      · cases r₂ with
        | error e => exact hr₂
        | ok fl₂ =>
          cases fl₂ with
          | ret r =>
            obtain ⟨rfl, h', tk, c', rfl, hS', hc', hk'⟩ := hr₂
            repeat (any_goals (first | assumption | wp_step))
            exact h _ _ _ hS' hc' hk'
          | _ => exact hr₂.elim
    | _ => exact hr.elim
end
theorem few_in : ∀ (m : Nat) {l : List Int} {lo : Int}, l.Nodup → (∀ x ∈ l, lo ≤ x ∧ x < lo + (m : Int)) → l.length ≤ m
  | 0, l, lo, _, h => by
    cases l with
    | nil => exact Nat.le_refl _
    | cons x l => have := h x (by simp); omega
  | m + 1, l, lo, nd, h => by
    have k := few_in m (l := l.erase (lo + (m : Int))) (lo := lo) (nd.erase _) fun x hx => by
      have q := (List.Nodup.mem_erase_iff nd).mp hx
      have := h x q.2
      have := q.1
      omega
    rw [List.length_erase] at k
    split at k <;> omega
theorem setR_few {w : World} {h : Heap} {a : Addr} {ns : List Int} {c : Nat} (R : SetR w h a (fun j => decide (j ∈ ns)) c) (hc : c ≤ ns.length) (hb : ns.length < 64 ∨ ∃ lo : Int, ∀ x ∈ ns, lo ≤ x ∧ x < lo + 63) : c < 64 := by
  rcases hb with hb | ⟨lo, hb⟩
  · omega
  · obtain ⟨o, es, ep, t, _, _, _, _, nd, hm, _, _, hs, _⟩ := R
    have k := few_in 63 (lo := lo) nd fun x hx => by
      have := (hm x).mpr hx
      rw [decide_eq_true_eq] at this
      exact hb x this
    rw [List.length_map, Array.length_toList] at k
    omega
section
variable {X : Cx}
/-- sorted(set(a list of ints)): a new list -/
def tSS (K : PySem.W.Frag) (te : TE) : TE := fun σ H Q => te σ H fun x H1 => ∃ (a : Addr) (ns : List Int), x = .ref a ∧ SqL K H1 a (ns.map V.int) ∧ (ns.length < 4000 ∧ (ns.length < 64 ∨ ∃ lo : Int, ∀ x ∈ ns, lo ≤ x ∧ x < lo + 63)) ∧
  ∀ (us : List Int) (H2 : Hp) (p : Addr), us.Pairwise (· < ·) → (∀ k, k ∈ us ↔ k ∈ ns) → us.length ≤ ns.length → Same H1 H2 → H2 p = none → Q (.ref p) (upd H2 p (.lst (us.map V.int)))
theorem pe_sortSet {a : Expr} {ta : TE} {p p2 q pos : Pos} (hc : X.calm = true) (hg : Gl X "sorted") (hm : X.mg "sorted" = none) (hg2 : Gl X "set") (hm2 : X.mg "set" = none) (ha : PE X a ta)
    (na : starEach [a] X.env = (false, eval a X.env) :: starEach [] X.env := by rfl) : PE X (.Call (.Name "sorted" p) [.Call (.Name "set" p2) [a] [] q] [] pos) (tSS X.K ta) := by
  refine ⟨fun pins s σ H Q I h => ?_⟩
  refine Call_ (ld_blt I hg hm boot_sorted ?_)
  refine PyProof.Rows.callWith_builtin1 (PyProof.Rows.args_cons ?_ rfl) rfl rfl
  refine Call_ (ld_blt I hg2 hm2 PyProof.Rows.boot_set ?_)
  refine PyProof.Rows.callWith_type1 (PyProof.Rows.args_cons (thn (ha.run pins s σ H _ I h) fun v s1 ⟨x, H1, I1, r1, q1⟩ => PyProof.Rows.args_nil ?_) na) na rfl
  obtain ⟨l, ns, rfl, hq, ⟨hl, hfew⟩, q1⟩ := q1
  cases r1
  obtain ⟨its, rv, hil, hzl⟩ := I1.list hq
  have hi : IntsAre its.toArray.toList ns := ints_of_vals rv
  refine call_set_lstI ns (I1.ok.hd hc) hil.isList hi (by unfold scanBound; omega) fun h' tk c R hcn k => PyProof.Rows.args_nil ?_
  have I2 : Inv X pins σ H1 { s1 with heap := h', toks := tk } := I1.kept k
  refine sorted_set R (I2.ok.hd hc) (setR_few R hcn hfew) fun s' p out c2 us k2 g o hp hg hus hs hm hul => ?_
  have hlen : (us.map V.int).length ≤ sizeLine := by rw [List.length_map, hul, sizeLine_eq]; omega
  have hn : H1 p = none := I2.hok.fresh hp
  have J : Inv X pins σ (upd H1 p (.lst (us.map V.int))) { { s1 with heap := h', toks := tk } with heap := s'.heap, gens := s'.gens, drawn := s'.drawn, toks := s'.toks } :=
    I2.call (ch := []) (Un.laid k2 hp hn) (I2.hok.laid k2 hp ⟨hlen, out.toList, c2, vals_of_ints hus, hg⟩) (by rw [g]; exact I2.bare) (fun _ z => nomatch z)
  have e : s' = { { s1 with heap := h', toks := tk } with heap := s'.heap, gens := s'.gens, drawn := s'.drawn, toks := s'.toks } := by
    cases s'
    cases s1
    cases o
    rfl
  rw [e]
  exact ⟨.ref p, _, J, rfl, q1 us H1 p hs (fun k => by rw [hm k, decide_eq_true_eq]) (by omega) (fun _ _ z => z) hn⟩
theorem eo_sortSetB {K : PySem.W.Frag} {ρ : Pu.Env} {te : TE} {Q : List D → Pu.Env → Prop} (h : EX te ρ fun d ρ1 => ∃ ns : List Int, d = .list (ns.map .int) ∧ (ns.length < 4000 ∧ (ns.length < 64 ∨ ∃ lo : Int, ∀ x ∈ ns, lo ≤ x ∧ x < lo + 63)) ∧ ∀ us : List Int, us.Pairwise (· < ·) → (∀ k, k ∈ us ↔ k ∈ ns) → us.length ≤ ns.length → Q (us.map .int) ρ1) : EO (tSS K te) ρ Q := fun B ad σ F H w Z z =>
  h B ad σ F H w _ fun d ρ1 v F1 H1 q1 p1 rv => by
    obtain ⟨ns, rfl, hl, q⟩ := q1
    obtain ⟨a, xs, rfl, h1, h2⟩ := rv.lst_inv
    have e := h2.ints_inv
    subst e
    refine ⟨a, ns, rfl, sqL_rd h1 p1.wa.gr.fh, hl, fun us H2 p hs hm hle sm hp => ?_⟩
    have hH1 : H1 p = none := by
      cases e : H1 p with
      | none => rfl
      | some o => rw [sm p o e] at hp; cases hp
    have hH : H p = none := by
      cases e : H p with
      | none => rfl
      | some o => exact absurd hH1 (p1.gr.al p (by rw [e]; intro z; cases z))
    have g : Same H1 (upd H2 p (.lst (us.map V.int))) := sm.trans (same_upd hp)
    exact z (us.map .int) ρ1 p (us.map V.int) F1 _ (q us hs hm hle) (p1.trans (Post.of p1.wa (Gr.heap p1.wa.gr.fh g))) (p1.wa.newp hH1).1 hH upd_same (RpA.ints us)
theorem eo_sortSet {K : PySem.W.Frag} {ρ : Pu.Env} {te : TE} {Q : List D → Pu.Env → Prop} (h : EX te ρ fun d ρ1 => ∃ ns : List Int, d = .list (ns.map .int) ∧ ns.length < 64 ∧ ∀ us : List Int, us.Pairwise (· < ·) → (∀ k, k ∈ us ↔ k ∈ ns) → us.length ≤ ns.length → Q (us.map .int) ρ1) : EO (tSS K te) ρ Q :=
  eo_sortSetB (h.imp fun d ρ1 q => by
    obtain ⟨ns, e, hl, q⟩ := q
    exact ⟨ns, e, ⟨by omega, .inl hl⟩, q⟩)
/-- all, any of truth values -/
def rAllB (K : PySem.W.Frag) : List V → Hp → VK → Prop := fun vs H Q => ∃ (F : Hp) (a : Addr) (xs : List V) (bs : List Bool), vs = [.ref a] ∧ Same F H ∧ Rd F a (.lst xs) ∧ RpA F xs (bs.map .bool) ∧ Q (.bl (bs.all id)) H
def rAnyB (K : PySem.W.Frag) : List V → Hp → VK → Prop := fun vs H Q => ∃ (F : Hp) (a : Addr) (xs : List V) (bs : List Bool), vs = [.ref a] ∧ Same F H ∧ Rd F a (.lst xs) ∧ RpA F xs (bs.map .bool) ∧ Q (.bl (bs.any id)) H
theorem plain_bools : ∀ bs : List Bool, PyData.plainAll (bs.map PyData.bool) = true
  | [] => rfl
  | b :: bs => by rw [List.map_cons, PyData.plainAll, plain_bools bs]; rfl
theorem cb_all (hc : X.calm = true) : CallR X (.builtin "all") (rAllB X.K) := by
  rintro pins s σ H vs us Q I r ⟨F, a, xs, bs, rfl, e, ha, ra, q⟩
  obtain ⟨its, rv, hl, hzl⟩ := I.list (sqL_rd (K := X.K) ha e)
  obtain ⟨as, rr⟩ := rpa_reads I e ra rv
  rw [Vals.ref1 r]
  refine PySem.W.all_list_data (I.ok.hd hc) hl.isList (by simpa using rr) (plain_bools bs) (fun x hx => by
    obtain ⟨b, _, rfl⟩ := List.mem_map.mp hx
    exact trivial) fun h' tk k => ?_
  refine ⟨.bl (bs.all id), H, I.kept k, ?_, q⟩
  rw [List.all_map]
  rfl
theorem cb_any (hc : X.calm = true) : CallR X (.builtin "any") (rAnyB X.K) := by
  rintro pins s σ H vs us Q I r ⟨F, a, xs, bs, rfl, e, ha, ra, q⟩
  obtain ⟨its, rv, hl, hzl⟩ := I.list (sqL_rd (K := X.K) ha e)
  obtain ⟨as, rr⟩ := rpa_reads I e ra rv
  rw [Vals.ref1 r]
  refine PySem.W.any_list_data (I.ok.hd hc) hl.isList (by simpa using rr) (plain_bools bs) (fun x hx => by
    obtain ⟨b, _, rfl⟩ := List.mem_map.mp hx
    exact trivial) fun h' tk k => ?_
  refine ⟨.bl (bs.any id), H, I.kept k, ?_, q⟩
  rw [List.any_map]
  rfl
theorem cbd_all {K : PySem.W.Frag} {bs : List Bool} {Q : D → Prop} (k : Q (.bool (bs.all id))) : CbD (rAllB K) [.list (bs.map .bool)] Q := fun F H vs e r Z z => by
  obtain ⟨v, rfl, rv⟩ := r.one
  obtain ⟨a, xs, rfl, h1, h2⟩ := rv.lst_inv
  exact ⟨F, a, xs, bs, rfl, e, h1, h2, z _ _ F H k (Gr.refl e) (.bl _)⟩
theorem cbd_any {K : PySem.W.Frag} {bs : List Bool} {Q : D → Prop} (k : Q (.bool (bs.any id))) : CbD (rAnyB K) [.list (bs.map .bool)] Q := fun F H vs e r Z z => by
  obtain ⟨v, rfl, rv⟩ := r.one
  obtain ⟨a, xs, rfl, h1, h2⟩ := rv.lst_inv
  exact ⟨F, a, xs, bs, rfl, e, h1, h2, z _ _ F H k (Gr.refl e) (.bl _)⟩
end
/-- two rising lists with the same members are one -/
theorem ris_eq : ∀ {xs ys : List Int}, xs.Pairwise (· < ·) → ys.Pairwise (· < ·) → (∀ k, k ∈ xs ↔ k ∈ ys) → xs = ys
  | [], [], _, _, _ => rfl
  | [], y :: ys, _, _, h => absurd ((h y).mpr (by simp)) (by simp)
  | x :: xs, [], _, _, h => absurd ((h x).mp (by simp)) (by simp)
  | x :: xs, y :: ys, hx, hy, h => by
    rw [List.pairwise_cons] at hx hy
    have e : x = y := by
      rcases List.mem_cons.mp ((h x).mp (by simp)) with q | q
      · exact q
      · rcases List.mem_cons.mp ((h y).mpr (by simp)) with q2 | q2
        · exact q2.symm
        · have := hx.1 y q2
          have := hy.1 x q
          omega
    subst e
    refine congrArg (x :: ·) (ris_eq hx.2 hy.2 fun k => ?_)
    constructor
    · intro hk
      rcases List.mem_cons.mp ((h k).mp (List.mem_cons_of_mem _ hk)) with q | q
      · have := hx.1 k hk; omega
      · exact q
    · intro hk
      rcases List.mem_cons.mp ((h k).mpr (List.mem_cons_of_mem _ hk)) with q | q
      · have := hy.1 k hk; omega
      · exact q
end Pu
/-! PuV: list(range(..)); (a, b) = a list; [list(x) for x in tuples] as a state. -/
namespace Pu
open PySem L2
def rowT (row : List (Option Int)) : D := .tuple (row.map optD)
section
variable {ρ : Pu.Env} {P : Po} {te ta tb tc : TE} {t : TS} {K : PySem.W.Frag}
/-- list(range(n)), list(range(a, b)) -/
theorem rgV_is (i j : Int) : rgV i j = (rngI i (j - i).toNat).map V.int := by
  unfold rgV rngI
  rw [List.map_map]
  rfl
theorem eo_listRg {te : St → Hp → (Int → Int → Hp → Prop) → Prop} {Q : List D → Pu.Env → Prop} (h : ∀ B ad σ F H, WA B ad ρ σ F H → ∀ Z : Int → Int → Hp → Prop, (∀ i j ρ' F' H', ((-1000000 ≤ i ∧ i ≤ 1000000 ∧ -1000000 ≤ j ∧ j ≤ 1000000) ∧ Q ((rngI i (j - i).toNat).map .int) ρ') → Post B ad σ ρ F H ρ' F' H' → Z i j H') → te σ H Z) : EO (tLstRg te) ρ Q := fun B ad σ F H w Z z =>
  h B ad σ F H w _ fun i j ρ' F' H' q p => by
    obtain ⟨⟨b1, b2, b3, b4⟩, q⟩ := q
    refine ⟨⟨by omega, by omega, by omega, by omega, by omega⟩, fun l hl => ?_⟩
    have hH : H l = none := by
      cases e : H l with
      | none => rfl
      | some o => exact absurd hl (p.gr.al l (by rw [e]; intro z; cases z))
    rw [rgV_is]
    exact z _ ρ' l _ F' _ q (p.trans (Post.of p.wa (Gr.heap p.wa.gr.fh (same_upd hl)))) (p.wa.newp hl).1 hH upd_same (RpA.ints _)
theorem eo_listRg1 {Q : List D → Pu.Env → Prop} (h : EX ta ρ fun d ρ1 => ∃ n, d = .int n ∧ (-1000000 ≤ n ∧ n ≤ 1000000) ∧ Q ((rngI 0 n.toNat).map .int) ρ1) : EO (tLstRg (tRg1 ta)) ρ Q := eo_listRg fun B ad σ F H w Z z =>
  h B ad σ F H w _ fun d ρ1 v F1 H1 q p rv => by
    obtain ⟨n, rfl, ⟨h1, h2⟩, q⟩ := q
    exact ⟨n, rv.int_inv, z 0 n ρ1 F1 H1 ⟨⟨by omega, by omega, h1, h2⟩, by rw [Int.sub_zero]; exact q⟩ p⟩
theorem eo_listRg2 {Q : List D → Pu.Env → Prop} (h : EX ta ρ fun d ρ1 => EX tb ρ1 fun e ρ2 => ∃ i j, d = .int i ∧ e = .int j ∧ (-1000000 ≤ i ∧ i ≤ 1000000 ∧ -1000000 ≤ j ∧ j ≤ 1000000) ∧ Q ((rngI i (j - i).toNat).map .int) ρ2) : EO (tLstRg (tRg2 ta tb)) ρ Q := eo_listRg fun B ad σ F H w Z z =>
  h B ad σ F H w _ fun d ρ1 v F1 H1 q1 p1 rv => q1 B ad σ F1 H1 p1.wa _ fun e ρ2 u F2 H2 q2 p2 ru => by
    obtain ⟨i, j, rfl, rfl, hb, q⟩ := q2
    exact ⟨i, j, rv.int_inv, ru.int_inv, z i j ρ2 F2 H2 ⟨hb, q⟩ (p1.trans p2)⟩
/-- (a, b) = a list -/
theorem sg_unl {J : List Nat} {n : Nat} {gs : TGs} {ds : List D} {Qn : Pu.Env → Prop} (hn : ds.length = n) (h : SGs J gs ds ρ Qn) : SG J (gUnl K n gs) (.list ds) ρ Qn := fun B ad σ F H v w hJ r Z z => by
  obtain ⟨a, xs, rfl, h1, h2⟩ := r.lst_inv
  exact ⟨a, xs, rfl, sqL_rd h1 w.gr.fh, h2.len.trans hn, h B ad σ F H xs w hJ h2 Z z⟩
/-- the same over tuples -/
theorem en_gridT {r : Nat} {Q : Stt → Pu.Env → Prop} (h : EX te ρ fun d ρ1 => ∃ rows, d = .list (rows.map rowT) ∧ rows.length < 1000000 ∧ r < ρ1.length ∧ Q (.grd rows) ρ1) :
    EN (tLc (iList K te) (gName r) tYes (tCB (rList K) (tCons (tVar r) tNil)) [r]) ρ Q := fun B ad σ F H w Z z => by
  have hi : EI (iList K te) ρ fun ds ρ1 => ∃ rows : List (List (Option Int)), ds = rows.map rowT ∧ rows.length < 1000000 ∧ r < ρ1.length ∧ Q (.grd rows) ρ1 := ei_list (h.imp fun d ρ1 e => by
    obtain ⟨rows, e, k⟩ := e
    exact ⟨_, e, rows, rfl, k⟩)
  refine hi B ad σ F H w _ fun ds ρ1 J F1 H1 q1 p1 it => ?_
  obtain ⟨rows, rfl, hz, hr, q⟩ := q1
  intro Dl hD
  have hrs : r < σ.length := by rw [p1.wa.len]; exact hr
  have nF1 : F1 Dl = none := (p1.wa.newp hD).1
  let Inv := fun (k : Nat) (H' : Hp) => ∃ qs F', Gr Non F1 H1 F' H' ∧ (Dl :: qs).Nodup ∧ (∀ a ∈ Dl :: qs, F' a = none ∧ H1 a = none) ∧ H' Dl = some (.lst (qs.map V.ref)) ∧ GrA H' qs (rows.take k) ∧ qs.length = k
  refine ⟨fun i m H' => m = (rows.map rowT).length - i ∧ i ≤ (rows.map rowT).length ∧ Inv i H', ⟨_, rfl, Nat.zero_le _, [], F1, Gr.heap p1.wa.gr.fh (same_upd hD), by simp, fun a ha => ?_, upd_same, trivial, rfl⟩, ?_⟩
  · have e : a = Dl := by simpa using ha
    rw [e]
    exact ⟨nF1, hD⟩
  rintro i m H' ⟨rfl, hi, qs, F', g, nd, fn, hl, hg, ql⟩
  by_cases hlt : i < (rows.map rowT).length
  · refine .inr ⟨it.go i H' (g.ff.trans g.fh) hlt, fun H2 => Inv (i + 1) H2, fun H2 k => ⟨(rows.map rowT).length - (i + 1), by omega, rfl, hlt, k⟩, fun x H2 y => ?_⟩
    obtain ⟨d, F2, e, gr, rx⟩ := it.yld i H' x H2 F' g.ff g.fh y hlt
    rw [List.getElem?_map] at e
    obtain ⟨row, ex, rfl⟩ : ∃ row, rows[i]? = some row ∧ rowT row = d := by
      cases hx : rows[i]? with
      | none => rw [hx] at e; cases e
      | some a => rw [hx] at e; exact ⟨a, rfl, Option.some.inj e⟩
    obtain ⟨p, xs, rfl, h1, h2⟩ := rx.tup_inv
    have hxs := ovs_inv h2
    subst hxs
    have g2 : Gr Non F1 H1 F2 H2 := g.trans gr (fun _ _ z => z) fun _ _ z => z
    have alive : ∀ a ∈ Dl :: qs, H' a ≠ none := fun a ha => by
      rcases List.mem_cons.mp ha with rfl | ha
      · rw [hl]; intro z; cases z
      · exact hg.mem a ha
    have hl2 : H2 Dl = some (.lst (qs.map V.ref)) := gr.kp _ _ hl id
    have hg2 : GrA H2 qs (rows.take i) := hg.keep fun a _ o e => gr.kp a o e id
    refine ⟨?_, ?_⟩
    · rw [wipe_set (by simp), wipe_twice]
    show tCB (rList K) (tCons (tVar r) tNil) _ H2 _
    refine ⟨_, List.getElem?_set_self (by rw [wipe_length]; exact hrs), p, row.map ov, rfl, .inr (sqT_rd h1 gr.fh), fun l hl0 => ?_⟩
    have ne : l ≠ Dl := fun z => by rw [z, hl2] at hl0; cases hl0
    have lout : ∀ a ∈ Dl :: qs, a ≠ l := fun a ha z => gr.al a (alive a ha) (by rw [z]; exact hl0)
    have F2l : F2 l = none := by
      cases q : F2 l with
      | none => rfl
      | some o => rw [g2.fh l o q] at hl0; cases hl0
    have H1l : H1 l = none := by
      cases q : H1 l with
      | none => rfl
      | some o => exact absurd hl0 (g2.al l (by rw [q]; intro z; cases z))
    have F2D : ∀ a ∈ Dl :: qs, F2 a = none := fun a ha => gr.fr a (alive a ha) (fn a ha).1
    refine ⟨qs.map V.ref, by rw [upd_ne (Ne.symm ne)]; exact hl2, ?_, ?_⟩
    · rw [List.length_map, ql]
      have : i < rows.length := by rw [List.length_map] at hlt; exact hlt
      exact Nat.lt_trans (Nat.lt_trans this hz) (by decide)
    show Inv (i + 1) _
    have nf : ∀ a o, F2 a = some o → a ≠ l ∧ a ≠ Dl := fun a o e => ⟨(fun z => by rw [z, F2l] at e; cases e), (fun z => by rw [z, F2D Dl (by simp)] at e; cases e)⟩
    have n1 : ∀ a, H1 a ≠ none → a ≠ l ∧ a ≠ Dl := fun a e => ⟨fun z => e (by rw [z]; exact H1l), fun z => e (by rw [z]; exact hD)⟩
    refine ⟨qs ++ [l], F2, ⟨g2.ff, fun a o e => ?_, fun a o e m => ?_, fun a e => ?_, g2.fr⟩, ?_, ?_, ?_, ?_, by simp [ql]⟩
    · rw [upd_ne (nf a o e).2, upd_ne (nf a o e).1]
      exact g2.fh a o e
    · have na := n1 a (by rw [e]; intro z; cases z)
      rw [upd_ne na.2, upd_ne na.1]
      exact g2.kp a o e m
    · have na := n1 a e
      rw [upd_ne na.2, upd_ne na.1]
      exact g2.al a e
    · rw [List.nodup_cons] at nd ⊢
      refine ⟨fun m => ?_, ?_⟩
      · rcases List.mem_append.mp m with m | m
        · exact nd.1 m
        · exact ne (List.mem_singleton.mp m).symm
      · refine List.nodup_append.mpr ⟨nd.2, by simp, fun a ha b hb e => ?_⟩
        rw [List.mem_singleton.mp hb] at e
        exact lout a (by simp [ha]) e
    · intro a ha
      rcases List.mem_cons.mp ha with rfl | ha
      · exact ⟨F2D _ (by simp), hD⟩
      · rcases List.mem_append.mp ha with ha | ha
        · exact ⟨F2D a (by simp [ha]), (fn a (by simp [ha])).2⟩
        · rw [List.mem_singleton.mp ha]; exact ⟨F2l, H1l⟩
    · rw [upd_same, List.map_append]; rfl
    · rw [take_snoc' ex]
      refine GrA.out (fun m => ?_) (GrA.app upd_same (GrA.out (fun m => lout l (by simp [m]) rfl) hg2))
      rcases List.mem_append.mp m with m | m
      · exact (List.nodup_cons.mp nd).1 m
      · exact ne (List.mem_singleton.mp m).symm
  · have e : i = rows.length := by rw [List.length_map] at hlt hi; omega
    subst e
    rw [List.take_length] at hg
    exact .inl ⟨it.stop _ H' (g.ff.trans g.fh) (by rw [List.length_map]; exact Nat.le_refl _), z (.grd rows) Dl (Dl :: qs) ρ1 F1 H1 F' H' q p1 g ⟨qs, rfl, nd, hl, hg⟩ fn⟩

/-! sorted lists of pairs -/
def leP (a b : Int × Int) : Bool := !ltP b a
theorem sortD_P (xs : List (Int × Int)) : sortD (xs.map encP) = (xs.mergeSort leP).map encP := by
  have e := PySem.W.sort_maps (r := leP) (s := PySem.W.dataLe false id) encP (l := xs) (fun a _ b _ => by
    show (!ltP b a) = (!PySem.W.dataLt (encP b) (encP a))
    rw [dataLt_P])
  exact e.symm
theorem alike_PP (xs : List (Int × Int)) : PySem.W.AllAlike (xs.map encP) := fun x hx y hy => by
  obtain ⟨a, _, rfl⟩ := List.mem_map.mp hx
  obtain ⟨b, _, rfl⟩ := List.mem_map.mp hy
  rfl
theorem sortable_P (xs : List (Int × Int)) : PySem.W.Sortable (xs.map encP) := .inl fun x hx => by
  obtain ⟨a, _, rfl⟩ := List.mem_map.mp hx
  exact ⟨_, _, rfl⟩
theorem deep_P (xs : List (Int × Int)) : PyData.depthAll (xs.map encP) ≤ 60 := depthAll_le (dpn_map fun x _ => dpn_tup (dpn_cons dpn_int (dpn_cons dpn_int dpn_nil)))
theorem cbd_sortP {xs : List (Int × Int)} {Q : D → Prop} (k : Q (.list ((xs.mergeSort leP).map encP))) : CbD (rSrD K) [.list (xs.map encP)] Q := cbd_sortD (alike_PP xs) (sortable_P xs) (deep_P xs) (by rw [sortD_P]; exact k)
theorem leP_trans (a b c : Int × Int) (h1 : leP a b = true) (h2 : leP b c = true) : leP a c = true := by
  simp only [leP, ltP, Bool.not_eq_true', decide_eq_false_iff_not] at *
  omega
theorem leP_total (a b : Int × Int) : (leP a b || leP b a) = true := by
  simp only [leP, ltP, Bool.or_eq_true, Bool.not_eq_true', decide_eq_false_iff_not]
  omega
theorem rng_nodup (n : Nat) : (rngI 0 n).Nodup := by
  unfold rngI
  exact List.pairwise_map.mpr (List.nodup_range.imp fun h e => h (by omega))
/-! one item less, one more -/
theorem getD_setN {α : Type} {l : List α} {i j : Nat} {x a : α} (hi : i < l.length) : (l.set i x).getD j a = if j = i then x else l.getD j a := by
  rw [List.getD_eq_getElem?_getD, List.getD_eq_getElem?_getD]
  by_cases e : j = i
  · rw [if_pos e, e, List.getElem?_set_self hi]; rfl
  · rw [if_neg e, List.getElem?_set_ne (Ne.symm e)]
theorem sum_setI : ∀ {P : List Int} {k : Nat} {x : Int}, k < P.length → (P.set k x).sum = P.sum - P.getD k 0 + x
  | p :: P, 0, x, _ => by simp; omega
  | p :: P, k + 1, x, h => by
    have := sum_setI (P := P) (k := k) (x := x) (by simpa using h)
    simp only [List.set_cons_succ, List.sum_cons, List.getD_cons_succ]
    omega
/-! rows of two as a state -/
def tab2 (n : Nat) (f : Nat → Int × Int) : List (List (Option Int)) := (List.range n).map fun k => [some (f k).1, some (f k).2]
theorem tab2_len (n : Nat) (f : Nat → Int × Int) : (tab2 n f).length = n := by unfold tab2; simp
theorem tab2_at {n : Nat} {f : Nat → Int × Int} {k : Nat} (h : k < n) : (tab2 n f)[k]? = some [some (f k).1, some (f k).2] := by
  unfold tab2
  rw [List.getElem?_map, List.getElem?_range h]; rfl
theorem tab2_set {n : Nat} {f g : Nat → Int × Int} {k : Nat} {r : List (Option Int)} (h : k < n) (hr : r = [some (g k).1, some (g k).2]) (ho : ∀ j, j < n → j ≠ k → f j = g j) : (tab2 n f).set k r = tab2 n g := by
  apply List.ext_getElem?
  intro j
  by_cases hj : j < n
  · by_cases e : j = k
    · subst e
      rw [List.getElem?_set_self (by rw [tab2_len]; exact hj), tab2_at hj, hr]
    · rw [List.getElem?_set_ne (Ne.symm e), tab2_at hj, tab2_at hj, ho j hj e]
  · rw [List.getElem?_eq_none (by rw [List.length_set, tab2_len]; omega), List.getElem?_eq_none (by rw [tab2_len]; omega)]
theorem tab2_congr {n : Nat} {f g : Nat → Int × Int} (h : ∀ j, j < n → f j = g j) : tab2 n f = tab2 n g := by
  unfold tab2
  refine List.map_congr_left fun k hk => ?_
  rw [h k (List.mem_range.mp hk)]
theorem ixN_nat {n k : Nat} (h : k < n) : ixN n (k : Int) = some k := by
  unfold ixN
  rw [if_pos (by omega), if_pos (by omega), Int.toNat_natCast]

/-! an own list lent to what makes a new list of scalars or tuples of these -/
mutual
def flatD : D → Bool
  | .none => true
  | .bool _ => true
  | .int _ => true
  | .str _ => true
  | .tuple ds => flatAll ds
  | _ => false
def flatAll : List D → Bool
  | [] => true
  | d :: ds => flatD d && flatAll ds
end
def cutF (F : Hp) (p : Addr) : Hp := fun q => if q = p then none else F q
mutual
theorem flat_rp {F : Hp} {p : Addr} {ws : List V} (hp : F p = some (.lst ws)) : ∀ (d : D) {v : V}, flatD d = true → Rp F v d → Rp (cutF F p) v d
  | .none, _, _, h => by cases h; exact .non
  | .bool b, _, _, h => by cases h; exact .bl b
  | .int i, _, _, h => by cases h; exact .int i
  | .str x, _, _, h => by cases h; exact .str x
  | .list ds, _, f, _ => by simp [flatD] at f
  | .dict _, _, f, _ => by simp [flatD] at f
  | .tuple ds, _, f, h => by
    cases h with
    | @tup a xs _ h1 h2 =>
      have ne : a ≠ p := fun e => by rw [e, hp] at h1; cases h1
      exact .tup (show cutF F p a = _ by unfold cutF; rw [if_neg ne]; exact h1) (flat_rpa hp ds (by simpa [flatD] using f) h2)
theorem flat_rpa {F : Hp} {p : Addr} {ws : List V} (hp : F p = some (.lst ws)) : ∀ (ds : List D) {vs : List V}, flatAll ds = true → RpA F vs ds → RpA (cutF F p) vs ds
  | [], _, _, h => by cases h; exact .nil
  | d :: ds, _, f, h => by
    cases h with
    | cons h1 h2 =>
      simp only [flatAll, Bool.and_eq_true] at f
      exact .cons (flat_rp hp d f.1 h1) (flat_rpa hp ds f.2 h2)
end
theorem WA.back2 {B : Base} {ad : Nat → List Addr} {σ : St} {F H F' H' : Hp} (w : WA B ad ρ σ F H) {i : Nat} {ds : List D} (h : ρ[i]? = some (.own ds)) {p : Addr} {vs : List V} (hp : ad i = [p]) (hF : F p = none) (hHp : H p = some (.lst vs)) (h0 : B.H0 p = none) {ad1 : Nat → List Addr} {ρ1 : Pu.Env} (e1 : ρ1 = ρ.set i (.val (.list ds))) (ea : ad1 = fun k => if k = i then [] else ad k)
    (P : Post B ad1 σ ρ1 (upd F p (.lst vs)) H ρ1 F' H') : Post B ad σ ρ F H ρ (cutF F' p) H' := by
  subst e1 ea
  have ms : ∀ a, MS (fun k => if k = i then [] else ad k) (ρ.set i (.val (.list ds))) a → MS ad ρ a := fun a ⟨j, S, e, m⟩ => by
    rcases get_set e with ⟨_, q⟩ | ⟨hj, e⟩
    · cases q
    · simp only [if_neg hj] at m
      exact ⟨j, S, e, m⟩
  have ff : Same F (cutF F' p) := fun q o e => by
    have ne : q ≠ p := fun z => by rw [z, hF] at e; cases e
    unfold cutF
    rw [if_neg ne]
    exact P.gr.ff q o (by rw [upd_ne ne]; exact e)
  have fh : Same (cutF F' p) H' := fun q o e => by
    unfold cutF at e
    by_cases ne : q = p
    · rw [if_pos ne] at e; cases e
    · rw [if_neg ne] at e; exact P.gr.fh q o e
  have cutn : ∀ q, F' q = none → cutF F' p q = none := fun q e => by
    unfold cutF
    split
    · rfl
    · exact e
  have frq : ∀ a, H a ≠ none → F a = none → cutF F' p a = none := fun a e z => by
    by_cases ne : a = p
    · unfold cutF; rw [if_pos ne]
    · exact cutn a (P.gr.fr a e (by rw [upd_ne ne]; exact z))
  have nms : ∀ j q, q ∈ ad j → (∀ S, ρ[j]? ≠ some (Slot.st S)) → ¬ MS ad ρ q := fun j q m hj ⟨j', S, e, m'⟩ => by
    have := w.dj j j' q m m'
    subst this
    exact hj S e
  refine ⟨⟨⟨w.gr.ff.trans ff, fh, P.wa.gr.kp, P.wa.gr.al, fun a e z => frq a (w.gr.al a e) (w.gr.fr a e z)⟩, w.len, fun j s e => ?_, fun j q m => ⟨frq q (w.lv m) (w.fz j q m).1, (w.fz j q m).2⟩, w.dj, w.out, w.pin⟩, ⟨ff, fh, fun a o e m => P.gr.kp a o e fun z => m (ms a z), P.gr.al, frq⟩, fun j S e => ⟨S, e⟩⟩
  have k := w.sl j s e
  cases s with
  | emp => exact k
  | val d =>
    obtain ⟨k, v, e, r⟩ := k
    exact ⟨k, v, e, r.up ff⟩
  | own es =>
    obtain ⟨q, ws, k, k0, k1, k2, r⟩ := k
    exact ⟨q, ws, k, k0, k1, P.gr.kp q _ k2 fun z => nms j q (by rw [k]; simp) (fun S z => by rw [e] at z; cases z) (ms q z), r.up ff⟩
  | st S =>
    have hj : j ≠ i := fun z => by subst z; rw [h] at e; cases e
    have k' := P.wa.sl j (.st S) (by rw [List.getElem?_set_ne (Ne.symm hj)]; exact e)
    simp only [if_neg hj] at k'
    exact k'
theorem eo_lend (i : Nat) {ds : List D} {Q : List D → Pu.Env → Prop} (h : ρ[i]? = some (.own ds)) (k : EO te (ρ.set i (.val (.list ds))) fun es ρ' => ρ' = ρ.set i (.val (.list ds)) ∧ flatAll es = true ∧ Q es ρ) : EO te ρ Q := fun B ad σ F H w Z z => by
  obtain ⟨p, vs, k1, k2, k3, k4, k5, k6, w2⟩ := w.lend h
  refine k B _ σ _ H w2 Z fun es ρ' q us F' H' hq P hF hH hl r => ?_
  obtain ⟨rfl, fl, hq⟩ := hq
  have hp : F' p = some (.lst vs) := P.gr.ff p _ upd_same
  exact z es ρ q us (cutF F' p) H' hq (w.back2 h k1 k2 k3 k5 rfl rfl P) (by
    unfold cutF
    split
    · rfl
    · exact hF) hH hl (flat_rpa hp es fl r)
/-! items of rows of two -/
theorem ex_tabA {i n : Nat} {f : Nat → Int × Int} {Q : D → Pu.Env → Prop} (m : Nat) (h : ρ[i]? = some (.st (.grd (tab2 n f)))) (hm : m < n) (k : EX tb ρ fun d ρ1 => d = .int (m : Int) ∧ ρ1 = ρ) (q : Q (.int (f m).1) ρ) : EX (tOp (rIxA K) (tOp (rIxA K) (tVar i) tb) (tC (.int 0))) ρ Q :=
  ex_grd h (k.imp fun d ρ1 ⟨e1, e2⟩ => by
    subst e1 e2
    exact ⟨_, m, _, _, rfl, h, by rw [tab2_len]; exact ixN_nat hm, tab2_at hm, ex_int ⟨_, _, _, _, rfl, h, tab2_at hm, rfl, q⟩⟩)
theorem ex_tabB {i n : Nat} {f : Nat → Int × Int} {Q : D → Pu.Env → Prop} (m : Nat) (h : ρ[i]? = some (.st (.grd (tab2 n f)))) (hm : m < n) (k : EX tb ρ fun d ρ1 => d = .int (m : Int) ∧ ρ1 = ρ) (q : Q (.int (f m).2) ρ) : EX (tOp (rIxA K) (tOp (rIxA K) (tVar i) tb) (tC (.int 1))) ρ Q :=
  ex_grd h (k.imp fun d ρ1 ⟨e1, e2⟩ => by
    subst e1 e2
    exact ⟨_, m, _, _, rfl, h, by rw [tab2_len]; exact ixN_nat hm, tab2_at hm, ex_int ⟨_, _, _, _, rfl, h, tab2_at hm, rfl, q⟩⟩)
theorem sx_tabA {i n : Nat} {f : Nat → Int × Int} (m : Nat) (x : Int) (h : ρ[i]? = some (.st (.grd (tab2 n f)))) (hm : m < n) (e : EX te ρ fun d ρ1 => d = .int x ∧ ρ1 = ρ) (k : EX tb ρ fun d ρ1 => d = .int (m : Int) ∧ ρ1 = ρ) (q : NX P (ρ.set i (.st (.grd (tab2 n fun j => if j = m then (x, (f j).2) else f j))))) :
    SX (tAsg te (gSub (tOp (rIxA K) (tVar i) tb) (tC (.int 0)) rSetL)) ρ P := sx_setG (e.imp fun d ρ1 ⟨e1, e2⟩ => by
  subst e1 e2
  refine ⟨some x, _, rfl, h, k.imp fun d ρ1 ⟨e1, e2⟩ => ?_⟩
  subst e1 e2
  refine ⟨_, m, _, _, rfl, h, by rw [tab2_len]; exact ixN_nat hm, tab2_at hm, ex_int ⟨_, 0, _, _, rfl, h, tab2_at hm, rfl, ?_⟩⟩
  rw [tab2_set (g := fun j => if j = m then (x, (f j).2) else f j) hm (by simp) fun j _ hj => by rw [if_neg hj]]
  exact q)
theorem sx_tabB {i n : Nat} {f : Nat → Int × Int} (m : Nat) (x : Int) (h : ρ[i]? = some (.st (.grd (tab2 n f)))) (hm : m < n) (e : EX te ρ fun d ρ1 => d = .int x ∧ ρ1 = ρ) (k : EX tb ρ fun d ρ1 => d = .int (m : Int) ∧ ρ1 = ρ) (q : NX P (ρ.set i (.st (.grd (tab2 n fun j => if j = m then ((f j).1, x) else f j))))) :
    SX (tAsg te (gSub (tOp (rIxA K) (tVar i) tb) (tC (.int 1)) rSetL)) ρ P := sx_setG (e.imp fun d ρ1 ⟨e1, e2⟩ => by
  subst e1 e2
  refine ⟨some x, _, rfl, h, k.imp fun d ρ1 ⟨e1, e2⟩ => ?_⟩
  subst e1 e2
  refine ⟨_, m, _, _, rfl, h, by rw [tab2_len]; exact ixN_nat hm, tab2_at hm, ex_int ⟨_, 1, _, _, rfl, h, tab2_at hm, rfl, ?_⟩⟩
  rw [tab2_set (g := fun j => if j = m then ((f j).1, x) else f j) hm (by simp) fun j _ hj => by rw [if_neg hj]]
  exact q)
/-! small words -/
theorem last_M {α : Type} {f : α → D} {xs : List α} (a : α) (h : 0 < xs.length) : atI (xs.map f) (-1) = some (f (xs.getD (xs.length - 1) a)) := by
  have e : ixN (xs.map f).length (-1) = some (xs.length - 1) := by
    rw [List.length_map]
    unfold ixN
    rw [if_neg (by omega), if_pos (by omega)]
    congr 1
    omega
  unfold atI
  rw [e]
  show (xs.map f)[xs.length - 1]? = _
  rw [List.getElem?_map, get_D (a := a) (by omega)]
  rfl
theorem opd_int {gs : List Int} {k : Nat} {Q : D → Prop} (h : k < gs.length) (q : Q (.int (gs.getD k 0))) : OpD (rIxA K) (.list (gs.map .int)) (.int (k : Int)) Q := opd_ixM (f := PyData.int) 0 (by omega) (by omega) (by rw [Int.toNat_natCast]; exact q)
theorem cut_n {α : Type} (f : α → D) (xs : List α) (n : Nat) : cutD (xs.map f) none (some (n : Int)) = (xs.take n).map f := by
  unfold cutD
  simp only [HT.sIx]
  rw [if_neg (by omega), List.length_map, List.map_take]
  show List.take (min ((n : Int)).toNat xs.length - 0) (List.map f xs) = _
  rw [Nat.sub_zero, Int.toNat_natCast]
  by_cases h : n ≤ xs.length
  · rw [Nat.min_eq_left h]
  · rw [Nat.min_eq_right (by omega), List.take_of_length_le (by rw [List.length_map]; exact Nat.le_refl _), List.take_of_length_le (by rw [List.length_map]; omega)]
theorem cut_drop {α : Type} (f : α → D) (xs : List α) (n : Nat) : cutD (xs.map f) (some (n : Int)) none = (xs.drop n).map f := by
  unfold cutD
  rw [List.length_map, List.map_drop]
  simp only [HT.sIx]
  rw [if_neg (by omega), Int.toNat_natCast]
  rcases Nat.lt_or_ge xs.length n with q | q
  · rw [Nat.min_eq_right (by omega), Nat.sub_self, List.take_zero, List.drop_of_length_le (by rw [List.length_map]; omega)]
  · rw [Nat.min_eq_left q]
    exact List.take_of_length_le (by rw [List.length_drop, List.length_map]; omega)
theorem zip_enc : ∀ (ls hs : List Int), List.zipWith (fun d f => PyData.tuple [d, f]) (ls.map PyData.int) (hs.map PyData.int) = (ls.zip hs).map encP
  | [], _ => by simp
  | _ :: _, [] => by simp
  | a :: ls, b :: hs => by
    simp only [List.map_cons, List.zipWith_cons_cons, List.zip_cons_cons, zip_enc ls hs]
    rfl
theorem opd_neB {a b : Bool} {Q : D → Prop} (k : Q (.bool (!decide (a = b)))) : OpD (rNeP K) (.bool a) (.bool b) Q := opd_neP (min_l (by simp [PyData.depth])) (by
  have e : PyData.eqv (.bool a) (.bool b) = decide (a = b) := by cases a <;> cases b <;> rfl
  rw [e]; exact k)
theorem dec_lt (a b : Nat) : decide ((a : Int) < (b : Int)) = decide (a < b) := by
  by_cases h : a < b
  · rw [decide_eq_true h, decide_eq_true (by omega)]
  · rw [decide_eq_false h, decide_eq_false (by omega)]
theorem dec_0 (a : Nat) : decide ((a : Int) = 0) = decide (a = 0) := by
  by_cases h : a = 0
  · rw [decide_eq_true h, decide_eq_true (by omega)]
  · rw [decide_eq_false h, decide_eq_false (by omega)]
theorem dec_p (a : Nat) : decide (0 < (a : Int)) = decide (0 < a) := by
  by_cases h : 0 < a
  · rw [decide_eq_true h, decide_eq_true (by omega)]
  · rw [decide_eq_false h, decide_eq_false (by omega)]
theorem SX.into {t : TS} {X : Pu.Env → Prop} (h : SX t ρ { nx := X, rt := fun _ _ => False }) (k : ∀ ρ', X ρ' → P.nx ρ') : SX t ρ P := fun B σ F H w Dn n r b c =>
  h B σ F H w Dn (fun ρ' σ' F' H' q w' => n ρ' σ' F' H' (k ρ' q) w') (fun _ _ _ _ _ _ q _ _ => q.elim) (fun _ _ _ _ q _ => q.elim) (fun _ _ _ _ q _ => q.elim)
/-- a comprehension over data, no filter -/
theorem filt_all {α β : Type} (xs : List α) (g : α → β) : (xs.filter fun _ => true).map g = xs.map g := by rw [List.filter_eq_self.mpr (fun _ _ => rfl)]
end
end Pu
/-! PuW: data >= data; triples of whole numbers, sorted -/
namespace Pu
open PySem L2
section
variable {X : Cx} {K : PySem.W.Frag} {d1 d2 : D} {Q : D → Prop}
def rGeD (K : PySem.W.Frag) : R2 := fun x y H Q => ∃ d e, Dp K H x d ∧ Dp K H y e ∧ PySem.W.alike d e = true ∧ d ≠ .none ∧ min d.depth e.depth ≤ 60 ∧ Q (.bl (!PySem.W.dataLt d e)) H
theorem op_geD (hu : X.A.units + 64 < cLine) : OpR X (compareOp .GtE) (rGeD X.K) := by
  rintro pins s σ H x y v u Q I rx ry ⟨d, e, hd, he, pd, pe, hz, q⟩
  obtain ⟨as, r1⟩ := Dp.reads I d x v hd rx
  obtain ⟨bs, r2⟩ := Dp.reads I e y u he ry
  exact PySem.W.ge_data r1 r2 pd pe (by omega) ⟨.bl _, H, I, rfl, q⟩
theorem opd_geD (al : PySem.W.alike d1 d2 = true) (hn : d1 ≠ .none) (h : min d1.depth d2.depth ≤ 60) (k : Q (.bool (!PySem.W.dataLt d1 d2))) : OpD (rGeD K) d1 d2 Q := fun F H x y e rx ry Z z => ⟨d1, d2, rx.dp e, ry.dp e, al, hn, h, z _ _ F H k (Gr.refl e) (.bl _)⟩
theorem opd_geP {p q : Int × Int} (k : Q (.bool (!ltP p q))) : OpD (rGeD K) (encP p) (encP q) Q := opd_geD rfl (by unfold encP; simp) (min_l (by simp [encP, PyData.depth, PyData.depthAll])) (by rw [dataLt_P]; exact k)
abbrev Rw := Int × Int × Int
def encR (r : Rw) : D := .tuple [.int r.1, .int r.2.1, .int r.2.2]
def ltR (a b : Rw) : Bool := decide (a.1 < b.1 ∨ a.1 = b.1 ∧ (a.2.1 < b.2.1 ∨ a.2.1 = b.2.1 ∧ a.2.2 < b.2.2))
theorem dataLt_R (a b : Rw) : PySem.W.dataLt (encR a) (encR b) = ltR a b := by
  unfold encR ltR
  rw [PySem.W.dataLt_tuple, PySem.W.dataLt_cons rfl, PySem.W.dataLt_cons rfl, PySem.W.dataLt_cons rfl]
  have e : PyProof.Rows.lexLt PyProof.Rows.itemOrd (PySem.W.keyToksAll []) (PySem.W.keyToksAll []) = false := PyProof.Rows.lex_irrefl _
  rw [e]
  simp only [PyData.eqv, PySem.W.dataLt_int, beq_iff_eq]
  by_cases h : a.1 = b.1 <;> by_cases h2 : a.2.1 = b.2.1 <;> by_cases h3 : a.2.2 = b.2.2 <;> simp [h, h2, h3]
def leR (a b : Rw) : Bool := !ltR b a
theorem sortD_R (xs : List Rw) : sortD (xs.map encR) = (xs.mergeSort leR).map encR := by
  have e := PySem.W.sort_maps (r := leR) (s := PySem.W.dataLe false id) encR (l := xs) (fun a _ b _ => by
    show (!ltR b a) = (!PySem.W.dataLt (encR b) (encR a))
    rw [dataLt_R])
  exact e.symm
theorem alike_RR (xs : List Rw) : PySem.W.AllAlike (xs.map encR) := fun x hx y hy => by
  obtain ⟨a, _, rfl⟩ := List.mem_map.mp hx
  obtain ⟨b, _, rfl⟩ := List.mem_map.mp hy
  rfl
theorem sortable_R (xs : List Rw) : PySem.W.Sortable (xs.map encR) := .inl fun x hx => by
  obtain ⟨a, _, rfl⟩ := List.mem_map.mp hx
  exact ⟨_, _, rfl⟩
theorem deep_R (xs : List Rw) : PyData.depthAll (xs.map encR) ≤ 60 := depthAll_le (dpn_map fun x _ => dpn_tup (dpn_cons dpn_int (dpn_cons dpn_int (dpn_cons dpn_int dpn_nil))))
theorem cbd_sortR {xs : List Rw} {Q : D → Prop} (k : Q (.list ((xs.mergeSort leR).map encR))) : CbD (rSrD K) [.list (xs.map encR)] Q := cbd_sortD (alike_RR xs) (sortable_R xs) (deep_R xs) (by rw [sortD_R]; exact k)
theorem leR_trans (a b c : Rw) (h1 : leR a b = true) (h2 : leR b c = true) : leR a c = true := by
  unfold leR ltR at *
  simp only [Bool.not_eq_true', decide_eq_false_iff_not] at *
  omega
theorem leR_total (a b : Rw) : (leR a b || leR b a) = true := by
  unfold leR ltR
  simp only [Bool.or_eq_true, Bool.not_eq_true', decide_eq_false_iff_not]
  omega
/-! a if c else b, as a test; range of three -/
def tIfT (t ta tb : TT) : TT := fun σ H Q => t σ H fun c H1 => if c = true then ta σ H1 Q else tb σ H1 Q
theorem pt_ifExp {a b c : Expr} {pos : Pos} {tA tB tC : TT} (hc : PT X c tA) (ha : PT X a tB) (hb : PT X b tC) : PT X (.IfExp c a b pos) (tIfT tA tB tC) := by
  refine ⟨fun pins s σ H Q I h => ?_⟩
  refine PyProof.Rows.isTrue_IfExp (L2.thn (hc.run pins s σ H _ I h) fun d s1 ⟨H1, I1, q1⟩ => ?_)
  cases d with
  | true => exact ha.run pins s1 σ H1 Q I1 q1
  | false => exact hb.run pins s1 σ H1 Q I1 q1
theorem et_ifT {ρ : Pu.Env} {tt tu tv : TT} {Q : Bool → Pu.Env → Prop} (h : ET tt ρ fun b ρ1 => (b = true → ET tu ρ1 Q) ∧ (b = false → ET tv ρ1 Q)) : ET (tIfT tt tu tv) ρ Q := fun B ad σ F H w Z z =>
  h B ad σ F H w _ fun b ρ1 F1 H1 q1 p1 => by
    cases b with
    | true =>
      show tu σ H1 Z
      exact q1.1 rfl B ad σ F1 H1 p1.wa Z fun b ρ' F' H' q p => z b ρ' F' H' q (p1.trans p)
    | false =>
      show tv σ H1 Z
      exact q1.2 rfl B ad σ F1 H1 p1.wa Z fun b ρ' F' H' q p => z b ρ' F' H' q (p1.trans p)
def stpI (l c : Int) (n : Nat) : List Int := (List.range n).map fun k : Nat => l + (k : Int) * c
theorem stpI_len (l c : Int) (n : Nat) : (stpI l c n).length = n := by simp [stpI]
theorem stpI_get {l c : Int} {n k : Nat} (h : k < n) : (stpI l c n)[k]? = some (l + (k : Int) * c) := by simp [stpI, h]
theorem itd_stp {F : Hp} (l c : Int) (n : Nat) : ItD (Itc l c n) F ((stpI l c n).map .int) where
  go := fun i H _ h => by rw [List.length_map, stpI_len] at h; exact h
  stop := fun i H _ h => by rw [List.length_map, stpI_len] at h; exact h
  yld := fun i H x H' F1 _ e2 y h => by
    rw [List.length_map, stpI_len] at h
    obtain ⟨rfl, rfl⟩ := y
    exact ⟨.int (l + (i : Int) * c), F1, by rw [List.getElem?_map, stpI_get h]; rfl, Gr.refl e2, .int _⟩
theorem ei_rng3 {ρ : Pu.Env} {t : TA} {Q : List D → Pu.Env → Prop} (h : EA t ρ fun ds ρ1 => ∃ l n c m, ds = [.int l, .int n, .int c] ∧ RgC l n c m ∧ Q ((stpI l c m).map .int) ρ1) : EI (iRng3 t) ρ Q := fun B ad σ F H w R z =>
  h B ad σ F H w _ fun ds ρ1 vs F1 H1 q p r => by
    obtain ⟨l, n, c, m, rfl, rg, q⟩ := q
    cases r with
    | cons r1 r =>
      cases r with
      | cons r2 r =>
        cases r with
        | cons r3 r =>
          cases r
          exact ⟨l, n, c, m, by rw [r1.int_inv, r2.int_inv, r3.int_inv], rg, z _ ρ1 _ F1 H1 q p (itd_stp l c m)⟩
end
end Pu
/-! readings of the defs of law_k65_trips_by_all_ways: printed by gen.py -/
namespace Law_k65
open PySem L2 Pu

/-- trips: slots places 0, room 1, found 2, side 3, row 4, place 5, at 6, first 7, far 8, near 9; own: found -/
abbrev N_trips : List Str := ["places", "room", "found", "side", "row", "place", "at", "first", "far", "near"]
def T_trips (K : PySem.W.Frag) (R_length_of : List D → (D → Prop) → Prop) : TS :=
    (tSeq (tAsg (tLst tNil) (gName 2))
    (tSeq (tFor (iTup K (tTup (tCons (tC (.int 1)) (tCons (tUn (rU fun i => .int (-i)) (tC (.int 1))) tNil)))) (gName 3)
      (tSeq (tAsg (tCB (rSrD K) (tCons (tLc (iEnum K (tCons (tVar 0) tNil)) (gTup K 2 (gCons (gName 6) (gCons (gName 5) gNil))) (tTest (tOp (rI0 fun i j => .bl (decide (j < i))) (tOp (rI CMul fun i j => .int (i * j)) (tVar 3) (tVar 5)) (tC (.int 0)))) (tTup (tCons (tOp (rI0 fun i j => .int (i - j)) (tC (.int 0)) (tOp (rI CMul fun i j => .int (i * j)) (tVar 3) (tVar 5))) (tCons (tVar 6) tNil))) [6, 5]) tNil)) (gName 4))
    (tFor (iRng3 (tCons (tC (.int 0)) (tCons (tCB (Pu.rLen K) (tCons (tVar 4) tNil)) (tCons (tVar 1) tNil)))) (gName 7)
      (tDrop (tBM K "list" rAppend (tVar 2) (tCons (tCB (rSrD K) (tCons (tLc (iList K (tSl (rSl K) (tVar 4) (tPart (tVar 7)) (tPart (tOp (rPlus K) (tVar 7) (tVar 1))))) (gTup K 2 (gCons (gName 8) (gCons (gName 6) gNil))) tYes (tVar 6) [8, 6]) tNil)) tNil))))))
    (tSeq (tAsg (tLc (iEnum K (tCons (tVar 0) tNil)) (gTup K 2 (gCons (gName 6) (gCons (gName 5) gNil))) (tTest (tOp (rEqP K) (tVar 5) (tC (.int 0)))) (tVar 6) [6, 5]) (gName 9))
    (tSeq (tFor (iRng3 (tCons (tC (.int 0)) (tCons (tCB (Pu.rLen K) (tCons (tVar 9) tNil)) (tCons (tVar 1) tNil)))) (gName 7)
      (tDrop (tBM K "list" rAppend (tVar 2) (tCons (tSl (rSl K) (tVar 9) (tPart (tVar 7)) (tPart (tOp (rPlus K) (tVar 7) (tVar 1)))) tNil))))
    (tRet (tTup (tCons (tCB (rSrD K) (tCons (tVar 2) tNil)) (tCons (tCall (spP R_length_of) [] E0 (tCons (tVar 0) (tCons (tVar 2) tNil))) tNil))))))))
/-- length_of: slots places 0, lots 1, total 2, lot 3, ahead 4, at 5, back 6 -/
abbrev N_length_of : List Str := ["places", "lots", "total", "lot", "ahead", "at", "back"]
def T_length_of (K : PySem.W.Frag) : TS :=
    (tSeq (tAsg (tC (.int 0)) (gName 2))
    (tSeq (tFor (iList K (tVar 1)) (gName 3)
      (tSeq (tAsg (tCB (rMxD K) (tCons (tOp (rPlus K) (tLc (iList K (tVar 3)) (gName 5) tYes (tOp (rIxA K) (tVar 0) (tVar 5)) [5]) (tLst (tCons (tC (.int 0)) tNil))) tNil)) (gName 4))
    (tSeq (tAsg (tCB (rMnD K) (tCons (tOp (rPlus K) (tLc (iList K (tVar 3)) (gName 5) tYes (tOp (rIxA K) (tVar 0) (tVar 5)) [5]) (tLst (tCons (tC (.int 0)) tNil))) tNil)) (gName 6))
    (tAsg (tOp (rPlus K) (tVar 2) (tOp (rI CMul fun i j => .int (i * j)) (tC (.int 2)) (tOp (rI0 fun i j => .int (i - j)) (tVar 4) (tVar 6)))) (gName 2)))))
    (tRet (tVar 2))))
/-- crossed: slots places 0, room 1, spot 2, far 3, place 4 -/
abbrev N_crossed : List Str := ["places", "room", "spot", "far", "place"]
def T_crossed (K : PySem.W.Frag) : TS :=
    (tSeq (tAsg (tLc (iList K (tVar 0)) (gName 4) (tIfT (tTest (tOp (rI0 fun i j => .bl (decide (j ≤ i))) (tVar 2) (tC (.int 0)))) (tTest (tOp (rI0 fun i j => .bl (decide (j < i))) (tVar 4) (tVar 2))) (tTest (tOp (rI0 fun i j => .bl (decide (i ≤ j))) (tVar 4) (tVar 2)))) (tVar 4) [4]) (gName 3))
    (tRet (tOp (rI CDiv fun i j => .int (i / j)) (tOp (rI0 fun i j => .int (i - j)) (tOp (rPlus K) (tCB (Pu.rLen K) (tCons (tVar 3) tNil)) (tVar 1)) (tC (.int 1))) (tVar 1))))
/-- least_length: slots places 0, room 1, total 2, spot 3 -/
abbrev N_least_length : List Str := ["places", "room", "total", "spot"]
def T_least_length (K : PySem.W.Frag) (R_crossed : List D → (D → Prop) → Prop) : TS :=
    (tSeq (tAsg (tC (.int 0)) (gName 2))
    (tSeq (tFor (iRng2 (tCons (tC (.int 0)) (tCons (tCB (rMxD K) (tCons (tOp (rPlus K) (tVar 0) (tLst (tCons (tC (.int 0)) tNil))) tNil)) tNil))) (gName 3)
      (tAsg (tOp (rPlus K) (tVar 2) (tOp (rI CMul fun i j => .int (i * j)) (tC (.int 2)) (tCall (spP R_crossed) [] E0 (tCons (tVar 0) (tCons (tVar 1) (tCons (tVar 3) tNil)))))) (gName 2)))
    (tSeq (tFor (iRng2 (tCons (tCB (rMnD K) (tCons (tOp (rPlus K) (tVar 0) (tLst (tCons (tC (.int 0)) tNil))) tNil)) (tCons (tC (.int 0)) tNil))) (gName 3)
      (tAsg (tOp (rPlus K) (tVar 2) (tOp (rI CMul fun i j => .int (i * j)) (tC (.int 2)) (tCall (spP R_crossed) [] E0 (tCons (tVar 0) (tCons (tVar 1) (tCons (tVar 3) tNil)))))) (gName 2)))
    (tRet (tVar 2)))))
/-- trips_fault: slots places 0, room 1, told 2, lots 3, length 4, at 5, lot 6, one 7 -/
abbrev N_trips_fault : List Str := ["places", "room", "told", "lots", "length", "at", "lot", "one"]
def T_trips_fault (K : PySem.W.Frag) (R_length_of : List D → (D → Prop) → Prop) (R_least_length : List D → (D → Prop) → Prop) : TS :=
    (tSeq (tAsg (tVar 2) (gTup K 2 (gCons (gName 3) (gCons (gName 4) gNil))))
    (tSeq (tIfS (tTest (tOp (rNeP K) (tCB (rSrD K) (tCons (tLc2 (iList K (tVar 3)) (gName 6) tYes (iList K (tVar 6)) (gName 5) tYes (tVar 5) [6, 5] [5]) tNil)) (tLstRg (tRg1 (tCB (Pu.rLen K) (tCons (tVar 0) tNil))))))
      (tRet (tTup (tCons (tC (.str "loads")) tNil)))
      tNext)
    (tSeq (tFor (iEnum K (tCons (tVar 3) tNil)) (gTup K 2 (gCons (gName 7) (gCons (gName 6) gNil)))
      (tIfS (tNot (tTest (tChain (rI0 fun i j => .bl (decide (i < j))) (rI0 fun i j => .bl (decide (i ≤ j))) (tC (.int 0)) (tCB (Pu.rLen K) (tCons (tVar 6) tNil)) (tVar 1))))
      (tRet (tTup (tCons (tC (.str "room")) (tCons (tVar 7) tNil))))
      tNext))
    (tSeq (tIfS (tTest (tOp (rNeP K) (tCall (spP R_length_of) [] E0 (tCons (tVar 0) (tCons (tVar 3) tNil))) (tVar 4)))
      (tRet (tTup (tCons (tC (.str "length")) tNil)))
      tNext)
    (tRet (tIf (tTest (tOp (rI0 fun i j => .bl (decide (i ≤ j))) (tVar 4) (tCall (spP R_least_length) [] E0 (tCons (tVar 0) (tCons (tVar 1) tNil))))) (tC .non) (tTup (tCons (tC (.str "long")) tNil))))))))
/-- best_gate: slots places 0, room 1, best 2, gate 3, length 4, place 5 -/
abbrev N_best_gate : List Str := ["places", "room", "best", "gate", "length", "place"]
def T_best_gate (K : PySem.W.Frag) (R_least_length : List D → (D → Prop) → Prop) : TS :=
    (tSeq (tAsg (tC .non) (gName 2))
    (tSeq (tFor (iList K (tSS K (tVar 0))) (gName 3)
      (tSeq (tAsg (tCall (spP R_least_length) [] E0 (tCons (tLc (iList K (tVar 0)) (gName 5) tYes (tOp (rI0 fun i j => .int (i - j)) (tVar 5) (tVar 3)) [5]) (tCons (tVar 1) tNil))) (gName 4))
    (tIfS (tOr (tTest (tOp (rIs) (tVar 2) (tC .non))) (tTest (tOp (rI0 fun i j => .bl (decide (i < j))) (tVar 4) (tOp (rIxA K) (tVar 2) (tC (.int 1))))))
      (tAsg (tTup (tCons (tVar 3) (tCons (tVar 4) tNil))) (gName 2))
      tNext)))
    (tRet (tVar 2))))
/-- carts_needed: slots places 0, room 1, most 2, left 3, trip 4, lot 5, carts 6, able 7, at 8, gone 9; own: carts -/
abbrev N_carts_needed : List Str := ["places", "room", "most", "left", "trip", "lot", "carts", "able", "at", "gone"]
def T_carts_needed (K : PySem.W.Frag) (R_length_of : List D → (D → Prop) → Prop) (R_trips : List D → (D → Prop) → Prop) : TS :=
    (tSeq (tAsg (tRevL K (tCB (rSrD K) (tCons (tLc (iList K (tLc (iList K (tOp (rIxA K) (tCall (spP R_trips) [] E0 (tCons (tVar 0) (tCons (tVar 1) tNil))) (tC (.int 0)))) (gName 5) tYes (tCall (spP R_length_of) [] E0 (tCons (tVar 0) (tCons (tLst (tCons (tVar 5) tNil)) tNil))) [5])) (gName 4) tYes (tVar 4) [4]) tNil))) (gName 3))
    (tSeq (tIfS (tAnd (tTru K (tVar 3)) (tTest (tOp (rI0 fun i j => .bl (decide (j < i))) (tOp (rIxA K) (tVar 3) (tC (.int 0))) (tVar 2))))
      (tRet (tC .non))
      tNext)
    (tSeq (tAsg (tLst tNil) (gName 6))
    (tSeq (tFor (iList K (tVar 3)) (gName 4)
      (tSeq (tAsg (tLc (iEnum K (tCons (tVar 6) tNil)) (gTup K 2 (gCons (gName 8) (gCons (gName 9) gNil))) (tTest (tOp (rI0 fun i j => .bl (decide (i ≤ j))) (tOp (rPlus K) (tVar 9) (tVar 4)) (tVar 2))) (tVar 8) [8, 9]) (gName 7))
    (tIfS (tTru K (tVar 7))
      (tAsg (tOp (rPlus K) (tOp (rIxA K) (tVar 6) (tOp (rIxA K) (tVar 7) (tC (.int 0)))) (tVar 4)) (gSub (tVar 6) (tOp (rIxA K) (tVar 7) (tC (.int 0))) rSetL))
      (tDrop (tBM K "list" rAppend (tVar 6) (tCons (tVar 4) tNil))))))
    (tRet (tCB (Pu.rLen K) (tCons (tVar 6) tNil)))))))
/-- _law_state: slots script 0, cells 1, cell 2 -/
abbrev N_l_state : List Str := ["script", "cells", "cell"]
def T_l_state (K : PySem.W.Frag) : TS :=
    (tSeq (tAsg (tLc (iList K (tSl (rSl K) (tVar 0) tNoPart (tPart (tC (.int 63))))) (gName 2) tYes (tCB (rAbs) (tCons (tVar 2) tNil)) [2]) (gName 1))
    (tSeq (tIfS (tTest (tOp (rEqP K) (tCB (Pu.rLen K) (tCons (tVar 1) tNil)) (tC (.int 0))))
      (tAsg (tLst (tCons (tC (.int 0)) tNil)) (gName 1))
      tNext)
    (tRet (tLst (tCons (tC (.int 0)) (tCons (tVar 1) tNil))))))
/-- _law_take: slots state 0, most 1, cells 2, at 3, cell 4, mixed 5; own: cells, state -/
abbrev N_l_take : List Str := ["state", "most", "cells", "at", "cell", "mixed"]
def T_l_take (K : PySem.W.Frag) : TS :=
    (tSeq (tAsg (tOp (rIxA K) (tVar 0) (tC (.int 1))) (gName 2))
    (tSeq (tAsg (tOp (rI (fun _ j => 0 < j) fun i j => .int (i % j)) (tOp (rIxA K) (tVar 0) (tC (.int 0))) (tCB (Pu.rLen K) (tCons (tVar 2) tNil))) (gName 3))
    (tSeq (tAsg (tOp (rIxA K) (tVar 2) (tVar 3)) (gName 4))
    (tSeq (tIfS (tTest (tOp (rI0 fun i j => .bl (decide (j ≤ i))) (tVar 4) (tC (.int 1000000000000000000))))
      (tSeq (tAsg (tOp (rI CDiv fun i j => .int (i / j)) (tVar 4) (tVar 1)) (gSub (tVar 2) (tVar 3) rSetL))
    (tRet (tOp (rI (fun _ j => 0 < j) fun i j => .int (i % j)) (tVar 4) (tVar 1))))
      tNext)
    (tSeq (tAsg (tOp (rPlus K) (tOp (rIxA K) (tVar 0) (tC (.int 0))) (tC (.int 1))) (gSub (tVar 0) (tC (.int 0)) rSetL))
    (tSeq (tAsg (tOp (rI (fun _ j => 0 < j) fun i j => .int (i % j)) (tCB (rInt) (tCons (tOp (rPlus K) (tOp (rI CMul fun i j => .int (i * j)) (tVar 4) (tC (.int 48271))) (tOp (rI CMul fun i j => .int (i * j)) (tOp (rIxA K) (tVar 0) (tC (.int 0))) (tC (.int 69621)))) tNil)) (tC (.int 2147483647))) (gName 5))
    (tSeq (tAsg (tOp (rI (fun _ j => 0 < j) fun i j => .int (i % j)) (tCB (rInt) (tCons (tOp (rPlus K) (tOp (rI CMul fun i j => .int (i * j)) (tVar 5) (tC (.int 16807))) (tOp (rI CMul fun i j => .int (i * j)) (tOp (rIxA K) (tVar 0) (tC (.int 0))) (tC (.int 7919)))) tNil)) (tC (.int 1000000007))) (gName 5))
    (tRet (tOp (rI (fun _ j => 0 < j) fun i j => .int (i % j)) (tOp (rI CDiv fun i j => .int (i / j)) (tVar 5) (tC (.int 7))) (tVar 1))))))))))
/-- _law_length: slots places 0, lots 1, total 2, lot 3, k 4 -/
abbrev N_l_length : List Str := ["places", "lots", "total", "lot", "k"]
def T_l_length (K : PySem.W.Frag) : TS :=
    (tSeq (tAsg (tC (.int 0)) (gName 2))
    (tSeq (tFor (iList K (tVar 1)) (gName 3)
      (tAsg (tOp (rPlus K) (tVar 2) (tOp (rI CMul fun i j => .int (i * j)) (tC (.int 2)) (tOp (rI0 fun i j => .int (i - j)) (tCB (rMxD K) (tCons (tOp (rPlus K) (tLst (tCons (tC (.int 0)) tNil)) (tLc (iList K (tVar 3)) (gName 4) tYes (tOp (rIxA K) (tVar 0) (tVar 4)) [4])) tNil)) (tCB (rMnD K) (tCons (tOp (rPlus K) (tLst (tCons (tC (.int 0)) tNil)) (tLc (iList K (tVar 3)) (gName 4) tYes (tOp (rIxA K) (tVar 0) (tVar 4)) [4])) tNil))))) (gName 2)))
    (tRet (tVar 2))))
/-- _law_ways: slots many 0, room 1, lots 2, k 3, found 4, j 5; own: found -/
abbrev N_l_ways : List Str := ["many", "room", "lots", "k", "found", "j"]
def T_l_ways (K : PySem.W.Frag) (R_l_ways : List D → (D → Prop) → Prop) : TS :=
    (tSeq (tIfS (tTest (tOp (rEqP K) (tVar 3) (tVar 0)))
      (tRet (tLst (tCons (tVar 2) tNil)))
      tNext)
    (tSeq (tAsg (tLst tNil) (gName 4))
    (tSeq (tFor (iRng1 (tCons (tCB (Pu.rLen K) (tCons (tVar 2) tNil)) tNil)) (gName 5)
      (tIfS (tTest (tOp (rI0 fun i j => .bl (decide (i < j))) (tCB (Pu.rLen K) (tCons (tOp (rIxA K) (tVar 2) (tVar 5)) tNil)) (tVar 1)))
      (tDrop (tBM K "list" rExtR (tVar 4) (tCons (tCall (spP R_l_ways) [] E0 (tCons (tVar 0) (tCons (tVar 1) (tCons (tOp (rPlus K) (tOp (rPlus K) (tSl (rSl K) (tVar 2) tNoPart (tPart (tVar 5))) (tLst (tCons (tOp (rPlus K) (tOp (rIxA K) (tVar 2) (tVar 5)) (tLst (tCons (tVar 3) tNil))) tNil))) (tSl (rSl K) (tVar 2) (tPart (tOp (rPlus K) (tVar 5) (tC (.int 1)))) tNoPart)) (tCons (tOp (rPlus K) (tVar 3) (tC (.int 1))) tNil))))) tNil)))
      tNext))
    (tRet (tOp (rPlus K) (tVar 4) (tCall (spP R_l_ways) [] E0 (tCons (tVar 0) (tCons (tVar 1) (tCons (tOp (rPlus K) (tVar 2) (tLst (tCons (tLst (tCons (tVar 3) tNil)) tNil))) (tCons (tOp (rPlus K) (tVar 3) (tC (.int 1))) tNil))))))))))
/-- _law_crossed: slots places 0, room 1, spot 2, far 3, one 4 -/
abbrev N_l_crossed : List Str := ["places", "room", "spot", "far", "one"]
def T_l_crossed (K : PySem.W.Frag) : TS :=
    (tSeq (tAsg (tIf (tTest (tOp (rI0 fun i j => .bl (decide (j ≤ i))) (tVar 2) (tC (.int 0)))) (tCB (Pu.rLen K) (tCons (tLc (iList K (tVar 0)) (gName 4) (tTest (tOp (rI0 fun i j => .bl (decide (j < i))) (tVar 4) (tVar 2))) (tVar 4) [4]) tNil)) (tCB (Pu.rLen K) (tCons (tLc (iList K (tVar 0)) (gName 4) (tTest (tOp (rI0 fun i j => .bl (decide (i ≤ j))) (tVar 4) (tVar 2))) (tVar 4) [4]) tNil))) (gName 3))
    (tRet (tOp (rI CDiv fun i j => .int (i / j)) (tOp (rI0 fun i j => .int (i - j)) (tOp (rPlus K) (tVar 3) (tVar 1)) (tC (.int 1))) (tVar 1))))
/-- _law_least: slots places 0, room 1, spots 2, spot 3 -/
abbrev N_l_least : List Str := ["places", "room", "spots", "spot"]
def T_l_least (K : PySem.W.Frag) (R_l_crossed : List D → (D → Prop) → Prop) : TS :=
    (tSeq (tAsg (tLstRg (tRg2 (tCB (rMnD K) (tCons (tOp (rPlus K) (tVar 0) (tLst (tCons (tC (.int 0)) tNil))) tNil)) (tCB (rMxD K) (tCons (tOp (rPlus K) (tVar 0) (tLst (tCons (tC (.int 0)) tNil))) tNil)))) (gName 2))
    (tRet (tOp (rI CMul fun i j => .int (i * j)) (tC (.int 2)) (tCB (rSum K) (tCons (tLc (iList K (tVar 2)) (gName 3) tYes (tCall (spP R_l_crossed) [] E0 (tCons (tVar 0) (tCons (tVar 1) (tCons (tVar 3) tNil)))) [3]) tNil)))))
/-- _law_fault: slots places 0, room 1, told 2, lots 3, length 4, flat 5, lot 6, k 7; own: flat -/
abbrev N_l_fault : List Str := ["places", "room", "told", "lots", "length", "flat", "lot", "k"]
def T_l_fault (K : PySem.W.Frag) (R_l_length : List D → (D → Prop) → Prop) (R_l_least : List D → (D → Prop) → Prop) : TS :=
    (tSeq (tAsg (tVar 2) (gTup K 2 (gCons (gName 3) (gCons (gName 4) gNil))))
    (tSeq (tAsg (tLst tNil) (gName 5))
    (tSeq (tFor (iList K (tVar 3)) (gName 6)
      (tDrop (tBM K "list" rExtR (tVar 5) (tCons (tVar 6) tNil))))
    (tSeq (tIfS (tTest (tOp (rNeP K) (tCB (rSrD K) (tCons (tVar 5) tNil)) (tLstRg (tRg1 (tCB (Pu.rLen K) (tCons (tVar 0) tNil))))))
      (tRet (tTup (tCons (tC (.str "loads")) tNil)))
      tNext)
    (tSeq (tFor (iRng1 (tCons (tCB (Pu.rLen K) (tCons (tVar 3) tNil)) tNil)) (gName 7)
      (tIfS (tNot (tTest (tChain (rI0 fun i j => .bl (decide (i < j))) (rI0 fun i j => .bl (decide (i ≤ j))) (tC (.int 0)) (tCB (Pu.rLen K) (tCons (tOp (rIxA K) (tVar 3) (tVar 7)) tNil)) (tVar 1))))
      (tRet (tTup (tCons (tC (.str "room")) (tCons (tVar 7) tNil))))
      tNext))
    (tSeq (tIfS (tTest (tOp (rNeP K) (tCall (spP R_l_length) [] E0 (tCons (tVar 0) (tCons (tVar 3) tNil))) (tVar 4)))
      (tRet (tTup (tCons (tC (.str "length")) tNil)))
      tNext)
    (tRet (tIf (tTest (tOp (rI0 fun i j => .bl (decide (i ≤ j))) (tVar 4) (tCall (spP R_l_least) [] E0 (tCons (tVar 0) (tCons (tVar 1) tNil))))) (tC .non) (tTup (tCons (tC (.str "long")) tNil))))))))))
/-- law: slots script 0, state 1, size 2, places 3, k 4, room 5, kept 6, told 7, ways 8, best 9, lots 10, spot 11, other 12, length 13, lot 14, kind 15, at 16, gates 17, one 18, gate 19, most 20, left 21, carts 22, trip 23, able 24; own: lots -/
abbrev N_law : List Str := ["script", "state", "size", "places", "k", "room", "kept", "told", "ways", "best", "lots", "spot", "other", "length", "lot", "kind", "at", "gates", "one", "gate", "most", "left", "carts", "trip", "able"]
def T_law (K : PySem.W.Frag) (R_l_state : List D → (Stt → Prop) → Prop) (R_trips : List D → (D → Prop) → Prop) (R_l_ways : List D → (D → Prop) → Prop) (R_l_take : Stt → List D → (D → Stt → Prop) → Prop) (R_best_gate : List D → (D → Prop) → Prop) (R_l_length : List D → (D → Prop) → Prop) (R_least_length : List D → (D → Prop) → Prop) (R_l_least : List D → (D → Prop) → Prop) (R_l_fault : List D → (D → Prop) → Prop) (R_trips_fault : List D → (D → Prop) → Prop) (R_length_of : List D → (D → Prop) → Prop) (R_crossed : List D → (D → Prop) → Prop) (R_l_crossed : List D → (D → Prop) → Prop) (R_carts_needed : List D → (D → Prop) → Prop) : TS :=
    (tSeq (tAsg (tCall (spN R_l_state) [] E0 (tCons (tVar 0) tNil)) (gName 1))
    (tSeq (tAsg (tOp (rIxA K) (tLst (tCons (tC (.int 4)) (tCons (tC (.int 20)) tNil))) (tCall (spS R_l_take) [] E0 (tCons (tVar 1) (tCons (tC (.int 2)) tNil)))) (gName 2))
    (tSeq (tAsg (tLc (iRng1 (tCons (tCall (spS R_l_take) [] E0 (tCons (tVar 1) (tCons (tC (.int 7)) tNil))) tNil)) (gName 4) tYes (tOp (rI0 fun i j => .int (i - j)) (tCall (spS R_l_take) [] E0 (tCons (tVar 1) (tCons (tOp (rPlus K) (tOp (rI CMul fun i j => .int (i * j)) (tC (.int 2)) (tVar 2)) (tC (.int 1))) tNil))) (tVar 2)) [4]) (gName 3))
    (tSeq (tAsg (tOp (rPlus K) (tC (.int 1)) (tCall (spS R_l_take) [] E0 (tCons (tVar 1) (tCons (tC (.int 3)) tNil)))) (gName 5))
    (tSeq (tAsg (tCB (rList K) (tCons (tVar 3) tNil)) (gName 6))
    (tSeq (tAsg (tCall (spP R_trips) [] E0 (tCons (tVar 3) (tCons (tVar 5) tNil))) (gName 7))
    (tSeq (tAsg (tCall (spP R_l_ways) [] E0 (tCons (tCB (Pu.rLen K) (tCons (tVar 3) tNil)) (tCons (tVar 5) (tCons (tLst tNil) (tCons (tC (.int 0)) tNil))))) (gName 8))
    (tSeq (tAsg (tCB (rMnD K) (tCons (tLc (iList K (tVar 8)) (gName 10) tYes (tCall (spP R_l_length) [] E0 (tCons (tVar 3) (tCons (tVar 10) tNil))) [10]) tNil)) (gName 9))
    (tSeq (tIfS (tOr (tNot (tB (tCB RZ.rIsTy (tCons (tVar 7) (tCons (tC (.ty "tuple")) tNil))))) (tOr (tTest (tOp (rNeP K) (tOp (rIxA K) (tVar 7) (tC (.int 1))) (tVar 9))) (tOr (tTest (tOp (rNeP K) (tCall (spP R_least_length) [] E0 (tCons (tVar 3) (tCons (tVar 5) tNil))) (tVar 9))) (tTest (tOp (rNeP K) (tCall (spP R_l_least) [] E0 (tCons (tVar 3) (tCons (tVar 5) tNil))) (tVar 9))))))
      (tRet (tC (.bl false)))
      tNext)
    (tSeq (tIfS (tOr (tTest (tOp (rIsnt) (tCall (spP R_l_fault) [] E0 (tCons (tVar 3) (tCons (tVar 5) (tCons (tVar 7) tNil)))) (tC .non))) (tOr (tTest (tOp (rIsnt) (tCall (spP R_trips_fault) [] E0 (tCons (tVar 3) (tCons (tVar 5) (tCons (tVar 7) tNil)))) (tC .non))) (tTest (tOp (rNeP K) (tCall (spP R_length_of) [] E0 (tCons (tVar 3) (tCons (tOp (rIxA K) (tVar 7) (tC (.int 0))) tNil))) (tVar 9)))))
      (tRet (tC (.bl false)))
      tNext)
    (tSeq (tFor (iRng2 (tCons (tOp (rI0 fun i j => .int (i - j)) (tC (.int 0)) (tVar 2)) (tCons (tVar 2) tNil))) (gName 11)
      (tIfS (tTest (tOp (rNeP K) (tCall (spP R_crossed) [] E0 (tCons (tVar 3) (tCons (tVar 5) (tCons (tVar 11) tNil)))) (tCall (spP R_l_crossed) [] E0 (tCons (tVar 3) (tCons (tVar 5) (tCons (tVar 11) tNil))))))
      (tRet (tC (.bl false)))
      tNext))
    (tSeq (tFor (iList K (tSl (rSl K) (tVar 8) tNoPart (tPart (tC (.int 40))))) (gName 10)
      (tSeq (tAsg (tTup (tCons (tVar 10) (tCons (tCall (spP R_l_length) [] E0 (tCons (tVar 3) (tCons (tVar 10) tNil))) tNil))) (gName 12))
    (tIfS (tTest (tOp (rNeP K) (tCall (spP R_trips_fault) [] E0 (tCons (tVar 3) (tCons (tVar 5) (tCons (tVar 12) tNil)))) (tIf (tTest (tOp (rEqP K) (tOp (rIxA K) (tVar 12) (tC (.int 1))) (tVar 9))) (tC .non) (tTup (tCons (tC (.str "long")) tNil)))))
      (tRet (tC (.bl false)))
      tNext)))
    (tSeq (tFor (iRng1 (tCons (tC (.int 6)) tNil)) (gName 4)
      (tSeq (tPar 10 13 (tCons (tLc (iList K (tOp (rIxA K) (tVar 7) (tC (.int 0)))) (gName 14) tYes (tCB (rList K) (tCons (tVar 14) tNil)) [14]) (tCons (tOp (rIxA K) (tVar 7) (tC (.int 1))) tNil)))
    (tSeq (tAsg (tCall (spS R_l_take) [] E0 (tCons (tVar 1) (tCons (tC (.int 4)) tNil))) (gName 15))
    (tSeq (tAsg (tCall (spS R_l_take) [] E0 (tCons (tVar 1) (tCons (tCB (rMx2) (tCons (tC (.int 1)) (tCons (tCB (Pu.rLen K) (tCons (tVar 10) tNil)) tNil))) tNil))) (gName 16))
    (tSeq (tIfS (tAnd (tTest (tOp (rEqP K) (tVar 15) (tC (.int 0)))) (tTest (tOp (rI0 fun i j => .bl (decide (j < i))) (tCB (Pu.rLen K) (tCons (tVar 10) tNil)) (tC (.int 0)))))
      (tAsg (tSl (rSl K) (tOp (rIxA K) (tVar 10) (tVar 16)) (tPart (tC (.int 1))) tNoPart) (gSub (tVar 10) (tVar 16) rSetL))
      (tIfS (tAnd (tTest (tOp (rEqP K) (tVar 15) (tC (.int 1)))) (tTest (tOp (rI0 fun i j => .bl (decide (j < i))) (tCB (Pu.rLen K) (tCons (tVar 10) tNil)) (tC (.int 1)))))
      (tAsg (tOp (rPlus K) (tSl (rSl K) (tVar 10) (tPart (tC (.int 1))) (tPart (tUn (rU fun i => .int (-i)) (tC (.int 1))))) (tLst (tCons (tOp (rPlus K) (tOp (rIxA K) (tVar 10) (tC (.int 0))) (tOp (rIxA K) (tVar 10) (tUn (rU fun i => .int (-i)) (tC (.int 1))))) tNil))) (gName 10))
      (tIfS (tAnd (tTest (tOp (rEqP K) (tVar 15) (tC (.int 2)))) (tTest (tOp (rI0 fun i j => .bl (decide (j < i))) (tCB (Pu.rLen K) (tCons (tVar 10) tNil)) (tC (.int 0)))))
      (tAsg (tOp (rPlus K) (tVar 10) (tLst (tCons (tLst (tCons (tOp (rIxA K) (tOp (rIxA K) (tVar 10) (tVar 16)) (tC (.int 0))) tNil)) tNil))) (gName 10))
      (tAsg (tOp (rPlus K) (tVar 13) (tOp (rIxA K) (tLst (tCons (tC (.int 2)) (tCons (tOp (rI0 fun i j => .int (i - j)) (tC (.int 0)) (tC (.int 2))) tNil))) (tCall (spS R_l_take) [] E0 (tCons (tVar 1) (tCons (tC (.int 2)) tNil))))) (gName 13)))))
    (tIfS (tTest (tOp (rNeP K) (tCall (spP R_trips_fault) [] E0 (tCons (tVar 3) (tCons (tVar 5) (tCons (tTup (tCons (tVar 10) (tCons (tVar 13) tNil))) tNil)))) (tCall (spP R_l_fault) [] E0 (tCons (tVar 3) (tCons (tVar 5) (tCons (tTup (tCons (tVar 10) (tCons (tVar 13) tNil))) tNil))))))
      (tRet (tC (.bl false)))
      tNext))))))
    (tSeq (tAsg (tLc (iList K (tVar 3)) (gName 19) tYes (tTup (tCons (tCall (spP R_l_least) [] E0 (tCons (tLc (iList K (tVar 3)) (gName 18) tYes (tOp (rI0 fun i j => .int (i - j)) (tVar 18) (tVar 19)) [18]) (tCons (tVar 5) tNil))) (tCons (tVar 19) tNil))) [19]) (gName 17))
    (tSeq (tIfS (tTest (tOp (rNeP K) (tCall (spP R_best_gate) [] E0 (tCons (tVar 3) (tCons (tVar 5) tNil))) (tIf (tTest (tOp (rI0 fun i j => .bl (decide (j < i))) (tCB (Pu.rLen K) (tCons (tVar 17) tNil)) (tC (.int 0)))) (tTup (tCons (tOp (rIxA K) (tCB (rMnD K) (tCons (tVar 17) tNil)) (tC (.int 1))) (tCons (tOp (rIxA K) (tCB (rMnD K) (tCons (tVar 17) tNil)) (tC (.int 0))) tNil))) (tC .non))))
      (tRet (tC (.bl false)))
      tNext)
    (tSeq (tAsg (tOp (rPlus K) (tC (.int 1)) (tCall (spS R_l_take) [] E0 (tCons (tVar 1) (tCons (tC (.int 60)) tNil)))) (gName 20))
    (tSeq (tAsg (tRevL K (tCB (rSrD K) (tCons (tLc (iList K (tOp (rIxA K) (tVar 7) (tC (.int 0)))) (gName 14) tYes (tCall (spP R_l_length) [] E0 (tCons (tVar 3) (tCons (tLst (tCons (tVar 14) tNil)) tNil))) [14]) tNil))) (gName 21))
    (tSeq (tAsg (tLst tNil) (gName 22))
    (tSeq (tFor (iList K (tVar 21)) (gName 23)
      (tSeq (tAsg (tLc (iRng1 (tCons (tCB (Pu.rLen K) (tCons (tVar 22) tNil)) tNil)) (gName 4) (tTest (tOp (rI0 fun i j => .bl (decide (i ≤ j))) (tOp (rPlus K) (tOp (rIxA K) (tVar 22) (tVar 4)) (tVar 23)) (tVar 20))) (tVar 4) [4]) (gName 24))
    (tAsg (tOp (rPlus K) (tLc (iRng1 (tCons (tCB (Pu.rLen K) (tCons (tVar 22) tNil)) tNil)) (gName 4) tYes (tOp (rPlus K) (tOp (rIxA K) (tVar 22) (tVar 4)) (tIf (tAnd (tTest (tOp (rI0 fun i j => .bl (decide (j < i))) (tCB (Pu.rLen K) (tCons (tVar 24) tNil)) (tC (.int 0)))) (tTest (tOp (rEqP K) (tVar 4) (tOp (rIxA K) (tVar 24) (tC (.int 0)))))) (tVar 23) (tC (.int 0)))) [4]) (tIf (tTest (tOp (rEqP K) (tCB (Pu.rLen K) (tCons (tVar 24) tNil)) (tC (.int 0)))) (tLst (tCons (tVar 23) tNil)) (tLst tNil))) (gName 22))))
    (tRet (tAndV (tOp (rEqP K) (tCall (spP R_carts_needed) [] E0 (tCons (tVar 3) (tCons (tVar 5) (tCons (tVar 20) tNil)))) (tIf (tAnd (tTest (tOp (rI0 fun i j => .bl (decide (j < i))) (tCB (Pu.rLen K) (tCons (tVar 21) tNil)) (tC (.int 0)))) (tTest (tOp (rI0 fun i j => .bl (decide (j < i))) (tOp (rIxA K) (tVar 21) (tC (.int 0))) (tVar 20)))) (tC .non) (tCB (Pu.rLen K) (tCons (tVar 22) tNil)))) (tOp (rEqP K) (tVar 3) (tVar 6)))))))))))))))))))))))
end Law_k65
/-! k65: loads along a road, brought in carts -/
namespace Law_k65
open Pu
def pl (P : List Int) (k : Int) : Int := P.getD k.toNat 0
def hi0 (xs : List Int) : Int := xs.foldl max 0
def lo0 (xs : List Int) : Int := xs.foldl min 0
theorem fold_max : ∀ (xs : List Int) (a : Int), a ≤ xs.foldl max a ∧ (∀ x ∈ xs, x ≤ xs.foldl max a) ∧ (xs.foldl max a = a ∨ xs.foldl max a ∈ xs)
  | [], a => ⟨Int.le_refl _, (fun _ h => by cases h), .inl rfl⟩
  | x :: xs, a => by
    obtain ⟨h1, h2, h3⟩ := fold_max xs (max a x)
    rw [List.foldl_cons]
    refine ⟨by omega, fun y hy => ?_, ?_⟩
    · rcases List.mem_cons.mp hy with e | hy
      · rw [e]; omega
      · exact h2 y hy
    · rcases h3 with h3 | h3
      · rcases (show max a x = a ∨ max a x = x by omega) with e | e
        · left; rw [h3, e]
        · right; rw [h3, e]; simp
      · right; exact List.mem_cons_of_mem _ h3
theorem hi0_nn (xs : List Int) : 0 ≤ hi0 xs := (fold_max xs 0).1
theorem lo0_np (xs : List Int) : lo0 xs ≤ 0 := (fmin_all xs 0).1
theorem hi0_lt {xs : List Int} {s : Int} (hs : 0 ≤ s) : s < hi0 xs ↔ ∃ x ∈ xs, s < x := by
  obtain ⟨h1, h2, h3⟩ := fold_max xs 0
  constructor
  · intro h
    rcases h3 with h3 | h3
    · unfold hi0 at h; omega
    · exact ⟨_, h3, h⟩
  · rintro ⟨x, hx, h⟩
    have := h2 x hx
    unfold hi0
    omega
theorem lo0_le {xs : List Int} {s : Int} (hs : s < 0) : lo0 xs ≤ s ↔ ∃ x ∈ xs, x ≤ s := by
  obtain ⟨h1, h2, h3⟩ := fmin_all xs 0
  constructor
  · intro h
    rcases h3 with h3 | h3
    · unfold lo0 at h; omega
    · exact ⟨_, h3, h⟩
  · rintro ⟨x, hx, h⟩
    have := h2 x hx
    unfold lo0
    omega
theorem hi0_sub {xs ys : List Int} (h : ∀ x ∈ xs, x ∈ ys) : hi0 xs ≤ hi0 ys := by
  obtain ⟨h1, h2, h3⟩ := fold_max xs 0
  have k := fold_max ys 0
  rcases h3 with h3 | h3
  · unfold hi0; omega
  · have := k.2.1 _ (h _ h3)
    exact this
theorem lo0_sub {xs ys : List Int} (h : ∀ x ∈ xs, x ∈ ys) : lo0 ys ≤ lo0 xs := by
  obtain ⟨h1, h2, h3⟩ := fmin_all xs 0
  have k := fmin_all ys 0
  rcases h3 with h3 | h3
  · unfold lo0; omega
  · have := k.2.1 _ (h _ h3)
    exact this
def hi (P lot : List Int) : Int := hi0 (lot.map (pl P))
def lo (P lot : List Int) : Int := lo0 (lot.map (pl P))
def lenF (P : List Int) (lots : List (List Int)) : Int := (lots.map fun lot => 2 * (hi P lot - lo P lot)).sum
def farB (s x : Int) : Bool := if 0 ≤ s then decide (s < x) else decide (x ≤ s)
def far (P : List Int) (s : Int) : Nat := (P.filter (farB s)).length
def crossF (P : List Int) (r s : Int) : Int := ((far P s : Int) + r - 1) / r
def spots (P : List Int) : List Int := rngI (lo0 P) (hi0 P - lo0 P).toNat
def leastF (P : List Int) (r : Int) : Int := 2 * ((spots P).map (crossF P r)).sum
def xB (P : List Int) (s : Int) (lot : List Int) : Bool := lot.any fun k => farB s (pl P k)
theorem xB_iff (P lot : List Int) (s : Int) : xB P s lot = true ↔ lo P lot ≤ s ∧ s < hi P lot := by
  unfold xB
  rw [List.any_eq_true]
  have h0 := hi0_nn (lot.map (pl P))
  have l0 := lo0_np (lot.map (pl P))
  unfold hi lo farB
  by_cases hs : 0 ≤ s
  · have e := hi0_lt (xs := lot.map (pl P)) hs
    constructor
    · rintro ⟨k, hk, h⟩
      rw [if_pos hs, decide_eq_true_eq] at h
      exact ⟨by omega, e.mpr ⟨_, List.mem_map.mpr ⟨k, hk, rfl⟩, h⟩⟩
    · rintro ⟨_, h⟩
      obtain ⟨x, hx, h⟩ := e.mp h
      obtain ⟨k, hk, rfl⟩ := List.mem_map.mp hx
      exact ⟨k, hk, by rw [if_pos hs]; simpa using h⟩
  · have e := lo0_le (xs := lot.map (pl P)) (show s < 0 by omega)
    constructor
    · rintro ⟨k, hk, h⟩
      rw [if_neg hs, decide_eq_true_eq] at h
      exact ⟨e.mpr ⟨_, List.mem_map.mpr ⟨k, hk, rfl⟩, h⟩, by omega⟩
    · rintro ⟨h, _⟩
      obtain ⟨x, hx, h⟩ := e.mp h
      obtain ⟨k, hk, rfl⟩ := List.mem_map.mp hx
      exact ⟨k, hk, by rw [if_neg hs]; simpa using h⟩
def b1 (b : Bool) : Int := if b then 1 else 0
theorem rngI_succ (a : Int) (n : Nat) : rngI a (n + 1) = rngI a n ++ [a + (n : Int)] := by
  unfold rngI
  rw [List.range_succ, List.map_append]
  rfl
theorem span_cnt (A l h : Int) (hA : A ≤ l) (hl : l ≤ h) : ∀ n : Nat, ((rngI A n).map fun s => b1 (decide (l ≤ s ∧ s < h))).sum = max 0 (min h (A + n) - l)
  | 0 => by
    show (0 : Int) = _
    omega
  | n + 1 => by
    rw [rngI_succ, List.map_append, List.sum_append, span_cnt A l h hA hl n]
    unfold b1
    by_cases q : l ≤ A + (n : Int) ∧ A + (n : Int) < h
    · simp only [List.map_cons, List.map_nil, List.sum_cons, List.sum_nil, decide_eq_true q, if_true]
      omega
    · simp only [List.map_cons, List.map_nil, List.sum_cons, List.sum_nil, decide_eq_false q, Bool.false_eq_true, if_false]
      omega
theorem lot_cnt {P lot : List Int} (h : ∀ k ∈ lot, pl P k ∈ P) : hi P lot - lo P lot = ((spots P).map fun s => b1 (xB P s lot)).sum := by
  have sub : ∀ x ∈ lot.map (pl P), x ∈ P := fun x hx => by
    obtain ⟨k, hk, rfl⟩ := List.mem_map.mp hx
    exact h k hk
  have a := hi0_sub sub
  have b := lo0_sub sub
  have h0 := hi0_nn (lot.map (pl P))
  have l0 := lo0_np (lot.map (pl P))
  have c := span_cnt (lo0 P) (lo P lot) (hi P lot) b (by unfold hi lo; omega) (hi0 P - lo0 P).toNat
  have e : ((spots P).map fun s => b1 (xB P s lot)) = (spots P).map fun s => b1 (decide (lo P lot ≤ s ∧ s < hi P lot)) := by
    refine List.map_congr_left fun s _ => ?_
    congr 1
    rw [Bool.eq_iff_iff, xB_iff, decide_eq_true_eq]
  rw [e]
  unfold spots
  rw [c]
  unfold hi lo at *
  omega
theorem sum_swap {α β : Type} (f : α → β → Int) : ∀ (xs : List α) (ys : List β), (xs.map fun x => (ys.map fun y => f x y).sum).sum = (ys.map fun y => (xs.map fun x => f x y).sum).sum
  | [], ys => by
    induction ys with
    | nil => rfl
    | cons y ys ih => simpa using ih
  | x :: xs, ys => by
    rw [List.map_cons, List.sum_cons, sum_swap f xs ys]
    induction ys with
    | nil => rfl
    | cons y ys ih =>
      simp only [List.map_cons, List.sum_cons] at *
      omega
theorem sum_mul2 {α : Type} (f : α → Int) : ∀ xs : List α, (xs.map fun x => 2 * f x).sum = 2 * (xs.map f).sum
  | [] => rfl
  | x :: xs => by
    have := sum_mul2 f xs
    simp only [List.map_cons, List.sum_cons]
    omega
theorem sum_le_map {α : Type} {f g : α → Int} : ∀ {xs : List α}, (∀ x ∈ xs, f x ≤ g x) → (xs.map f).sum ≤ (xs.map g).sum
  | [], _ => Int.le_refl _
  | x :: xs, h => by
    have a := h x (by simp)
    have b := sum_le_map fun y hy => h y (List.mem_cons_of_mem _ hy)
    simp only [List.map_cons, List.sum_cons]
    omega
/-- how many lots go over a spot -/
def overF (P : List Int) (lots : List (List Int)) (s : Int) : Int := (lots.map fun lot => b1 (xB P s lot)).sum
theorem len_over {P : List Int} {lots : List (List Int)} (h : ∀ lot ∈ lots, ∀ k ∈ lot, pl P k ∈ P) : lenF P lots = 2 * ((spots P).map (overF P lots)).sum := by
  have e : lenF P lots = (lots.map fun lot => 2 * ((spots P).map fun s => b1 (xB P s lot)).sum).sum := by
    unfold lenF
    congr 1
    refine List.map_congr_left fun lot hl => ?_
    rw [lot_cnt (h lot hl)]
  rw [e, sum_mul2, sum_swap]
  rfl
structure Part (P : List Int) (r : Int) (lots : List (List Int)) : Prop where
  flat : lots.flatten.Perm (rngI 0 P.length)
  room : ∀ lot ∈ lots, (lot.length : Int) ≤ r
theorem pl_mem {P : List Int} {k : Int} (h : k ∈ rngI 0 P.length) : pl P k ∈ P := by
  have h := rngI_mem.mp h
  unfold pl
  rw [List.getD_eq_getElem?_getD, List.getElem?_eq_getElem (by omega)]
  exact List.getElem_mem _
theorem Part.mem {P : List Int} {r : Int} {lots : List (List Int)} (p : Part P r lots) : ∀ lot ∈ lots, ∀ k ∈ lot, pl P k ∈ P := fun lot hl k hk => pl_mem (p.flat.mem_iff.mp (List.mem_flatten.mpr ⟨lot, hl, hk⟩))
def farL (P : List Int) (s : Int) (lot : List Int) : Nat := (lot.filter fun k => farB s (pl P k)).length
theorem far_flat (P : List Int) (s : Int) : ∀ lots : List (List Int), ((lots.flatten.filter fun k => farB s (pl P k)).length : Int) = (lots.map fun lot => (farL P s lot : Int)).sum
  | [] => rfl
  | lot :: lots => by
    have := far_flat P s lots
    rw [List.flatten_cons, List.filter_append, List.length_append, List.map_cons, List.sum_cons, ← this]
    unfold farL
    omega
theorem rng_pl (P : List Int) : (rngI 0 P.length).map (pl P) = P := by
  apply List.ext_getElem?
  intro k
  rw [List.getElem?_map]
  by_cases h : k < P.length
  · rw [rngI_get h, get_D (a := 0) h]
    unfold pl
    simp
  · rw [List.getElem?_eq_none (by rw [rngI_len]; omega), List.getElem?_eq_none (by omega)]; rfl
theorem far_part {P : List Int} {r s : Int} {lots : List (List Int)} (p : Part P r lots) : (far P s : Int) = (lots.map fun lot => (farL P s lot : Int)).sum := by
  rw [← far_flat, (p.flat.filter _).length_eq]
  unfold far
  have e : P.filter (farB s) = ((rngI 0 P.length).map (pl P)).filter (farB s) := by rw [rng_pl]
  rw [e, List.filter_map, List.length_map]
  rfl
theorem farL_le {P : List Int} {r s : Int} {lot : List Int} (h : (lot.length : Int) ≤ r) : (farL P s lot : Int) ≤ r * b1 (xB P s lot) := by
  unfold farL
  cases hx : xB P s lot with
  | true =>
    have := List.length_filter_le (fun k => farB s (pl P k)) lot
    show _ ≤ r * 1
    omega
  | false =>
    have : lot.filter (fun k => farB s (pl P k)) = [] := List.filter_eq_nil_iff.mpr fun k hk => by
      unfold xB at hx
      rw [List.any_eq_false] at hx
      exact hx k hk
    rw [this]
    show (0 : Int) ≤ r * 0
    omega
theorem sum_mulr {α : Type} (r : Int) (f : α → Int) : ∀ xs : List α, (xs.map fun x => r * f x).sum = r * (xs.map f).sum
  | [] => by simp
  | x :: xs => by
    have := sum_mulr r f xs
    simp only [List.map_cons, List.sum_cons, this, Int.mul_add]
theorem cross_le {P : List Int} {r s : Int} {lots : List (List Int)} (hr : 1 ≤ r) (p : Part P r lots) : crossF P r s ≤ overF P lots s := by
  have h : (far P s : Int) ≤ r * overF P lots s := by
    rw [far_part p]
    unfold overF
    rw [← sum_mulr]
    exact sum_le_map fun lot hl => farL_le (p.room lot hl)
  unfold crossF
  have : ((far P s : Int) + r - 1) / r < overF P lots s + 1 := by
    refine Int.ediv_lt_of_lt_mul (by omega) ?_
    rw [Int.add_mul, Int.mul_comm _ r]
    omega
  omega
/-- no way to part the loads is shorter -/
theorem least_le {P : List Int} {r : Int} {lots : List (List Int)} (hr : 1 ≤ r) (p : Part P r lots) : leastF P r ≤ lenF P lots := by
  rw [len_over p.mem]
  unfold leastF
  have := sum_le_map (f := crossF P r) (g := overF P lots) (xs := spots P) fun s _ => cross_le (s := s) hr p
  omega
theorem least_eq {P : List Int} {r : Int} {lots : List (List Int)} (hr : 1 ≤ r) (p : Part P r lots) (h : ∀ s, overF P lots s ≤ crossF P r s) : lenF P lots = leastF P r := by
  have a := least_le hr p
  rw [len_over p.mem] at *
  unfold leastF at *
  have := sum_le_map (f := overF P lots) (g := crossF P r) (xs := spots P) fun s _ => h s
  omega
/-! ### lots of so many -/
def chunkN {α : Type} (r : Nat) : Nat → List α → List (List α)
  | 0, _ => []
  | m + 1, xs => xs.take r :: chunkN r m (xs.drop r)
theorem chunk_snoc {α : Type} (r : Nat) : ∀ (m : Nat) (xs : List α), chunkN r (m + 1) xs = chunkN r m xs ++ [(xs.drop (m * r)).take r]
  | 0, xs => by simp [chunkN]
  | m + 1, xs => by
    have h := chunk_snoc r m (xs.drop r)
    rw [chunkN, h, chunkN, List.drop_drop, Nat.succ_mul, Nat.add_comm r]
    rfl
theorem chunk_len {α : Type} (r : Nat) : ∀ (m : Nat) (xs : List α), (chunkN r m xs).length = m
  | 0, _ => rfl
  | m + 1, xs => by rw [chunkN, List.length_cons, chunk_len]
theorem chunk_flat {α : Type} (r : Nat) : ∀ (m : Nat) (xs : List α), xs.length ≤ m * r → (chunkN r m xs).flatten = xs
  | 0, xs, h => by
    have : xs = [] := List.length_eq_zero_iff.mp (by omega)
    rw [this]; rfl
  | m + 1, xs, h => by
    rw [chunkN, List.flatten_cons, chunk_flat r m _ (by rw [List.length_drop, Nat.succ_mul] at *; omega), List.take_append_drop]
theorem chunk_room {α : Type} (r : Nat) : ∀ (m : Nat) (xs : List α), ∀ c ∈ chunkN r m xs, c.length ≤ r
  | 0, _, c, h => by cases h
  | m + 1, xs, c, h => by
    rcases List.mem_cons.mp h with e | h
    · rw [e, List.length_take]; omega
    · exact chunk_room r m _ c h
theorem chunk_ne {α : Type} {r : Nat} (hr : 0 < r) : ∀ (m : Nat) (xs : List α), (m - 1) * r < xs.length → ∀ c ∈ chunkN r m xs, 0 < c.length
  | 0, _, _, c, h => by cases h
  | m + 1, xs, hx, c, h => by
    rw [Nat.add_sub_cancel] at hx
    rcases List.mem_cons.mp h with e | h
    · rw [e, List.length_take]; omega
    · cases m with
      | zero => cases h
      | succ m =>
        refine chunk_ne hr (m + 1) _ ?_ c h
        rw [Nat.succ_mul] at hx
        rw [List.length_drop, Nat.add_sub_cancel]
        omega
theorem chunk_sub {α : Type} (r : Nat) : ∀ (m : Nat) (xs : List α), ∀ c ∈ chunkN r m xs, ∀ x ∈ c, x ∈ xs
  | 0, _, c, h => by cases h
  | m + 1, xs, c, h => fun x hx => by
    rcases List.mem_cons.mp h with e | h
    · rw [e] at hx; exact List.mem_of_mem_take hx
    · exact List.mem_of_mem_drop (chunk_sub r m _ c h x hx)
abbrev Pr := Int × Int
def nB (t : Int) (xs : List Pr) : Nat := (xs.filter fun p => decide (p.1 < t)).length
def cB (t : Int) (c : List Pr) : Bool := c.any fun p => decide (p.1 < t)
theorem nB_split (t : Int) (xs : List Pr) (r : Nat) : nB t xs = nB t (xs.take r) + nB t (xs.drop r) := by
  unfold nB
  rw [← List.length_append, ← List.filter_append, List.take_append_drop]
theorem cB_nB (t : Int) (c : List Pr) : cB t c = true ↔ 0 < nB t c := by
  unfold cB nB
  rw [List.any_eq_true]
  constructor
  · rintro ⟨x, hx, h⟩
    exact List.length_pos_of_mem (List.mem_filter.mpr ⟨hx, h⟩)
  · intro h
    obtain ⟨x, hx⟩ := List.exists_mem_of_length_pos h
    have := List.mem_filter.mp hx
    exact ⟨x, this.1, this.2⟩
theorem chunk_over {r : Nat} (hr : 1 ≤ r) (t : Int) : ∀ (m : Nat) (xs : List Pr), xs.Pairwise (fun p q => p.1 ≤ q.1) → ((chunkN r m xs).map fun c => b1 (cB t c)).sum ≤ (((nB t xs + r - 1) / r : Nat) : Int)
  | 0, xs, _ => Int.natCast_nonneg _
  | m + 1, xs, pw => by
    have ih := chunk_over hr t m (xs.drop r) (pw.sublist (List.drop_sublist r xs))
    have sp := nB_split t xs r
    rw [chunkN, List.map_cons, List.sum_cons]
    have nl : nB t (xs.take r) ≤ r := by
      have := List.length_filter_le (fun p : Pr => decide (p.1 < t)) (xs.take r)
      rw [List.length_take] at this
      unfold nB
      omega
    by_cases q : 0 < nB t (xs.drop r)
    · have full : nB t (xs.take r) = r := by
        obtain ⟨x, hx⟩ := List.exists_mem_of_length_pos q
        have hx := List.mem_filter.mp hx
        have hlen : r ≤ xs.length := by
          have := List.length_pos_of_mem hx.1
          rw [List.length_drop] at this
          omega
        unfold nB
        rw [List.filter_eq_self.mpr fun p hp => ?_, List.length_take]
        · omega
        · rw [← List.take_append_drop r xs] at pw
          have := (List.pairwise_append.mp pw).2.2 p hp x hx.1
          have hx2 : x.1 < t := by simpa using hx.2
          simp only [decide_eq_true_eq]
          omega
      have hb : b1 (cB t (xs.take r)) ≤ 1 := by unfold b1; split <;> omega
      have e : (nB t xs + r - 1) / r = (nB t (xs.drop r) + r - 1) / r + 1 := by
        rw [show nB t xs + r - 1 = (nB t (xs.drop r) + r - 1) + r by omega, Nat.add_div_right _ (by omega)]
      rw [e]
      omega
    · have z : nB t (xs.drop r) = 0 := by omega
      rw [z] at ih
      have e0 : (0 + r - 1) / r = 0 := Nat.div_eq_of_lt (by omega)
      rw [e0] at ih
      by_cases q1 : 0 < nB t (xs.take r)
      · have hb : b1 (cB t (xs.take r)) ≤ 1 := by unfold b1; split <;> omega
        have : 1 ≤ (nB t xs + r - 1) / r := (Nat.le_div_iff_mul_le (by omega)).mpr (by omega)
        omega
      · have hb : cB t (xs.take r) = false := by
          rw [Bool.eq_false_iff]
          intro h
          exact q1 ((cB_nB t _).mp h)
        rw [hb]
        show (0 : Int) + _ ≤ _
        have h0 : (0 : Int) ≤ (((nB t xs + r - 1) / r : Nat) : Int) := Int.natCast_nonneg _
        omega
/-! ### the trips -/
def rowB (P : List Int) (sd : Int) : List Pr := ((rngI 0 P.length).filter fun k => decide (0 < sd * pl P k)).map fun k => (0 - sd * pl P k, k)
def rowP (P : List Int) (sd : Int) : List Pr := (rowB P sd).mergeSort leP
def sizeN (n r : Nat) : Nat := (n + r - 1) / r
def intsD (xs : List Int) : D := .list (xs.map .int)
def sortI (xs : List Int) : List Int := xs.mergeSort fun a b => decide (a ≤ b)
def lots1 (P : List Int) (r : Nat) (sd : Int) : List (List Int) := (chunkN r (sizeN (rowP P sd).length r) (rowP P sd)).map fun c => sortI (c.map (·.2))
def nearF (P : List Int) : List Int := (rngI 0 P.length).filter fun k => decide (pl P k = 0)
def foundF (P : List Int) (r : Nat) : List (List Int) := lots1 P r 1 ++ lots1 P r (-1) ++ chunkN r (sizeN (nearF P).length r) (nearF P)
theorem size_ge {n r : Nat} (hr : 1 ≤ r) : n ≤ sizeN n r * r := by
  unfold sizeN
  have h := Nat.div_add_mod (n + r - 1) r
  have h2 := Nat.mod_lt (n + r - 1) (show r > 0 by omega)
  rw [Nat.mul_comm] at h
  omega
theorem size_lt {n r : Nat} (hr : 1 ≤ r) (h : 0 < sizeN n r) : (sizeN n r - 1) * r < n := by
  unfold sizeN at *
  have h1 := Nat.div_add_mod (n + r - 1) r
  rw [Nat.mul_comm] at h1
  rw [Nat.sub_mul]
  have : r ≤ (n + r - 1) / r * r := Nat.le_mul_of_pos_left r h
  omega
theorem sortI_perm (xs : List Int) : (sortI xs).Perm xs := List.mergeSort_perm _ _
theorem flat_perm {α : Type} {f g : α → List Int} : ∀ {xs : List α}, (∀ x ∈ xs, (f x).Perm (g x)) → (xs.map f).flatten.Perm (xs.map g).flatten
  | [], _ => List.Perm.refl _
  | x :: xs, h => by
    rw [List.map_cons, List.map_cons, List.flatten_cons, List.flatten_cons]
    exact (h x (by simp)).append (flat_perm fun y hy => h y (by simp [hy]))
theorem lots1_flat (P : List Int) {r : Nat} (hr : 1 ≤ r) (sd : Int) : (lots1 P r sd).flatten.Perm ((rngI 0 P.length).filter fun k => decide (0 < sd * pl P k)) := by
  have h1 : (lots1 P r sd).flatten.Perm ((chunkN r (sizeN (rowP P sd).length r) (rowP P sd)).map fun c => c.map (·.2)).flatten := flat_perm fun c _ => sortI_perm _
  refine h1.trans ?_
  rw [← List.map_flatten, chunk_flat _ _ _ (size_ge hr)]
  have h2 : ((rowP P sd).map (·.2)).Perm ((rowB P sd).map (·.2)) := (List.mergeSort_perm _ _).map _
  refine h2.trans ?_
  unfold rowB
  rw [List.map_map]
  have : ((fun p : Pr => p.2) ∘ fun k : Int => (0 - sd * pl P k, k)) = id := rfl
  rw [this, List.map_id]
theorem three_perm (f : Int → Int) : ∀ xs : List Int, (xs.filter (fun k => decide (0 < 1 * f k)) ++ xs.filter (fun k => decide (0 < -1 * f k)) ++ xs.filter fun k => decide (f k = 0)).Perm xs
  | [] => List.Perm.refl _
  | x :: xs => by
    have ih := three_perm f xs
    rcases (show 0 < f x ∨ f x < 0 ∨ f x = 0 by omega) with h | h | h
    · rw [List.filter_cons_of_pos (by simp; omega), List.filter_cons_of_neg (by simp; omega), List.filter_cons_of_neg (by simp; omega)]
      exact ih.cons x
    · rw [List.filter_cons_of_neg (by simp; omega), List.filter_cons_of_pos (by simp; omega), List.filter_cons_of_neg (by simp; omega)]
      refine List.Perm.trans ?_ (ih.cons x)
      rw [List.append_assoc, List.append_assoc]
      exact List.perm_middle
    · rw [List.filter_cons_of_neg (by simp; omega), List.filter_cons_of_neg (by simp; omega), List.filter_cons_of_pos (by simp; omega)]
      exact List.perm_middle.trans (ih.cons x)
theorem found_part (P : List Int) {r : Nat} (hr : 1 ≤ r) : Part P (r : Int) (foundF P r) := by
  refine ⟨?_, fun lot hl => ?_⟩
  · unfold foundF
    rw [List.flatten_append, List.flatten_append, chunk_flat _ _ (nearF P) (size_ge hr)]
    exact (((lots1_flat P hr 1).append (lots1_flat P hr (-1))).append_right _).trans (three_perm (pl P) _)
  · have h1 : ∀ sd, lot ∈ lots1 P r sd → lot.length ≤ r := fun sd h => by
      obtain ⟨c, hc, rfl⟩ := List.mem_map.mp h
      rw [(sortI_perm _).length_eq, List.length_map]
      exact chunk_room r _ _ c hc
    have : lot.length ≤ r := by
      rcases List.mem_append.mp hl with hl | hl
      · rcases List.mem_append.mp hl with hl | hl
        · exact h1 _ hl
        · exact h1 _ hl
      · exact chunk_room r _ _ lot hl
    omega
theorem found_ne (P : List Int) {r : Nat} (hr : 1 ≤ r) : ∀ lot ∈ foundF P r, 0 < lot.length := fun lot hl => by
  have cn : ∀ {α : Type} (xs : List α), ∀ c ∈ chunkN r (sizeN xs.length r) xs, 0 < c.length := fun xs c hc => by
    by_cases q : 0 < sizeN xs.length r
    · exact chunk_ne (by omega) _ _ (size_lt hr q) c hc
    · rw [show sizeN xs.length r = 0 by omega] at hc
      cases hc
  have h1 : ∀ sd, lot ∈ lots1 P r sd → 0 < lot.length := fun sd h => by
    obtain ⟨c, hc, rfl⟩ := List.mem_map.mp h
    rw [(sortI_perm _).length_eq, List.length_map]
    exact cn _ c hc
  rcases List.mem_append.mp hl with hl | hl
  · rcases List.mem_append.mp hl with hl | hl
    · exact h1 _ hl
    · exact h1 _ hl
  · exact cn _ lot hl
theorem over_app (P : List Int) (a b : List (List Int)) (s : Int) : overF P (a ++ b) s = overF P a s + overF P b s := by
  unfold overF
  rw [List.map_append, List.sum_append]
theorem over_0 {P : List Int} {a : List (List Int)} {s : Int} (h : ∀ lot ∈ a, ∀ k ∈ lot, farB s (pl P k) = false) : overF P a s = 0 := by
  unfold overF
  induction a with
  | nil => rfl
  | cons l a ih =>
    rw [List.map_cons, List.sum_cons, ih fun lot hl => h lot (by simp [hl])]
    have : xB P s l = false := by
      unfold xB
      rw [List.any_eq_false]
      intro k hk
      rw [h l (by simp) k hk]
      decide
    rw [this]
    rfl
theorem any_perm {α : Type} {f : α → Bool} {xs ys : List α} (h : xs.Perm ys) : xs.any f = ys.any f := by
  rw [Bool.eq_iff_iff, List.any_eq_true, List.any_eq_true]
  constructor
  · rintro ⟨x, hx, e⟩; exact ⟨x, h.mem_iff.mp hx, e⟩
  · rintro ⟨x, hx, e⟩; exact ⟨x, h.mem_iff.mpr hx, e⟩
theorem leP_fst {p q : Pr} (h : leP p q = true) : p.1 ≤ q.1 := by
  unfold leP ltP at h
  simp only [Bool.not_eq_true', decide_eq_false_iff_not] at h
  omega
theorem rowP_mem {P : List Int} {sd : Int} {p : Pr} (h : p ∈ rowP P sd) : p.2 ∈ rngI 0 P.length ∧ 0 < sd * pl P p.2 ∧ p.1 = 0 - sd * pl P p.2 := by
  unfold rowP at h
  rw [List.mem_mergeSort] at h
  obtain ⟨k, hk, rfl⟩ := List.mem_map.mp h
  have := List.mem_filter.mp hk
  exact ⟨this.1, by simpa using this.2, rfl⟩
/-- the lots of one side, over a spot where far means ahead of t in their row -/
theorem side_over (P : List Int) {r : Nat} (hr : 1 ≤ r) (sd s t : Int) (h : ∀ k, 0 < sd * pl P k → (farB s (pl P k) = true ↔ 0 - sd * pl P k < t)) : overF P (lots1 P r sd) s ≤ (((nB t (rowP P sd) + r - 1) / r : Nat) : Int) := by
  have pw : (rowP P sd).Pairwise fun p q => p.1 ≤ q.1 := (List.pairwise_mergeSort (le := leP) leP_trans leP_total (rowB P sd)).imp fun h => leP_fst h
  refine Int.le_trans (Int.le_of_eq ?_) (chunk_over hr t (sizeN (rowP P sd).length r) (rowP P sd) pw)
  unfold overF lots1
  rw [List.map_map]
  congr 1
  refine List.map_congr_left fun c hc => ?_
  show b1 (xB P s (sortI (c.map (·.2)))) = b1 (cB t c)
  congr 1
  unfold xB cB
  rw [any_perm (sortI_perm _), List.any_map, Bool.eq_iff_iff, List.any_eq_true, List.any_eq_true]
  have e : ∀ p ∈ c, farB s (pl P p.2) = true ↔ p.1 < t := fun p hp => by
    have := rowP_mem (chunk_sub r _ _ c hc p hp)
    rw [h p.2 this.2.1, this.2.2]
  constructor
  · rintro ⟨p, hp, q⟩; exact ⟨p, hp, by simpa using (e p hp).mp q⟩
  · rintro ⟨p, hp, q⟩; exact ⟨p, hp, (e p hp).mpr (by simpa using q)⟩
theorem nB_far (P : List Int) (sd s t : Int) (h : ∀ k, (farB s (pl P k) = true ↔ 0 < sd * pl P k ∧ 0 - sd * pl P k < t)) : nB t (rowP P sd) = far P s := by
  unfold nB rowP
  rw [((List.mergeSort_perm (rowB P sd) leP).filter _).length_eq]
  unfold far
  have e : P.filter (farB s) = ((rngI 0 P.length).map (pl P)).filter (farB s) := by rw [rng_pl]
  rw [e, List.filter_map, List.length_map]
  unfold rowB
  rw [List.filter_map, List.length_map, List.filter_filter]
  congr 1
  refine List.filter_congr fun k _ => ?_
  rw [Bool.eq_iff_iff]
  show (decide (0 - sd * pl P k < t) && decide (0 < sd * pl P k)) = true ↔ farB s (pl P k) = true
  rw [h k, Bool.and_eq_true, decide_eq_true_eq, decide_eq_true_eq]
  exact ⟨fun ⟨a, b⟩ => ⟨b, a⟩, fun ⟨a, b⟩ => ⟨b, a⟩⟩
theorem found_over (P : List Int) {r : Nat} (hr : 1 ≤ r) (s : Int) : overF P (foundF P r) s ≤ crossF P (r : Int) s := by
  have cr : (((far P s + r - 1) / r : Nat) : Int) = crossF P (r : Int) s := by
    unfold crossF
    rw [Int.natCast_ediv]
    congr 1
    omega
  have lmem : ∀ sd, ∀ lot ∈ lots1 P r sd, ∀ k ∈ lot, 0 < sd * pl P k := fun sd lot hl k hk => by
    obtain ⟨c, hc, rfl⟩ := List.mem_map.mp hl
    obtain ⟨p, hp, rfl⟩ := List.mem_map.mp ((sortI_perm _).mem_iff.mp hk)
    exact (rowP_mem (chunk_sub r _ _ c hc p hp)).2.1
  have near : overF P (chunkN r (sizeN (nearF P).length r) (nearF P)) s = 0 := over_0 fun lot hl k hk => by
    have := (List.mem_filter.mp (chunk_sub r _ _ lot hl k hk)).2
    have this : pl P k = 0 := by simpa using this
    rw [this]
    unfold farB
    split
    · exact decide_eq_false (by omega)
    · exact decide_eq_false (by omega)
  unfold foundF
  rw [over_app, over_app, near]
  by_cases hs : 0 ≤ s
  · have fb : ∀ x, farB s x = decide (s < x) := fun x => if_pos hs
    have a := side_over P hr 1 s (0 - s) fun k _ => by rw [fb, decide_eq_true_eq]; omega
    have b : overF P (lots1 P r (-1)) s = 0 := over_0 fun lot hl k hk => by
      have := lmem (-1) lot hl k hk
      rw [fb]
      exact decide_eq_false (by omega)
    rw [nB_far P 1 s (0 - s) fun k => by rw [fb, decide_eq_true_eq]; omega, cr] at a
    omega
  · have fb : ∀ x, farB s x = decide (x ≤ s) := fun x => if_neg hs
    have a := side_over P hr (-1) s (s + 1) fun k _ => by rw [fb, decide_eq_true_eq]; omega
    have b : overF P (lots1 P r 1) s = 0 := over_0 fun lot hl k hk => by
      have := lmem 1 lot hl k hk
      rw [fb]
      exact decide_eq_false (by omega)
    rw [nB_far P (-1) s (s + 1) fun k => by rw [fb, decide_eq_true_eq]; omega, cr] at a
    omega
theorem found_len (P : List Int) {r : Nat} (hr : 1 ≤ r) : lenF P (foundF P r) = leastF P (r : Int) := least_eq (by omega) (found_part P hr) (found_over P hr)
/-! ### all ways to part the loads -/
def waysF (r : Nat) : Nat → List (List Int) → Nat → List (List (List Int))
  | 0, lots, _ => [lots]
  | m + 1, lots, k => ((List.range lots.length).flatMap fun j => if (lots.getD j []).length < r then waysF r m (lots.set j (lots.getD j [] ++ [(k : Int)])) (k + 1) else []) ++ waysF r m (lots ++ [[(k : Int)]]) (k + 1)
structure WP (r : Nat) (lots : List (List Int)) (k : Nat) : Prop where
  flat : lots.flatten.Perm (rngI 0 k)
  room : ∀ lot ∈ lots, lot.length ≤ r
  ne : ∀ lot ∈ lots, 0 < lot.length
theorem set_flat : ∀ (lots : List (List Int)) (j : Nat) (x : Int), j < lots.length → (lots.set j (lots.getD j [] ++ [x])).flatten.Perm (lots.flatten ++ [x])
  | l :: lots, 0, x, _ => by
    show ((l ++ [x]) :: lots).flatten.Perm _
    rw [List.flatten_cons, List.flatten_cons, List.append_assoc, List.append_assoc]
    exact List.Perm.append_left l List.perm_append_comm
  | l :: lots, j + 1, x, h => by
    show (l :: lots.set j (lots.getD j [] ++ [x])).flatten.Perm _
    rw [List.flatten_cons, List.flatten_cons, List.append_assoc]
    exact (set_flat lots j x (by simpa using h)).append_left l
theorem rngI_snoc0 (k : Nat) : rngI 0 (k + 1) = rngI 0 k ++ [(k : Int)] := by rw [rngI_succ, Int.zero_add]
theorem WP.put {r : Nat} {lots : List (List Int)} {k j : Nat} (w : WP r lots k) (hj : j < lots.length) (h : (lots.getD j []).length < r) : WP r (lots.set j (lots.getD j [] ++ [(k : Int)])) (k + 1) := by
  refine ⟨?_, fun lot hl => ?_, fun lot hl => ?_⟩
  · rw [rngI_snoc0]
    exact (set_flat lots j _ hj).trans (w.flat.append_right _)
  · rcases List.mem_or_eq_of_mem_set hl with hl | e
    · exact w.room lot hl
    · rw [e, List.length_append, List.length_singleton]; omega
  · rcases List.mem_or_eq_of_mem_set hl with hl | e
    · exact w.ne lot hl
    · rw [e, List.length_append, List.length_singleton]; omega
theorem WP.new {r : Nat} {lots : List (List Int)} {k : Nat} (hr : 1 ≤ r) (w : WP r lots k) : WP r (lots ++ [[(k : Int)]]) (k + 1) := by
  refine ⟨?_, fun lot hl => ?_, fun lot hl => ?_⟩
  · rw [rngI_snoc0, List.flatten_append]
    exact w.flat.append_right _
  · rcases List.mem_append.mp hl with hl | hl
    · exact w.room lot hl
    · rw [List.mem_singleton.mp hl]; exact hr
  · rcases List.mem_append.mp hl with hl | hl
    · exact w.ne lot hl
    · rw [List.mem_singleton.mp hl]; simp
theorem ways_ok {r : Nat} (hr : 1 ≤ r) : ∀ (m : Nat) (lots : List (List Int)) (k : Nat), WP r lots k → ∀ w ∈ waysF r m lots k, WP r w (k + m)
  | 0, lots, k, h, w, hw => by rw [List.mem_singleton.mp hw]; exact h
  | m + 1, lots, k, h, w, hw => by
    rw [show k + (m + 1) = k + 1 + m by omega]
    rcases List.mem_append.mp hw with hw | hw
    · obtain ⟨j, hj, hw⟩ := List.mem_flatMap.mp hw
      have hj := List.mem_range.mp hj
      by_cases q : (lots.getD j []).length < r
      · rw [if_pos q] at hw
        exact ways_ok hr m _ _ (h.put hj q) w hw
      · rw [if_neg q] at hw
        cases hw
    · exact ways_ok hr m _ _ (h.new hr) w hw
theorem flat_cnt {α β : Type} (f : α → List β) (B : Nat) : ∀ xs : List α, (∀ x ∈ xs, (f x).length ≤ B) → (xs.flatMap f).length ≤ xs.length * B
  | [], _ => by simp
  | x :: xs, h => by
    have a := h x (by simp)
    have b := flat_cnt f B xs fun y hy => h y (by simp [hy])
    rw [List.flatMap_cons, List.length_append, List.length_cons, Nat.succ_mul]
    omega
theorem ways_cnt (r : Nat) : ∀ (m : Nat) (lots : List (List Int)) (k : Nat), (waysF r m lots k).length ≤ (lots.length + m) ^ m
  | 0, lots, k => by simp [waysF]
  | m + 1, lots, k => by
    have a := flat_cnt (fun j => if (lots.getD j []).length < r then waysF r m (lots.set j (lots.getD j [] ++ [(k : Int)])) (k + 1) else []) ((lots.length + m + 1) ^ m) (List.range lots.length) fun j _ => by
      split
      · have := ways_cnt r m (lots.set j (lots.getD j [] ++ [(k : Int)])) (k + 1)
        rw [List.length_set] at this
        exact Nat.le_trans this (Nat.pow_le_pow_left (by omega) m)
      · simp
    have b := ways_cnt r m (lots ++ [[(k : Int)]]) (k + 1)
    rw [List.length_append, List.length_singleton, show lots.length + 1 + m = lots.length + m + 1 by omega] at b
    rw [List.length_range] at a
    rw [waysF, List.length_append, show lots.length + (m + 1) = lots.length + m + 1 by omega, Nat.pow_succ]
    have c : (lots.length + 1) * (lots.length + m + 1) ^ m ≤ (lots.length + m + 1) ^ m * (lots.length + m + 1) := by
      rw [Nat.mul_comm]
      exact Nat.mul_le_mul_left _ (by omega)
    rw [Nat.add_mul, Nat.one_mul] at c
    omega
theorem ways_pos (r : Nat) : ∀ (m : Nat) (lots : List (List Int)) (k : Nat), 0 < (waysF r m lots k).length
  | 0, _, _ => by simp [waysF]
  | m + 1, lots, k => by
    have := ways_pos r m (lots ++ [[(k : Int)]]) (k + 1)
    rw [waysF, List.length_append]
    omega
theorem nodup_le {α : Type} [DecidableEq α] : ∀ (xs ys : List α), xs.Nodup → (∀ x ∈ xs, x ∈ ys) → xs.length ≤ ys.length
  | [], _, _, _ => by simp
  | x :: xs, ys, nd, h => by
    have hx := h x (by simp)
    have nx := List.nodup_cons.mp nd
    have := nodup_le xs (ys.erase x) nx.2 fun y hy => (List.mem_erase_of_ne (fun e => nx.1 (by rw [← e]; exact hy))).mpr (h y (by simp [hy]))
    rw [List.length_erase_of_mem hx] at this
    have := List.length_pos_of_mem hx
    rw [List.length_cons]
    omega
theorem sum_nn0 {f : Nat → Int} (hf : ∀ i, 0 ≤ f i) : ∀ ys : List Nat, 0 ≤ (ys.map f).sum
  | [] => Int.le_refl _
  | y :: ys => by
    have a := sum_nn0 hf ys
    have b := hf y
    rw [List.map_cons, List.sum_cons]
    omega
theorem sum_sub {f : Nat → Int} (hf : ∀ i, 0 ≤ f i) : ∀ (ids : List Nat) (ys : List Nat), ids.Nodup → (∀ i ∈ ids, i ∈ ys) → (ids.map f).sum ≤ (ys.map f).sum
  | [], ys, _, _ => sum_nn0 hf ys
  | i :: ids, ys, nd, h => by
    have hi := h i (by simp)
    have nx := List.nodup_cons.mp nd
    have := sum_sub hf ids (ys.erase i) nx.2 fun y hy => (List.mem_erase_of_ne (fun e => nx.1 (by rw [← e]; exact hy))).mpr (h y (by simp [hy]))
    have p := (List.perm_cons_erase hi).map f
    have e : (ys.map f).sum = ((i :: ys.erase i).map f).sum := by
      generalize (i :: ys.erase i).map f = zs at p
      generalize ys.map f = ws at p
      clear this
      induction p with
      | nil => rfl
      | cons x _ ih => rw [List.sum_cons, List.sum_cons, ih]
      | swap x y l => rw [List.sum_cons, List.sum_cons, List.sum_cons, List.sum_cons]; omega
      | trans _ _ a b => rw [a, b]
    rw [e, List.map_cons, List.sum_cons, List.map_cons, List.sum_cons]
    omega
structure Col (lots0 w : List (List Int)) (ids : List Nat) (k : Nat) : Prop where
  len : ids.length = w.length
  nd : ids.Nodup
  lt : ∀ i ∈ ids, i < lots0.length
  mem : ∀ j, j < w.length → ∀ x, x ∈ w.getD j [] ↔ x ∈ lots0.getD (ids.getD j 0) [] ∧ x < (k : Int)
  ndw : ∀ j, j < w.length → (w.getD j []).Nodup
  fresh : ∀ i, i < lots0.length → ∀ x ∈ lots0.getD i [], x < (k : Int) → i ∈ ids
theorem getD_mem {lots : List (List Int)} {j : Nat} (h : j < lots.length) : lots.getD j [] ∈ lots := by
  rw [List.getD_eq_getElem?_getD, List.getElem?_eq_getElem h]
  exact List.getElem_mem h
theorem flat_uniq {x : Int} : ∀ {lots : List (List Int)} (_ : lots.flatten.Nodup) {i j : Nat} (_ : i < lots.length) (_ : j < lots.length) (_ : x ∈ lots.getD i []) (_ : x ∈ lots.getD j []), i = j
  | l :: ls, nd, 0, 0, _, _, _, _ => rfl
  | l :: ls, nd, 0, j + 1, _, hj, h1, h2 => by
    rw [List.flatten_cons] at nd
    have hj : j < ls.length := by simpa using hj
    have h2 : x ∈ ls.getD j [] := h2
    have h1 : x ∈ l := h1
    exact absurd rfl ((List.nodup_append.mp nd).2.2 x h1 x (List.mem_flatten.mpr ⟨_, getD_mem hj, h2⟩))
  | l :: ls, nd, i + 1, 0, hi, _, h1, h2 => by
    rw [List.flatten_cons] at nd
    have hi : i < ls.length := by simpa using hi
    have h1 : x ∈ ls.getD i [] := h1
    have h2 : x ∈ l := h2
    exact absurd rfl ((List.nodup_append.mp nd).2.2 x h2 x (List.mem_flatten.mpr ⟨_, getD_mem hi, h1⟩))
  | l :: ls, nd, i + 1, j + 1, hi, hj, h1, h2 => by
    rw [List.flatten_cons] at nd
    rw [flat_uniq (List.nodup_append.mp nd).2.1 (i := i) (j := j) (by simpa using hi) (by simpa using hj) h1 h2]
theorem ways_some {r : Nat} {lots0 : List (List Int)} {n : Nat} (hf : lots0.flatten.Perm (rngI 0 n)) (hrm : ∀ lot ∈ lots0, lot.length ≤ r) : ∀ (m : Nat) (w : List (List Int)) (ids : List Nat) (k : Nat), k + m = n → Col lots0 w ids k → ∃ w' ∈ waysF r m w k, ∃ ids', Col lots0 w' ids' n
  | 0, w, ids, k, hk, c => ⟨w, List.mem_singleton.mpr rfl, ids, by rw [← hk]; exact c⟩
  | m + 1, w, ids, k, hk, c => by
    have nd : lots0.flatten.Nodup := hf.nodup_iff.mpr (rng_nodup n)
    have kin : (k : Int) ∈ lots0.flatten := hf.mem_iff.mpr (rngI_mem.mpr (by omega))
    obtain ⟨lot, hl, hkl⟩ := List.mem_flatten.mp kin
    obtain ⟨i, hi, e⟩ := List.getElem_of_mem hl
    have hki : (k : Int) ∈ lots0.getD i [] := by rw [List.getD_eq_getElem?_getD, List.getElem?_eq_getElem hi, e]; exact hkl
    by_cases q : i ∈ ids
    · obtain ⟨j, hj, ej⟩ := List.getElem_of_mem q
      have hjw : j < w.length := by rw [← c.len]; exact hj
      have ij : ids.getD j 0 = i := by rw [List.getD_eq_getElem?_getD, List.getElem?_eq_getElem hj, ej]; rfl
      have kn : (k : Int) ∉ w.getD j [] := fun h => by have := ((c.mem j hjw _).mp h).2; omega
      have ndk : (w.getD j [] ++ [(k : Int)]).Nodup := List.nodup_append.mpr ⟨c.ndw j hjw, by simp, fun x hx y hy e => by rw [List.mem_singleton.mp hy] at e; rw [e] at hx; exact kn hx⟩
      have room : (w.getD j []).length < r := by
        have h1 := nodup_le _ (lots0.getD i []) ndk fun x hx => by
          rcases List.mem_append.mp hx with hx | hx
          · have := ((c.mem j hjw x).mp hx).1
            rw [ij] at this
            exact this
          · rw [List.mem_singleton.mp hx]; exact hki
        have h2 := hrm _ (getD_mem hi)
        rw [List.length_append, List.length_singleton] at h1
        omega
      have gs : ∀ j', (w.set j (w.getD j [] ++ [(k : Int)])).getD j' [] = if j' = j then w.getD j [] ++ [(k : Int)] else w.getD j' [] := fun j' => getD_setN hjw
      obtain ⟨w', hw', h⟩ := ways_some hf hrm m (w.set j (w.getD j [] ++ [(k : Int)])) ids (k + 1) (by omega) ⟨by rw [List.length_set]; exact c.len, c.nd, c.lt, fun j' hj' x => by
          rw [List.length_set] at hj'
          rw [gs]
          have cm := c.mem j' hj' x
          by_cases e' : j' = j
          · subst e'
            rw [if_pos rfl, List.mem_append, List.mem_singleton, cm, ij]
            constructor
            · rintro (⟨a, b⟩ | rfl)
              · exact ⟨a, by omega⟩
              · exact ⟨hki, by omega⟩
            · rintro ⟨a, b⟩
              by_cases qx : x < (k : Int)
              · exact .inl ⟨a, qx⟩
              · exact .inr (by omega)
          · rw [if_neg e', cm]
            constructor
            · rintro ⟨a, b⟩; exact ⟨a, by omega⟩
            · rintro ⟨a, b⟩
              refine ⟨a, ?_⟩
              by_cases qx : x = (k : Int)
              · rw [qx] at a
                have hlt : j' < ids.length := by rw [c.len]; exact hj'
                have gj' : ids.getD j' 0 = ids[j'] := by rw [List.getD_eq_getElem?_getD, List.getElem?_eq_getElem hlt]; rfl
                have := flat_uniq nd (c.lt _ (List.getElem_mem hlt)) hi (by rw [← gj']; exact a) hki
                have : j' = j := (List.getElem_inj c.nd).mp (this.trans ej.symm)
                exact absurd this e'
              · omega, fun j' hj' => by
          rw [List.length_set] at hj'
          rw [gs]
          by_cases e' : j' = j
          · rw [if_pos e']; exact ndk
          · rw [if_neg e']; exact c.ndw j' hj', fun i' hi' x hx hxk => by
          by_cases qx : x < (k : Int)
          · exact c.fresh i' hi' x hx qx
          · have : x = (k : Int) := by omega
            rw [this] at hx
            rw [flat_uniq nd hi' hi hx hki]
            exact q⟩
      refine ⟨w', ?_, h⟩
      rw [waysF]
      exact List.mem_append_left _ (List.mem_flatMap.mpr ⟨j, List.mem_range.mpr hjw, by rw [if_pos room]; exact hw'⟩)
    · have ga : ∀ j', j' < w.length → (w ++ [[(k : Int)]]).getD j' [] = w.getD j' [] := fun j' h => by
        rw [List.getD_eq_getElem?_getD, List.getElem?_append_left h, ← List.getD_eq_getElem?_getD]
      have gb : (w ++ [[(k : Int)]]).getD w.length [] = [(k : Int)] := by
        rw [List.getD_eq_getElem?_getD, List.getElem?_append_right (Nat.le_refl _)]; simp
      have ia : ∀ j', j' < w.length → (ids ++ [i]).getD j' 0 = ids.getD j' 0 := fun j' h => by
        rw [List.getD_eq_getElem?_getD, List.getElem?_append_left (by rw [c.len]; exact h), ← List.getD_eq_getElem?_getD]
      have ib : (ids ++ [i]).getD w.length 0 = i := by
        rw [← c.len, List.getD_eq_getElem?_getD, List.getElem?_append_right (Nat.le_refl _)]; simp
      obtain ⟨w', hw', h⟩ := ways_some hf hrm m (w ++ [[(k : Int)]]) (ids ++ [i]) (k + 1) (by omega) ⟨by rw [List.length_append, List.length_append, c.len]; rfl, List.nodup_append.mpr ⟨c.nd, by simp, fun x hx y hy e => by rw [List.mem_singleton.mp hy] at e; rw [e] at hx; exact q hx⟩, fun i' hi' => by
          rcases List.mem_append.mp hi' with h | h
          · exact c.lt i' h
          · rw [List.mem_singleton.mp h]; exact hi, fun j' hj' x => by
          rw [List.length_append, List.length_singleton] at hj'
          by_cases e' : j' < w.length
          · rw [ga j' e', ia j' e', c.mem j' e' x]
            constructor
            · rintro ⟨a, b⟩; exact ⟨a, by omega⟩
            · rintro ⟨a, b⟩
              refine ⟨a, ?_⟩
              by_cases qx : x = (k : Int)
              · rw [qx] at a
                have hlt : j' < ids.length := by rw [c.len]; exact e'
                have gj' : ids.getD j' 0 = ids[j'] := by rw [List.getD_eq_getElem?_getD, List.getElem?_eq_getElem hlt]; rfl
                have := flat_uniq nd (c.lt _ (List.getElem_mem hlt)) hi (by rw [← gj']; exact a) hki
                exact absurd (this ▸ List.getElem_mem hlt) q
              · omega
          · have : j' = w.length := by omega
            rw [this, gb, ib, List.mem_singleton]
            constructor
            · rintro rfl; exact ⟨hki, by omega⟩
            · rintro ⟨a, b⟩
              by_cases qx : x < (k : Int)
              · exact absurd (c.fresh i hi x a qx) q
              · omega, fun j' hj' => by
          rw [List.length_append, List.length_singleton] at hj'
          by_cases e' : j' < w.length
          · rw [ga j' e']; exact c.ndw j' e'
          · rw [show j' = w.length by omega, gb]; simp, fun i' hi' x hx hxk => by
          by_cases qx : x < (k : Int)
          · exact List.mem_append_left _ (c.fresh i' hi' x hx qx)
          · have : x = (k : Int) := by omega
            rw [this] at hx
            rw [flat_uniq nd hi' hi hx hki]
            simp⟩
      refine ⟨w', ?_, h⟩
      rw [waysF]
      exact List.mem_append_right _ hw'
theorem map_rng {α β : Type} (d : α) (f : α → β) (xs : List α) : xs.map f = (List.range xs.length).map fun j => f (xs.getD j d) := by
  apply List.ext_getElem?
  intro k
  rw [List.getElem?_map, List.getElem?_map]
  by_cases h : k < xs.length
  · rw [List.getElem?_range h, get_D (a := d) h]; rfl
  · rw [List.getElem?_eq_none (by omega), List.getElem?_eq_none (by simp; omega)]; rfl
theorem b1_nn (b : Bool) : 0 ≤ b1 b := by unfold b1; split <;> omega
theorem col_over {P : List Int} {lots0 w : List (List Int)} {ids : List Nat} {n : Nat} (c : Col lots0 w ids n) (s : Int) : overF P w s ≤ overF P lots0 s := by
  unfold overF
  rw [map_rng [] _ w, map_rng [] _ lots0]
  have h1 : ((List.range w.length).map fun j => b1 (xB P s (w.getD j []))).sum ≤ ((List.range w.length).map fun j => b1 (xB P s (lots0.getD (ids.getD j 0) []))).sum := sum_le_map fun j hj => by
    have hj := List.mem_range.mp hj
    cases hx : xB P s (w.getD j []) with
    | false => exact b1_nn _
    | true =>
      unfold xB at hx ⊢
      rw [List.any_eq_true] at hx
      obtain ⟨x, hx, e⟩ := hx
      have : (lots0.getD (ids.getD j 0) []).any (fun k => farB s (pl P k)) = true := List.any_eq_true.mpr ⟨x, ((c.mem j hj x).mp hx).1, e⟩
      rw [this]
      exact Int.le_refl _
  have h2 : ((List.range w.length).map fun j => b1 (xB P s (lots0.getD (ids.getD j 0) []))) = ids.map fun i => b1 (xB P s (lots0.getD i [])) := by
    rw [map_rng 0 _ ids, c.len]
  rw [h2] at h1
  exact Int.le_trans h1 (sum_sub (fun i => b1_nn _) ids _ c.nd fun i hi => List.mem_range.mpr (c.lt i hi))
theorem WP.part {P : List Int} {r : Nat} {w : List (List Int)} (h : WP r w P.length) : Part P (r : Int) w := ⟨h.flat, fun lot hl => by have := h.room lot hl; omega⟩
theorem WP.start (r : Nat) : WP r [] 0 := ⟨List.Perm.refl _, (fun _ h => by cases h), (fun _ h => by cases h)⟩
/-- the least of all ways -/
theorem ways_best (P : List Int) {r : Nat} (hr : 1 ≤ r) : (∀ w ∈ waysF r P.length [] 0, WP r w P.length ∧ leastF P (r : Int) ≤ lenF P w) ∧ ∃ w ∈ waysF r P.length [] 0, lenF P w = leastF P (r : Int) := by
  have ok : ∀ w ∈ waysF r P.length [] 0, WP r w P.length := fun w hw => by
    have := ways_ok hr P.length [] 0 (WP.start r) w hw
    rw [Nat.zero_add] at this
    exact this
  refine ⟨fun w hw => ⟨ok w hw, least_le (by omega) (ok w hw).part⟩, ?_⟩
  have fp := found_part P hr
  obtain ⟨w, hw, ids, c⟩ := ways_some (r := r) fp.flat (fun lot hl => by have := fp.room lot hl; omega) P.length [] [] 0 (by omega) ⟨rfl, List.nodup_nil, (fun _ h => by cases h), (fun j hj => by cases hj), (fun j hj => by cases hj), fun i hi x hx h0 => by
    have := fp.flat.mem_iff.mp (List.mem_flatten.mpr ⟨_, getD_mem hi, hx⟩)
    have := rngI_mem.mp this
    omega⟩
  exact ⟨w, hw, least_eq (by omega) (ok w hw).part fun s => Int.le_trans (col_over c s) (found_over P hr s)⟩
end Law_k65
namespace Law_k65
open PySem L2 Pu
local macro_rules | `(tactic| walk_at "e") => `(tactic| first
  | ((with_reducible refine nx_seq ?_); (try dsimp only [List.set_cons_succ, List.set_cons_zero]))
  | ((with_reducible refine ex_vr ?_); dsimp only [VQ, List.set_cons_succ, List.set_cons_zero, List.getElem?_cons_zero, List.getElem?_cons_succ]; (fail_if_success (with_reducible show False)))
  | (with_reducible refine sx_seq ?_)
  | (with_reducible refine sx_if ?_)
  | (with_reducible refine sx_next ?_)
  | (with_reducible refine sx_ret ?_)
  | ((fail_if_success (with_reducible refine sx_asgO (eo_lst ?_))); (with_reducible refine sx_asg ?_))
  | (with_reducible refine ex_int ?_)
  | (with_reducible refine ex_str ?_)
  | (with_reducible refine ex_bl ?_)
  | (with_reducible refine ex_non ?_)
  | (with_reducible refine ex_op ?_)
  | (with_reducible refine ex_un ?_)
  | (with_reducible refine ex_chain ?_)
  | (with_reducible refine ex_call ?_)
  | (with_reducible refine ex_isT ?_)
  | (with_reducible refine ex_cb ?_)
  | (with_reducible refine ex_sl ?_)
  | (with_reducible refine ex_tup ?_)
  | (with_reducible refine ex_if ?_)
  | (with_reducible refine ex_of (eo_lst ?_))
  | (with_reducible refine ex_notV ?_)
  | (with_reducible refine ea_nil ?_)
  | (with_reducible refine ea_cons ?_)
  | (with_reducible refine ep_no ?_)
  | (with_reducible refine ep_some ?_)
  | (with_reducible refine et_test ?_)
  | (with_reducible refine et_B ?_)
  | (with_reducible refine et_ch3 ?_)
  | (with_reducible refine et_and ?_)
  | (with_reducible refine et_or ?_)
  | (with_reducible refine et_not ?_)
  | (with_reducible refine et_yes ?_)
  | (with_reducible refine et_truL ?_)
  | (with_reducible refine opd_plusI ?_)
  | (with_reducible refine opd_I0 ?_)
  | (with_reducible refine opd_B0 ?_)
  | (with_reducible refine opd_eqI ?_)
  | (with_reducible refine opd_neI ?_)
  | (with_reducible refine opd_eqS ?_)
  | (with_reducible refine opd_neS ?_)
  | (with_reducible refine opd_is ?_)
  | (with_reducible refine opd_isnt ?_)
  | (with_reducible refine opd_ixT rfl ?_)
  | (with_reducible refine opd_ixL rfl ?_)
  | (with_reducible refine und_neg ?_)
  | (with_reducible refine cbd_lenL ?_)
  | (with_reducible refine cbd_lenT ?_)
  | (with_reducible refine cbd_min2 ?_)
  | (with_reducible refine cbd_max2 ?_)
  | (with_reducible refine cbd_abs ?_)
  | (with_reducible refine cbd_int ?_)
  | (with_reducible refine cbd_tupL ?_)
  | (with_reducible refine cbd_listL ?_)
  | (with_reducible refine cbd_listT ?_)
  | (with_reducible refine cbd_sum ?_)
  | (with_reducible refine sld_T ?_)
  | (with_reducible refine sld_L ?_)
  | (with_reducible refine ex_revL ?_)
  | (with_reducible refine ex_bmL ?_)
  | (with_reducible refine ex_andV ?_)
  | (with_reducible refine ei_list ?_)
  | (with_reducible refine ei_rng1 ?_)
  | (with_reducible refine ei_rng2 ?_)
  | (with_reducible refine ei_enum ?_)
  | (with_reducible refine ei_enumT ?_)
  | (with_reducible refine ei_zip ?_)
  | (with_reducible refine sx_par ?_)
  | (with_reducible refine Exists.intro _ (And.intro rfl ?_))
  | (with_reducible refine Exists.intro _ (Exists.intro _ (And.intro rfl ?_)))
  | ((with_reducible show EX (tCall (spS _) [] _ (tCons (tVar _) _)) _ _); refine ex_callS rfl ?_)
  | ((with_reducible refine And.intro (show (_ : Nat) ≤ 100000 from ?_) ?_); (focus (simp; done)))
  | ((with_reducible refine opd_I ?_ ?_); focus (first | omega | (show CDiv _ _; exact ⟨by omega, by omega⟩) | (show CMul _ _; first | exact Or.inl ⟨by omega, by omega⟩ | exact Or.inr ⟨by omega, by omega⟩))))
local macro_rules | `(tactic| walk_at "es") => `(tactic| repeat walk_at "e")
local macro_rules | `(tactic| walk_at "w") => `(tactic| try dsimp only [wipeE, List.foldl_cons, List.foldl_nil, List.set_cons_succ, List.set_cons_zero])
local macro_rules | `(tactic| walk_at "le") => `(tactic| repeat' first | exact LeE.nil | (refine LeE.eq rfl ?_) | (refine LeE.emp ?_) | (refine LeE.eq ?_ ?_))
local macro_rules | `(tactic| walk_at "no") => `(tactic| ((refine And.intro (fun hb => absurd hb ?_) (fun _ => ?_)); (focus (first | (exact Bool.false_ne_true) | (simp; done) | (simp; omega) | (simp only [decide_eq_true_eq]; omega)))))
local macro_rules | `(tactic| walk_at "yes") => `(tactic| ((refine And.intro (fun _ => ?_) (fun hb => absurd hb ?_)); (rotate_left); (focus (first | (exact Bool.noConfusion) | (simp; done) | (simp; omega) | (simp only [decide_eq_false_iff_not]; omega)))))
local macro_rules | `(tactic| walk_at "ei") => `(tactic| repeat ((fail_if_success (with_reducible show SX (tSeq (tIfS _ _ _) _) _ _)); (fail_if_success (with_reducible show SX (tIfS _ _ _) _ _)); (fail_if_success (with_reducible show SX (tSeq (tAsg (tIf _ _ _) _) _) _ _)); walk_at "e"))
local macro_rules | `(tactic| walk_at "tv") => `(tactic| repeat' first | walk_at "e" | ((with_reducible show (_ = true → _) ∧ (_ = false → _)); refine And.intro (fun _ => ?_) (fun _ => ?_)))
/-! ### lengths -/
structure LOk (P : List Int) (lots : List (List Int)) : Prop where
  n : lots.length ≤ 1000
  room : ∀ lot ∈ lots, lot.length ≤ 1000
  ix : ∀ lot ∈ lots, ∀ k ∈ lot, 0 ≤ k ∧ k < (P.length : Int)
theorem max_l (a : Int) : ∀ (xs : List Int) (b : Int), xs.foldl max (max a b) = max a (xs.foldl max b)
  | [], b => rfl
  | x :: xs, b => by
    rw [List.foldl_cons, List.foldl_cons, show max (max a b) x = max a (max b x) by omega, max_l a xs]
theorem min_l' (a : Int) : ∀ (xs : List Int) (b : Int), xs.foldl min (min a b) = min a (xs.foldl min b)
  | [], b => rfl
  | x :: xs, b => by
    rw [List.foldl_cons, List.foldl_cons, show min (min a b) x = min a (min b x) by omega, min_l' a xs]
theorem fmax_snoc (xs : List Int) : foldMax (xs ++ [0]) = hi0 xs := by
  cases xs with
  | nil => rfl
  | cons x xs =>
    show (xs ++ [0]).foldl max x = (xs.foldl max (max 0 x))
    rw [List.foldl_append, max_l]
    show max _ 0 = _
    omega
theorem fmin_snoc (xs : List Int) : foldMin (xs ++ [0]) = lo0 xs := by
  cases xs with
  | nil => rfl
  | cons x xs =>
    show (xs ++ [0]).foldl min x = (xs.foldl min (min 0 x))
    rw [List.foldl_append, min_l']
    show min _ 0 = _
    omega
theorem opd_pl {K : PySem.W.Frag} {P : List Int} {k : Int} {Q : D → Prop} (h0 : 0 ≤ k) (h1 : k < (P.length : Int)) (q : Q (.int (pl P k))) : OpD (rIxA K) (.list (P.map .int)) (.int k) Q := opd_ixM (f := PyData.int) 0 h0 h1 q
theorem gxi (xs : List Int) (g : Int → Int) : ((xs.filter fun _ => true).map fun k => PyData.int (g k)) = (xs.map g).map .int := by rw [filt_all, List.map_map]; rfl
theorem len_snoc (P : List Int) (lots : List (List Int)) (lot : List Int) : lenF P (lots ++ [lot]) = lenF P lots + 2 * (hi P lot - lo P lot) := by unfold lenF; simp
def R_length : List D → (D → Prop) → Prop := fun ds Z => ∃ (P : List Int) (lots : List (List Int)), ds = [.list (P.map .int), .list (lots.map intsD)] ∧ LOk P lots ∧ Z (.int (lenF P lots))
theorem sx_length_of (K : PySem.W.Frag) (ds : List D) (Z : D → Prop) (h : R_length ds Z) : SX (T_length_of K) (startE N_length_of ds) { nx := fun _ => Z .none, rt := fun d _ => Z d } := by
  obtain ⟨P, lots, rfl, ok, z⟩ := h
  show SX (T_length_of K) [.val (.list (P.map .int)), .val (.list (lots.map intsD)), .emp, .emp, .emp, .emp, .emp] _
  unfold T_length_of
  walk_at "es"
  walk_at "w"
  refine sx_for (J := [3]) (ei_list ?_)
  walk_at "es"
  refine ⟨fun i ρ' => ρ' = [.val (.list (P.map .int)), .val (.list (lots.map intsD)), .val (.int (lenF P (lots.take i))), .emp, .emp, .emp, .emp], rfl, ?_, ?_⟩
  · rintro i dd ρ' hd0 rfl
    rw [List.getElem?_map] at hd0
    obtain ⟨lot, hl, rfl⟩ := Option.map_eq_some_iff.mp hd0
    have lm := List.mem_of_getElem? hl
    have lr := ok.room lot lm
    refine sg_name (by simp) ?_
    walk_at "w"
    show SX _ [.val (.list (P.map .int)), .val (.list (lots.map intsD)), .val (.int (lenF P (lots.take i))), .val (.list (lot.map .int)), .emp, .emp, .emp] _
    walk_at "es"
    refine ex_of (eo_lcP (α := Int) (fun _ => true) (fun k => .int (pl P k)) (ei_list ?_))
    walk_at "es"
    refine ⟨by omega, fun i hi => by simp at hi; subst hi; rfl, fun k hk => sg_name (by simp) ⟨rfl, ?_⟩, ?_⟩
    · walk_at "w"
      refine et_yes ⟨rfl, rfl, fun _ => ?_⟩
      walk_at "es"
      exact opd_pl (ok.ix lot lm k hk).1 (ok.ix lot lm k hk).2 ⟨rfl, rfl⟩
    rw [gxi]
    walk_at "es"
    refine opd_plusL (by simp; omega) ?_
    have e0 : (lot.map (pl P)).map PyData.int ++ [.int 0] = (lot.map (pl P) ++ [0]).map .int := by rw [List.map_append]; rfl
    rw [e0]
    walk_at "es"
    refine cbd_maxI (by simp) ?_
    rw [fmax_snoc]
    walk_at "es"
    walk_at "w"
    walk_at "es"
    refine ex_of (eo_lcP (α := Int) (fun _ => true) (fun k => .int (pl P k)) (ei_list ?_))
    walk_at "es"
    refine ⟨by omega, fun i hi => by simp at hi; subst hi; rfl, fun k hk => sg_name (by simp) ⟨rfl, ?_⟩, ?_⟩
    · walk_at "w"
      refine et_yes ⟨rfl, rfl, fun _ => ?_⟩
      walk_at "es"
      exact opd_pl (ok.ix lot lm k hk).1 (ok.ix lot lm k hk).2 ⟨rfl, rfl⟩
    rw [gxi]
    walk_at "es"
    refine opd_plusL (by simp; omega) ?_
    rw [e0]
    walk_at "es"
    refine cbd_minI (by simp) ?_
    rw [fmin_snoc]
    walk_at "es"
    walk_at "w"
    walk_at "es"
    walk_at "w"
    have e1 : lenF P (lots.take i) + 2 * (hi0 (lot.map (pl P)) - lo0 (lot.map (pl P))) = lenF P (lots.take (i + 1)) := by
      rw [take_snoc' hl, len_snoc]
      rfl
    rw [e1]
    exact ⟨_, by walk_at "le", rfl⟩
  · rintro ρ' rfl
    rw [List.length_map, List.take_length]
    walk_at "es"
    exact z
theorem sx_l_length (K : PySem.W.Frag) (ds : List D) (Z : D → Prop) (h : R_length ds Z) : SX (T_l_length K) (startE N_l_length ds) { nx := fun _ => Z .none, rt := fun d _ => Z d } := by
  obtain ⟨P, lots, rfl, ok, z⟩ := h
  show SX (T_l_length K) [.val (.list (P.map .int)), .val (.list (lots.map intsD)), .emp, .emp, .emp] _
  unfold T_l_length
  walk_at "es"
  walk_at "w"
  refine sx_for (J := [3]) (ei_list ?_)
  walk_at "es"
  refine ⟨fun i ρ' => ρ' = [.val (.list (P.map .int)), .val (.list (lots.map intsD)), .val (.int (lenF P (lots.take i))), .emp, .emp], rfl, ?_, ?_⟩
  · rintro i dd ρ' hd0 rfl
    rw [List.getElem?_map] at hd0
    obtain ⟨lot, hl, rfl⟩ := Option.map_eq_some_iff.mp hd0
    have lm := List.mem_of_getElem? hl
    have lr := ok.room lot lm
    refine sg_name (by simp) ?_
    walk_at "w"
    show SX _ [.val (.list (P.map .int)), .val (.list (lots.map intsD)), .val (.int (lenF P (lots.take i))), .val (.list (lot.map .int)), .emp] _
    walk_at "es"
    refine ex_of (eo_lcP (α := Int) (fun _ => true) (fun k => .int (pl P k)) (ei_list ?_))
    walk_at "es"
    refine ⟨by omega, fun i hi => by simp at hi; subst hi; rfl, fun k hk => sg_name (by simp) ⟨rfl, ?_⟩, ?_⟩
    · walk_at "w"
      refine et_yes ⟨rfl, rfl, fun _ => ?_⟩
      walk_at "es"
      exact opd_pl (ok.ix lot lm k hk).1 (ok.ix lot lm k hk).2 ⟨rfl, rfl⟩
    rw [gxi]
    refine opd_plusL (by simp; omega) ?_
    have e0 : [PyData.int 0] ++ (lot.map (pl P)).map PyData.int = ([0] ++ lot.map (pl P)).map .int := by rw [List.map_append]; rfl
    rw [e0]
    walk_at "es"
    refine cbd_maxI (by simp) ?_
    walk_at "es"
    refine ex_of (eo_lcP (α := Int) (fun _ => true) (fun k => .int (pl P k)) (ei_list ?_))
    walk_at "es"
    refine ⟨by omega, fun i hi => by simp at hi; subst hi; rfl, fun k hk => sg_name (by simp) ⟨rfl, ?_⟩, ?_⟩
    · walk_at "w"
      refine et_yes ⟨rfl, rfl, fun _ => ?_⟩
      walk_at "es"
      exact opd_pl (ok.ix lot lm k hk).1 (ok.ix lot lm k hk).2 ⟨rfl, rfl⟩
    rw [gxi]
    refine opd_plusL (by simp; omega) ?_
    rw [e0]
    walk_at "es"
    refine cbd_minI (by simp) ?_
    walk_at "es"
    walk_at "w"
    have e1 : lenF P (lots.take i) + 2 * (foldMax ([0] ++ lot.map (pl P)) - foldMin ([0] ++ lot.map (pl P))) = lenF P (lots.take (i + 1)) := by
      rw [take_snoc' hl, len_snoc]
      rfl
    rw [e1]
    exact ⟨_, by walk_at "le", rfl⟩
  · rintro ρ' rfl
    rw [List.length_map, List.take_length]
    walk_at "es"
    exact z
/-! ### spots -/
def R_cross : List D → (D → Prop) → Prop := fun ds Z => ∃ (P : List Int) (r : Nat) (s : Int), ds = [.list (P.map .int), .int (r : Int), .int s] ∧ (P.length ≤ 6 ∧ 1 ≤ r ∧ r ≤ 3) ∧ Z (.int (crossF P (r : Int) s))
theorem sx_crossed (K : PySem.W.Frag) (ds : List D) (Z : D → Prop) (h : R_cross ds Z) : SX (T_crossed K) (startE N_crossed ds) { nx := fun _ => Z .none, rt := fun d _ => Z d } := by
  obtain ⟨P, r, s, rfl, ⟨hp, hr, hr3⟩, z⟩ := h
  show SX (T_crossed K) [.val (.list (P.map .int)), .val (.int (r : Int)), .val (.int s), .emp, .emp] _
  unfold T_crossed
  refine sx_seq (sx_asg (ex_of (eo_lcP (α := Int) (fun x => farB s x) (fun x => .int x) (ei_list ?_))))
  walk_at "es"
  refine ⟨by omega, fun i hi => by simp at hi; subst hi; rfl, fun x hx => sg_name (by simp) ⟨rfl, ?_⟩, ?_⟩
  · walk_at "w"
    refine et_ifT ?_
    walk_at "es"
    refine ⟨fun h1 => ?_, fun h1 => ?_⟩
    · walk_at "es"
      refine ⟨?_, rfl, fun _ => ?_⟩
      · unfold farB; rw [if_pos (of_decide_eq_true h1)]
      · walk_at "es"; exact ⟨rfl, rfl⟩
    · walk_at "es"
      refine ⟨?_, rfl, fun _ => ?_⟩
      · unfold farB; rw [if_neg (of_decide_eq_false h1)]
      · walk_at "es"; exact ⟨rfl, rfl⟩
  walk_at "es"
  walk_at "w"
  walk_at "es"
  rw [List.length_map]
  have fl := List.length_filter_le (farB s) P
  exact z
theorem sx_l_crossed (K : PySem.W.Frag) (ds : List D) (Z : D → Prop) (h : R_cross ds Z) : SX (T_l_crossed K) (startE N_l_crossed ds) { nx := fun _ => Z .none, rt := fun d _ => Z d } := by
  obtain ⟨P, r, s, rfl, ⟨hp, hr, hr3⟩, z⟩ := h
  show SX (T_l_crossed K) [.val (.list (P.map .int)), .val (.int (r : Int)), .val (.int s), .emp, .emp] _
  unfold T_l_crossed
  have fl := List.length_filter_le (farB s) P
  refine sx_seq (sx_asg (ex_val (.int (far P s : Int)) ?_ ?_))
  · walk_at "es"
    refine ⟨fun h1 => ?_, fun h1 => ?_⟩
    · walk_at "es"
      refine ex_of (eo_lcP (α := Int) (fun x => farB s x) (fun x => .int x) (ei_list ?_))
      walk_at "es"
      refine ⟨by omega, fun i hi => by simp at hi; subst hi; rfl, fun x hx => sg_name (by simp) ⟨rfl, ?_⟩, ?_⟩
      · walk_at "w"
        walk_at "es"
        refine ⟨?_, rfl, fun _ => ?_⟩
        · unfold farB; rw [if_pos (of_decide_eq_true h1)]
        · walk_at "es"; exact ⟨rfl, rfl⟩
      walk_at "es"
      rw [List.length_map]
      exact ⟨rfl, rfl⟩
    · walk_at "es"
      refine ex_of (eo_lcP (α := Int) (fun x => farB s x) (fun x => .int x) (ei_list ?_))
      walk_at "es"
      refine ⟨by omega, fun i hi => by simp at hi; subst hi; rfl, fun x hx => sg_name (by simp) ⟨rfl, ?_⟩, ?_⟩
      · walk_at "w"
        walk_at "es"
        refine ⟨?_, rfl, fun _ => ?_⟩
        · unfold farB; rw [if_neg (of_decide_eq_false h1)]
        · walk_at "es"; exact ⟨rfl, rfl⟩
      walk_at "es"
      rw [List.length_map]
      exact ⟨rfl, rfl⟩
  refine nx_seq ?_
  walk_at "w"
  walk_at "es"
  have fl2 : far P s ≤ P.length := fl
  exact z
def Bd (P : List Int) : Prop := P.length ≤ 6 ∧ ∀ x ∈ P, -1000 ≤ x ∧ x ≤ 1000
theorem Bd.hi {P : List Int} (b : Bd P) : hi0 P ≤ 1000 := by
  rcases (fold_max P 0).2.2 with h | h
  · unfold hi0; omega
  · exact (b.2 _ h).2
theorem Bd.lo {P : List Int} (b : Bd P) : -1000 ≤ lo0 P := by
  rcases (fmin_all P 0).2.2 with h | h
  · unfold lo0; omega
  · exact (b.2 _ h).1
theorem spots_split (P : List Int) (f : Int → Int) : ((spots P).map f).sum = ((rngI 0 (hi0 P).toNat).map f).sum + ((rngI (lo0 P) (0 - lo0 P).toNat).map f).sum := by
  have h := hi0_nn P
  have l := lo0_np P
  have e : spots P = rngI (lo0 P) (0 - lo0 P).toNat ++ rngI 0 (hi0 P).toNat := by
    unfold spots
    rw [show (hi0 P - lo0 P).toNat = (0 - lo0 P).toNat + (hi0 P).toNat by omega]
    unfold rngI
    rw [List.range_add, List.map_append, List.map_map]
    congr 1
    refine List.map_congr_left fun k _ => ?_
    show lo0 P + (((0 - lo0 P).toNat + k : Nat) : Int) = 0 + (k : Int)
    omega
  rw [e, List.map_append, List.sum_append]
  omega
def R_least : List D → (D → Prop) → Prop := fun ds Z => ∃ (P : List Int) (r : Nat), ds = [.list (P.map .int), .int (r : Int)] ∧ (Bd P ∧ 1 ≤ r ∧ r ≤ 3) ∧ Z (.int (leastF P (r : Int)))
theorem sum_snoc (f : Int → Int) (a : Int) (k : Nat) : ((rngI a (k + 1)).map f).sum = ((rngI a k).map f).sum + f (a + (k : Int)) := by rw [rngI_succ]; simp
theorem sx_least_length (K : PySem.W.Frag) (ds : List D) (Z : D → Prop) (h : R_least ds Z) : SX (T_least_length K R_cross) (startE N_least_length ds) { nx := fun _ => Z .none, rt := fun d _ => Z d } := by
  obtain ⟨P, r, rfl, ⟨bp, hr, hr3⟩, z⟩ := h
  show SX (T_least_length K R_cross) [.val (.list (P.map .int)), .val (.int (r : Int)), .emp, .emp] _
  have bh := bp.hi
  have bl := bp.lo
  have h0 := hi0_nn P
  have l0 := lo0_np P
  have hp := bp.1
  have e0 : P.map PyData.int ++ [.int 0] = (P ++ [0]).map .int := by rw [List.map_append]; rfl
  unfold T_least_length
  walk_at "es"
  walk_at "w"
  refine sx_for (J := [3]) (ei_rng2 ?_)
  walk_at "es"
  refine opd_plusL (by simp; omega) ?_
  rw [e0]
  walk_at "es"
  refine cbd_maxI (by simp) ?_
  rw [fmax_snoc]
  walk_at "es"
  rw [Int.sub_zero]
  refine ⟨by omega, fun k ρ' => ρ' = [.val (.list (P.map .int)), .val (.int (r : Int)), .val (.int (2 * ((rngI 0 k).map (crossF P (r : Int))).sum)), .emp], rfl, ?_, ?_⟩
  · rintro k dd ρ' hd0 rfl
    obtain ⟨hk, rfl⟩ := rng_at hd0
    refine sg_name (by simp) ?_
    walk_at "w"
    walk_at "es"
    refine ⟨P, r, _, rfl, ⟨hp, hr, hr3⟩, ?_⟩
    walk_at "es"
    walk_at "w"
    have ws := sum_snoc (crossF P (r : Int)) 0 k
    rw [show 2 * ((rngI 0 k).map (crossF P (r : Int))).sum + 2 * crossF P (r : Int) (0 + (k : Int)) = 2 * ((rngI 0 (k + 1)).map (crossF P (r : Int))).sum by omega]
    exact ⟨_, by walk_at "le", rfl⟩
  rintro ρ' rfl
  rw [rng_size]
  refine nx_seq (sx_seq (sx_for (J := [3]) (ei_rng2 ?_)))
  walk_at "es"
  refine opd_plusL (by simp; omega) ?_
  rw [e0]
  walk_at "es"
  refine cbd_minI (by simp) ?_
  rw [fmin_snoc]
  walk_at "es"
  refine ⟨by omega, fun k ρ' => ρ' = [.val (.list (P.map .int)), .val (.int (r : Int)), .val (.int (2 * ((rngI 0 (hi0 P).toNat).map (crossF P (r : Int))).sum + 2 * ((rngI (lo0 P) k).map (crossF P (r : Int))).sum)), .emp], by simp [rngI], ?_, ?_⟩
  · rintro k dd ρ' hd0 rfl
    obtain ⟨hk, rfl⟩ := rng_at hd0
    refine sg_name (by simp) ?_
    walk_at "w"
    walk_at "es"
    refine ⟨P, r, _, rfl, ⟨hp, hr, hr3⟩, ?_⟩
    walk_at "es"
    walk_at "w"
    have ws := sum_snoc (crossF P (r : Int)) (lo0 P) k
    rw [show 2 * ((rngI 0 (hi0 P).toNat).map (crossF P (r : Int))).sum + 2 * ((rngI (lo0 P) k).map (crossF P (r : Int))).sum + 2 * crossF P (r : Int) (lo0 P + (k : Int)) = 2 * ((rngI 0 (hi0 P).toNat).map (crossF P (r : Int))).sum + 2 * ((rngI (lo0 P) (k + 1)).map (crossF P (r : Int))).sum by omega]
    exact ⟨_, by walk_at "le", rfl⟩
  rintro ρ' rfl
  rw [rng_size]
  walk_at "es"
  have e := spots_split P (crossF P (r : Int))
  unfold leastF at z
  rw [show 2 * ((rngI 0 (hi0 P).toNat).map (crossF P (r : Int))).sum + 2 * ((rngI (lo0 P) (0 - lo0 P).toNat).map (crossF P (r : Int))).sum = 2 * ((spots P).map (crossF P (r : Int))).sum by omega]
  exact z
theorem sx_l_least (K : PySem.W.Frag) (ds : List D) (Z : D → Prop) (h : R_least ds Z) : SX (T_l_least K R_cross) (startE N_l_least ds) { nx := fun _ => Z .none, rt := fun d _ => Z d } := by
  obtain ⟨P, r, rfl, ⟨bp, hr, hr3⟩, z⟩ := h
  show SX (T_l_least K R_cross) [.val (.list (P.map .int)), .val (.int (r : Int)), .emp, .emp] _
  have bh := bp.hi
  have bl := bp.lo
  have h0 := hi0_nn P
  have l0 := lo0_np P
  have hp := bp.1
  have e0 : P.map PyData.int ++ [.int 0] = (P ++ [0]).map .int := by rw [List.map_append]; rfl
  unfold T_l_least
  refine sx_seq (sx_asg (ex_of (eo_listRg2 ?_)))
  walk_at "es"
  refine opd_plusL (by simp; omega) ?_
  rw [e0]
  walk_at "es"
  refine cbd_minI (by simp) ?_
  rw [fmin_snoc]
  walk_at "es"
  refine opd_plusL (by simp; omega) ?_
  rw [e0]
  walk_at "es"
  refine cbd_maxI (by simp) ?_
  rw [fmax_snoc]
  refine ⟨_, _, rfl, rfl, by omega, ?_⟩
  refine nx_seq ?_
  walk_at "w"
  show SX _ [.val (.list (P.map .int)), .val (.int (r : Int)), .val (.list ((spots P).map .int)), .emp] _
  have sl : (spots P).length ≤ 2000 := by unfold spots; rw [rngI_len]; omega
  walk_at "es"
  refine ex_of (eo_lcP (α := Int) (fun _ => true) (fun s => .int (crossF P (r : Int) s)) (ei_list ?_))
  walk_at "es"
  refine ⟨by omega, fun i hi => by simp at hi; subst hi; rfl, fun x hx => sg_name (by simp) ⟨rfl, ?_⟩, ?_⟩
  · walk_at "w"
    refine et_yes ⟨rfl, rfl, fun _ => ?_⟩
    walk_at "es"
    exact ⟨P, r, x, rfl, ⟨hp, hr, hr3⟩, rfl, rfl⟩
  rw [gxi]
  walk_at "es"
  exact z
end Law_k65
namespace Law_k65
open PySem L2 Pu
local macro_rules | `(tactic| walk_at "e") => `(tactic| first
  | ((with_reducible refine nx_seq ?_); (try dsimp only [List.set_cons_succ, List.set_cons_zero]))
  | ((with_reducible refine ex_vr ?_); dsimp only [VQ, List.set_cons_succ, List.set_cons_zero, List.getElem?_cons_zero, List.getElem?_cons_succ]; (fail_if_success (with_reducible show False)))
  | (with_reducible refine sx_seq ?_)
  | (with_reducible refine sx_if ?_)
  | (with_reducible refine sx_next ?_)
  | (with_reducible refine sx_ret ?_)
  | ((fail_if_success (with_reducible refine sx_asgO (eo_lst ?_))); (with_reducible refine sx_asg ?_))
  | (with_reducible refine ex_int ?_)
  | (with_reducible refine ex_str ?_)
  | (with_reducible refine ex_bl ?_)
  | (with_reducible refine ex_non ?_)
  | (with_reducible refine ex_op ?_)
  | (with_reducible refine ex_un ?_)
  | (with_reducible refine ex_chain ?_)
  | (with_reducible refine ex_call ?_)
  | (with_reducible refine ex_isT ?_)
  | (with_reducible refine ex_cb ?_)
  | (with_reducible refine ex_sl ?_)
  | (with_reducible refine ex_tup ?_)
  | (with_reducible refine ex_if ?_)
  | (with_reducible refine ex_of (eo_lst ?_))
  | (with_reducible refine ex_notV ?_)
  | (with_reducible refine ea_nil ?_)
  | (with_reducible refine ea_cons ?_)
  | (with_reducible refine ep_no ?_)
  | (with_reducible refine ep_some ?_)
  | (with_reducible refine et_test ?_)
  | (with_reducible refine et_B ?_)
  | (with_reducible refine et_ch3 ?_)
  | (with_reducible refine et_and ?_)
  | (with_reducible refine et_or ?_)
  | (with_reducible refine et_not ?_)
  | (with_reducible refine et_yes ?_)
  | (with_reducible refine et_truL ?_)
  | (with_reducible refine opd_plusI ?_)
  | (with_reducible refine opd_I0 ?_)
  | (with_reducible refine opd_B0 ?_)
  | (with_reducible refine opd_eqI ?_)
  | (with_reducible refine opd_neI ?_)
  | (with_reducible refine opd_eqS ?_)
  | (with_reducible refine opd_neS ?_)
  | (with_reducible refine opd_is ?_)
  | (with_reducible refine opd_isnt ?_)
  | (with_reducible refine opd_ixT rfl ?_)
  | (with_reducible refine opd_ixL rfl ?_)
  | (with_reducible refine und_neg ?_)
  | (with_reducible refine cbd_lenL ?_)
  | (with_reducible refine cbd_lenT ?_)
  | (with_reducible refine cbd_min2 ?_)
  | (with_reducible refine cbd_max2 ?_)
  | (with_reducible refine cbd_abs ?_)
  | (with_reducible refine cbd_int ?_)
  | (with_reducible refine cbd_tupL ?_)
  | (with_reducible refine cbd_listL ?_)
  | (with_reducible refine cbd_listT ?_)
  | (with_reducible refine cbd_sum ?_)
  | (with_reducible refine sld_T ?_)
  | (with_reducible refine sld_L ?_)
  | (with_reducible refine ex_revL ?_)
  | (with_reducible refine ex_bmL ?_)
  | (with_reducible refine ex_andV ?_)
  | (with_reducible refine ei_list ?_)
  | (with_reducible refine ei_rng1 ?_)
  | (with_reducible refine ei_rng2 ?_)
  | (with_reducible refine ei_enum ?_)
  | (with_reducible refine ei_enumT ?_)
  | (with_reducible refine ei_zip ?_)
  | (with_reducible refine sx_par ?_)
  | (with_reducible refine Exists.intro _ (And.intro rfl ?_))
  | (with_reducible refine Exists.intro _ (Exists.intro _ (And.intro rfl ?_)))
  | ((with_reducible show EX (tCall (spS _) [] _ (tCons (tVar _) _)) _ _); refine ex_callS rfl ?_)
  | ((with_reducible refine And.intro (show (_ : Nat) ≤ 100000 from ?_) ?_); (focus (simp; done)))
  | ((with_reducible refine opd_I ?_ ?_); focus (first | omega | (show CDiv _ _; exact ⟨by omega, by omega⟩) | (show CMul _ _; first | exact Or.inl ⟨by omega, by omega⟩ | exact Or.inr ⟨by omega, by omega⟩))))
local macro_rules | `(tactic| walk_at "es") => `(tactic| repeat walk_at "e")
local macro_rules | `(tactic| walk_at "w") => `(tactic| try dsimp only [wipeE, List.foldl_cons, List.foldl_nil, List.set_cons_succ, List.set_cons_zero])
local macro_rules | `(tactic| walk_at "le") => `(tactic| repeat' first | exact LeE.nil | (refine LeE.eq rfl ?_) | (refine LeE.emp ?_) | (refine LeE.eq ?_ ?_))
local macro_rules | `(tactic| walk_at "no") => `(tactic| ((refine And.intro (fun hb => absurd hb ?_) (fun _ => ?_)); (focus (first | (exact Bool.false_ne_true) | (simp; done) | (simp; omega) | (simp only [decide_eq_true_eq]; omega)))))
local macro_rules | `(tactic| walk_at "yes") => `(tactic| ((refine And.intro (fun _ => ?_) (fun hb => absurd hb ?_)); (rotate_left); (focus (first | (exact Bool.noConfusion) | (simp; done) | (simp; omega) | (simp only [decide_eq_false_iff_not]; omega)))))
local macro_rules | `(tactic| walk_at "ei") => `(tactic| repeat ((fail_if_success (with_reducible show SX (tSeq (tIfS _ _ _) _) _ _)); (fail_if_success (with_reducible show SX (tIfS _ _ _) _ _)); (fail_if_success (with_reducible show SX (tSeq (tAsg (tIf _ _ _) _) _) _ _)); walk_at "e"))
local macro_rules | `(tactic| walk_at "tv") => `(tactic| repeat' first | walk_at "e" | ((with_reducible show (_ = true → _) ∧ (_ = false → _)); refine And.intro (fun _ => ?_) (fun _ => ?_)))
/-! ### sorted -/
theorem sortD_I (xs : List Int) : sortD (xs.map PyData.int) = (sortI xs).map .int := by
  have e := PySem.W.sort_maps (r := fun a b : Int => decide (a ≤ b)) (s := PySem.W.dataLe false id) PyData.int (l := xs) (fun a _ b _ => by
    show decide (a ≤ b) = (!PySem.W.dataLt (.int b) (.int a))
    rw [PySem.W.dataLt_int]
    by_cases h : a ≤ b
    · rw [decide_eq_true h, decide_eq_false (by omega)]; rfl
    · rw [decide_eq_false h, decide_eq_true (by omega)]; rfl)
  exact e.symm
theorem cbd_sortI {K : PySem.W.Frag} {xs : List Int} {Q : D → Prop} (k : Q (.list ((sortI xs).map .int))) : CbD (rSrD K) [.list (xs.map .int)] Q := cbd_sortD (fun x hx y hy => by
    obtain ⟨a, _, rfl⟩ := List.mem_map.mp hx
    obtain ⟨b, _, rfl⟩ := List.mem_map.mp hy
    rfl) (.inr fun x hx => by
    obtain ⟨a, _, rfl⟩ := List.mem_map.mp hx
    exact ⟨by simp, by simp⟩) (depthAll_le (n := 1) (dpn_map fun x _ => dpn_int) |> fun h => Nat.le_trans h (by decide)) (by rw [sortD_I]; exact k)
def leL (a b : List Int) : Bool := !PySem.W.dataLt (intsD b) (intsD a)
theorem sortD_L (xs : List (List Int)) : sortD (xs.map intsD) = (xs.mergeSort leL).map intsD :=
  (PySem.W.sort_maps (r := leL) (s := PySem.W.dataLe false id) intsD (l := xs) (fun a _ b _ => rfl)).symm
theorem alike_ints : ∀ xs ys : List Int, PySem.W.alikeAll (xs.map PyData.int) (ys.map PyData.int) = true
  | [], _ => by simp [PySem.W.alikeAll]
  | _ :: _, [] => by simp [PySem.W.alikeAll]
  | x :: xs, y :: ys => by simp [PySem.W.alikeAll, PySem.W.alike, alike_ints xs ys]
theorem cbd_sortL {K : PySem.W.Frag} {xs : List (List Int)} {Q : D → Prop} (k : Q (.list ((xs.mergeSort leL).map intsD))) : CbD (rSrD K) [.list (xs.map intsD)] Q := cbd_sortD (fun x hx y hy => by
    obtain ⟨a, _, rfl⟩ := List.mem_map.mp hx
    obtain ⟨b, _, rfl⟩ := List.mem_map.mp hy
    show PySem.W.alike (.list (a.map .int)) (.list (b.map .int)) = true
    simp only [PySem.W.alike]
    exact alike_ints a b) (.inr fun x hx => by
    obtain ⟨a, _, rfl⟩ := List.mem_map.mp hx
    exact ⟨by simp [intsD], by simp [intsD]⟩) (depthAll_le (n := 2) (dpn_map fun x _ => dpn_list (n := 1) (dpn_map fun y _ => dpn_int)) |> fun h => Nat.le_trans h (by decide)) (by rw [sortD_L]; exact k)
/-! ### trips -/
def tripsL (P : List Int) (r : Nat) : List (List Int) := (foundF P r).mergeSort leL
theorem size_rg (n r : Nat) (hn : n ≤ 6) (hr : 1 ≤ r ∧ r ≤ 3) : RgC 0 (n : Int) (r : Int) (sizeN n r) := by
  have : ∀ n, n ≤ 6 → ∀ r, r ≤ 3 → 1 ≤ r → RgC 0 ((n : Nat) : Int) ((r : Nat) : Int) (sizeN n r) := by
    unfold RgC
    decide +kernel
  exact this n hn r hr.2 hr.1
theorem cut_nn {α : Type} (f : α → D) (xs : List α) (i j : Nat) : cutD (xs.map f) (some (i : Int)) (some ((i : Int) + (j : Int))) = ((xs.drop i).take j).map f := by
  unfold cutD
  rw [List.length_map, List.map_take, List.map_drop]
  simp only [HT.sIx]
  rw [if_neg (by omega), if_neg (by omega), show ((i : Int) + (j : Int)).toNat = i + j by omega, Int.toNat_natCast]
  by_cases h : i ≤ xs.length
  · rw [Nat.min_eq_left h]
    by_cases h2 : i + j ≤ xs.length
    · rw [Nat.min_eq_left h2, Nat.add_sub_cancel_left]
    · rw [Nat.min_eq_right (by omega), List.take_of_length_le (by rw [List.length_drop, List.length_map]; omega), List.take_of_length_le (by rw [List.length_drop, List.length_map]; omega)]
  · rw [List.drop_of_length_le (by rw [List.length_map]; omega), List.drop_of_length_le (by rw [List.length_map]; omega), List.take_nil, List.take_nil]
def R_trips : List D → (D → Prop) → Prop := fun ds Z => ∃ (P : List Int) (r : Nat), ds = [.list (P.map .int), .int (r : Int)] ∧ (Bd P ∧ 1 ≤ r ∧ r ≤ 3) ∧ Z (.tuple [.list ((tripsL P r).map intsD), .int (lenF P (foundF P r))])
theorem rowB_len (P : List Int) (sd : Int) : (rowP P sd).length ≤ P.length := by
  unfold rowP rowB
  rw [List.length_mergeSort, List.length_map]
  have := List.length_filter_le (fun k => decide (0 < sd * pl P k)) (rngI 0 P.length)
  rw [rngI_len] at this
  exact this
theorem found_ok (P : List Int) {r : Nat} (hb : Bd P) (hr : 1 ≤ r ∧ r ≤ 3) {lots : List (List Int)} (h : lots.Perm (foundF P r)) : LOk P lots := by
  have p := found_part P hr.1
  have ne := found_ne P hr.1
  have fl : ∀ xs : List (List Int), (∀ l ∈ xs, 0 < l.length) → xs.length ≤ xs.flatten.length := by
    intro xs
    induction xs with
    | nil => intro _; exact Nat.le_refl _
    | cons x xs ih =>
      intro h
      have := ih fun l hl => h l (by simp [hl])
      have := h x (by simp)
      rw [List.flatten_cons, List.length_append, List.length_cons]
      omega
  have hf := p.flat.length_eq
  rw [rngI_len] at hf
  have hb1 := hb.1
  refine ⟨?_, fun lot hl => ?_, fun lot hl k hk => ?_⟩
  · rw [h.length_eq]
    have := fl _ ne
    omega
  · have := p.room lot (h.mem_iff.mp hl)
    omega
  · have := p.flat.mem_iff.mp (List.mem_flatten.mpr ⟨lot, h.mem_iff.mp hl, hk⟩)
    have := rngI_mem.mp this
    omega
def sdF (i : Nat) : Int := if i = 0 then 1 else -1
def preL (P : List Int) (r i : Nat) : List (List Int) := ((List.range i).map fun j => lots1 P r (sdF j)).flatten
theorem sx_trips (K : PySem.W.Frag) (ds : List D) (Z : D → Prop) (h : R_trips ds Z) : SX (T_trips K R_length) (startE N_trips ds) { nx := fun _ => Z .none, rt := fun d _ => Z d } := by
  obtain ⟨P, r, rfl, ⟨bp, hr, hr3⟩, z⟩ := h
  show SX (T_trips K R_length) [.val (.list (P.map .int)), .val (.int (r : Int)), .emp, .emp, .emp, .emp, .emp, .emp, .emp, .emp] _
  have hp := bp.1
  unfold T_trips
  refine sx_seq (sx_asgO (eo_lst ?_))
  walk_at "es"
  walk_at "w"
  refine sx_for (J := [3]) (ei_tup ?_)
  walk_at "es"
  refine ⟨fun i ρ' => ρ' = [.val (.list (P.map .int)), .val (.int (r : Int)), .own ((preL P r i).map intsD), .emp, .emp, .emp, .emp, .emp, .emp, .emp], rfl, ?_, ?_⟩
  · rintro i dd ρ' hd0 rfl
    have hi2 : i < 2 := by
      have := (List.getElem?_eq_some_iff.mp hd0).1
      simpa using this
    have hdd : dd = .int (sdF i) := by
      rcases (show i = 0 ∨ i = 1 by omega) with rfl | rfl
      · exact (Option.some.inj hd0).symm
      · exact (Option.some.inj hd0).symm
    subst hdd
    have hs : -1 ≤ sdF i ∧ sdF i ≤ 1 := by unfold sdF; split <;> omega
    have pre1 : preL P r (i + 1) = preL P r i ++ lots1 P r (sdF i) := by
      unfold preL
      rw [List.range_succ, List.map_append, List.flatten_append]
      simp
    revert pre1
    generalize sdF i = sd at hs
    generalize hpre : preL P r i = pre
    intro pre1
    have pl18 : pre.length ≤ 1000 := by
      rw [← hpre]
      rcases (show i = 0 ∨ i = 1 by omega) with rfl | rfl
      · simp [preL]
      · have fo := (found_ok P bp ⟨hr, hr3⟩ (List.Perm.refl (foundF P r))).n
        have : preL P r 1 = lots1 P r 1 := by simp [preL, sdF, List.range_succ]
        rw [this]
        unfold foundF at fo
        rw [List.length_append, List.length_append] at fo
        omega
    have rl := rowB_len P sd
    refine sg_name (by simp) ?_
    walk_at "w"
    refine sx_seq (sx_asg (ex_cb (ea_cons (ex_of (eo_lcP (α := Int) (fun k => decide (0 < sd * pl P k)) (fun k => encP (0 - sd * pl P k, k)) (ei_enum ?_))))))
    walk_at "es"
    rw [enum_rng 0]
    refine ⟨rngI 0 P.length, _, rfl, by rw [rngI_len]; omega, fun i hi => by simp at hi; rcases hi with rfl | rfl <;> rfl, fun x hx => ?_, ?_⟩
    · refine sg_tup rfl (sgs_cons (sg_name (by simp) (sgs_cons (sg_name (by simp) (sgs_nil ⟨rfl, ?_⟩)))))
      walk_at "w"
      walk_at "es"
      refine ⟨rfl, rfl, fun _ => ?_⟩
      walk_at "es"
      exact ⟨rfl, rfl⟩
    have eR : (((rngI 0 P.length).filter fun k => decide (0 < sd * pl P k)).map fun k => encP (0 - sd * pl P k, k)) = (rowB P sd).map encP := by unfold rowB; rw [List.map_map]; rfl
    rw [eR]
    walk_at "es"
    refine cbd_sortP ?_
    show NX _ [.val (.list (P.map .int)), .val (.int (r : Int)), .own (pre.map intsD), .val (.int sd), .val (.list ((rowP P sd).map encP)), .emp, .emp, .emp, .emp, .emp]
    refine nx_seq (sx_for (J := [7]) (ei_rng3 ?_))
    walk_at "es"
    rw [List.length_map]
    refine ⟨_, _, _, sizeN (rowP P sd).length r, rfl, size_rg _ _ (by omega) ⟨hr, hr3⟩, fun j ρ' => ρ' = [.val (.list (P.map .int)), .val (.int (r : Int)), .own ((pre ++ (chunkN r j (rowP P sd)).map fun c => sortI (c.map (·.2))).map intsD), .val (.int sd), .val (.list ((rowP P sd).map encP)), .emp, .emp, .emp, .emp, .emp], ?_, ?_, ?_⟩
    · simp [chunkN]
    · rintro j dd ρ' hd1 rfl
      have hj : j < sizeN (rowP P sd).length r := by
        have := (List.getElem?_eq_some_iff.mp hd1).1
        rw [List.length_map, stpI_len] at this
        exact this
      have s8 : sizeN (rowP P sd).length r ≤ 8 := by
        unfold sizeN
        exact Nat.div_le_of_le_mul (by
          have : 1 * 8 ≤ r * 8 := Nat.mul_le_mul_right 8 hr
          omega)
      rw [List.getElem?_map, stpI_get hj] at hd1
      obtain rfl := Option.some.inj hd1
      rw [show (0 : Int) + (j : Int) * (r : Int) = ((j * r : Nat) : Int) by rw [Int.zero_add, Int.natCast_mul]]
      refine sg_name (by simp) ?_
      walk_at "w"
      refine sx_app rfl (ex_cb (ea_cons (ex_of (eo_lcP (α := Pr) (fun _ => true) (fun p => .int p.2) (ei_list (ex_sl ?_))))))
      walk_at "es"
      rw [cut_nn]
      have tl : (((rowP P sd).drop (j * r)).take r).length ≤ 6 := by rw [List.length_take, List.length_drop]; omega
      refine ⟨_, _, rfl, by omega, fun i hi => by simp at hi; rcases hi with rfl | rfl <;> rfl, fun x hx => sg_tup rfl (sgs_cons (sg_name (by simp) (sgs_cons (sg_name (by simp) (sgs_nil ⟨rfl, ?_⟩))))), ?_⟩
      · walk_at "w"
        walk_at "es"
        refine ⟨rfl, rfl, fun _ => ?_⟩
        walk_at "es"
        exact ⟨rfl, rfl⟩
      have e1 : ((((rowP P sd).drop (j * r)).take r).filter fun _ => true).map (fun p => PyData.int p.2) = ((((rowP P sd).drop (j * r)).take r).map (·.2)).map .int := by rw [filt_all, List.map_map]; rfl
      rw [e1]
      walk_at "es"
      refine cbd_sortI ?_
      refine ⟨_, rfl, by simp only [List.length_map, List.length_append, chunk_len]; omega, ?_⟩
      walk_at "w"
      have e2 : ((pre ++ (chunkN r j (rowP P sd)).map fun c => sortI (c.map (·.2))).map intsD) ++ [.list ((sortI ((((rowP P sd).drop (j * r)).take r).map (·.2))).map .int)] = (pre ++ (chunkN r (j + 1) (rowP P sd)).map fun c => sortI (c.map (·.2))).map intsD := by
        rw [chunk_snoc, List.map_append (l₁ := chunkN r j (rowP P sd)), ← List.append_assoc, List.map_append (l₁ := pre ++ _)]
        rfl
      rw [e2]
      exact ⟨_, by walk_at "le", rfl⟩
    · rintro ρ' rfl
      rw [List.length_map, stpI_len, pre1]
      exact ⟨_, by walk_at "le", rfl⟩
  · rintro ρ' rfl
    have pre2 : preL P r 2 = lots1 P r 1 ++ lots1 P r (-1) := by
      unfold preL
      simp [List.range_succ, sdF]
    have fo := found_ok P bp ⟨hr, hr3⟩ (List.Perm.refl (foundF P r))
    have fl : (lots1 P r 1 ++ lots1 P r (-1)).length ≤ 1000 := by
      have := fo.n
      unfold foundF at this
      rw [List.length_append] at this
      omega
    show NX _ [.val (.list (P.map .int)), .val (.int (r : Int)), .own ((preL P r 2).map intsD), .emp, .emp, .emp, .emp, .emp, .emp, .emp]
    rw [pre2]
    generalize hpre : lots1 P r 1 ++ lots1 P r (-1) = pre at fl
    refine nx_seq (sx_seq (sx_asg (ex_of (eo_lcP (α := Int) (fun k => decide (pl P k = 0)) (fun k => .int k) (ei_enum ?_)))))
    walk_at "es"
    rw [enum_rng 0]
    refine ⟨rngI 0 P.length, _, rfl, by rw [rngI_len]; omega, fun i hi => by simp at hi; rcases hi with rfl | rfl <;> rfl, fun x hx => ?_, ?_⟩
    · refine sg_tup rfl (sgs_cons (sg_name (by simp) (sgs_cons (sg_name (by simp) (sgs_nil ⟨rfl, ?_⟩)))))
      walk_at "w"
      walk_at "es"
      refine ⟨rfl, rfl, fun _ => ?_⟩
      walk_at "es"
      exact ⟨rfl, rfl⟩
    show NX _ [.val (.list (P.map .int)), .val (.int (r : Int)), .own (pre.map intsD), .emp, .emp, .emp, .emp, .emp, .emp, .val (.list ((nearF P).map .int))]
    have nl : (nearF P).length ≤ P.length := by
      have := List.length_filter_le (fun k => decide (pl P k = 0)) (rngI 0 P.length)
      rw [rngI_len] at this
      exact this
    have hfo : foundF P r = pre ++ chunkN r (sizeN (nearF P).length r) (nearF P) := by unfold foundF; rw [hpre]
    generalize nearF P = near at nl hfo
    refine nx_seq (sx_seq (sx_for (J := [7]) (ei_rng3 ?_)))
    walk_at "es"
    rw [List.length_map]
    refine ⟨_, _, _, sizeN near.length r, rfl, size_rg _ _ (by omega) ⟨hr, hr3⟩, fun j ρ' => ρ' = [.val (.list (P.map .int)), .val (.int (r : Int)), .own ((pre ++ chunkN r j near).map intsD), .emp, .emp, .emp, .emp, .emp, .emp, .val (.list (near.map .int))], ?_, ?_, ?_⟩
    · simp [chunkN]
    · rintro j dd ρ' hd1 rfl
      have hj : j < sizeN near.length r := by
        have := (List.getElem?_eq_some_iff.mp hd1).1
        rw [List.length_map, stpI_len] at this
        exact this
      have s8 : sizeN near.length r ≤ 8 := by
        unfold sizeN
        exact Nat.div_le_of_le_mul (by
          have : 1 * 8 ≤ r * 8 := Nat.mul_le_mul_right 8 hr
          omega)
      rw [List.getElem?_map, stpI_get hj] at hd1
      obtain rfl := Option.some.inj hd1
      rw [show (0 : Int) + (j : Int) * (r : Int) = ((j * r : Nat) : Int) by rw [Int.zero_add, Int.natCast_mul]]
      refine sg_name (by simp) ?_
      walk_at "w"
      refine sx_app rfl (ex_sl ?_)
      walk_at "es"
      rw [cut_nn]
      refine ⟨by simp only [List.length_map, List.length_append, chunk_len]; omega, ?_⟩
      walk_at "w"
      have e2 : (pre ++ chunkN r j near).map intsD ++ [.list (((near.drop (j * r)).take r).map .int)] = (pre ++ chunkN r (j + 1) near).map intsD := by
        rw [chunk_snoc, ← List.append_assoc, List.map_append (l₁ := pre ++ chunkN r j near)]
        rfl
      rw [e2]
      exact ⟨_, by walk_at "le", rfl⟩
    · rintro ρ' rfl
      rw [List.length_map, stpI_len, ← hfo]
      refine nx_seq (sx_freeze 2 rfl ?_)
      walk_at "w"
      walk_at "es"
      refine cbd_sortL ?_
      walk_at "es"
      refine ⟨P, foundF P r, rfl, fo, ?_⟩
      walk_at "es"
      exact z
end Law_k65
namespace Law_k65
open PySem L2 Pu
local macro_rules | `(tactic| walk_at "e") => `(tactic| first
  | ((with_reducible refine nx_seq ?_); (try dsimp only [List.set_cons_succ, List.set_cons_zero]))
  | ((with_reducible refine ex_vr ?_); dsimp only [VQ, List.set_cons_succ, List.set_cons_zero, List.getElem?_cons_zero, List.getElem?_cons_succ]; (fail_if_success (with_reducible show False)))
  | (with_reducible refine sx_seq ?_)
  | (with_reducible refine sx_if ?_)
  | (with_reducible refine sx_next ?_)
  | (with_reducible refine sx_ret ?_)
  | ((fail_if_success (with_reducible refine sx_asgO (eo_lst ?_))); (with_reducible refine sx_asg ?_))
  | (with_reducible refine ex_int ?_)
  | (with_reducible refine ex_str ?_)
  | (with_reducible refine ex_bl ?_)
  | (with_reducible refine ex_non ?_)
  | (with_reducible refine ex_op ?_)
  | (with_reducible refine ex_un ?_)
  | (with_reducible refine ex_chain ?_)
  | (with_reducible refine ex_call ?_)
  | (with_reducible refine ex_isT ?_)
  | (with_reducible refine ex_cb ?_)
  | (with_reducible refine ex_sl ?_)
  | (with_reducible refine ex_tup ?_)
  | (with_reducible refine ex_if ?_)
  | (with_reducible refine ex_of (eo_lst ?_))
  | (with_reducible refine ex_notV ?_)
  | (with_reducible refine ea_nil ?_)
  | (with_reducible refine ea_cons ?_)
  | (with_reducible refine ep_no ?_)
  | (with_reducible refine ep_some ?_)
  | (with_reducible refine et_test ?_)
  | (with_reducible refine et_B ?_)
  | (with_reducible refine et_ch3 ?_)
  | (with_reducible refine et_and ?_)
  | (with_reducible refine et_or ?_)
  | (with_reducible refine et_not ?_)
  | (with_reducible refine et_yes ?_)
  | (with_reducible refine et_truL ?_)
  | (with_reducible refine opd_plusI ?_)
  | (with_reducible refine opd_I0 ?_)
  | (with_reducible refine opd_B0 ?_)
  | (with_reducible refine opd_eqI ?_)
  | (with_reducible refine opd_neI ?_)
  | (with_reducible refine opd_eqS ?_)
  | (with_reducible refine opd_neS ?_)
  | (with_reducible refine opd_is ?_)
  | (with_reducible refine opd_isnt ?_)
  | (with_reducible refine opd_ixT rfl ?_)
  | (with_reducible refine opd_ixL rfl ?_)
  | (with_reducible refine und_neg ?_)
  | (with_reducible refine cbd_lenL ?_)
  | (with_reducible refine cbd_lenT ?_)
  | (with_reducible refine cbd_min2 ?_)
  | (with_reducible refine cbd_max2 ?_)
  | (with_reducible refine cbd_abs ?_)
  | (with_reducible refine cbd_int ?_)
  | (with_reducible refine cbd_tupL ?_)
  | (with_reducible refine cbd_listL ?_)
  | (with_reducible refine cbd_listT ?_)
  | (with_reducible refine cbd_sum ?_)
  | (with_reducible refine sld_T ?_)
  | (with_reducible refine sld_L ?_)
  | (with_reducible refine ex_revL ?_)
  | (with_reducible refine ex_bmL ?_)
  | (with_reducible refine ex_andV ?_)
  | (with_reducible refine ei_list ?_)
  | (with_reducible refine ei_rng1 ?_)
  | (with_reducible refine ei_rng2 ?_)
  | (with_reducible refine ei_enum ?_)
  | (with_reducible refine ei_enumT ?_)
  | (with_reducible refine ei_zip ?_)
  | (with_reducible refine sx_par ?_)
  | (with_reducible refine Exists.intro _ (And.intro rfl ?_))
  | (with_reducible refine Exists.intro _ (Exists.intro _ (And.intro rfl ?_)))
  | ((with_reducible show EX (tCall (spS _) [] _ (tCons (tVar _) _)) _ _); refine ex_callS rfl ?_)
  | ((with_reducible refine And.intro (show (_ : Nat) ≤ 100000 from ?_) ?_); (focus (simp; done)))
  | ((with_reducible refine opd_I ?_ ?_); focus (first | omega | (show CDiv _ _; exact ⟨by omega, by omega⟩) | (show CMul _ _; first | exact Or.inl ⟨by omega, by omega⟩ | exact Or.inr ⟨by omega, by omega⟩))))
local macro_rules | `(tactic| walk_at "es") => `(tactic| repeat walk_at "e")
local macro_rules | `(tactic| walk_at "w") => `(tactic| try dsimp only [wipeE, List.foldl_cons, List.foldl_nil, List.set_cons_succ, List.set_cons_zero])
local macro_rules | `(tactic| walk_at "le") => `(tactic| repeat' first | exact LeE.nil | (refine LeE.eq rfl ?_) | (refine LeE.emp ?_) | (refine LeE.eq ?_ ?_))
local macro_rules | `(tactic| walk_at "no") => `(tactic| ((refine And.intro (fun hb => absurd hb ?_) (fun _ => ?_)); (focus (first | (exact Bool.false_ne_true) | (simp; done) | (simp; omega) | (simp only [decide_eq_true_eq]; omega)))))
local macro_rules | `(tactic| walk_at "yes") => `(tactic| ((refine And.intro (fun _ => ?_) (fun hb => absurd hb ?_)); (rotate_left); (focus (first | (exact Bool.noConfusion) | (simp; done) | (simp; omega) | (simp only [decide_eq_false_iff_not]; omega)))))
local macro_rules | `(tactic| walk_at "ei") => `(tactic| repeat ((fail_if_success (with_reducible show SX (tSeq (tIfS _ _ _) _) _ _)); (fail_if_success (with_reducible show SX (tIfS _ _ _) _ _)); (fail_if_success (with_reducible show SX (tSeq (tAsg (tIf _ _ _) _) _) _ _)); walk_at "e"))
local macro_rules | `(tactic| walk_at "tv") => `(tactic| repeat' first | walk_at "e" | ((with_reducible show (_ = true → _) ∧ (_ = false → _)); refine And.intro (fun _ => ?_) (fun _ => ?_)))
/-! ### all ways -/
def lotsD (w : List (List Int)) : D := .list (w.map intsD)
theorem opd_lot {K : PySem.W.Frag} {lots : List (List Int)} {k : Nat} {Q : D → Prop} (h : k < lots.length) (q : Q (.list ((lots.getD k []).map .int))) : OpD (rIxA K) (.list (lots.map intsD)) (.int (k : Int)) Q := opd_ixM (f := intsD) [] (by omega) (by omega) (by rw [Int.toNat_natCast]; exact q)
def R_ways (n : Nat) : List D → (D → Prop) → Prop := fun ds Z => ∃ (r : Nat) (lots : List (List Int)) (k m : Nat), ds = [.int ((k + m : Nat) : Int), .int (r : Int), .list (lots.map intsD), .int (k : Int)] ∧ (m < n ∧ lots.length + m ≤ 6 ∧ r ≤ 3) ∧ Z (.list ((waysF r m lots k).map lotsD))
theorem no_l_ways : ∀ ds Z, ¬ R_ways 0 ds Z := fun ds Z h => by
  obtain ⟨r, lots, k, m, _, ⟨h, _⟩, _⟩ := h
  omega
theorem ways_len {r m k : Nat} {lots : List (List Int)} (h : lots.length + m ≤ 6) : (waysF r m lots k).length ≤ 50000 := by
  have a := ways_cnt r m lots k
  have b : (lots.length + m) ^ m ≤ 6 ^ m := Nat.pow_le_pow_left h m
  have c : 6 ^ m ≤ 6 ^ 6 := Nat.pow_le_pow_right (by decide) (by omega)
  have d : 6 ^ 6 = 46656 := by decide
  omega
theorem sx_l_ways (K : PySem.W.Frag) (n : Nat) (ds : List D) (Z : D → Prop) (h : R_ways (n + 1) ds Z) : SX (T_l_ways K (R_ways n)) (startE N_l_ways ds) { nx := fun _ => Z .none, rt := fun d _ => Z d } := by
  obtain ⟨r, lots, k, m, rfl, ⟨hm, hl, hr⟩, z⟩ := h
  show SX (T_l_ways K (R_ways n)) [.val (.int ((k + m : Nat) : Int)), .val (.int (r : Int)), .val (.list (lots.map intsD)), .val (.int (k : Int)), .emp, .emp] _
  unfold T_l_ways
  walk_at "es"
  cases m with
  | zero =>
    refine ⟨fun _ => ?_, fun hq => absurd (of_decide_eq_false hq) (by simp)⟩
    walk_at "es"
    exact z
  | succ m =>
    refine ⟨fun hq => ?_, fun _ => ?_⟩
    · have := of_decide_eq_true hq
      omega
    have rlen : 6 * 50000 ≤ 300000 := by decide
    have big := ways_len (r := r) (k := k) hl
    walk_at "es"
    refine sx_asgO (eo_lst ?_)
    walk_at "es"
    walk_at "w"
    refine sx_for (J := [5]) (ei_rng1 ?_)
    walk_at "es"
    rw [List.length_map, Int.toNat_natCast]
    have wr : waysF r (m + 1) lots k = ((List.range lots.length).flatMap fun j => if (lots.getD j []).length < r then waysF r m (lots.set j (lots.getD j [] ++ [(k : Int)])) (k + 1) else []) ++ waysF r m (lots ++ [[(k : Int)]]) (k + 1) := rfl
    revert wr
    generalize hF : (fun j => if (lots.getD j []).length < r then waysF r m (lots.set j (lots.getD j [] ++ [(k : Int)])) (k + 1) else []) = F
    intro wr
    have pre : ∀ j, j ≤ lots.length → ((List.range j).flatMap F).length ≤ 50000 := fun j hj => by
      rw [wr, List.length_append] at big
      have : ((List.range j).flatMap F).length ≤ ((List.range lots.length).flatMap F).length := by
        obtain ⟨c, e⟩ : ∃ c, lots.length = j + c := ⟨lots.length - j, by omega⟩
        rw [e, List.range_add, List.flatMap_append, List.length_append]
        omega
      omega
    refine ⟨by omega, fun j ρ' => ρ' = [.val (.int ((k + (m + 1) : Nat) : Int)), .val (.int (r : Int)), .val (.list (lots.map intsD)), .val (.int (k : Int)), .own (((List.range j).flatMap F).map lotsD), .emp], rfl, ?_, ?_⟩
    · rintro j dd ρ' hd0 rfl
      obtain ⟨hj, rfl⟩ := rng_at hd0
      rw [Int.zero_add]
      have fs : (List.range (j + 1)).flatMap F = (List.range j).flatMap F ++ F j := by rw [List.range_succ, List.flatMap_append]; simp
      refine sg_name (by simp) ?_
      walk_at "w"
      walk_at "es"
      refine opd_lot hj ?_
      walk_at "es"
      rw [List.length_map]
      refine ⟨fun h1 => ?_, fun h1 => ?_⟩
      · have h1 : (lots.getD j []).length < r := by have := of_decide_eq_true h1; omega
        have fj : F j = waysF r m (lots.set j (lots.getD j [] ++ [(k : Int)])) (k + 1) := by rw [← hF]; exact if_pos h1
        refine sx_ext rfl ?_
        walk_at "es"
        rw [cut_n]
        walk_at "es"
        refine opd_lot hj ?_
        walk_at "es"
        refine opd_plusL (by simp only [List.length_map, List.length_cons, List.length_nil]; omega) ?_
        walk_at "es"
        refine opd_plusL (by simp only [List.length_map, List.length_take, List.length_cons, List.length_nil]; omega) ?_
        walk_at "es"
        rw [show (j : Int) + 1 = ((j + 1 : Nat) : Int) by omega, cut_drop]
        refine opd_plusL (by simp only [List.length_append, List.length_map, List.length_take, List.length_drop, List.length_cons, List.length_nil]; omega) ?_
        walk_at "es"
        have e1 : (lots.take j).map intsD ++ [.list ((lots.getD j []).map .int ++ [.int (k : Int)])] ++ (lots.drop (j + 1)).map intsD = (lots.set j (lots.getD j [] ++ [(k : Int)])).map intsD := by
          rw [List.set_eq_take_append_cons_drop, if_pos hj]
          simp [intsD]
        rw [e1, show ((k + (m + 1) : Nat) : Int) = ((k + 1 + m : Nat) : Int) by omega]
        refine ⟨r, lots.set j (lots.getD j [] ++ [(k : Int)]), k + 1, m, rfl, ⟨by omega, by rw [List.length_set]; omega, hr⟩, ?_⟩
        have b2 := pre j (by omega)
        have b3 := ways_len (r := r) (k := k + 1) (m := m) (lots := lots.set j (lots.getD j [] ++ [(k : Int)])) (by rw [List.length_set]; omega)
        refine ⟨_, _, rfl, rfl, by simp only [List.length_map]; omega, ?_⟩
        walk_at "w"
        rw [← List.map_append, ← fj, ← fs, show ((k + 1 + m : Nat) : Int) = ((k + (m + 1) : Nat) : Int) by omega]
        exact ⟨_, by walk_at "le", rfl⟩
      · have h1 : ¬ (lots.getD j []).length < r := by have := of_decide_eq_false h1; omega
        have fj : F j = [] := by rw [← hF]; exact if_neg h1
        walk_at "es"
        rw [fs, fj, List.append_nil]
        exact ⟨_, by walk_at "le", rfl⟩
    · rintro ρ' rfl
      rw [rng_size]
      refine nx_seq (sx_freeze 4 rfl ?_)
      walk_at "w"
      walk_at "es"
      have b2 := pre lots.length (Nat.le_refl _)
      refine opd_plusL (by simp only [List.length_map, List.length_cons, List.length_nil]; omega) ?_
      walk_at "es"
      have e1 : lots.map intsD ++ [.list [.int (k : Int)]] = (lots ++ [[(k : Int)]]).map intsD := by rw [List.map_append]; rfl
      rw [e1, show ((k + (m + 1) : Nat) : Int) = ((k + 1 + m : Nat) : Int) by omega]
      have b3 := ways_len (r := r) (k := k + 1) (m := m) (lots := lots ++ [[(k : Int)]]) (by rw [List.length_append, List.length_singleton]; omega)
      refine ⟨r, lots ++ [[(k : Int)]], k + 1, m, rfl, ⟨by omega, by rw [List.length_append, List.length_singleton]; omega, hr⟩, ?_⟩
      refine opd_plusL (by simp only [List.length_map]; omega) ?_
      rw [← List.map_append, ← wr]
      exact z
end Law_k65
namespace Law_k65
open PySem L2 Pu
local macro_rules | `(tactic| walk_at "e") => `(tactic| first
  | ((with_reducible refine nx_seq ?_); (try dsimp only [List.set_cons_succ, List.set_cons_zero]))
  | ((with_reducible refine ex_vr ?_); dsimp only [VQ, List.set_cons_succ, List.set_cons_zero, List.getElem?_cons_zero, List.getElem?_cons_succ]; (fail_if_success (with_reducible show False)))
  | (with_reducible refine sx_seq ?_)
  | (with_reducible refine sx_if ?_)
  | (with_reducible refine sx_next ?_)
  | (with_reducible refine sx_ret ?_)
  | ((fail_if_success (with_reducible refine sx_asgO (eo_lst ?_))); (with_reducible refine sx_asg ?_))
  | (with_reducible refine ex_int ?_)
  | (with_reducible refine ex_str ?_)
  | (with_reducible refine ex_bl ?_)
  | (with_reducible refine ex_non ?_)
  | (with_reducible refine ex_op ?_)
  | (with_reducible refine ex_un ?_)
  | (with_reducible refine ex_chain ?_)
  | (with_reducible refine ex_call ?_)
  | (with_reducible refine ex_isT ?_)
  | (with_reducible refine ex_cb ?_)
  | (with_reducible refine ex_sl ?_)
  | (with_reducible refine ex_tup ?_)
  | (with_reducible refine ex_if ?_)
  | (with_reducible refine ex_of (eo_lst ?_))
  | (with_reducible refine ex_notV ?_)
  | (with_reducible refine ea_nil ?_)
  | (with_reducible refine ea_cons ?_)
  | (with_reducible refine ep_no ?_)
  | (with_reducible refine ep_some ?_)
  | (with_reducible refine et_test ?_)
  | (with_reducible refine et_B ?_)
  | (with_reducible refine et_ch3 ?_)
  | (with_reducible refine et_and ?_)
  | (with_reducible refine et_or ?_)
  | (with_reducible refine et_not ?_)
  | (with_reducible refine et_yes ?_)
  | (with_reducible refine et_truL ?_)
  | (with_reducible refine opd_plusI ?_)
  | (with_reducible refine opd_I0 ?_)
  | (with_reducible refine opd_B0 ?_)
  | (with_reducible refine opd_eqI ?_)
  | (with_reducible refine opd_neI ?_)
  | (with_reducible refine opd_eqS ?_)
  | (with_reducible refine opd_neS ?_)
  | (with_reducible refine opd_is ?_)
  | (with_reducible refine opd_isnt ?_)
  | (with_reducible refine opd_ixT rfl ?_)
  | (with_reducible refine opd_ixL rfl ?_)
  | (with_reducible refine und_neg ?_)
  | (with_reducible refine cbd_lenL ?_)
  | (with_reducible refine cbd_lenT ?_)
  | (with_reducible refine cbd_min2 ?_)
  | (with_reducible refine cbd_max2 ?_)
  | (with_reducible refine cbd_abs ?_)
  | (with_reducible refine cbd_int ?_)
  | (with_reducible refine cbd_tupL ?_)
  | (with_reducible refine cbd_listL ?_)
  | (with_reducible refine cbd_listT ?_)
  | (with_reducible refine cbd_sum ?_)
  | (with_reducible refine sld_T ?_)
  | (with_reducible refine sld_L ?_)
  | (with_reducible refine ex_revL ?_)
  | (with_reducible refine ex_bmL ?_)
  | (with_reducible refine ex_andV ?_)
  | (with_reducible refine ei_list ?_)
  | (with_reducible refine ei_rng1 ?_)
  | (with_reducible refine ei_rng2 ?_)
  | (with_reducible refine ei_enum ?_)
  | (with_reducible refine ei_enumT ?_)
  | (with_reducible refine ei_zip ?_)
  | (with_reducible refine sx_par ?_)
  | (with_reducible refine Exists.intro _ (And.intro rfl ?_))
  | (with_reducible refine Exists.intro _ (Exists.intro _ (And.intro rfl ?_)))
  | ((with_reducible show EX (tCall (spS _) [] _ (tCons (tVar _) _)) _ _); refine ex_callS rfl ?_)
  | ((with_reducible refine And.intro (show (_ : Nat) ≤ 100000 from ?_) ?_); (focus (simp; done)))
  | ((with_reducible refine opd_I ?_ ?_); focus (first | omega | (show CDiv _ _; exact ⟨by omega, by omega⟩) | (show CMul _ _; first | exact Or.inl ⟨by omega, by omega⟩ | exact Or.inr ⟨by omega, by omega⟩))))
local macro_rules | `(tactic| walk_at "es") => `(tactic| repeat walk_at "e")
local macro_rules | `(tactic| walk_at "w") => `(tactic| try dsimp only [wipeE, List.foldl_cons, List.foldl_nil, List.set_cons_succ, List.set_cons_zero])
local macro_rules | `(tactic| walk_at "le") => `(tactic| repeat' first | exact LeE.nil | (refine LeE.eq rfl ?_) | (refine LeE.emp ?_) | (refine LeE.eq ?_ ?_))
local macro_rules | `(tactic| walk_at "no") => `(tactic| ((refine And.intro (fun hb => absurd hb ?_) (fun _ => ?_)); (focus (first | (exact Bool.false_ne_true) | (simp; done) | (simp; omega) | (simp only [decide_eq_true_eq]; omega)))))
local macro_rules | `(tactic| walk_at "yes") => `(tactic| ((refine And.intro (fun _ => ?_) (fun hb => absurd hb ?_)); (rotate_left); (focus (first | (exact Bool.noConfusion) | (simp; done) | (simp; omega) | (simp only [decide_eq_false_iff_not]; omega)))))
local macro_rules | `(tactic| walk_at "ei") => `(tactic| repeat ((fail_if_success (with_reducible show SX (tSeq (tIfS _ _ _) _) _ _)); (fail_if_success (with_reducible show SX (tIfS _ _ _) _ _)); (fail_if_success (with_reducible show SX (tSeq (tAsg (tIf _ _ _) _) _) _ _)); walk_at "e"))
local macro_rules | `(tactic| walk_at "tv") => `(tactic| repeat' first | walk_at "e" | ((with_reducible show (_ = true → _) ∧ (_ = false → _)); refine And.intro (fun _ => ?_) (fun _ => ?_)))
/-! ### the judges -/
theorem eqv_intsL : ∀ (xs ys : List Int), PyData.eqvAll (xs.map PyData.int) (ys.map PyData.int) = decide (xs = ys)
  | [], [] => rfl
  | [], _ :: _ => rfl
  | _ :: _, [] => rfl
  | x :: xs, y :: ys => by
    rw [List.map_cons, List.map_cons, PyData.eqvAll, eqv_intsL xs ys]
    have e : PyData.eqv (.int x) (.int y) = decide (x = y) := by
      simp only [PyData.eqv]
      by_cases h : x = y <;> simp [h]
    rw [e]
    by_cases h1 : x = y <;> by_cases h2 : xs = ys <;> simp [h1, h2]
theorem ints_deep (xs : List Int) : (PyData.list (xs.map PyData.int)).depth ≤ 60 := by
  have h : DpN 2 (PyData.list (xs.map PyData.int)) := dpn_list (dpn_map fun x _ => dpn_int)
  exact Nat.le_trans h (by decide)
theorem opd_neL {K : PySem.W.Frag} {xs ys : List Int} {Q : D → Prop} (k : Q (.bool (!decide (xs = ys)))) : OpD (rNeP K) (.list (xs.map .int)) (.list (ys.map .int)) Q := opd_neP (min_l (ints_deep xs)) (by
  have e : PyData.eqv (.list (xs.map PyData.int)) (.list (ys.map PyData.int)) = decide (xs = ys) := eqv_intsL xs ys
  rw [e]; exact k)
def roomF (r : Nat) (lots : List (List Int)) (k : Nat) : Option D := if 0 < (lots.getD k []).length ∧ (lots.getD k []).length ≤ r then none else some (.tuple [.str (Str.ofString "room"), .int (k : Int)])
def faultD (P : List Int) (r : Nat) (lots : List (List Int)) (len : Int) : D :=
  if sortI lots.flatten = rngI 0 P.length then
    match (List.range lots.length).findSome? (roomF r lots) with
    | some d => d
    | none => if lenF P lots = len then (if len ≤ leastF P (r : Int) then .none else .tuple [.str (Str.ofString "long")]) else .tuple [.str (Str.ofString "length")]
  else .tuple [.str (Str.ofString "loads")]
def R_fault : List D → (D → Prop) → Prop := fun ds Z => ∃ (P : List Int) (r : Nat) (lots : List (List Int)) (len : Int), ds = [.list (P.map .int), .int (r : Int), .tuple [.list (lots.map intsD), .int len]] ∧ ((Bd P ∧ 1 ≤ r ∧ r ≤ 3) ∧ lots.length ≤ 1000 ∧ lots.flatten.length ≤ 1000) ∧ Z (faultD P r lots len)
theorem flat_ok {P : List Int} {lots : List (List Int)} (h : lots.length ≤ 1000) (hf : lots.flatten.length ≤ 1000) (e : sortI lots.flatten = rngI 0 P.length) : LOk P lots := by
  refine ⟨h, fun lot hl => ?_, fun lot hl k hk => ?_⟩
  · have : lot.length ≤ lots.flatten.length := (List.sublist_flatten_of_mem hl).length_le
    omega
  · have : k ∈ sortI lots.flatten := (sortI_perm _).mem_iff.mpr (List.mem_flatten.mpr ⟨lot, hl, hk⟩)
    rw [e] at this
    have := rngI_mem.mp this
    omega
theorem lc2_flat (lots : List (List Int)) : lc2L (fun _ : List Int => true) (fun l => l) (fun _ _ => true) (fun _ (y : Int) => PyData.int y) lots = lots.flatten.map .int := by
  unfold lc2L
  rw [List.filter_eq_self.mpr (fun _ _ => rfl)]
  induction lots with
  | nil => rfl
  | cons l ls ih =>
    rw [List.flatMap_cons, List.flatten_cons, List.map_append, ih, List.filter_eq_self.mpr (fun _ _ => rfl)]
theorem sx_trips_fault (K : PySem.W.Frag) (ds : List D) (Z : D → Prop) (h : R_fault ds Z) : SX (T_trips_fault K R_length R_least) (startE N_trips_fault ds) { nx := fun _ => Z .none, rt := fun d _ => Z d } := by
  obtain ⟨P, r, lots, len, rfl, ⟨⟨bp, hr, hr3⟩, hl, hf⟩, z⟩ := h
  show SX (T_trips_fault K R_length R_least) [.val (.list (P.map .int)), .val (.int (r : Int)), .val (.tuple [.list (lots.map intsD), .int len]), .emp, .emp, .emp, .emp, .emp] _
  have hp := bp.1
  unfold T_trips_fault
  refine sx_seq (sx_asgT (J := [3, 4]) ?_)
  walk_at "es"
  refine sg_tup rfl (sgs_cons (sg_name (by simp) (sgs_cons (sg_name (by simp) (sgs_nil ?_)))))
  walk_at "w"
  refine nx_seq ?_
  refine sx_seq (sx_if (et_test (ex_op (ex_cb (ea_cons (ex_of (eo_lc2P (α := List Int) (β := Int) (fun _ => true) (fun l => l) (fun _ _ => true) (fun _ y => .int y) (fun _ y => .int y) (ei_list ?_))))))))
  walk_at "es"
  refine ⟨by rw [lc2_flat, List.length_map]; omega, fun i hi => by simp at hi; rcases hi with rfl | rfl <;> rfl, fun l hlm => sg_name (by simp) ⟨rfl, fun i hi => by simp at hi; subst hi; rfl, ?_⟩, ?_⟩
  · walk_at "w"
    refine et_yes ⟨rfl, rfl, fun _ => ?_⟩
    refine ei_list ?_
    walk_at "es"
    refine ⟨rfl, rfl, fun y hy => sg_name (by simp) ⟨rfl, ?_⟩⟩
    walk_at "w"
    refine et_yes ⟨rfl, rfl, fun _ => ?_⟩
    walk_at "es"
    exact ⟨rfl, rfl⟩
  rw [lc2_flat]
  walk_at "es"
  refine cbd_sortI ?_
  refine ex_of (eo_listRg1 ?_)
  walk_at "es"
  rw [List.length_map, Int.toNat_natCast]
  refine ⟨by omega, ?_⟩
  refine opd_neL ?_
  walk_at "es"
  refine ⟨fun h1 => ?_, fun h1 => ?_⟩
  · rw [Bool.not_eq_true'] at h1
    have h1 := of_decide_eq_false h1
    unfold faultD at z
    rw [if_neg h1] at z
    walk_at "es"
    exact z
  rw [Bool.not_eq_false'] at h1
  have h1 := of_decide_eq_true h1
  have lok := flat_ok hl hf h1
  unfold faultD at z
  rw [if_pos h1] at z
  walk_at "ei"
  refine sx_for (J := [7, 6]) (ei_enum (ea_cons (ex_var rfl (ea_nil ⟨_, rfl, ?_⟩))))
  refine ⟨fun k ρ' => (∀ j, j < k → roomF r lots j = none) ∧ ρ' = [.val (.list (P.map .int)), .val (.int (r : Int)), .val (.tuple [.list (lots.map intsD), .int len]), .val (.list (lots.map intsD)), .val (.int len), .emp, .emp, .emp], ⟨fun j hj => by omega, rfl⟩, ?_, ?_⟩
  · rintro k dd ρ' hd0 ⟨hno, rfl⟩
    obtain ⟨lot, hl0, rfl⟩ := enum_at hd0
    have hk : k < lots.length := (List.getElem?_eq_some_iff.mp hl0).1
    have el : lots.getD k [] = lot := by rw [List.getD_eq_getElem?_getD, hl0]; rfl
    refine sg_tup rfl (sgs_cons (sg_name (by simp) (sgs_cons (sg_name (by simp) (sgs_nil ?_)))))
    walk_at "w"
    show SX _ [.val (.list (P.map .int)), .val (.int (r : Int)), .val (.tuple [.list (lots.map intsD), .int len]), .val (.list (lots.map intsD)), .val (.int len), .emp, .val (.list (lot.map .int)), .val (.int (k : Int))] _
    rw [← el]
    walk_at "es"
    rw [List.length_map]
    have done1 : ¬ (0 < (lots.getD k []).length ∧ (lots.getD k []).length ≤ r) → Z (.tuple [.str (Str.ofString "room"), .int (k : Int)]) := fun q => by
      have e1 : roomF r lots k = some (.tuple [.str (Str.ofString "room"), .int (k : Int)]) := if_neg q
      rw [Pu.find_first hk hno e1] at z
      exact z
    have next1 : (0 < (lots.getD k []).length ∧ (lots.getD k []).length ≤ r) → ∀ j, j < k + 1 → roomF r lots j = none := fun q j hj => by
      rcases (show j < k ∨ j = k by omega) with e | e
      · exact hno j e
      · rw [e]; exact if_pos q
    refine ⟨fun q1 => ?_, fun q1 => ?_⟩
    · have q1 := of_decide_eq_true q1
      walk_at "es"
      refine ⟨fun q2 => ?_, fun q2 => ?_⟩
      · rw [Bool.not_eq_true'] at q2
        have q2 := of_decide_eq_false q2
        walk_at "es"
        exact done1 (by omega)
      · rw [Bool.not_eq_false'] at q2
        have q2 := of_decide_eq_true q2
        walk_at "es"
        exact ⟨_, by walk_at "le", next1 (by omega), rfl⟩
    · have q1 := of_decide_eq_false q1
      refine ⟨_, rfl, fun _ => ?_, fun hq => absurd hq (by decide)⟩
      walk_at "es"
      exact done1 (by omega)
  rintro ρ' ⟨hno, rfl⟩
  rw [enum_len] at hno
  rw [Pu.find_no hno] at z
  have z : Z (if lenF P lots = len then (if len ≤ leastF P (r : Int) then .none else .tuple [.str (Str.ofString "long")]) else .tuple [.str (Str.ofString "length")]) := z
  refine nx_seq ?_
  walk_at "es"
  refine ⟨P, lots, rfl, lok, ?_⟩
  walk_at "es"
  refine ⟨fun h2 => ?_, fun h2 => ?_⟩
  · rw [Bool.not_eq_true'] at h2
    rw [if_neg (of_decide_eq_false h2)] at z
    walk_at "es"
    exact z
  rw [Bool.not_eq_false'] at h2
  rw [if_pos (of_decide_eq_true h2)] at z
  walk_at "es"
  refine ⟨P, r, rfl, ⟨bp, hr, hr3⟩, ?_⟩
  walk_at "es"
  refine ⟨fun h3 => ?_, fun h3 => ?_⟩
  · rw [if_pos (of_decide_eq_true h3)] at z
    walk_at "es"
    exact z
  · rw [if_neg (of_decide_eq_false h3)] at z
    walk_at "es"
    exact z
theorem sx_l_fault (K : PySem.W.Frag) (ds : List D) (Z : D → Prop) (h : R_fault ds Z) : SX (T_l_fault K R_length R_least) (startE N_l_fault ds) { nx := fun _ => Z .none, rt := fun d _ => Z d } := by
  obtain ⟨P, r, lots, len, rfl, ⟨⟨bp, hr, hr3⟩, hl, hf⟩, z⟩ := h
  show SX (T_l_fault K R_length R_least) [.val (.list (P.map .int)), .val (.int (r : Int)), .val (.tuple [.list (lots.map intsD), .int len]), .emp, .emp, .emp, .emp, .emp] _
  have hp := bp.1
  unfold T_l_fault
  refine sx_seq (sx_asgT (J := [3, 4]) ?_)
  walk_at "es"
  refine sg_tup rfl (sgs_cons (sg_name (by simp) (sgs_cons (sg_name (by simp) (sgs_nil ?_)))))
  walk_at "w"
  refine nx_seq ?_
  refine sx_seq (sx_asgO (eo_lst ?_))
  walk_at "es"
  walk_at "w"
  refine sx_for (J := [6]) (ei_list (ex_var rfl ⟨_, rfl, ?_⟩))
  refine ⟨fun i ρ' => ρ' = [.val (.list (P.map .int)), .val (.int (r : Int)), .val (.tuple [.list (lots.map intsD), .int len]), .val (.list (lots.map intsD)), .val (.int len), .own ((lots.take i).flatten.map .int), .emp, .emp], rfl, ?_, ?_⟩
  · rintro i dd ρ' hd0 rfl
    rw [List.getElem?_map] at hd0
    obtain ⟨lot, hlt, rfl⟩ := Option.map_eq_some_iff.mp hd0
    have s1 : ((lots.take (i + 1)).flatten) = (lots.take i).flatten ++ lot := by rw [take_snoc' hlt, List.flatten_append]; simp
    have s2 : ((lots.take (i + 1)).flatten).length ≤ lots.flatten.length := by
      have e := congrArg (fun x => x.flatten.length) (List.take_append_drop (i + 1) lots)
      simp only [List.flatten_append, List.length_append] at e
      omega
    rw [s1, List.length_append] at s2
    refine sg_name (by simp) ?_
    walk_at "w"
    refine sx_ext rfl (ex_var rfl ?_)
    refine ⟨_, lot.map .int, rfl, rfl, by simp only [List.length_map]; omega, ?_⟩
    walk_at "w"
    rw [← List.map_append, ← s1]
    exact ⟨_, by walk_at "le", rfl⟩
  rintro ρ' rfl
  rw [List.length_map, List.take_length]
  refine nx_seq (sx_freeze 5 rfl ?_)
  walk_at "w"
  walk_at "es"
  refine cbd_sortI ?_
  refine ex_of (eo_listRg1 ?_)
  walk_at "es"
  rw [List.length_map, Int.toNat_natCast]
  refine ⟨by omega, ?_⟩
  refine opd_neL ?_
  walk_at "es"
  refine ⟨fun h1 => ?_, fun h1 => ?_⟩
  · rw [Bool.not_eq_true'] at h1
    have h1 := of_decide_eq_false h1
    unfold faultD at z
    rw [if_neg h1] at z
    walk_at "es"
    exact z
  rw [Bool.not_eq_false'] at h1
  have h1 := of_decide_eq_true h1
  have lok := flat_ok hl hf h1
  unfold faultD at z
  rw [if_pos h1] at z
  walk_at "ei"
  refine sx_for (J := [7]) (ei_rng1 ?_)
  walk_at "es"
  rw [List.length_map, Int.toNat_natCast]
  refine ⟨by omega, fun k ρ' => (∀ j, j < k → roomF r lots j = none) ∧ ρ' = [.val (.list (P.map .int)), .val (.int (r : Int)), .val (.tuple [.list (lots.map intsD), .int len]), .val (.list (lots.map intsD)), .val (.int len), .val (.list (lots.flatten.map .int)), .emp, .emp], ⟨fun j hj => by omega, rfl⟩, ?_, ?_⟩
  · rintro k dd ρ' hd0 ⟨hno, rfl⟩
    obtain ⟨hk, rfl⟩ := rng_at hd0
    rw [Int.zero_add]
    refine sg_name (by simp) ?_
    walk_at "w"
    walk_at "es"
    have done1 : ¬ (0 < (lots.getD k []).length ∧ (lots.getD k []).length ≤ r) → Z (.tuple [.str (Str.ofString "room"), .int (k : Int)]) := fun q => by
      have e1 : roomF r lots k = some (.tuple [.str (Str.ofString "room"), .int (k : Int)]) := if_neg q
      rw [Pu.find_first hk hno e1] at z
      exact z
    have next1 : (0 < (lots.getD k []).length ∧ (lots.getD k []).length ≤ r) → ∀ j, j < k + 1 → roomF r lots j = none := fun q j hj => by
      rcases (show j < k ∨ j = k by omega) with e | e
      · exact hno j e
      · rw [e]; exact if_pos q
    refine opd_lot hk ?_
    walk_at "es"
    rw [List.length_map]
    refine ⟨fun q1 => ?_, fun q1 => ?_⟩
    · have q1 := of_decide_eq_true q1
      walk_at "es"
      refine ⟨fun q2 => ?_, fun q2 => ?_⟩
      · rw [Bool.not_eq_true'] at q2
        have q2 := of_decide_eq_false q2
        walk_at "es"
        exact done1 (by omega)
      · rw [Bool.not_eq_false'] at q2
        have q2 := of_decide_eq_true q2
        walk_at "es"
        exact ⟨_, by walk_at "le", next1 (by omega), rfl⟩
    · have q1 := of_decide_eq_false q1
      refine ⟨_, rfl, fun _ => ?_, fun hq => absurd hq (by decide)⟩
      walk_at "es"
      exact done1 (by omega)
  rintro ρ' ⟨hno, rfl⟩
  rw [rng_size] at hno
  rw [Pu.find_no hno] at z
  have z : Z (if lenF P lots = len then (if len ≤ leastF P (r : Int) then .none else .tuple [.str (Str.ofString "long")]) else .tuple [.str (Str.ofString "length")]) := z
  refine nx_seq ?_
  walk_at "es"
  refine ⟨P, lots, rfl, lok, ?_⟩
  walk_at "es"
  refine ⟨fun h2 => ?_, fun h2 => ?_⟩
  · rw [Bool.not_eq_true'] at h2
    rw [if_neg (of_decide_eq_false h2)] at z
    walk_at "es"
    exact z
  rw [Bool.not_eq_false'] at h2
  rw [if_pos (of_decide_eq_true h2)] at z
  walk_at "es"
  refine ⟨P, r, rfl, ⟨bp, hr, hr3⟩, ?_⟩
  walk_at "es"
  refine ⟨fun h3 => ?_, fun h3 => ?_⟩
  · rw [if_pos (of_decide_eq_true h3)] at z
    walk_at "es"
    exact z
  · rw [if_neg (of_decide_eq_false h3)] at z
    walk_at "es"
    exact z
end Law_k65
namespace Law_k65
open PySem L2 Pu
local macro_rules | `(tactic| walk_at "e") => `(tactic| first
  | ((with_reducible refine nx_seq ?_); (try dsimp only [List.set_cons_succ, List.set_cons_zero]))
  | ((with_reducible refine ex_vr ?_); dsimp only [VQ, List.set_cons_succ, List.set_cons_zero, List.getElem?_cons_zero, List.getElem?_cons_succ]; (fail_if_success (with_reducible show False)))
  | (with_reducible refine sx_seq ?_)
  | (with_reducible refine sx_if ?_)
  | (with_reducible refine sx_next ?_)
  | (with_reducible refine sx_ret ?_)
  | ((fail_if_success (with_reducible refine sx_asgO (eo_lst ?_))); (with_reducible refine sx_asg ?_))
  | (with_reducible refine ex_int ?_)
  | (with_reducible refine ex_str ?_)
  | (with_reducible refine ex_bl ?_)
  | (with_reducible refine ex_non ?_)
  | (with_reducible refine ex_op ?_)
  | (with_reducible refine ex_un ?_)
  | (with_reducible refine ex_chain ?_)
  | (with_reducible refine ex_call ?_)
  | (with_reducible refine ex_isT ?_)
  | (with_reducible refine ex_cb ?_)
  | (with_reducible refine ex_sl ?_)
  | (with_reducible refine ex_tup ?_)
  | (with_reducible refine ex_if ?_)
  | (with_reducible refine ex_of (eo_lst ?_))
  | (with_reducible refine ex_notV ?_)
  | (with_reducible refine ea_nil ?_)
  | (with_reducible refine ea_cons ?_)
  | (with_reducible refine ep_no ?_)
  | (with_reducible refine ep_some ?_)
  | (with_reducible refine et_test ?_)
  | (with_reducible refine et_B ?_)
  | (with_reducible refine et_ch3 ?_)
  | (with_reducible refine et_and ?_)
  | (with_reducible refine et_or ?_)
  | (with_reducible refine et_not ?_)
  | (with_reducible refine et_yes ?_)
  | (with_reducible refine et_truL ?_)
  | (with_reducible refine opd_plusI ?_)
  | (with_reducible refine opd_I0 ?_)
  | (with_reducible refine opd_B0 ?_)
  | (with_reducible refine opd_eqI ?_)
  | (with_reducible refine opd_neI ?_)
  | (with_reducible refine opd_eqS ?_)
  | (with_reducible refine opd_neS ?_)
  | (with_reducible refine opd_is ?_)
  | (with_reducible refine opd_isnt ?_)
  | (with_reducible refine opd_ixT rfl ?_)
  | (with_reducible refine opd_ixL rfl ?_)
  | (with_reducible refine und_neg ?_)
  | (with_reducible refine cbd_lenL ?_)
  | (with_reducible refine cbd_lenT ?_)
  | (with_reducible refine cbd_min2 ?_)
  | (with_reducible refine cbd_max2 ?_)
  | (with_reducible refine cbd_abs ?_)
  | (with_reducible refine cbd_int ?_)
  | (with_reducible refine cbd_tupL ?_)
  | (with_reducible refine cbd_listL ?_)
  | (with_reducible refine cbd_listT ?_)
  | (with_reducible refine cbd_sum ?_)
  | (with_reducible refine sld_T ?_)
  | (with_reducible refine sld_L ?_)
  | (with_reducible refine ex_revL ?_)
  | (with_reducible refine ex_bmL ?_)
  | (with_reducible refine ex_andV ?_)
  | (with_reducible refine ei_list ?_)
  | (with_reducible refine ei_rng1 ?_)
  | (with_reducible refine ei_rng2 ?_)
  | (with_reducible refine ei_enum ?_)
  | (with_reducible refine ei_enumT ?_)
  | (with_reducible refine ei_zip ?_)
  | (with_reducible refine sx_par ?_)
  | (with_reducible refine Exists.intro _ (And.intro rfl ?_))
  | (with_reducible refine Exists.intro _ (Exists.intro _ (And.intro rfl ?_)))
  | ((with_reducible show EX (tCall (spS _) [] _ (tCons (tVar _) _)) _ _); refine ex_callS rfl ?_)
  | ((with_reducible refine And.intro (show (_ : Nat) ≤ 100000 from ?_) ?_); (focus (simp; done)))
  | ((with_reducible refine opd_I ?_ ?_); focus (first | omega | (show CDiv _ _; exact ⟨by omega, by omega⟩) | (show CMul _ _; first | exact Or.inl ⟨by omega, by omega⟩ | exact Or.inr ⟨by omega, by omega⟩))))
local macro_rules | `(tactic| walk_at "es") => `(tactic| repeat walk_at "e")
local macro_rules | `(tactic| walk_at "w") => `(tactic| try dsimp only [wipeE, List.foldl_cons, List.foldl_nil, List.set_cons_succ, List.set_cons_zero])
local macro_rules | `(tactic| walk_at "le") => `(tactic| repeat' first | exact LeE.nil | (refine LeE.eq rfl ?_) | (refine LeE.emp ?_) | (refine LeE.eq ?_ ?_))
local macro_rules | `(tactic| walk_at "no") => `(tactic| ((refine And.intro (fun hb => absurd hb ?_) (fun _ => ?_)); (focus (first | (exact Bool.false_ne_true) | (simp; done) | (simp; omega) | (simp only [decide_eq_true_eq]; omega)))))
local macro_rules | `(tactic| walk_at "yes") => `(tactic| ((refine And.intro (fun _ => ?_) (fun hb => absurd hb ?_)); (rotate_left); (focus (first | (exact Bool.noConfusion) | (simp; done) | (simp; omega) | (simp only [decide_eq_false_iff_not]; omega)))))
local macro_rules | `(tactic| walk_at "ei") => `(tactic| repeat ((fail_if_success (with_reducible show SX (tSeq (tIfS _ _ _) _) _ _)); (fail_if_success (with_reducible show SX (tIfS _ _ _) _ _)); (fail_if_success (with_reducible show SX (tSeq (tAsg (tIf _ _ _) _) _) _ _)); walk_at "e"))
local macro_rules | `(tactic| walk_at "tv") => `(tactic| repeat' first | walk_at "e" | ((with_reducible show (_ = true → _) ∧ (_ = false → _)); refine And.intro (fun _ => ?_) (fun _ => ?_)))
/-! ### the gate -/
def LG (P : List Int) (r : Nat) (g : Int) : Int := leastF (P.map fun x => x - g) (r : Int)
def Bd4 (P : List Int) : Prop := P.length ≤ 6 ∧ ∀ x ∈ P, -400 ≤ x ∧ x ≤ 400
theorem Bd4.bd {P : List Int} (b : Bd4 P) : Bd P := ⟨b.1, fun x hx => by have := b.2 x hx; omega⟩
theorem Bd4.sub {P : List Int} (b : Bd4 P) {g : Int} (hg : g ∈ P) : Bd (P.map fun x => x - g) := ⟨by rw [List.length_map]; exact b.1, fun x hx => by
  obtain ⟨y, hy, rfl⟩ := List.mem_map.mp hx
  have := b.2 y hy
  have := b.2 g hg
  omega⟩
def BestG (P : List Int) (r : Nat) (us : List Int) : Option Int → Prop
  | none => us = []
  | some g => g ∈ us ∧ ∀ x ∈ us, LG P r g < LG P r x ∨ (LG P r g = LG P r x ∧ g ≤ x)
def gateD (P : List Int) (r : Nat) : Option Int → D
  | none => .none
  | some g => .tuple [.int g, .int (LG P r g)]
def R_gate : List D → (D → Prop) → Prop := fun ds Z => ∃ (P : List Int) (r : Nat), ds = [.list (P.map .int), .int (r : Int)] ∧ (Bd4 P ∧ 1 ≤ r ∧ r ≤ 3) ∧ ∀ o, BestG P r P o → Z (gateD P r o)
theorem gxi2 (xs : List Int) (g : Int → Int) : ((xs.filter fun _ => true).map fun k => PyData.int (g k)) = (xs.map g).map .int := gxi xs g
theorem sx_best_gate (K : PySem.W.Frag) (ds : List D) (Z : D → Prop) (h : R_gate ds Z) : SX (T_best_gate K R_least) (startE N_best_gate ds) { nx := fun _ => Z .none, rt := fun d _ => Z d } := by
  obtain ⟨P, r, rfl, ⟨bp, hr, hr3⟩, z⟩ := h
  show SX (T_best_gate K R_least) [.val (.list (P.map .int)), .val (.int (r : Int)), .emp, .emp, .emp, .emp] _
  have hp := bp.1
  unfold T_best_gate
  refine sx_seq (sx_asg ?_)
  walk_at "es"
  walk_at "w"
  refine sx_for (J := [3]) (ei_list (ex_of (eo_sortSet (ex_var rfl ⟨P, rfl, by omega, fun us up hm _ => ?_⟩))))
  walk_at "es"
  refine ⟨fun k ρ' => ∃ b, BestG P r (us.take k) b ∧ ρ' = [.val (.list (P.map .int)), .val (.int (r : Int)), .val (gateD P r b), .emp, .emp, .emp], ⟨none, rfl, rfl⟩, ?_, ?_⟩
  · rintro k dd ρ' hd0 ⟨b, hb, rfl⟩
    rw [List.getElem?_map] at hd0
    obtain ⟨u, hu, rfl⟩ := Option.map_eq_some_iff.mp hd0
    have uP : u ∈ P := (hm u).mp (List.mem_of_getElem? hu)
    have tk1 : ∀ x, x ∈ us.take (k + 1) ↔ x ∈ us.take k ∨ x = u := fun x => by rw [take_snoc' hu]; simp
    have lower : ∀ x ∈ us.take k, x < u := fun x hx => by
      obtain ⟨i, hi, e⟩ := List.getElem_of_mem hx
      rw [List.length_take] at hi
      rw [List.getElem_take] at e
      obtain ⟨hku, eu⟩ := List.getElem?_eq_some_iff.mp hu
      rw [← e, ← eu]
      exact List.pairwise_iff_getElem.mp up i k (by omega) hku (by omega)
    refine sg_name (by simp) ?_
    walk_at "w"
    walk_at "es"
    refine ex_of (eo_lcP (α := Int) (fun _ => true) (fun x => .int (x - u)) (ei_list ?_))
    walk_at "es"
    refine ⟨by omega, fun i hi => by simp at hi; subst hi; rfl, fun x hx => sg_name (by simp) ⟨rfl, ?_⟩, ?_⟩
    · walk_at "w"
      walk_at "es"
      refine ⟨rfl, rfl, fun _ => ?_⟩
      walk_at "es"
      exact ⟨rfl, rfl⟩
    rw [gxi2 P fun x => x - u]
    walk_at "es"
    refine ⟨_, r, rfl, ⟨bp.sub uP, hr, hr3⟩, ?_⟩
    show NX _ [.val (.list (P.map .int)), .val (.int (r : Int)), .val (gateD P r b), .val (.int u), .val (.int (LG P r u)), .emp]
    refine nx_seq ?_
    have new : (∀ g, b = some g → LG P r u < LG P r g) → BestG P r (us.take (k + 1)) (some u) := fun h => by
      refine ⟨(tk1 u).mpr (.inr rfl), fun x hx => ?_⟩
      rcases (tk1 x).mp hx with hx | rfl
      · cases b with
        | none =>
          have hb : us.take k = [] := hb
          rw [hb] at hx
          cases hx
        | some g =>
          have := hb.2 x hx
          have := h g rfl
          left; omega
      · exact .inr ⟨rfl, Int.le_refl _⟩
    cases b with
    | none =>
      walk_at "es"
      refine ⟨fun _ => ⟨fun _ => ?_, fun hq => absurd hq (by decide)⟩, fun hq => absurd (show true = false from hq) (by decide)⟩
      walk_at "es"
      walk_at "w"
      exact ⟨_, by walk_at "le", some u, new (fun g hg => by cases hg), rfl⟩
    | some g =>
      unfold gateD
      walk_at "es"
      refine ⟨fun hq => absurd hq Bool.false_ne_true, fun _ => ?_⟩
      walk_at "es"
      refine ⟨fun h1 => ?_, fun h1 => ?_⟩
      · have h1 := of_decide_eq_true h1
        walk_at "es"
        walk_at "w"
        exact ⟨_, by walk_at "le", some u, new (fun g' hg => by cases hg; exact h1), rfl⟩
      · have h1 := of_decide_eq_false h1
        walk_at "es"
        refine ⟨_, by walk_at "le", some g, ⟨(tk1 g).mpr (.inl hb.1), fun x hx => ?_⟩, rfl⟩
        rcases (tk1 x).mp hx with hx | rfl
        · exact hb.2 x hx
        · have := lower g hb.1
          rcases (show LG P r g < LG P r x ∨ LG P r g = LG P r x by omega) with q | q
          · exact .inl q
          · exact .inr ⟨q, by omega⟩
  · rintro ρ' ⟨b, hb, rfl⟩
    rw [List.length_map, List.take_length] at hb
    walk_at "es"
    refine z b ?_
    cases b with
    | none =>
      have hb : us = [] := hb
      show P = []
      cases P with
      | nil => rfl
      | cons p P =>
        have := (hm p).mpr (by simp)
        rw [hb] at this
        cases this
    | some g => exact ⟨(hm g).mp hb.1, fun x hx => hb.2 x ((hm x).mpr hx)⟩
/-! ### carts -/
def ableB (cs : List Int) (t most : Int) (k : Nat) : Bool := decide (cs.getD k 0 + t ≤ most)
def ableL (cs : List Int) (t most : Int) : List Int := (rngI 0 cs.length).filter fun k => ableB cs t most k.toNat
def stepC (most : Int) (cs : List Int) (t : Int) : List Int := if (ableL cs t most).length = 0 then cs ++ [t] else cs.set ((ableL cs t most).getD 0 0).toNat (cs.getD ((ableL cs t most).getD 0 0).toNat 0 + t)
def leftL (P : List Int) (r : Nat) : List Int := (sortI ((tripsL P r).map fun lot => lenF P [lot])).reverse
def cartsD (P : List Int) (r : Nat) (most : Int) : D := if 0 < (leftL P r).length ∧ most < (leftL P r).getD 0 0 then .none else .int (((leftL P r).foldl (stepC most) []).length : Int)
def R_carts : List D → (D → Prop) → Prop := fun ds Z => ∃ (P : List Int) (r : Nat) (most : Int), ds = [.list (P.map .int), .int (r : Int), .int most] ∧ (Bd P ∧ 1 ≤ r ∧ r ≤ 3) ∧ Z (cartsD P r most)
theorem trips_perm (P : List Int) (r : Nat) : (tripsL P r).Perm (foundF P r) := List.mergeSort_perm _ _
theorem LOk.one {P : List Int} {lots : List (List Int)} (h : LOk P lots) {lot : List Int} (hl : lot ∈ lots) : LOk P [lot] := ⟨by simp, fun l hm => by rw [List.mem_singleton.mp hm]; exact h.room lot hl, fun l hm => by rw [List.mem_singleton.mp hm]; exact h.ix lot hl⟩
theorem flat_ints (xs : List Int) : flatAll (xs.map PyData.int) = true := by
  induction xs with
  | nil => rfl
  | cons x xs ih => simp [flatAll, flatD, ih]
theorem sx_carts_needed (K : PySem.W.Frag) (ds : List D) (Z : D → Prop) (h : R_carts ds Z) : SX (T_carts_needed K R_length R_trips) (startE N_carts_needed ds) { nx := fun _ => Z .none, rt := fun d _ => Z d } := by
  obtain ⟨P, r, most, rfl, ⟨bp, hr, hr3⟩, z⟩ := h
  show SX (T_carts_needed K R_length R_trips) [.val (.list (P.map .int)), .val (.int (r : Int)), .val (.int most), .emp, .emp, .emp, .emp, .emp, .emp, .emp] _
  have lo := found_ok P bp ⟨hr, hr3⟩ (trips_perm P r)
  have ln := lo.n
  unfold T_carts_needed
  refine sx_seq (sx_asg (ex_revL (ex_cb (ea_cons (ex_of (eo_lcP (α := Int) (fun _ => true) (fun x => .int x) (ei_list (ex_of (eo_lcP (α := List Int) (fun _ => true) (fun lot => .int (lenF P [lot])) (ei_list ?_))))))))))
  walk_at "es"
  refine ⟨P, r, rfl, ⟨bp, hr, hr3⟩, ?_⟩
  walk_at "es"
  refine ⟨by omega, fun i hi => by simp at hi; subst hi; rfl, fun lot hlot => sg_name (by simp) ⟨rfl, ?_⟩, ?_⟩
  · walk_at "w"
    refine et_yes ⟨rfl, rfl, fun _ => ?_⟩
    walk_at "es"
    exact ⟨P, [lot], rfl, lo.one hlot, rfl, rfl⟩
  have e1 : (((tripsL P r).filter fun _ => true).map fun lot => PyData.int (lenF P [lot])) = ((tripsL P r).map fun lot => lenF P [lot]).map .int := by rw [filt_all, List.map_map]; rfl
  rw [e1]
  walk_at "es"
  refine ⟨by rw [List.length_map]; omega, fun i hi => by simp at hi; subst hi; rfl, fun x hx => sg_name (by simp) ⟨rfl, ?_⟩, ?_⟩
  · walk_at "w"
    refine et_yes ⟨rfl, rfl, fun _ => ?_⟩
    walk_at "es"
    exact ⟨rfl, rfl⟩
  rw [filt_all]
  walk_at "es"
  refine cbd_sortI ?_
  refine ⟨_, rfl, ?_⟩
  rw [← List.map_reverse]
  show NX _ [.val (.list (P.map .int)), .val (.int (r : Int)), .val (.int most), .val (.list ((leftL P r).map .int)), .emp, .emp, .emp, .emp, .emp, .emp]
  have ll : (leftL P r).length ≤ 1000 := by
    unfold leftL
    rw [List.length_reverse, (sortI_perm _).length_eq, List.length_map]
    omega
  unfold cartsD at z
  revert z ll
  generalize leftL P r = left
  intro z ll
  refine nx_seq ?_
  refine sx_seq (sx_if (et_val (decide (0 < left.length ∧ most < left.getD 0 0)) ?_ ⟨fun q => ?_, fun q => ?_⟩))
  · walk_at "es"
    cases left with
    | nil => exact ⟨fun hq => absurd hq (by decide), fun _ => ⟨by simp, rfl⟩⟩
    | cons a left =>
      refine ⟨fun _ => ?_, fun hq => absurd (show true = false from hq) (by decide)⟩
      walk_at "es"
      refine opd_int (k := 0) (by simp) ?_
      walk_at "es"
      exact ⟨by simp, rfl⟩
  · rw [if_pos (of_decide_eq_true q)] at z
    walk_at "es"
    exact z
  rw [if_neg (of_decide_eq_false q)] at z
  refine sx_next (nx_seq ?_)
  refine sx_seq (sx_asgO (eo_lst ?_))
  walk_at "es"
  walk_at "w"
  refine sx_for (J := [4]) (ei_list (ex_var rfl ⟨_, rfl, ?_⟩))
  refine ⟨fun i ρ' => ∃ cs, cs = (left.take i).foldl (stepC most) [] ∧ cs.length ≤ i ∧ ρ' = [.val (.list (P.map .int)), .val (.int (r : Int)), .val (.int most), .val (.list (left.map .int)), .emp, .emp, .own (cs.map .int), .emp, .emp, .emp], ⟨[], rfl, Nat.le_refl _, rfl⟩, ?_, ?_⟩
  · rintro i dd ρ' hd0 ⟨cs, hcs, cl, rfl⟩
    rw [List.getElem?_map] at hd0
    obtain ⟨t, ht, rfl⟩ := Option.map_eq_some_iff.mp hd0
    have hi := (List.getElem?_eq_some_iff.mp ht).1
    have sc : stepC most cs t = (left.take (i + 1)).foldl (stepC most) [] := by rw [take_snoc' ht, List.foldl_append, ← hcs]; rfl
    refine sg_name (by simp) ?_
    walk_at "w"
    refine sx_seq (sx_asg (ex_of (eo_lend 6 rfl (eo_lcP (α := Int) (fun k => ableB cs t most k.toNat) (fun k => .int k) (ei_enum ?_)))))
    walk_at "es"
    rw [enum_rng 0]
    refine ⟨rngI 0 cs.length, _, rfl, by rw [rngI_len]; omega, fun i hi => by simp at hi; rcases hi with rfl | rfl <;> rfl, fun x hx => ?_, ?_⟩
    · refine sg_tup rfl (sgs_cons (sg_name (by simp) (sgs_cons (sg_name (by simp) (sgs_nil ⟨rfl, ?_⟩)))))
      walk_at "w"
      walk_at "es"
      refine ⟨rfl, rfl, fun _ => ?_⟩
      walk_at "es"
      exact ⟨rfl, rfl⟩
    refine ⟨rfl, flat_ints _, ?_⟩
    show NX _ [.val (.list (P.map .int)), .val (.int (r : Int)), .val (.int most), .val (.list (left.map .int)), .val (.int t), .emp, .own (cs.map .int), .val (.list ((ableL cs t most).map .int)), .emp, .emp]
    refine nx_seq ?_
    have ab : ∀ x ∈ ableL cs t most, 0 ≤ x ∧ x < (cs.length : Int) := fun x hx => by
      have := rngI_mem.mp (List.mem_filter.mp hx).1
      omega
    unfold stepC at sc
    revert sc ab
    generalize ableL cs t most = able
    intro sc ab
    refine sx_if ?_
    walk_at "es"
    cases able with
    | nil =>
      refine ⟨fun hq => absurd hq (by decide), fun _ => ?_⟩
      have sc : cs ++ [t] = _ := sc
      refine sx_app rfl ?_
      walk_at "es"
      refine ⟨by rw [List.length_map]; omega, ?_⟩
      walk_at "w"
      rw [show cs.map PyData.int ++ [.int t] = (cs ++ [t]).map .int by rw [List.map_append]; rfl]
      exact ⟨_, by walk_at "le", cs ++ [t], sc, by rw [List.length_append, List.length_singleton]; omega, rfl⟩
    | cons a able =>
      refine ⟨fun _ => ?_, fun hq => absurd (show true = false from hq) (by decide)⟩
      have ha := ab a (by simp)
      obtain ⟨j, rfl⟩ : ∃ j : Nat, a = (j : Int) := ⟨a.toNat, by omega⟩
      have hj : j < cs.length := by omega
      have sc : cs.set ((j : Int)).toNat (cs.getD ((j : Int)).toNat 0 + t) = _ := sc
      rw [Int.toNat_natCast] at sc
      have aj : atI (cs.map PyData.int) (j : Int) = some (.int (cs.getD j 0)) := by rw [atI_map 0 (by omega) (by omega), Int.toNat_natCast]
      refine sx_setO (es := cs.map .int) (ex_op (ex_ixO rfl (ex_op ?_)))
      walk_at "es"
      refine opd_int (k := 0) (by simp) ?_
      refine ⟨_, _, _, rfl, rfl, aj, ?_⟩
      walk_at "es"
      refine ⟨rfl, ?_⟩
      walk_at "es"
      refine opd_int (k := 0) (by simp) ?_
      refine ⟨_, _, j, rfl, rfl, by rw [List.length_map]; exact ixN_nat hj, ?_⟩
      walk_at "w"
      rw [show (cs.map PyData.int).set j (.int (cs.getD j 0 + t)) = (cs.set j (cs.getD j 0 + t)).map .int by rw [List.map_set]]
      exact ⟨_, by walk_at "le", cs.set j (cs.getD j 0 + t), sc, by rw [List.length_set]; omega, rfl⟩
  · rintro ρ' ⟨cs, hcs, cl, rfl⟩
    rw [List.length_map, List.take_length] at hcs
    refine nx_seq (sx_ret (ex_lenO rfl ?_))
    rw [List.length_map, hcs]
    exact z
end Law_k65
namespace Law_k65
open PySem L2 Pu
local macro_rules | `(tactic| walk_at "e") => `(tactic| first
  | ((with_reducible refine nx_seq ?_); (try dsimp only [List.set_cons_succ, List.set_cons_zero]))
  | ((with_reducible refine ex_vr ?_); dsimp only [VQ, List.set_cons_succ, List.set_cons_zero, List.getElem?_cons_zero, List.getElem?_cons_succ]; (fail_if_success (with_reducible show False)))
  | (with_reducible refine sx_seq ?_)
  | (with_reducible refine sx_if ?_)
  | (with_reducible refine sx_next ?_)
  | (with_reducible refine sx_ret ?_)
  | ((fail_if_success (with_reducible refine sx_asgO (eo_lst ?_))); (with_reducible refine sx_asg ?_))
  | (with_reducible refine ex_int ?_)
  | (with_reducible refine ex_str ?_)
  | (with_reducible refine ex_bl ?_)
  | (with_reducible refine ex_non ?_)
  | (with_reducible refine ex_op ?_)
  | (with_reducible refine ex_un ?_)
  | (with_reducible refine ex_chain ?_)
  | (with_reducible refine ex_call ?_)
  | (with_reducible refine ex_isT ?_)
  | (with_reducible refine ex_cb ?_)
  | (with_reducible refine ex_sl ?_)
  | (with_reducible refine ex_tup ?_)
  | (with_reducible refine ex_if ?_)
  | (with_reducible refine ex_of (eo_lst ?_))
  | (with_reducible refine ex_notV ?_)
  | (with_reducible refine ea_nil ?_)
  | (with_reducible refine ea_cons ?_)
  | (with_reducible refine ep_no ?_)
  | (with_reducible refine ep_some ?_)
  | (with_reducible refine et_test ?_)
  | (with_reducible refine et_B ?_)
  | (with_reducible refine et_ch3 ?_)
  | (with_reducible refine et_and ?_)
  | (with_reducible refine et_or ?_)
  | (with_reducible refine et_not ?_)
  | (with_reducible refine et_yes ?_)
  | (with_reducible refine et_truL ?_)
  | (with_reducible refine opd_plusI ?_)
  | (with_reducible refine opd_I0 ?_)
  | (with_reducible refine opd_B0 ?_)
  | (with_reducible refine opd_eqI ?_)
  | (with_reducible refine opd_neI ?_)
  | (with_reducible refine opd_eqS ?_)
  | (with_reducible refine opd_neS ?_)
  | (with_reducible refine opd_is ?_)
  | (with_reducible refine opd_isnt ?_)
  | (with_reducible refine opd_ixT rfl ?_)
  | (with_reducible refine opd_ixL rfl ?_)
  | (with_reducible refine und_neg ?_)
  | (with_reducible refine cbd_lenL ?_)
  | (with_reducible refine cbd_lenT ?_)
  | (with_reducible refine cbd_min2 ?_)
  | (with_reducible refine cbd_max2 ?_)
  | (with_reducible refine cbd_abs ?_)
  | (with_reducible refine cbd_int ?_)
  | (with_reducible refine cbd_tupL ?_)
  | (with_reducible refine cbd_listL ?_)
  | (with_reducible refine cbd_listT ?_)
  | (with_reducible refine cbd_sum ?_)
  | (with_reducible refine sld_T ?_)
  | (with_reducible refine sld_L ?_)
  | (with_reducible refine ex_revL ?_)
  | (with_reducible refine ex_bmL ?_)
  | (with_reducible refine ex_andV ?_)
  | (with_reducible refine ei_list ?_)
  | (with_reducible refine ei_rng1 ?_)
  | (with_reducible refine ei_rng2 ?_)
  | (with_reducible refine ei_enum ?_)
  | (with_reducible refine ei_enumT ?_)
  | (with_reducible refine ei_zip ?_)
  | (with_reducible refine sx_par ?_)
  | (with_reducible refine Exists.intro _ (And.intro rfl ?_))
  | (with_reducible refine Exists.intro _ (Exists.intro _ (And.intro rfl ?_)))
  | ((with_reducible show EX (tCall (spS _) [] _ (tCons (tVar _) _)) _ _); refine ex_callS rfl ?_)
  | ((with_reducible refine And.intro (show (_ : Nat) ≤ 100000 from ?_) ?_); (focus (simp; done)))
  | ((with_reducible refine opd_I ?_ ?_); focus (first | omega | (show CDiv _ _; exact ⟨by omega, by omega⟩) | (show CMul _ _; first | exact Or.inl ⟨by omega, by omega⟩ | exact Or.inr ⟨by omega, by omega⟩))))
local macro_rules | `(tactic| walk_at "es") => `(tactic| repeat walk_at "e")
local macro_rules | `(tactic| walk_at "w") => `(tactic| try dsimp only [wipeE, List.foldl_cons, List.foldl_nil, List.set_cons_succ, List.set_cons_zero])
local macro_rules | `(tactic| walk_at "le") => `(tactic| repeat' first | exact LeE.nil | (refine LeE.eq rfl ?_) | (refine LeE.emp ?_) | (refine LeE.eq ?_ ?_))
local macro_rules | `(tactic| walk_at "no") => `(tactic| ((refine And.intro (fun hb => absurd hb ?_) (fun _ => ?_)); (focus (first | (exact Bool.false_ne_true) | (simp; done) | (simp; omega) | (simp only [decide_eq_true_eq]; omega)))))
local macro_rules | `(tactic| walk_at "yes") => `(tactic| ((refine And.intro (fun _ => ?_) (fun hb => absurd hb ?_)); (rotate_left); (focus (first | (exact Bool.noConfusion) | (simp; done) | (simp; omega) | (simp only [decide_eq_false_iff_not]; omega)))))
local macro_rules | `(tactic| walk_at "ei") => `(tactic| repeat ((fail_if_success (with_reducible show SX (tSeq (tIfS _ _ _) _) _ _)); (fail_if_success (with_reducible show SX (tIfS _ _ _) _ _)); (fail_if_success (with_reducible show SX (tSeq (tAsg (tIf _ _ _) _) _) _ _)); walk_at "e"))
local macro_rules | `(tactic| walk_at "tv") => `(tactic| repeat' first | walk_at "e" | ((with_reducible show (_ = true → _) ∧ (_ = false → _)); refine And.intro (fun _ => ?_) (fun _ => ?_)))
/-! ### the law -/
theorem sx_parOV {K : PySem.W.Frag} {ρ : Pu.Env} {P : Po} {i j : Nat} {te1 te2 : TE} (h : EO te1 ρ fun ds1 ρ1 => EX te2 ρ1 fun d2 ρ2 => NX P ((ρ2.set i (.own ds1)).set j (.val d2))) : SX (tPar i j (tCons te1 (tCons te2 tNil))) ρ P := fun B σ F H w Dn n r bk ct => by
  obtain ⟨ad, w⟩ := w
  refine h B ad σ F H w _ fun ds1 ρ1 p1 vs1 F1 H1 q1 P1 hF1 hH1 hp1 rv1 => ?_
  refine q1 B ad σ F1 H1 P1.wa _ fun d2 ρ2 v2 F2 H2 q2 P2 rv2 => ?_
  obtain ⟨ρ', l, q⟩ := q2
  have n1 := w.newp hH1
  have nms : ∀ (ρ2 : Pu.Env), ¬ MS ad ρ2 p1 := fun ρ2 ⟨j, S, _, m⟩ => n1.2.2 j m
  have hp2 : H2 p1 = some (.lst vs1) := P2.gr.kp p1 _ hp1 (nms _)
  have hF2 : F2 p1 = none := P2.gr.fr p1 (by rw [hp1]; intro z; cases z) hF1
  have w5 := P2.wa.setOwn2 i hF2 n1.2.1 n1.2.2 hp2 (rv1.up P2.gr.ff)
  have w6 := w5.setVal j rv2
  obtain ⟨ad7, w7⟩ := w6
  exact ⟨.ref p1, v2, rfl, n ρ' _ F2 H2 q (w7.weak l)⟩
theorem sort_rng {xs : List Int} {n : Nat} (h : xs.Perm (rngI 0 n)) : sortI xs = rngI 0 n := by
  have pw : (sortI xs).Pairwise fun a b => decide (a ≤ b) = true := List.pairwise_mergeSort (fun a b c h1 h2 => by
    have := of_decide_eq_true h1
    have := of_decide_eq_true h2
    exact decide_eq_true (by omega)) (fun a b => by
    rw [Bool.or_eq_true, decide_eq_true_eq, decide_eq_true_eq]
    omega) xs
  have pr : (rngI 0 n).Pairwise fun a b => decide (a ≤ b) = true := by
    unfold rngI
    rw [List.pairwise_map]
    exact List.pairwise_lt_range.imp fun h => decide_eq_true (by omega)
  exact (((sortI_perm xs).trans h).eq_of_pairwise (le := fun a b : Int => decide (a ≤ b) = true) (fun a b _ _ h1 h2 => by
    have := of_decide_eq_true h1
    have := of_decide_eq_true h2
    omega) pw pr)
theorem fault_way {P : List Int} {r : Nat} {lots : List (List Int)} (w : WP r lots P.length) : faultD P r lots (lenF P lots) = if lenF P lots ≤ leastF P (r : Int) then .none else .tuple [.str (Str.ofString "long")] := by
  unfold faultD
  rw [if_pos (sort_rng w.flat), Pu.find_no fun k hk => ?_]
  · show (if lenF P lots = lenF P lots then _ else _) = _
    rw [if_pos rfl]
  · have m := getD_mem hk
    exact if_pos ⟨w.ne _ m, w.room _ m⟩
theorem trips_wp (P : List Int) {r : Nat} (hr : 1 ≤ r) : WP r (tripsL P r) P.length := by
  have p := found_part P hr
  have q := trips_perm P r
  refine ⟨?_, fun lot hl => ?_, fun lot hl => found_ne P hr lot (q.mem_iff.mp hl)⟩
  · exact q.flatten.trans p.flat
  · have := p.room lot (q.mem_iff.mp hl)
    omega
theorem sumP {R S : List Int} (h : R.Perm S) : R.sum = S.sum := by
  induction h with
  | nil => rfl
  | cons x _ ih => rw [List.sum_cons, List.sum_cons, ih]
  | swap x y l => rw [List.sum_cons, List.sum_cons, List.sum_cons, List.sum_cons]; omega
  | trans _ _ a b => rw [a, b]
theorem trips_len (P : List Int) {r : Nat} (hr : 1 ≤ r) : lenF P (tripsL P r) = leastF P (r : Int) := by
  rw [← found_len P hr]
  exact sumP ((trips_perm P r).map _)
theorem fault_dp (P : List Int) (r : Nat) (lots : List (List Int)) (len : Int) : DpN 5 (faultD P r lots len) := by
  have d1 : ∀ x, DpN 5 (PyData.tuple [.str x]) := fun x => dpn_tup (dpn_cons dpn_str dpn_nil)
  have d3 : DpN 5 (PyData.none) := dpn_non
  unfold faultD
  split
  · split
    · rename_i d h
      obtain ⟨k, _, e⟩ := List.exists_of_findSome?_eq_some h
      unfold roomF at e
      split at e
      · cases e
      · cases e; exact dpn_tup (dpn_cons dpn_str (dpn_cons dpn_int dpn_nil))
    · split
      · split
        · exact d3
        · exact d1 _
      · exact d1 _
  · exact d1 _
theorem ways_min (P : List Int) {r : Nat} (hr : 1 ≤ r) : foldMin ((waysF r P.length [] 0).map (lenF P)) = leastF P (r : Int) := by
  obtain ⟨h1, w, hw, e⟩ := ways_best P hr
  have h1 : ∀ w ∈ waysF r P.length [] 0, leastF P (r : Int) ≤ lenF P w := fun w hw => (h1 w hw).2
  generalize waysF r P.length [] 0 = W at h1 hw
  cases W with
  | nil => cases hw
  | cons a W =>
    show (W.map (lenF P)).foldl min (lenF P a) = _
    obtain ⟨k1, k2, k3⟩ := fmin_all (W.map (lenF P)) (lenF P a)
    generalize (W.map (lenF P)).foldl min (lenF P a) = m at k1 k2 k3
    have up : m ≤ leastF P (r : Int) := by
      rw [← e]
      rcases List.mem_cons.mp hw with rfl | hw
      · exact k1
      · exact k2 _ (List.mem_map.mpr ⟨w, hw, rfl⟩)
    have dn : leastF P (r : Int) ≤ m := by
      rcases k3 with k3 | k3
      · rw [k3]; exact h1 a (by simp)
      · obtain ⟨w', hw', e'⟩ := List.mem_map.mp k3
        rw [← e']
        exact h1 w' (by simp [hw'])
    omega
theorem minPs_min {ps : List (Int × Int)} {x : Int × Int} (hx : x ∈ ps) : ltP x (minPs ps) = false := by
  have gen : ∀ (qs : List (Int × Int)) (a : Int × Int), (ltP a (qs.foldl (fun a y => if ltP y a = true then y else a) a) = false) ∧ ∀ x ∈ qs, ltP x (qs.foldl (fun a y => if ltP y a = true then y else a) a) = false := by
    intro qs
    induction qs with
    | nil => intro a; exact ⟨by simp [ltP], fun x h => by cases h⟩
    | cons q qs ih =>
      intro a
      rw [List.foldl_cons]
      obtain ⟨h1, h2⟩ := ih (if ltP q a = true then q else a)
      generalize qs.foldl (fun a y => if ltP y a = true then y else a) (if ltP q a = true then q else a) = z at h1 h2 ⊢
      have both : ltP a z = false ∧ ltP q z = false := by
        by_cases c : ltP q a = true
        · rw [if_pos c] at h1
          refine ⟨?_, h1⟩
          simp only [ltP, decide_eq_true_eq, decide_eq_false_iff_not] at c h1 ⊢
          omega
        · rw [if_neg c] at h1
          refine ⟨h1, ?_⟩
          simp only [ltP, decide_eq_true_eq, decide_eq_false_iff_not] at c h1 ⊢
          omega
      refine ⟨both.1, fun x hx => ?_⟩
      rcases List.mem_cons.mp hx with rfl | hx
      · exact both.2
      · exact h2 x hx
  cases ps with
  | nil => cases hx
  | cons p ps =>
    show ltP x (ps.foldl (fun a y => if ltP y a = true then y else a) p) = false
    rcases List.mem_cons.mp hx with rfl | hx
    · exact (gen ps _).1
    · exact (gen ps p).2 x hx

theorem cut_1m {α : Type} (f : α → D) (xs : List α) (h : 2 ≤ xs.length) : cutD (xs.map f) (some 1) (some (-1)) = ((xs.drop 1).take (xs.length - 2)).map f := by
  unfold cutD
  simp only [HT.sIx]
  rw [if_pos (show (-1 : Int) < 0 by decide), if_neg (show ¬ (1 : Int) < 0 by decide), List.length_map, List.map_take, List.map_drop, show min (Int.toNat 1) xs.length = 1 from Nat.min_eq_left (by show 1 ≤ _; omega)]
  congr 1
  omega
theorem gate_min {P : List Int} {r : Nat} {g : Int} (h : BestG P r P (some g)) : minPs (P.map fun g => (LG P r g, g)) = (LG P r g, g) := by
  have hl : 0 < (P.map fun g => (LG P r g, g)).length := by rw [List.length_map]; exact List.length_pos_of_mem h.1
  obtain ⟨g', hg', e⟩ := List.mem_map.mp (minPs_mem hl)
  have a := minPs_min (List.mem_map.mpr ⟨g, h.1, rfl⟩ : (LG P r g, g) ∈ P.map fun g => (LG P r g, g))
  have b := h.2 g' hg'
  rw [← e] at a ⊢
  simp only [ltP, decide_eq_false_iff_not] at a
  have : g' = g := by omega
  rw [this]
end Law_k65
namespace Law_k65
open PySem L2 Pu
local macro_rules | `(tactic| walk_at "e") => `(tactic| first
  | ((with_reducible refine nx_seq ?_); (try dsimp only [List.set_cons_succ, List.set_cons_zero]))
  | ((with_reducible refine ex_vr ?_); dsimp only [VQ, List.set_cons_succ, List.set_cons_zero, List.getElem?_cons_zero, List.getElem?_cons_succ]; (fail_if_success (with_reducible show False)))
  | (with_reducible refine sx_seq ?_)
  | (with_reducible refine sx_if ?_)
  | (with_reducible refine sx_next ?_)
  | (with_reducible refine sx_ret ?_)
  | ((fail_if_success (with_reducible refine sx_asgO (eo_lst ?_))); (with_reducible refine sx_asg ?_))
  | (with_reducible refine ex_int ?_)
  | (with_reducible refine ex_str ?_)
  | (with_reducible refine ex_bl ?_)
  | (with_reducible refine ex_non ?_)
  | (with_reducible refine ex_op ?_)
  | (with_reducible refine ex_un ?_)
  | (with_reducible refine ex_chain ?_)
  | (with_reducible refine ex_call ?_)
  | (with_reducible refine ex_isT ?_)
  | (with_reducible refine ex_cb ?_)
  | (with_reducible refine ex_sl ?_)
  | (with_reducible refine ex_tup ?_)
  | (with_reducible refine ex_if ?_)
  | (with_reducible refine ex_of (eo_lst ?_))
  | (with_reducible refine ex_notV ?_)
  | (with_reducible refine ea_nil ?_)
  | (with_reducible refine ea_cons ?_)
  | (with_reducible refine ep_no ?_)
  | (with_reducible refine ep_some ?_)
  | (with_reducible refine et_test ?_)
  | (with_reducible refine et_B ?_)
  | (with_reducible refine et_ch3 ?_)
  | (with_reducible refine et_and ?_)
  | (with_reducible refine et_or ?_)
  | (with_reducible refine et_not ?_)
  | (with_reducible refine et_yes ?_)
  | (with_reducible refine et_truL ?_)
  | (with_reducible refine opd_plusI ?_)
  | (with_reducible refine opd_I0 ?_)
  | (with_reducible refine opd_B0 ?_)
  | (with_reducible refine opd_eqI ?_)
  | (with_reducible refine opd_neI ?_)
  | (with_reducible refine opd_eqS ?_)
  | (with_reducible refine opd_neS ?_)
  | (with_reducible refine opd_is ?_)
  | (with_reducible refine opd_isnt ?_)
  | (with_reducible refine opd_ixT rfl ?_)
  | (with_reducible refine opd_ixL rfl ?_)
  | (with_reducible refine und_neg ?_)
  | (with_reducible refine cbd_lenL ?_)
  | (with_reducible refine cbd_lenT ?_)
  | (with_reducible refine cbd_min2 ?_)
  | (with_reducible refine cbd_max2 ?_)
  | (with_reducible refine cbd_abs ?_)
  | (with_reducible refine cbd_int ?_)
  | (with_reducible refine cbd_tupL ?_)
  | (with_reducible refine cbd_listL ?_)
  | (with_reducible refine cbd_listT ?_)
  | (with_reducible refine cbd_sum ?_)
  | (with_reducible refine sld_T ?_)
  | (with_reducible refine sld_L ?_)
  | (with_reducible refine ex_revL ?_)
  | (with_reducible refine ex_bmL ?_)
  | (with_reducible refine ex_andV ?_)
  | (with_reducible refine ei_list ?_)
  | (with_reducible refine ei_rng1 ?_)
  | (with_reducible refine ei_rng2 ?_)
  | (with_reducible refine ei_enum ?_)
  | (with_reducible refine ei_enumT ?_)
  | (with_reducible refine ei_zip ?_)
  | (with_reducible refine sx_par ?_)
  | (with_reducible refine Exists.intro _ (And.intro rfl ?_))
  | (with_reducible refine Exists.intro _ (Exists.intro _ (And.intro rfl ?_)))
  | ((with_reducible show EX (tCall (spS _) [] _ (tCons (tVar _) _)) _ _); refine ex_callS rfl ?_)
  | ((with_reducible refine And.intro (show (_ : Nat) ≤ 100000 from ?_) ?_); (focus (simp; done)))
  | ((with_reducible refine opd_I ?_ ?_); focus (first | omega | (show CDiv _ _; exact ⟨by omega, by omega⟩) | (show CMul _ _; first | exact Or.inl ⟨by omega, by omega⟩ | exact Or.inr ⟨by omega, by omega⟩))))
local macro_rules | `(tactic| walk_at "es") => `(tactic| repeat walk_at "e")
local macro_rules | `(tactic| walk_at "w") => `(tactic| try dsimp only [wipeE, List.foldl_cons, List.foldl_nil, List.set_cons_succ, List.set_cons_zero])
local macro_rules | `(tactic| walk_at "le") => `(tactic| repeat' first | exact LeE.nil | (refine LeE.eq rfl ?_) | (refine LeE.emp ?_) | (refine LeE.eq ?_ ?_))
local macro_rules | `(tactic| walk_at "no") => `(tactic| ((refine And.intro (fun hb => absurd hb ?_) (fun _ => ?_)); (focus (first | (exact Bool.false_ne_true) | (simp; done) | (simp; omega) | (simp only [decide_eq_true_eq]; omega)))))
local macro_rules | `(tactic| walk_at "yes") => `(tactic| ((refine And.intro (fun _ => ?_) (fun hb => absurd hb ?_)); (rotate_left); (focus (first | (exact Bool.noConfusion) | (simp; done) | (simp; omega) | (simp only [decide_eq_false_iff_not]; omega)))))
local macro_rules | `(tactic| walk_at "ei") => `(tactic| repeat ((fail_if_success (with_reducible show SX (tSeq (tIfS _ _ _) _) _ _)); (fail_if_success (with_reducible show SX (tIfS _ _ _) _ _)); (fail_if_success (with_reducible show SX (tSeq (tAsg (tIf _ _ _) _) _) _ _)); walk_at "e"))
local macro_rules | `(tactic| walk_at "tv") => `(tactic| repeat' first | walk_at "e" | ((with_reducible show (_ = true → _) ∧ (_ = false → _)); refine And.intro (fun _ => ?_) (fun _ => ?_)))
def R_law : List D → (D → Prop) → Prop := fun ds Z => ∃ ns : List Int, ds = [.list (ns.map .int)] ∧ Z (.bool true)
theorem sx_law (K : PySem.W.Frag) (ds : List D) (Z : D → Prop) (h : R_law ds Z) : SX (T_law K R_state R_trips (R_ways 7) R_take R_gate R_length R_least R_least R_fault R_fault R_length R_cross R_cross R_carts) (startE N_law ds) { nx := fun _ => Z .none, rt := fun d _ => Z d } := by
  obtain ⟨ns, rfl, z⟩ := h
  show SX (T_law K R_state R_trips (R_ways 7) R_take R_gate R_length R_least R_least R_fault R_fault R_length R_cross R_cross R_carts) [.val (.list (ns.map .int)), .emp, .emp, .emp, .emp, .emp, .emp, .emp, .emp, .emp, .emp, .emp, .emp, .emp, .emp, .emp, .emp, .emp, .emp, .emp, .emp, .emp, .emp, .emp, .emp] _
  unfold T_law
  refine sx_seq (sx_asgN (by decide) ?_)
  walk_at "es"
  refine ⟨ns, rfl, fun S0 ok0 => ?_⟩
  refine nx_seq ?_
  walk_at "w"
  walk_at "es"
  refine ⟨2, rfl, by omega, by omega, ok0, fun n S1 n0 n1 ok1 => ?_⟩
  have sz : ∃ m : Int, (1 ≤ m ∧ m ≤ 20) ∧ atI [PyData.int 4, .int 20] n = some (.int m) := by
    rcases (show n = 0 ∨ n = 1 by omega) with rfl | rfl
    · exact ⟨4, by omega, rfl⟩
    · exact ⟨20, by omega, rfl⟩
  obtain ⟨m, hm, em⟩ := sz
  refine opd_ixL em ?_
  refine nx_seq ?_
  walk_at "w"
  refine sx_seq (sx_asg (ex_of (eo_lc (ei_rng1 ?_))))
  walk_at "es"
  refine ⟨7, rfl, by omega, by omega, ok1, fun c S2 c0 c1 ok2 => ?_⟩
  walk_at "es"
  refine ⟨by omega, fun k acc ρ' => ∃ (P : List Int) (S : Stt), P.length = k ∧ (∀ g ∈ P, -400 ≤ g ∧ g ≤ 400) ∧ Ok S ∧ acc = P.map .int ∧ ρ' = [.val (.list (ns.map .int)), .st S, .val (.int m), .emp, .emp, .emp, .emp, .emp, .emp, .emp, .emp, .emp, .emp, .emp, .emp, .emp, .emp, .emp, .emp, .emp, .emp, .emp, .emp, .emp, .emp], ⟨[], S2, rfl, by simp, ok2, rfl, rfl⟩, ?_, ?_⟩
  · rintro k dd acc ρ' hd0 ⟨P, S, hl, hg, ok, rfl, rfl⟩
    obtain ⟨hk, rfl⟩ := rng_at hd0
    refine ⟨(fun i hi => by simp at hi; subst hi; rfl), by rw [List.length_map]; omega, sg_name (by simp) ?_⟩
    walk_at "w"
    refine et_yes ⟨fun _ => ?_, (fun q => by cases q)⟩
    walk_at "es"
    refine ⟨2 * m + 1, rfl, by omega, by omega, ok, fun g S3 g0 g1 ok3 => ?_⟩
    walk_at "es"
    refine ⟨P ++ [g - m], S3, by simp [hl], fun q hq => ?_, ok3, by rw [List.map_append]; rfl, rfl⟩
    rcases List.mem_append.mp hq with hq | hq
    · exact hg q hq
    · rw [List.mem_singleton.mp hq]
      omega
  rintro acc ρ' ⟨P, S3, hl, hg, ok3, rfl, rfl⟩
  rw [rng_size] at hl
  have b4 : Bd4 P := ⟨by omega, hg⟩
  have bp := b4.bd
  have hp := b4.1
  refine nx_seq ?_
  walk_at "w"
  walk_at "es"
  refine ⟨3, rfl, by omega, by omega, ok3, fun b S4 b0 b1 ok4 => ?_⟩
  walk_at "es"
  obtain ⟨r, hr0⟩ : ∃ r : Nat, 1 + b = (r : Int) := ⟨(1 + b).toNat, by omega⟩
  have hr : 1 ≤ r := by omega
  have hr3 : r ≤ 3 := by omega
  rw [hr0]
  walk_at "w"
  walk_at "es"
  walk_at "w"
  walk_at "es"
  refine ⟨P, r, rfl, ⟨bp, hr, hr3⟩, ?_⟩
  refine nx_seq ?_
  walk_at "w"
  walk_at "es"
  rw [List.length_map, show (P.length : Int) = ((0 + P.length : Nat) : Int) by omega]
  refine ⟨r, [], 0, P.length, rfl, ⟨by omega, by rw [List.length_nil]; omega, hr3⟩, ?_⟩
  have wb := (ways_best P hr).1
  have wmin := ways_min P hr
  have wpos := ways_pos r P.length [] 0
  have wlen := ways_len (r := r) (k := 0) (m := P.length) (lots := []) (by rw [List.length_nil]; omega)
  revert wb wmin wpos wlen
  generalize waysF r P.length [] 0 = W
  intro wb wmin wpos wlen
  have wok : ∀ w ∈ W, LOk P w ∧ w.length ≤ 1000 ∧ w.flatten.length ≤ 1000 := fun w hw => by
    have q := (wb w hw).1
    have fl := q.flat.length_eq
    rw [rngI_len] at fl
    have f2 : w.length ≤ w.flatten.length := by
      have ne := q.ne
      clear q fl hw
      induction w with
      | nil => exact Nat.le_refl _
      | cons x xs ih =>
        have := ih fun l hl => ne l (by simp [hl])
        have := ne x (by simp)
        rw [List.flatten_cons, List.length_append, List.length_cons]
        omega
    exact ⟨flat_ok (by omega) (by omega) (sort_rng q.flat), by omega, by omega⟩
  refine nx_seq ?_
  walk_at "w"
  refine sx_seq (sx_asg (ex_cb (ea_cons (ex_of (eo_lcP (α := List (List Int)) (fun _ => true) (fun w => .int (lenF P w)) (ei_list ?_))))))
  walk_at "es"
  refine ⟨by omega, fun i hi => by simp at hi; subst hi; rfl, fun w hw => sg_name (by simp) ⟨rfl, ?_⟩, ?_⟩
  · walk_at "w"
    refine et_yes ⟨rfl, rfl, fun _ => ?_⟩
    walk_at "es"
    exact ⟨P, w, rfl, (wok w hw).1, rfl, rfl⟩
  have e1 : ((W.filter fun _ => true).map fun w => PyData.int (lenF P w)) = (W.map (lenF P)).map .int := by rw [filt_all, List.map_map]; rfl
  rw [e1]
  walk_at "es"
  refine cbd_minI (by rw [List.length_map]; exact wpos) ?_
  rw [wmin]
  have tl := trips_len P hr
  have fl := found_len P hr
  have twp := trips_wp P hr
  have tok := found_ok P bp ⟨hr, hr3⟩ (trips_perm P r)
  have tfl : (tripsL P r).flatten.length ≤ 1000 := by
    have := twp.flat.length_eq
    rw [rngI_len] at this
    omega
  have tfault : faultD P r (tripsL P r) (lenF P (foundF P r)) = .none := by
    have := fault_way twp
    rw [tl, if_pos (Int.le_refl _)] at this
    rw [fl]
    exact this
  refine nx_seq ?_
  walk_at "w"
  refine sx_seq (sx_if (et_val false ?_ ?_))
  · walk_at "es"
    walk_at "no"
    walk_at "es"
    rw [fl]
    walk_at "no"
    walk_at "es"
    refine ⟨P, r, rfl, ⟨bp, hr, hr3⟩, ?_⟩
    walk_at "es"
    walk_at "no"
    walk_at "es"
    refine ⟨P, r, rfl, ⟨bp, hr, hr3⟩, ?_⟩
    walk_at "es"
    exact ⟨by simp, rfl⟩
  walk_at "no"
  walk_at "ei"
  refine sx_seq (sx_if (et_val false ?_ ?_))
  · walk_at "es"
    refine ⟨P, r, tripsL P r, _, rfl, ⟨⟨bp, hr, hr3⟩, tok.n, tfl⟩, ?_⟩
    rw [tfault]
    walk_at "es"
    walk_at "no"
    walk_at "es"
    refine ⟨P, r, tripsL P r, _, rfl, ⟨⟨bp, hr, hr3⟩, tok.n, tfl⟩, ?_⟩
    rw [tfault]
    walk_at "es"
    walk_at "no"
    walk_at "es"
    refine ⟨P, tripsL P r, rfl, tok, ?_⟩
    rw [tl]
    walk_at "es"
    exact ⟨by simp, rfl⟩
  walk_at "no"
  walk_at "ei"
  refine sx_for (J := [11]) (ei_rng2 ?_)
  walk_at "es"
  refine ⟨by omega, fun k ρ' => ρ' = [.val (.list (ns.map .int)), .st S4, .val (.int m), .val (.list (P.map .int)), .emp, .val (.int (r : Int)), .val (.list (P.map .int)), .val (.tuple [.list ((tripsL P r).map intsD), .int (lenF P (foundF P r))]), .val (.list (W.map lotsD)), .val (.int (leastF P (r : Int))), .emp, .emp, .emp, .emp, .emp, .emp, .emp, .emp, .emp, .emp, .emp, .emp, .emp, .emp, .emp], rfl, ?_, ?_⟩
  · rintro k dd ρ' hd0 rfl
    obtain ⟨hk, rfl⟩ := rng_at hd0
    refine sg_name (by simp) ?_
    walk_at "w"
    walk_at "es"
    refine ⟨P, r, _, rfl, ⟨hp, hr, hr3⟩, ?_⟩
    walk_at "es"
    refine ⟨P, r, _, rfl, ⟨hp, hr, hr3⟩, ?_⟩
    walk_at "es"
    walk_at "no"
    walk_at "es"
    exact ⟨_, by walk_at "le", rfl⟩
  rintro ρ' rfl
  refine nx_seq (sx_seq (sx_for (J := [10]) (ei_list (ex_sl ?_))))
  walk_at "es"
  refine ⟨fun k ρ' => ρ' = [.val (.list (ns.map .int)), .st S4, .val (.int m), .val (.list (P.map .int)), .emp, .val (.int (r : Int)), .val (.list (P.map .int)), .val (.tuple [.list ((tripsL P r).map intsD), .int (lenF P (foundF P r))]), .val (.list (W.map lotsD)), .val (.int (leastF P (r : Int))), .emp, .emp, .emp, .emp, .emp, .emp, .emp, .emp, .emp, .emp, .emp, .emp, .emp, .emp, .emp], rfl, ?_, ?_⟩
  · rintro k dd ρ' hd0 rfl
    have ec : cutD (W.map lotsD) none (some 40) = (W.take 40).map lotsD := cut_n lotsD W 40
    rw [ec, List.getElem?_map] at hd0
    obtain ⟨w, hw, rfl⟩ := Option.map_eq_some_iff.mp hd0
    have hw := List.mem_of_mem_take (List.mem_of_getElem? hw)
    have ww := wok w hw
    refine sg_name (by simp) ?_
    walk_at "w"
    refine sx_seq (sx_asg ?_)
    walk_at "es"
    refine ⟨P, w, rfl, ww.1, ?_⟩
    walk_at "es"
    walk_at "w"
    walk_at "es"
    refine ⟨P, r, w, lenF P w, rfl, ⟨⟨bp, hr, hr3⟩, ww.2.1, ww.2.2⟩, ?_⟩
    rw [fault_way (wb w hw).1]
    have lw := (wb w hw).2
    walk_at "es"
    refine ⟨fun q => ?_, fun q => ?_⟩
    · have q := of_decide_eq_true q
      rw [if_pos (by omega)]
      walk_at "es"
      refine opd_neSelf (by decide) ?_
      walk_at "es"
      walk_at "no"
      walk_at "es"
      exact ⟨_, by walk_at "le", rfl⟩
    · have q := of_decide_eq_false q
      rw [if_neg (by omega)]
      walk_at "es"
      refine opd_neSelf (by decide) ?_
      walk_at "es"
      walk_at "no"
      walk_at "es"
      exact ⟨_, by walk_at "le", rfl⟩
  rintro ρ' rfl
  have t6 : (tripsL P r).length ≤ 6 ∧ ∀ l ∈ tripsL P r, l.length ≤ 6 := by
    have h1 := twp.flat.length_eq
    rw [rngI_len] at h1
    refine ⟨?_, fun l hl => ?_⟩
    · have : ∀ xs : List (List Int), (∀ l ∈ xs, 0 < l.length) → xs.length ≤ xs.flatten.length := by
        intro xs
        induction xs with
        | nil => intro _; exact Nat.le_refl _
        | cons x xs ih =>
          intro h
          have := ih fun l hl => h l (by simp [hl])
          have := h x (by simp)
          rw [List.flatten_cons, List.length_append, List.length_cons]
          omega
      have := this _ twp.ne
      omega
    · have := (List.sublist_flatten_of_mem hl).length_le
      omega
  have fle : ∀ xs : List (List Int), (∀ l ∈ xs, l.length ≤ 12) → xs.flatten.length ≤ xs.length * 12 := by
    intro xs
    induction xs with
    | nil => intro _; exact Nat.le_refl _
    | cons x xs ih =>
      intro h
      have := ih fun l hl => h l (by simp [hl])
      have := h x (by simp)
      rw [List.flatten_cons, List.length_append, List.length_cons]
      omega
  have tne := twp.ne
  refine nx_seq (sx_seq (sx_for (J := [4]) (ei_rng1 ?_)))
  walk_at "es"
  refine ⟨by omega, fun k ρ' => ∃ (S : Stt), Ok S ∧ ρ' = [.val (.list (ns.map .int)), .st S, .val (.int m), .val (.list (P.map .int)), .emp, .val (.int (r : Int)), .val (.list (P.map .int)), .val (.tuple [.list ((tripsL P r).map intsD), .int (lenF P (foundF P r))]), .val (.list (W.map lotsD)), .val (.int (leastF P (r : Int))), .emp, .emp, .emp, .emp, .emp, .emp, .emp, .emp, .emp, .emp, .emp, .emp, .emp, .emp, .emp], ⟨S4, ok4, rfl⟩, ?_, ?_⟩
  · rintro turn dd ρ' hd0 ⟨S, ok, rfl⟩
    obtain ⟨hk, rfl⟩ := rng_at hd0
    rw [Int.zero_add]
    refine sg_name (by simp) ?_
    walk_at "w"
    refine sx_seq (sx_parOV (K := K) (eo_lcP (α := List Int) (fun _ => true) (fun l => intsD l) (ei_list ?_)))
    walk_at "es"
    refine ⟨by omega, fun i hi => by simp at hi; subst hi; rfl, fun l hlm => sg_name (by simp) ⟨rfl, ?_⟩, ?_⟩
    · walk_at "w"
      refine et_yes ⟨rfl, rfl, fun _ => ?_⟩
      refine ex_cb (ea_cons (ex_var rfl (ea_nil ?_)))
      exact cbd_listL (ds := l.map .int) ⟨rfl, rfl⟩
    rw [filt_all]
    walk_at "es"
    walk_at "w"
    generalize tripsL P r = T at t6 tne tok ⊢
    refine ⟨4, rfl, by omega, by omega, ok, fun kd S5 k0 k1 ok5 => ?_⟩
    refine nx_seq ?_
    walk_at "w"
    refine sx_seq (sx_asg (ex_callS rfl (ea_cons (ex_cb (ea_cons (ex_int (ea_cons (ex_lenO rfl ?_))))))))
    walk_at "es"
    rw [List.length_map]
    refine ⟨max 1 (T.length : Int), rfl, by omega, by omega, ok5, fun at1 S6 a0 a1 ok6 => ?_⟩
    obtain ⟨a, rfl⟩ : ∃ a : Nat, at1 = (a : Int) := ⟨at1.toNat, by omega⟩
    refine nx_seq ?_
    walk_at "w"
    refine sx_midP (fun ρ' => ∃ (L2 : List (List Int)) (len2 : Int) (S7 : Stt) (s10 : Slot), L2.length ≤ 1000 ∧ L2.flatten.length ≤ 1000 ∧ Ok S7 ∧ (s10 = .own (L2.map intsD) ∨ s10 = .val (.list (L2.map intsD))) ∧ ρ' = [.val (.list (ns.map .int)), .st S7, .val (.int m), .val (.list (P.map .int)), .val (.int (turn : Int)), .val (.int (r : Int)), .val (.list (P.map .int)), .val (.tuple [.list ((T).map intsD), .int (lenF P (foundF P r))]), .val (.list (W.map lotsD)), .val (.int (leastF P (r : Int))), s10, .emp, .emp, .val (.int len2), .emp, .val (.int kd), .val (.int (a : Int)), .emp, .emp, .emp, .emp, .emp, .emp, .emp, .emp]) ?_ ?_
    · refine sx_if (et_val (decide (kd = 0) && decide (0 < T.length)) ?_ ⟨fun h0 => ?_, fun _ => ?_⟩)
      · walk_at "es"
        refine ⟨fun h1 => ?_, fun h1 => ⟨by rw [h1]; rfl, rfl⟩⟩
        refine et_test (ex_op (ex_lenO rfl ?_))
        walk_at "es"
        rw [List.length_map]
        exact ⟨by rw [h1, Bool.true_and]; exact decide_eq_decide.mpr (by omega), rfl⟩
      · simp only [Bool.and_eq_true, decide_eq_true_eq] at h0
        have al : a < T.length := by omega
        have ai : atI (T.map intsD) (a : Int) = some (.list ((T.getD a []).map .int)) := by rw [atI_map [] (by omega) (by omega), Int.toNat_natCast]; rfl
        refine sx_setO (es := T.map intsD) (ex_sl (ex_ixO rfl ?_))
        walk_at "es"
        refine ⟨_, _, _, rfl, rfl, ai, ?_⟩
        walk_at "es"
        have e1 : cutD ((T.getD a []).map PyData.int) (some 1) none = ((T.getD a []).drop 1).map .int := cut_drop PyData.int _ 1
        rw [e1]
        refine ⟨rfl, ?_⟩
        walk_at "es"
        refine ⟨_, _, a, rfl, rfl, by rw [List.length_map, ixN_nat al], ?_⟩
        walk_at "w"
        have eR : (T.map intsD).set a (.list (((T.getD a []).drop 1).map .int)) = (T.set a ((T.getD a []).drop 1)).map intsD := by rw [List.map_set]; rfl
        rw [eR]
        have f2 := fle (T.set a ((T.getD a []).drop 1)) fun l hl => by
          rcases List.mem_or_eq_of_mem_set hl with hl | e
          · have := t6.2 l hl; omega
          · have := t6.2 _ (getD_mem al); rw [e, List.length_drop]; omega
        rw [List.length_set] at f2
        exact ⟨_, by walk_at "le", _, _, S6, _, by rw [List.length_set]; omega, by omega, ok6, .inl rfl, rfl⟩
      refine sx_if (et_val (decide (kd = 1) && decide (1 < T.length)) ?_ ⟨fun h0 => ?_, fun _ => ?_⟩)
      · walk_at "es"
        refine ⟨fun h1 => ?_, fun h1 => ⟨by rw [h1]; rfl, rfl⟩⟩
        refine et_test (ex_op (ex_lenO rfl ?_))
        walk_at "es"
        rw [List.length_map]
        exact ⟨by rw [h1, Bool.true_and]; exact decide_eq_decide.mpr (by omega), rfl⟩
      · simp only [Bool.and_eq_true, decide_eq_true_eq] at h0
        refine sx_freeze 10 rfl ?_
        walk_at "w"
        walk_at "es"
        refine opd_lot (k := 0) (by omega) ?_
        walk_at "es"
        refine opd_ixL (last_M (f := intsD) [] (by omega)) ?_
        have l0 := t6.2 _ (getD_mem (lots := T) (j := 0) (by omega))
        have l1 := t6.2 _ (getD_mem (lots := T) (j := T.length - 1) (by omega))
        show OpD _ _ (.list ((T.getD (T.length - 1) []).map .int)) _
        refine opd_plusL (by simp only [List.length_map]; omega) ?_
        walk_at "es"
        have ec : cutD (T.map fun l => intsD l) (some 1) (some (-1)) = ((T.drop 1).take (T.length - 2)).map intsD := cut_1m intsD T (by omega)
        rw [ec]
        refine opd_plusL (by simp only [List.length_map, List.length_take, List.length_drop, List.length_cons, List.length_nil]; omega) ?_
        walk_at "w"
        have eR : ((T.drop 1).take (T.length - 2)).map intsD ++ [.list ((T.getD 0 []).map .int ++ (T.getD (T.length - 1) []).map .int)] = ((T.drop 1).take (T.length - 2) ++ [T.getD 0 [] ++ T.getD (T.length - 1) []]).map intsD := by
          rw [List.map_append, ← List.map_append (f := PyData.int)]
          rfl
        rw [eR]
        have f2 := fle ((T.drop 1).take (T.length - 2) ++ [T.getD 0 [] ++ T.getD (T.length - 1) []]) fun l hl => by
          rcases List.mem_append.mp hl with hl | hl
          · have := t6.2 l (List.mem_of_mem_drop (List.mem_of_mem_take hl)); omega
          · rw [List.mem_singleton.mp hl, List.length_append]; omega
        rw [List.length_append, List.length_singleton, List.length_take, List.length_drop] at f2
        exact ⟨_, by walk_at "le", _, _, S6, _, by rw [List.length_append, List.length_singleton, List.length_take, List.length_drop]; omega, by omega, ok6, .inr rfl, rfl⟩
      refine sx_if (et_val (decide (kd = 2) && decide (0 < T.length)) ?_ ⟨fun h0 => ?_, fun _ => ?_⟩)
      · walk_at "es"
        refine ⟨fun h1 => ?_, fun h1 => ⟨by rw [h1]; rfl, rfl⟩⟩
        refine et_test (ex_op (ex_lenO rfl ?_))
        walk_at "es"
        rw [List.length_map]
        exact ⟨by rw [h1, Bool.true_and]; exact decide_eq_decide.mpr (by omega), rfl⟩
      · simp only [Bool.and_eq_true, decide_eq_true_eq] at h0
        have al : a < T.length := by omega
        refine sx_freeze 10 rfl ?_
        walk_at "w"
        walk_at "es"
        refine opd_lot al ?_
        walk_at "es"
        have ne := tne _ (getD_mem al)
        refine opd_int (k := 0) ne ?_
        walk_at "es"
        refine opd_plusL (by simp only [List.length_map, List.length_cons, List.length_nil]; omega) ?_
        walk_at "w"
        have eR : T.map intsD ++ [.list [.int ((T.getD a []).getD 0 0)]] = (T ++ [[(T.getD a []).getD 0 0]]).map intsD := by rw [List.map_append]; rfl
        rw [eR]
        have f2 := fle (T ++ [[(T.getD a []).getD 0 0]]) fun l hl => by
          rcases List.mem_append.mp hl with hl | hl
          · have := t6.2 l hl; omega
          · rw [List.mem_singleton.mp hl]; simp
        rw [List.length_append, List.length_singleton] at f2
        exact ⟨_, by walk_at "le", _, _, S6, _, by rw [List.length_append, List.length_singleton]; omega, by omega, ok6, .inr rfl, rfl⟩
      · walk_at "es"
        refine ⟨2, rfl, by omega, by omega, ok6, fun g S7 g0 g1 ok7 => ?_⟩
        obtain ⟨v, ev⟩ : ∃ v : Int, atI [PyData.int 2, .int (0 - 2)] g = some (.int v) := by
          rcases (show g = 0 ∨ g = 1 by omega) with rfl | rfl
          · exact ⟨_, rfl⟩
          · exact ⟨_, rfl⟩
        refine opd_ixL ev ?_
        walk_at "es"
        walk_at "w"
        have f2 := fle T fun l hl => by have := t6.2 l hl; omega
        exact ⟨_, by walk_at "le", T, _, S7, _, by omega, by omega, ok7, .inl rfl, rfl⟩
    · rintro ρ1 ⟨L2, len2, S7, s10, hl2, hf2, ok7, hs, rfl⟩
      rcases hs with rfl | rfl
      · refine sx_freeze 10 rfl ?_
        walk_at "w"
        walk_at "es"
        refine ⟨P, r, L2, len2, rfl, ⟨⟨bp, hr, hr3⟩, hl2, hf2⟩, ?_⟩
        walk_at "es"
        refine ⟨P, r, L2, len2, rfl, ⟨⟨bp, hr, hr3⟩, hl2, hf2⟩, ?_⟩
        refine opd_neSelf (Nat.le_trans (fault_dp P r L2 len2) (by decide)) ?_
        walk_at "es"
        walk_at "no"
        walk_at "es"
        exact ⟨_, by walk_at "le", S7, ok7, rfl⟩
      · walk_at "es"
        refine ⟨P, r, L2, len2, rfl, ⟨⟨bp, hr, hr3⟩, hl2, hf2⟩, ?_⟩
        walk_at "es"
        refine ⟨P, r, L2, len2, rfl, ⟨⟨bp, hr, hr3⟩, hl2, hf2⟩, ?_⟩
        refine opd_neSelf (Nat.le_trans (fault_dp P r L2 len2) (by decide)) ?_
        walk_at "es"
        walk_at "no"
        walk_at "es"
        exact ⟨_, by walk_at "le", S7, ok7, rfl⟩
  rintro ρ' ⟨S, ok, rfl⟩
  refine nx_seq (sx_seq (sx_asg (ex_of (eo_lcP (α := Int) (fun _ => true) (fun g => encP (LG P r g, g)) (ei_list ?_)))))
  walk_at "es"
  refine ⟨by omega, fun i hi => by simp at hi; subst hi; rfl, fun g hgP => sg_name (by simp) ⟨rfl, ?_⟩, ?_⟩
  · walk_at "w"
    refine et_yes ⟨rfl, rfl, fun _ => ?_⟩
    walk_at "es"
    refine ex_of (eo_lcP (α := Int) (fun _ => true) (fun x => .int (x - g)) (ei_list ?_))
    walk_at "es"
    refine ⟨by omega, fun i hi => by simp at hi; subst hi; rfl, fun x hx => sg_name (by simp) ⟨rfl, ?_⟩, ?_⟩
    · walk_at "w"
      refine et_yes ⟨rfl, rfl, fun _ => ?_⟩
      walk_at "es"
      exact ⟨rfl, rfl⟩
    rw [gxi2 P fun x => x - g]
    walk_at "es"
    refine ⟨_, r, rfl, ⟨b4.sub hgP, hr, hr3⟩, ?_⟩
    walk_at "es"
    exact ⟨rfl, rfl⟩
  have eG : ((P.filter fun _ => true).map fun g => encP (LG P r g, g)) = (P.map fun g => (LG P r g, g)).map encP := by rw [filt_all, List.map_map]; rfl
  rw [eG]
  refine nx_seq ?_
  walk_at "w"
  refine sx_seq (sx_if (et_val false ?_ ?_))
  · walk_at "es"
    refine ⟨P, r, rfl, ⟨b4, hr, hr3⟩, fun o ho => ?_⟩
    walk_at "es"
    rw [List.length_map, List.length_map]
    cases o with
    | none =>
      have hP : P = [] := ho
      refine ⟨fun q => ?_, fun q => ?_⟩
      · have := of_decide_eq_true q
        rw [hP] at this
        simp at this
      · walk_at "es"
        refine opd_neSelf (by simp [gateD, PyData.depth]) ?_
        walk_at "es"
        exact ⟨rfl, rfl⟩
    | some g =>
      have mp := gate_min ho
      have pos := List.length_pos_of_mem ho.1
      refine ⟨fun q => ?_, fun q => ?_⟩
      · walk_at "es"
        refine cbd_minP (by rw [List.length_map]; exact pos) ?_
        rw [mp]
        walk_at "es"
        refine opd_ixT (d := .int g) rfl ?_
        walk_at "es"
        refine cbd_minP (by rw [List.length_map]; exact pos) ?_
        rw [mp]
        walk_at "es"
        refine opd_ixT (d := .int (LG P r g)) rfl ?_
        walk_at "es"
        refine opd_neSelf (Nat.le_trans (dpn_tup (dpn_cons dpn_int (dpn_cons dpn_int dpn_nil)) : DpN 2 _) (by decide)) ?_
        walk_at "es"
        exact ⟨rfl, rfl⟩
      · have := of_decide_eq_false q
        omega
  walk_at "no"
  walk_at "ei"
  refine ⟨60, rfl, by omega, by omega, ok, fun mo S5 mo0 mo1 ok5 => ?_⟩
  walk_at "es"
  generalize 1 + mo = most
  walk_at "w"
  refine ex_of (eo_lcP (α := List Int) (fun _ => true) (fun lot => .int (lenF P [lot])) (ei_list ?_))
  walk_at "es"
  refine ⟨by omega, fun i hi => by simp at hi; subst hi; rfl, fun lot hlot => sg_name (by simp) ⟨rfl, ?_⟩, ?_⟩
  · walk_at "w"
    refine et_yes ⟨rfl, rfl, fun _ => ?_⟩
    walk_at "es"
    exact ⟨P, [lot], rfl, tok.one hlot, rfl, rfl⟩
  have eT : (((tripsL P r).filter fun _ => true).map fun lot => PyData.int (lenF P [lot])) = ((tripsL P r).map fun lot => lenF P [lot]).map .int := by rw [filt_all, List.map_map]; rfl
  rw [eT]
  walk_at "es"
  refine cbd_sortI ?_
  refine ⟨_, rfl, ?_⟩
  rw [← List.map_reverse]
  have ll : (leftL P r).length ≤ 1000 := by
    unfold leftL
    rw [List.length_reverse, (sortI_perm _).length_eq, List.length_map]
    exact tok.n
  have hleft : (sortI ((tripsL P r).map fun lot => lenF P [lot])).reverse = leftL P r := rfl
  have hc : ∀ most, cartsD P r most = if 0 < (leftL P r).length ∧ most < (leftL P r).getD 0 0 then .none else .int (((leftL P r).foldl (stepC most) []).length : Int) := fun _ => rfl
  rw [hleft]
  revert ll hc
  generalize leftL P r = left
  intro ll hc
  refine nx_seq (sx_seq (sx_asg (ex_of (eo_lst (ea_nil ⟨by simp, ?_⟩)))))
  refine nx_seq ?_
  walk_at "w"
  refine sx_seq (sx_for (J := [23]) (ei_list (ex_var rfl ⟨_, rfl, ?_⟩)))
  refine ⟨fun i ρ' => ∃ cs, cs = (left.take i).foldl (stepC most) [] ∧ cs.length ≤ i ∧ ρ' = [.val (.list (ns.map .int)), .st S5, .val (.int m), .val (.list (P.map .int)), .emp, .val (.int (r : Int)), .val (.list (P.map .int)), .val (.tuple [.list ((tripsL P r).map intsD), .int (lenF P (foundF P r))]), .val (.list (W.map lotsD)), .val (.int (leastF P (r : Int))), .emp, .emp, .emp, .emp, .emp, .emp, .emp, .val (.list ((P.map fun g => (LG P r g, g)).map encP)), .emp, .emp, .val (.int most), .val (.list (left.map .int)), .val (.list (cs.map .int)), .emp, .emp], ⟨[], rfl, Nat.le_refl _, rfl⟩, ?_, ?_⟩
  · rintro i dd ρ' hd0 ⟨cs, hcs, cl, rfl⟩
    rw [List.getElem?_map] at hd0
    obtain ⟨t, ht, rfl⟩ := Option.map_eq_some_iff.mp hd0
    have hi := (List.getElem?_eq_some_iff.mp ht).1
    have sc : stepC most cs t = (left.take (i + 1)).foldl (stepC most) [] := by rw [take_snoc' ht, List.foldl_append, ← hcs]; rfl
    refine sg_name (by simp) ?_
    walk_at "w"
    refine sx_seq (sx_asg (ex_of (eo_lcP (α := Int) (fun k => ableB cs t most k.toNat) (fun k => .int k) (ei_rng1 ?_))))
    walk_at "es"
    rw [List.length_map, Int.toNat_natCast]
    refine ⟨by omega, rngI 0 cs.length, PyData.int, rfl, by rw [rngI_len]; omega, fun i hi => by simp at hi; subst hi; rfl, fun x hx => sg_name (by simp) ⟨rfl, ?_⟩, ?_⟩
    · have hx := rngI_mem.mp hx
      walk_at "w"
      walk_at "es"
      refine opd_pl (by omega) (by omega) ?_
      walk_at "es"
      refine ⟨rfl, rfl, fun _ => ?_⟩
      walk_at "es"
      exact ⟨rfl, rfl⟩
    have hab : ((rngI 0 cs.length).filter fun k => ableB cs t most k.toNat) = ableL cs t most := rfl
    rw [hab]
    have ab : ∀ x ∈ ableL cs t most, 0 ≤ x ∧ x < (cs.length : Int) := fun x hx => by
      have := rngI_mem.mp (List.mem_filter.mp hx).1
      omega
    unfold stepC at sc
    revert sc ab
    generalize ableL cs t most = able
    intro sc ab
    refine nx_seq ?_
    walk_at "w"
    refine sx_asg (ex_op (ex_of (eo_lcP (α := Int) (fun _ => true) (fun k => .int (cs.getD k.toNat 0 + if 0 < able.length ∧ k = able.getD 0 0 then t else 0)) (ei_rng1 ?_))))
    walk_at "es"
    rw [List.length_map, Int.toNat_natCast]
    refine ⟨by omega, rngI 0 cs.length, PyData.int, rfl, by rw [rngI_len]; omega, fun i hi => by simp at hi; subst hi; rfl, fun x hx => sg_name (by simp) ⟨rfl, ?_⟩, ?_⟩
    · have hx := rngI_mem.mp hx
      walk_at "w"
      refine et_yes ⟨rfl, rfl, fun _ => ?_⟩
      walk_at "es"
      refine opd_pl (by omega) (by omega) ?_
      walk_at "es"
      rw [List.length_map]
      cases able with
      | nil =>
        refine ⟨fun hq => absurd hq (by decide), fun _ => ⟨fun hq => absurd hq (by decide), fun _ => ?_⟩⟩
        walk_at "es"
        exact ⟨by simp [pl], rfl⟩
      | cons a able =>
        refine ⟨fun _ => ?_, fun hq => absurd (of_decide_eq_false hq) (by simp)⟩
        walk_at "es"
        refine opd_int (k := 0) (by simp) ?_
        walk_at "es"
        refine ⟨fun q => ?_, fun q => ?_⟩
        · have q := of_decide_eq_true q
          walk_at "es"
          refine ⟨?_, rfl⟩
          rw [if_pos ⟨by simp, q⟩]
          rfl
        · have q := of_decide_eq_false q
          walk_at "es"
          refine ⟨?_, rfl⟩
          rw [if_neg fun h => q h.2]
          rfl
    walk_at "es"
    rw [List.length_map]
    cases able with
    | nil =>
      refine ⟨fun _ => ?_, fun hq => absurd (of_decide_eq_false hq) (by simp)⟩
      walk_at "es"
      have sc : cs ++ [t] = _ := sc
      have eX : ((rngI 0 cs.length).filter fun _ => true).map (fun k => PyData.int (cs.getD k.toNat 0 + if 0 < ([] : List Int).length ∧ k = ([] : List Int).getD 0 0 then t else 0)) = cs.map .int := by
        have q := congrArg (List.map PyData.int) (rng_pl cs)
        rw [List.map_map] at q
        rw [filt_all]
        exact Eq.trans (List.map_congr_left fun k hk => by simp [pl]) q
      rw [eX]
      refine opd_plusL (by simp only [List.length_map, List.length_cons, List.length_nil]; omega) ?_
      walk_at "w"
      rw [show cs.map PyData.int ++ [.int t] = (cs ++ [t]).map .int by rw [List.map_append]; rfl]
      exact ⟨_, by walk_at "le", cs ++ [t], sc, by rw [List.length_append, List.length_singleton]; omega, rfl⟩
    | cons a able =>
      refine ⟨fun hq => absurd (of_decide_eq_true hq) (by rw [List.length_cons]; omega), fun _ => ?_⟩
      refine ex_of (eo_lst (ea_nil ⟨by simp, ?_⟩))
      have ha := ab a (by simp)
      obtain ⟨j, rfl⟩ : ∃ j : Nat, a = (j : Int) := ⟨a.toNat, by omega⟩
      have hj : j < cs.length := by omega
      have sc : cs.set ((j : Int)).toNat (cs.getD ((j : Int)).toNat 0 + t) = _ := sc
      rw [Int.toNat_natCast] at sc
      have eX : ((rngI 0 cs.length).filter fun _ => true).map (fun k => PyData.int (cs.getD k.toNat 0 + if 0 < ((j : Int) :: able).length ∧ k = ((j : Int) :: able).getD 0 0 then t else 0)) = (cs.set j (cs.getD j 0 + t)).map .int := by
        have q := congrArg (List.map PyData.int) (rng_pl (cs.set j (cs.getD j 0 + t)))
        rw [List.map_map, List.length_set] at q
        rw [filt_all]
        refine Eq.trans (List.map_congr_left fun k hk => ?_) q
        have hk := rngI_mem.mp hk
        show PyData.int _ = PyData.int ((cs.set j (cs.getD j 0 + t)).getD k.toNat 0)
        rw [getD_setN hj]
        by_cases e : k = (j : Int)
        · subst e
          rw [if_pos ⟨by simp, rfl⟩, Int.toNat_natCast, if_pos rfl]
        · rw [if_neg fun h => e h.2, if_neg (by omega), Int.add_zero]
      rw [eX]
      refine opd_plusL (by simp only [List.length_map, List.length_set, List.length_nil]; omega) ?_
      rw [List.append_nil]
      walk_at "w"
      exact ⟨_, by walk_at "le", cs.set j (cs.getD j 0 + t), sc, by rw [List.length_set]; omega, rfl⟩
  · rintro ρ' ⟨cs, hcs, cl, rfl⟩
    rw [List.length_map, List.take_length] at hcs
    have eqs : ∀ {d : D} {Q : D → Prop}, d.depth ≤ 60 → Q (.bool true) → OpD (rEqP K) d d Q := fun {d Q} h k F H x y e rx ry Z z => opd_eqP (Q := Q) (min_l h) (by rw [PySem.SeqAt.eqv_refl_plain d (Rp.plain d rx)]; exact k) F H x y e rx ry Z z
    have dP : (PyData.list (P.map .int)).depth ≤ 60 := Nat.le_trans (dpn_list (n := 1) (dpn_map fun x _ => dpn_int) : DpN 2 _) (by decide)
    have hcm := hc most
    walk_at "es"
    refine ⟨P, r, most, rfl, ⟨bp, hr, hr3⟩, ?_⟩
    rw [hcm]
    walk_at "es"
    rw [List.length_map]
    refine ⟨fun q1 => ?_, fun q1 => ⟨fun hq => absurd hq (by decide), fun _ => ?_⟩⟩
    · have q1 := of_decide_eq_true q1
      walk_at "es"
      refine opd_int (k := 0) (by omega) ?_
      walk_at "es"
      refine ⟨fun q2 => ?_, fun q2 => ?_⟩
      · rw [if_pos ⟨by omega, of_decide_eq_true q2⟩]
        walk_at "es"
        refine eqs (by decide) ?_
        walk_at "es"
        refine ⟨fun _ => ?_, fun hq => absurd hq (by decide)⟩
        walk_at "es"
        exact eqs dP z
      · rw [if_neg fun h => of_decide_eq_false q2 h.2]
        walk_at "es"
        rw [List.length_map, ← hcs]
        refine ⟨fun _ => ?_, fun hq => absurd (of_decide_eq_false hq) (by simp)⟩
        walk_at "es"
        exact eqs dP z
    · have q1 := of_decide_eq_false q1
      rw [if_neg fun h => q1 (by omega)]
      walk_at "es"
      rw [List.length_map, ← hcs]
      refine ⟨fun _ => ?_, fun hq => absurd (of_decide_eq_false hq) (by simp)⟩
      walk_at "es"
      exact eqs dP z
end Law_k65
namespace Law_k65
open PySem L2 Pu

def topS (i : Nat) : Stmt := PySem.Challenge.pw_firescore_k65_trips_by_all_ways.main.body.getD i (.Pass ⟨0, 0, 0, 0⟩)
abbrev s_trips : Stmt := topS 1
abbrev s_length_of : Stmt := topS 2
abbrev s_crossed : Stmt := topS 3
abbrev s_least_length : Stmt := topS 4
abbrev s_trips_fault : Stmt := topS 5
abbrev s_best_gate : Stmt := topS 6
abbrev s_carts_needed : Stmt := topS 7
abbrev s_l_state : Stmt := topS 9
abbrev s_l_take : Stmt := topS 10
abbrev s_l_length : Stmt := topS 11
abbrev s_l_ways : Stmt := topS 12
abbrev s_l_crossed : Stmt := topS 13
abbrev s_l_least : Stmt := topS 14
abbrev s_l_fault : Stmt := topS 15
abbrev s_law : Stmt := topS 16
theorem sc_trips : FnScope N_trips ["places", "room"] (defScope s_trips) := ⟨rfl, rfl, rfl, by decide +kernel, rfl, by decide +kernel, by decide +kernel⟩
theorem sc_length_of : FnScope N_length_of ["places", "lots"] (defScope s_length_of) := ⟨rfl, rfl, rfl, by decide +kernel, rfl, by decide +kernel, by decide +kernel⟩
theorem sc_crossed : FnScope N_crossed ["places", "room", "spot"] (defScope s_crossed) := ⟨rfl, rfl, rfl, by decide +kernel, rfl, by decide +kernel, by decide +kernel⟩
theorem sc_least_length : FnScope N_least_length ["places", "room"] (defScope s_least_length) := ⟨rfl, rfl, rfl, by decide +kernel, rfl, by decide +kernel, by decide +kernel⟩
theorem sc_trips_fault : FnScope N_trips_fault ["places", "room", "told"] (defScope s_trips_fault) := ⟨rfl, rfl, rfl, by decide +kernel, rfl, by decide +kernel, by decide +kernel⟩
theorem sc_best_gate : FnScope N_best_gate ["places", "room"] (defScope s_best_gate) := ⟨rfl, rfl, rfl, by decide +kernel, rfl, by decide +kernel, by decide +kernel⟩
theorem sc_carts_needed : FnScope N_carts_needed ["places", "room", "most"] (defScope s_carts_needed) := ⟨rfl, rfl, rfl, by decide +kernel, rfl, by decide +kernel, by decide +kernel⟩
theorem sc_l_state : FnScope N_l_state ["script"] (defScope s_l_state) := ⟨rfl, rfl, rfl, by decide +kernel, rfl, by decide +kernel, by decide +kernel⟩
theorem sc_l_take : FnScope N_l_take ["state", "most"] (defScope s_l_take) := ⟨rfl, rfl, rfl, by decide +kernel, rfl, by decide +kernel, by decide +kernel⟩
theorem sc_l_length : FnScope N_l_length ["places", "lots"] (defScope s_l_length) := ⟨rfl, rfl, rfl, by decide +kernel, rfl, by decide +kernel, by decide +kernel⟩
theorem sc_l_ways : FnScope N_l_ways ["many", "room", "lots", "k"] (defScope s_l_ways) := ⟨rfl, rfl, rfl, by decide +kernel, rfl, by decide +kernel, by decide +kernel⟩
theorem sc_l_crossed : FnScope N_l_crossed ["places", "room", "spot"] (defScope s_l_crossed) := ⟨rfl, rfl, rfl, by decide +kernel, rfl, by decide +kernel, by decide +kernel⟩
theorem sc_l_least : FnScope N_l_least ["places", "room"] (defScope s_l_least) := ⟨rfl, rfl, rfl, by decide +kernel, rfl, by decide +kernel, by decide +kernel⟩
theorem sc_l_fault : FnScope N_l_fault ["places", "room", "told"] (defScope s_l_fault) := ⟨rfl, rfl, rfl, by decide +kernel, rfl, by decide +kernel, by decide +kernel⟩
theorem sc_law : FnScope N_law ["script"] (defScope s_law) := ⟨rfl, rfl, rfl, by decide +kernel, rfl, by decide +kernel, by decide +kernel⟩
section
variable {P : Program} {w : World} {K : PySem.W.Frag} {mg : Str → Option Value} {base : Heap} {f : Addr} {fd : FuncData} {k : Nat}
theorem ps_trips {cdv : Value} {A : Around} {outer : List PySem.Env} {s : Shared} {H : Hp} {E : XK} (bn : Bn mg) (hr : Room k (A.deeper (PyProof.Rows.envOfC "trips" (defScope s_trips) s.heap.objs.size f cdv))) {R_length_of : List D → (D → Prop) → Prop} {k_length_of : Nat} (C_length_of : Cal P w K mg base "length_of" ["places", "lots"] (spP R_length_of) k_length_of) (h_length_of : k_length_of ≤ k) :
    PSs (cxOf CX0 P w K mg base N_trips "trips" (defScope s_trips) f cdv A outer s H E).nox (defBody s_trips) (T_trips K R_length_of) :=
  have nd := sc_trips.nd
  (pss_cons (ps_set (i := 2) nd rfl (by first | exact Or.inl rfl | exact Or.inr rfl) (pe_lst pa_nil))
    (pss_cons (ps_for PassesOwn.never rfl (pi_tup (pe_tup (pa_cons pe_int (pa_cons (pe_un un_neg pe_int) pa_nil)))) (pg_name (i := 3) nd rfl (by first | exact Or.inl rfl | exact Or.inr rfl))
      (pss_cons (ps_set (i := 4) nd rfl (by first | exact Or.inl rfl | exact Or.inr rfl) (pe_callB (cb_sortD hr.units) (by rfl) bn.sorted_ (by decide +kernel) (pa_cons (pe_lc (own := [("at", 6), ("place", 5)]) (g := (gTup K 2 (gCons (gName 6) (gCons (gName 5) gNil)))) (tt := (tTest (tOp (rI0 fun i j => .bl (decide (j < i))) (tOp (rI CMul fun i j => .int (i * j)) (tVar 3) (tVar 5)) (tC (.int 0))))) rfl nd (pi_enum (by rfl) bn.enumerate_ (pa_cons (pv 0) pa_nil)) (blkOk_by (N := N_trips) (sc := defScope s_trips) (by decide +kernel)) (fun _ _ _ _ _ => (pg_tup (n := 2) rfl (pgs_cons (pg_name (i := 6) nd rfl (by first | exact Or.inl rfl | exact Or.inr rfl)) (pgs_cons (pg_name (i := 5) nd rfl (by first | exact Or.inl rfl | exact Or.inr rfl)) pgs_nil)))) (fun _ _ _ _ _ => (pts_one (pt_cmpR op_gt (pe_op op_mul (pv 3) (pv 5)) pe_int (nomark _)))) (fun _ _ _ _ _ => (pe_tup (pa_cons (pe_op op_sub pe_int (pe_op op_mul (pv 3) (pv 5))) (pa_cons (pv 6) pa_nil))))) pa_nil)))
    (pss_one (ps_for PassesOwn.never rfl (pi_range3 (by rfl) bn.range_ (pa_cons pe_int (pa_cons (pe_callB Pu.cb_len (by rfl) bn.len_ (by decide +kernel) (pa_cons (pv 4) pa_nil)) (pa_cons (pv 1) pa_nil)))) (pg_name (i := 7) nd rfl (by first | exact Or.inl rfl | exact Or.inr rfl))
      (pss_one (ps_expr (pe_bm PySem.F.plainAttrs_list PySem.F.slot_list_append PySem.F.type_list_append mt_append (pv 2) (pa_cons (pe_callB (cb_sortD hr.units) (by rfl) bn.sorted_ (by decide +kernel) (pa_cons (pe_lc (own := [("far", 8), ("at", 6)]) (g := (gTup K 2 (gCons (gName 8) (gCons (gName 6) gNil)))) (tt := tYes) rfl nd (pi_list (pe_slice sl_any (pv 4) (po_some (pv 7)) (po_some (pe_op op_plus (pv 7) (pv 1))))) (blkOk_by (N := N_trips) (sc := defScope s_trips) (by decide +kernel)) (fun _ _ _ _ _ => (pg_tup (n := 2) rfl (pgs_cons (pg_name (i := 8) nd rfl (by first | exact Or.inl rfl | exact Or.inr rfl)) (pgs_cons (pg_name (i := 6) nd rfl (by first | exact Or.inl rfl | exact Or.inr rfl)) pgs_nil)))) (fun _ _ _ _ _ => pts_nil) (fun _ _ _ _ _ => (pv 6))) pa_nil)) pa_nil))))))))
    (pss_cons (ps_setLc (i := 9) (own := [("at", 6), ("place", 5)]) (g := (gTup K 2 (gCons (gName 6) (gCons (gName 5) gNil)))) (tt := (tTest (tOp (rEqP K) (tVar 5) (tC (.int 0))))) rfl nd rfl rfl (sw_true rfl rfl rfl (by decide +kernel)) (pi_enum (by rfl) bn.enumerate_ (pa_cons (pv 0) pa_nil)) (blkOk_by (N := N_trips) (sc := defScope s_trips) (by decide +kernel)) (fun _ _ _ _ _ => (pg_tup (n := 2) rfl (pgs_cons (pg_name (i := 6) nd rfl (by first | exact Or.inl rfl | exact Or.inr rfl)) (pgs_cons (pg_name (i := 5) nd rfl (by first | exact Or.inl rfl | exact Or.inr rfl)) pgs_nil)))) (fun _ _ _ _ _ => (pts_one (pt_cmpR (op_eqP hr.units) (pv 5) pe_int (nomark _)))) (fun _ _ _ _ _ => (pv 6)))
    (pss_cons (ps_for PassesOwn.never rfl (pi_range3 (by rfl) bn.range_ (pa_cons pe_int (pa_cons (pe_callB Pu.cb_len (by rfl) bn.len_ (by decide +kernel) (pa_cons (pv 9) pa_nil)) (pa_cons (pv 1) pa_nil)))) (pg_name (i := 7) nd rfl (by first | exact Or.inl rfl | exact Or.inr rfl))
      (pss_one (ps_expr (pe_bm PySem.F.plainAttrs_list PySem.F.slot_list_append PySem.F.type_list_append mt_append (pv 2) (pa_cons (pe_slice sl_any (pv 9) (po_some (pv 7)) (po_some (pe_op op_plus (pv 7) (pv 1)))) pa_nil)))))
    (pss_one (ps_ret (pe_tup (pa_cons (pe_callB (cb_sortD hr.units) (by rfl) bn.sorted_ (by decide +kernel) (pa_cons (pv 2) pa_nil)) (pa_cons (pe_cal C_length_of (hr.mono h_length_of) (by rfl) (pa_cons (pv 0) (pa_cons (pv 2) pa_nil))) pa_nil)))))))))
theorem ok_trips {R : List D → (D → Prop) → Prop} (F : Fun K "trips" "trips" s_trips f fd) (bn : Bn mg) {R_length_of : List D → (D → Prop) → Prop} {k_length_of : Nat} (C_length_of : Cal P w K mg base "length_of" ["places", "lots"] (spP R_length_of) k_length_of) (h_length_of : k_length_of ≤ k) (len : ∀ ds Z, R ds Z → ds.length = 2) (sx : ∀ ds Z, R ds Z → SX (T_trips K R_length_of) (startE N_trips ds) { nx := fun _ => Z .none, rt := fun d _ => Z d }) :
    FnOk P w K mg base CX0 (k + 1) f fd ["places", "room"] (spP R) := fn_pure F sc_trips len fun cdv A outer s H E hr => ⟨_, ps_trips bn hr C_length_of h_length_of, sx⟩
theorem ps_length_of {cdv : Value} {A : Around} {outer : List PySem.Env} {s : Shared} {H : Hp} {E : XK} (bn : Bn mg) (hr : Room k (A.deeper (PyProof.Rows.envOfC "length_of" (defScope s_length_of) s.heap.objs.size f cdv))) :
    PSs (cxOf CX0 P w K mg base N_length_of "length_of" (defScope s_length_of) f cdv A outer s H E).nox (defBody s_length_of) (T_length_of K) :=
  have nd := sc_length_of.nd
  (pss_cons (ps_set (i := 2) nd rfl (by first | exact Or.inl rfl | exact Or.inr rfl) pe_int)
    (pss_cons (ps_for PassesOwn.never rfl (pi_list (pv 1)) (pg_name (i := 3) nd rfl (by first | exact Or.inl rfl | exact Or.inr rfl))
      (pss_cons (ps_set (i := 4) nd rfl (by first | exact Or.inl rfl | exact Or.inr rfl) (pe_callB (cb_maxD rfl hr.units) (by rfl) bn.max_ (by decide +kernel) (pa_cons (pe_op op_plus (pe_lc (own := [("at", 5)]) (g := (gName 5)) (tt := tYes) rfl nd (pi_list (pv 3)) (blkOk_by (N := N_length_of) (sc := defScope s_length_of) (by decide +kernel)) (fun _ _ _ _ _ => (pg_name (i := 5) nd rfl (by first | exact Or.inl rfl | exact Or.inr rfl))) (fun _ _ _ _ _ => pts_nil) (fun _ _ _ _ _ => (pe_ix ix_any (pv 0) (pv 5) (fun _ _ => rfl)))) (pe_lst (pa_cons pe_int pa_nil))) pa_nil)))
    (pss_cons (ps_set (i := 6) nd rfl (by first | exact Or.inl rfl | exact Or.inr rfl) (pe_callB (cb_minD rfl hr.units) (by rfl) bn.min_ (by decide +kernel) (pa_cons (pe_op op_plus (pe_lc (own := [("at", 5)]) (g := (gName 5)) (tt := tYes) rfl nd (pi_list (pv 3)) (blkOk_by (N := N_length_of) (sc := defScope s_length_of) (by decide +kernel)) (fun _ _ _ _ _ => (pg_name (i := 5) nd rfl (by first | exact Or.inl rfl | exact Or.inr rfl))) (fun _ _ _ _ _ => pts_nil) (fun _ _ _ _ _ => (pe_ix ix_any (pv 0) (pv 5) (fun _ _ => rfl)))) (pe_lst (pa_cons pe_int pa_nil))) pa_nil)))
    (pss_one (ps_set (i := 2) nd rfl (by first | exact Or.inl rfl | exact Or.inr rfl) (pe_op op_plus (pv 2) (pe_op op_mul pe_int (pe_op op_sub (pv 4) (pv 6)))))))))
    (pss_one (ps_ret (pv 2)))))
theorem ok_length_of {R : List D → (D → Prop) → Prop} (F : Fun K "length_of" "length_of" s_length_of f fd) (bn : Bn mg) (len : ∀ ds Z, R ds Z → ds.length = 2) (sx : ∀ ds Z, R ds Z → SX (T_length_of K) (startE N_length_of ds) { nx := fun _ => Z .none, rt := fun d _ => Z d }) :
    FnOk P w K mg base CX0 (k + 1) f fd ["places", "lots"] (spP R) := fn_pure F sc_length_of len fun cdv A outer s H E hr => ⟨_, ps_length_of bn hr, sx⟩
theorem ps_crossed {cdv : Value} {A : Around} {outer : List PySem.Env} {s : Shared} {H : Hp} {E : XK} (bn : Bn mg) (hr : Room k (A.deeper (PyProof.Rows.envOfC "crossed" (defScope s_crossed) s.heap.objs.size f cdv))) :
    PSs (cxOf CX0 P w K mg base N_crossed "crossed" (defScope s_crossed) f cdv A outer s H E).nox (defBody s_crossed) (T_crossed K) :=
  have nd := sc_crossed.nd
  (pss_cons (ps_setLc (i := 3) (own := [("place", 4)]) (g := (gName 4)) (tt := (tIfT (tTest (tOp (rI0 fun i j => .bl (decide (j ≤ i))) (tVar 2) (tC (.int 0)))) (tTest (tOp (rI0 fun i j => .bl (decide (j < i))) (tVar 4) (tVar 2))) (tTest (tOp (rI0 fun i j => .bl (decide (i ≤ j))) (tVar 4) (tVar 2))))) rfl nd rfl rfl (sw_true rfl rfl rfl (by decide +kernel)) (pi_list (pv 0)) (blkOk_by (N := N_crossed) (sc := defScope s_crossed) (by decide +kernel)) (fun _ _ _ _ _ => (pg_name (i := 4) nd rfl (by first | exact Or.inl rfl | exact Or.inr rfl))) (fun _ _ _ _ _ => (pts_one (pt_ifExp (pt_cmpR op_ge (pv 2) pe_int (nomark _)) (pt_cmpR op_gt (pv 4) (pv 2) (nomark _)) (pt_cmpR op_le (pv 4) (pv 2) (nomark _))))) (fun _ _ _ _ _ => (pv 4)))
    (pss_one (ps_ret (pe_op op_fdiv (pe_op op_sub (pe_op op_plus (pe_callB Pu.cb_len (by rfl) bn.len_ (by decide +kernel) (pa_cons (pv 3) pa_nil)) (pv 1)) pe_int) (pv 1)))))
theorem ok_crossed {R : List D → (D → Prop) → Prop} (F : Fun K "crossed" "crossed" s_crossed f fd) (bn : Bn mg) (len : ∀ ds Z, R ds Z → ds.length = 3) (sx : ∀ ds Z, R ds Z → SX (T_crossed K) (startE N_crossed ds) { nx := fun _ => Z .none, rt := fun d _ => Z d }) :
    FnOk P w K mg base CX0 (k + 1) f fd ["places", "room", "spot"] (spP R) := fn_pure F sc_crossed len fun cdv A outer s H E hr => ⟨_, ps_crossed bn hr, sx⟩
theorem ps_least_length {cdv : Value} {A : Around} {outer : List PySem.Env} {s : Shared} {H : Hp} {E : XK} (bn : Bn mg) (hr : Room k (A.deeper (PyProof.Rows.envOfC "least_length" (defScope s_least_length) s.heap.objs.size f cdv))) {R_crossed : List D → (D → Prop) → Prop} {k_crossed : Nat} (C_crossed : Cal P w K mg base "crossed" ["places", "room", "spot"] (spP R_crossed) k_crossed) (h_crossed : k_crossed ≤ k) :
    PSs (cxOf CX0 P w K mg base N_least_length "least_length" (defScope s_least_length) f cdv A outer s H E).nox (defBody s_least_length) (T_least_length K R_crossed) :=
  have nd := sc_least_length.nd
  (pss_cons (ps_set (i := 2) nd rfl (by first | exact Or.inl rfl | exact Or.inr rfl) pe_int)
    (pss_cons (ps_for PassesOwn.never rfl (pi_range2 (by rfl) bn.range_ (pa_cons pe_int (pa_cons (pe_callB (cb_maxD rfl hr.units) (by rfl) bn.max_ (by decide +kernel) (pa_cons (pe_op op_plus (pv 0) (pe_lst (pa_cons pe_int pa_nil))) pa_nil)) pa_nil))) (pg_name (i := 3) nd rfl (by first | exact Or.inl rfl | exact Or.inr rfl))
      (pss_one (ps_set (i := 2) nd rfl (by first | exact Or.inl rfl | exact Or.inr rfl) (pe_op op_plus (pv 2) (pe_op op_mul pe_int (pe_cal C_crossed (hr.mono h_crossed) (by rfl) (pa_cons (pv 0) (pa_cons (pv 1) (pa_cons (pv 3) pa_nil)))))))))
    (pss_cons (ps_for PassesOwn.never rfl (pi_range2 (by rfl) bn.range_ (pa_cons (pe_callB (cb_minD rfl hr.units) (by rfl) bn.min_ (by decide +kernel) (pa_cons (pe_op op_plus (pv 0) (pe_lst (pa_cons pe_int pa_nil))) pa_nil)) (pa_cons pe_int pa_nil))) (pg_name (i := 3) nd rfl (by first | exact Or.inl rfl | exact Or.inr rfl))
      (pss_one (ps_set (i := 2) nd rfl (by first | exact Or.inl rfl | exact Or.inr rfl) (pe_op op_plus (pv 2) (pe_op op_mul pe_int (pe_cal C_crossed (hr.mono h_crossed) (by rfl) (pa_cons (pv 0) (pa_cons (pv 1) (pa_cons (pv 3) pa_nil)))))))))
    (pss_one (ps_ret (pv 2))))))
theorem ok_least_length {R : List D → (D → Prop) → Prop} (F : Fun K "least_length" "least_length" s_least_length f fd) (bn : Bn mg) {R_crossed : List D → (D → Prop) → Prop} {k_crossed : Nat} (C_crossed : Cal P w K mg base "crossed" ["places", "room", "spot"] (spP R_crossed) k_crossed) (h_crossed : k_crossed ≤ k) (len : ∀ ds Z, R ds Z → ds.length = 2) (sx : ∀ ds Z, R ds Z → SX (T_least_length K R_crossed) (startE N_least_length ds) { nx := fun _ => Z .none, rt := fun d _ => Z d }) :
    FnOk P w K mg base CX0 (k + 1) f fd ["places", "room"] (spP R) := fn_pure F sc_least_length len fun cdv A outer s H E hr => ⟨_, ps_least_length bn hr C_crossed h_crossed, sx⟩
theorem ps_trips_fault {cdv : Value} {A : Around} {outer : List PySem.Env} {s : Shared} {H : Hp} {E : XK} (bn : Bn mg) (hr : Room k (A.deeper (PyProof.Rows.envOfC "trips_fault" (defScope s_trips_fault) s.heap.objs.size f cdv))) {R_length_of : List D → (D → Prop) → Prop} {k_length_of : Nat} (C_length_of : Cal P w K mg base "length_of" ["places", "lots"] (spP R_length_of) k_length_of) (h_length_of : k_length_of ≤ k) {R_least_length : List D → (D → Prop) → Prop} {k_least_length : Nat} (C_least_length : Cal P w K mg base "least_length" ["places", "room"] (spP R_least_length) k_least_length) (h_least_length : k_least_length ≤ k) :
    PSs (cxOf CX0 P w K mg base N_trips_fault "trips_fault" (defScope s_trips_fault) f cdv A outer s H E).nox (defBody s_trips_fault) (T_trips_fault K R_length_of R_least_length) :=
  have nd := sc_trips_fault.nd
  (pss_cons (ps_asg (pv 2) (pg_tup (n := 2) rfl (pgs_cons (pg_name (i := 3) nd rfl (by first | exact Or.inl rfl | exact Or.inr rfl)) (pgs_cons (pg_name (i := 4) nd rfl (by first | exact Or.inl rfl | exact Or.inr rfl)) pgs_nil))))
    (pss_cons (ps_if (pt_cmpR (op_neP hr.units) (pe_callB (cb_sortD hr.units) (by rfl) bn.sorted_ (by decide +kernel) (pa_cons (pe_lc2 (own := [("lot", 6), ("at", 5)]) (vs1 := [5]) (g := (gName 6)) (tt := tYes) (wi1 := (iList K (tVar 6))) (g1 := (gName 5)) (tt1 := tYes) (te := (tVar 5)) rfl nd (pi_list (pv 3)) (blkOk_by (N := N_trips_fault) (sc := defScope s_trips_fault) (by decide +kernel)) (by decide) (fun _ _ _ _ _ => (pg_name (i := 6) nd rfl (by first | exact Or.inl rfl | exact Or.inr rfl))) (fun _ _ _ _ _ => pts_nil) (fun _ _ _ _ _ => (pi_list (pv 6))) (fun _ _ _ _ _ => (pg_name (i := 5) nd rfl (by first | exact Or.inl rfl | exact Or.inr rfl))) (fun _ _ _ _ _ => pts_nil) (fun _ _ _ _ _ => (pv 5))) pa_nil)) (pe_listRg rfl (by rfl) bn.list_ (prg_1 (by rfl) bn.range_ (pe_callB Pu.cb_len (by rfl) bn.len_ (by decide +kernel) (pa_cons (pv 0) pa_nil)))) (nomark _))
      (pss_one (ps_ret (pe_tup (pa_cons pe_str pa_nil))))
      pss_nil)
    (pss_cons (ps_for PassesOwn.never rfl (pi_enum (by rfl) bn.enumerate_ (pa_cons (pv 3) pa_nil)) (pg_tup (n := 2) rfl (pgs_cons (pg_name (i := 7) nd rfl (by first | exact Or.inl rfl | exact Or.inr rfl)) (pgs_cons (pg_name (i := 6) nd rfl (by first | exact Or.inl rfl | exact Or.inr rfl)) pgs_nil)))
      (pss_one (ps_if (pt_not (pt_chain op_lt op_le pe_int (pe_callB Pu.cb_len (by rfl) bn.len_ (by decide +kernel) (pa_cons (pv 6) pa_nil)) (pv 1)))
      (pss_one (ps_ret (pe_tup (pa_cons pe_str (pa_cons (pv 7) pa_nil)))))
      pss_nil)))
    (pss_cons (ps_if (pt_cmpR (op_neP hr.units) (pe_cal C_length_of (hr.mono h_length_of) (by rfl) (pa_cons (pv 0) (pa_cons (pv 3) pa_nil))) (pv 4) (nomark _))
      (pss_one (ps_ret (pe_tup (pa_cons pe_str pa_nil))))
      pss_nil)
    (pss_one (ps_ret (pe_ifExp (pt_cmpR op_le (pv 4) (pe_cal C_least_length (hr.mono h_least_length) (by rfl) (pa_cons (pv 0) (pa_cons (pv 1) pa_nil))) (nomark _)) pe_non (pe_tup (pa_cons pe_str pa_nil)))))))))
theorem ok_trips_fault {R : List D → (D → Prop) → Prop} (F : Fun K "trips_fault" "trips_fault" s_trips_fault f fd) (bn : Bn mg) {R_length_of : List D → (D → Prop) → Prop} {k_length_of : Nat} (C_length_of : Cal P w K mg base "length_of" ["places", "lots"] (spP R_length_of) k_length_of) (h_length_of : k_length_of ≤ k) {R_least_length : List D → (D → Prop) → Prop} {k_least_length : Nat} (C_least_length : Cal P w K mg base "least_length" ["places", "room"] (spP R_least_length) k_least_length) (h_least_length : k_least_length ≤ k) (len : ∀ ds Z, R ds Z → ds.length = 3) (sx : ∀ ds Z, R ds Z → SX (T_trips_fault K R_length_of R_least_length) (startE N_trips_fault ds) { nx := fun _ => Z .none, rt := fun d _ => Z d }) :
    FnOk P w K mg base CX0 (k + 1) f fd ["places", "room", "told"] (spP R) := fn_pure F sc_trips_fault len fun cdv A outer s H E hr => ⟨_, ps_trips_fault bn hr C_length_of h_length_of C_least_length h_least_length, sx⟩
theorem ps_best_gate {cdv : Value} {A : Around} {outer : List PySem.Env} {s : Shared} {H : Hp} {E : XK} (bn : Bn mg) (hr : Room k (A.deeper (PyProof.Rows.envOfC "best_gate" (defScope s_best_gate) s.heap.objs.size f cdv))) {R_least_length : List D → (D → Prop) → Prop} {k_least_length : Nat} (C_least_length : Cal P w K mg base "least_length" ["places", "room"] (spP R_least_length) k_least_length) (h_least_length : k_least_length ≤ k) :
    PSs (cxOf CX0 P w K mg base N_best_gate "best_gate" (defScope s_best_gate) f cdv A outer s H E).nox (defBody s_best_gate) (T_best_gate K R_least_length) :=
  have nd := sc_best_gate.nd
  (pss_cons (ps_set (i := 2) nd rfl (by first | exact Or.inl rfl | exact Or.inr rfl) pe_non)
    (pss_cons (ps_for PassesOwn.never rfl (pi_list (pe_sortSet rfl (by rfl) bn.sorted_ (by rfl) bn.set_ (pv 0))) (pg_name (i := 3) nd rfl (by first | exact Or.inl rfl | exact Or.inr rfl))
      (pss_cons (ps_set (i := 4) nd rfl (by first | exact Or.inl rfl | exact Or.inr rfl) (pe_cal C_least_length (hr.mono h_least_length) (by rfl) (pa_cons (pe_lc (own := [("place", 5)]) (g := (gName 5)) (tt := tYes) rfl nd (pi_list (pv 0)) (blkOk_by (N := N_best_gate) (sc := defScope s_best_gate) (by decide +kernel)) (fun _ _ _ _ _ => (pg_name (i := 5) nd rfl (by first | exact Or.inl rfl | exact Or.inr rfl))) (fun _ _ _ _ _ => pts_nil) (fun _ _ _ _ _ => (pe_op op_sub (pv 5) (pv 3)))) (pa_cons (pv 1) pa_nil))))
    (pss_one (ps_if (PW.pt (pw_or (pt_cmpR op_is (pv 2) pe_non (nomark _)) (pw_or1 (pt_cmpR op_lt (pv 4) (pe_ix ix_any (pv 2) pe_int (fun _ _ => rfl)) (nomark _)))))
      (pss_one (ps_set (i := 2) nd rfl (by first | exact Or.inl rfl | exact Or.inr rfl) (pe_tup (pa_cons (pv 3) (pa_cons (pv 4) pa_nil)))))
      pss_nil))))
    (pss_one (ps_ret (pv 2)))))
theorem ok_best_gate {R : List D → (D → Prop) → Prop} (F : Fun K "best_gate" "best_gate" s_best_gate f fd) (bn : Bn mg) {R_least_length : List D → (D → Prop) → Prop} {k_least_length : Nat} (C_least_length : Cal P w K mg base "least_length" ["places", "room"] (spP R_least_length) k_least_length) (h_least_length : k_least_length ≤ k) (len : ∀ ds Z, R ds Z → ds.length = 2) (sx : ∀ ds Z, R ds Z → SX (T_best_gate K R_least_length) (startE N_best_gate ds) { nx := fun _ => Z .none, rt := fun d _ => Z d }) :
    FnOk P w K mg base CX0 (k + 1) f fd ["places", "room"] (spP R) := fn_pure F sc_best_gate len fun cdv A outer s H E hr => ⟨_, ps_best_gate bn hr C_least_length h_least_length, sx⟩
theorem ps_carts_needed {cdv : Value} {A : Around} {outer : List PySem.Env} {s : Shared} {H : Hp} {E : XK} (bn : Bn mg) (hr : Room k (A.deeper (PyProof.Rows.envOfC "carts_needed" (defScope s_carts_needed) s.heap.objs.size f cdv))) {R_length_of : List D → (D → Prop) → Prop} {k_length_of : Nat} (C_length_of : Cal P w K mg base "length_of" ["places", "lots"] (spP R_length_of) k_length_of) (h_length_of : k_length_of ≤ k) {R_trips : List D → (D → Prop) → Prop} {k_trips : Nat} (C_trips : Cal P w K mg base "trips" ["places", "room"] (spP R_trips) k_trips) (h_trips : k_trips ≤ k) :
    PSs (cxOf CX0 P w K mg base N_carts_needed "carts_needed" (defScope s_carts_needed) f cdv A outer s H E).nox (defBody s_carts_needed) (T_carts_needed K R_length_of R_trips) :=
  have nd := sc_carts_needed.nd
  (pss_cons (ps_set (i := 3) nd rfl (by first | exact Or.inl rfl | exact Or.inr rfl) (pe_revL (pe_callB (cb_sortD hr.units) (by rfl) bn.sorted_ (by decide +kernel) (pa_cons (pe_lc (own := [("trip", 4)]) (g := (gName 4)) (tt := tYes) rfl nd (pi_list (pe_lc (own := [("lot", 5)]) (g := (gName 5)) (tt := tYes) rfl nd (pi_list (pe_ix ix_any (pe_cal C_trips (hr.mono h_trips) (by rfl) (pa_cons (pv 0) (pa_cons (pv 1) pa_nil))) pe_int (fun _ _ => rfl))) (blkOk_by (N := N_carts_needed) (sc := defScope s_carts_needed) (by decide +kernel)) (fun _ _ _ _ _ => (pg_name (i := 5) nd rfl (by first | exact Or.inl rfl | exact Or.inr rfl))) (fun _ _ _ _ _ => pts_nil) (fun _ _ _ _ _ => (pe_cal C_length_of (hr.mono h_length_of) (by rfl) (pa_cons (pv 0) (pa_cons (pe_lst (pa_cons (pv 5) pa_nil)) pa_nil)))))) (blkOk_by (N := N_carts_needed) (sc := defScope s_carts_needed) (by decide +kernel)) (fun _ _ _ _ _ => (pg_name (i := 4) nd rfl (by first | exact Or.inl rfl | exact Or.inr rfl))) (fun _ _ _ _ _ => pts_nil) (fun _ _ _ _ _ => (pv 4))) pa_nil))))
    (pss_cons (ps_if (PW.pt (pw_and (pt_tru (pt_truth (pv 3) (fun _ => rfl))) (pw_and1 (pt_cmpR op_gt (pe_ix ix_any (pv 3) pe_int (fun _ _ => rfl)) (pv 2) (nomark _)))))
      (pss_one (ps_ret pe_non))
      pss_nil)
    (pss_cons (ps_set (i := 6) nd rfl (by first | exact Or.inl rfl | exact Or.inr rfl) (pe_lst pa_nil))
    (pss_cons (ps_for PassesOwn.never rfl (pi_list (pv 3)) (pg_name (i := 4) nd rfl (by first | exact Or.inl rfl | exact Or.inr rfl))
      (pss_cons (ps_setLc (i := 7) (own := [("at", 8), ("gone", 9)]) (g := (gTup K 2 (gCons (gName 8) (gCons (gName 9) gNil)))) (tt := (tTest (tOp (rI0 fun i j => .bl (decide (i ≤ j))) (tOp (rPlus K) (tVar 9) (tVar 4)) (tVar 2)))) rfl nd rfl rfl (sw_true rfl rfl rfl (by decide +kernel)) (pi_enum (by rfl) bn.enumerate_ (pa_cons (pv 6) pa_nil)) (blkOk_by (N := N_carts_needed) (sc := defScope s_carts_needed) (by decide +kernel)) (fun _ _ _ _ _ => (pg_tup (n := 2) rfl (pgs_cons (pg_name (i := 8) nd rfl (by first | exact Or.inl rfl | exact Or.inr rfl)) (pgs_cons (pg_name (i := 9) nd rfl (by first | exact Or.inl rfl | exact Or.inr rfl)) pgs_nil)))) (fun _ _ _ _ _ => (pts_one (pt_cmpR op_le (pe_op op_plus (pv 9) (pv 4)) (pv 2) (nomark _)))) (fun _ _ _ _ _ => (pv 8)))
    (pss_one (ps_if (pt_tru (pt_truth (pv 7) (fun _ => rfl)))
      (pss_one (ps_asg (pe_op op_plus (pe_ix ix_any (pv 6) (pe_ix ix_any (pv 7) pe_int (fun _ _ => rfl)) (fun _ _ => rfl)) (pv 4)) (pg_sub (pv 6) (pe_ix ix_any (pv 7) pe_int (fun _ _ => rfl)) set_list)))
      (pss_one (ps_expr (pe_bm PySem.F.plainAttrs_list PySem.F.slot_list_append PySem.F.type_list_append mt_append (pv 6) (pa_cons (pv 4) pa_nil))))))))
    (pss_one (ps_ret (pe_callB Pu.cb_len (by rfl) bn.len_ (by decide +kernel) (pa_cons (pv 6) pa_nil))))))))
theorem ok_carts_needed {R : List D → (D → Prop) → Prop} (F : Fun K "carts_needed" "carts_needed" s_carts_needed f fd) (bn : Bn mg) {R_length_of : List D → (D → Prop) → Prop} {k_length_of : Nat} (C_length_of : Cal P w K mg base "length_of" ["places", "lots"] (spP R_length_of) k_length_of) (h_length_of : k_length_of ≤ k) {R_trips : List D → (D → Prop) → Prop} {k_trips : Nat} (C_trips : Cal P w K mg base "trips" ["places", "room"] (spP R_trips) k_trips) (h_trips : k_trips ≤ k) (len : ∀ ds Z, R ds Z → ds.length = 3) (sx : ∀ ds Z, R ds Z → SX (T_carts_needed K R_length_of R_trips) (startE N_carts_needed ds) { nx := fun _ => Z .none, rt := fun d _ => Z d }) :
    FnOk P w K mg base CX0 (k + 1) f fd ["places", "room", "most"] (spP R) := fn_pure F sc_carts_needed len fun cdv A outer s H E hr => ⟨_, ps_carts_needed bn hr C_length_of h_length_of C_trips h_trips, sx⟩
theorem ps_l_state {cdv : Value} {A : Around} {outer : List PySem.Env} {s : Shared} {H : Hp} {E : XK} (bn : Bn mg) (hr : Room k (A.deeper (PyProof.Rows.envOfC "_law_state" (defScope s_l_state) s.heap.objs.size f cdv))) :
    PSs (cxOf CX0 P w K mg base N_l_state "_law_state" (defScope s_l_state) f cdv A outer s H E).nox (defBody s_l_state) (T_l_state K) :=
  have nd := sc_l_state.nd
  (pss_cons (ps_setLc (i := 1) (own := [("cell", 2)]) (g := (gName 2)) (tt := tYes) rfl nd rfl rfl (sw_true rfl rfl rfl (by decide +kernel)) (pi_list (pe_slice sl_any (pv 0) po_none (po_some pe_int))) (blkOk_by (N := N_l_state) (sc := defScope s_l_state) (by decide +kernel)) (fun _ _ _ _ _ => (pg_name (i := 2) nd rfl (by first | exact Or.inl rfl | exact Or.inr rfl))) (fun _ _ _ _ _ => pts_nil) (fun _ _ _ _ _ => (pe_callB cb_abs (by rfl) bn.abs_ (by decide +kernel) (pa_cons (pv 2) pa_nil))))
    (pss_cons (ps_if (pt_cmpR (op_eqP hr.units) (pe_callB Pu.cb_len (by rfl) bn.len_ (by decide +kernel) (pa_cons (pv 1) pa_nil)) pe_int (nomark _))
      (pss_one (ps_set (i := 1) nd rfl (by first | exact Or.inl rfl | exact Or.inr rfl) (pe_lst (pa_cons pe_int pa_nil))))
      pss_nil)
    (pss_one (ps_ret (pe_lst (pa_cons pe_int (pa_cons (pv 1) pa_nil)))))))
theorem ps_l_take {cdv : Value} {A : Around} {outer : List PySem.Env} {s : Shared} {H : Hp} {E : XK} (bn : Bn mg) (hr : Room k (A.deeper (PyProof.Rows.envOfC "_law_take" (defScope s_l_take) s.heap.objs.size f cdv))) :
    PSs (cxOf CX0 P w K mg base N_l_take "_law_take" (defScope s_l_take) f cdv A outer s H E).nox (defBody s_l_take) (T_l_take K) :=
  have nd := sc_l_take.nd
  (pss_cons (ps_set (i := 2) nd rfl (by first | exact Or.inl rfl | exact Or.inr rfl) (pe_ix ix_any (pv 0) pe_int (fun _ _ => rfl)))
    (pss_cons (ps_set (i := 3) nd rfl (by first | exact Or.inl rfl | exact Or.inr rfl) (pe_op op_mod (pe_ix ix_any (pv 0) pe_int (fun _ _ => rfl)) (pe_callB Pu.cb_len (by rfl) bn.len_ (by decide +kernel) (pa_cons (pv 2) pa_nil))))
    (pss_cons (ps_set (i := 4) nd rfl (by first | exact Or.inl rfl | exact Or.inr rfl) (pe_ix ix_any (pv 2) (pv 3) (fun _ _ => rfl)))
    (pss_cons (ps_if (pt_cmpR op_ge (pv 4) pe_int (nomark _))
      (pss_cons (ps_asg (pe_op op_fdiv (pv 4) (pv 1)) (pg_sub (pv 2) (pv 3) set_list))
    (pss_one (ps_ret (pe_op op_mod (pv 4) (pv 1)))))
      pss_nil)
    (pss_cons (ps_asg (pe_op op_plus (pe_ix ix_any (pv 0) pe_int (fun _ _ => rfl)) pe_int) (pg_sub (pv 0) pe_int set_list))
    (pss_cons (ps_set (i := 5) nd rfl (by first | exact Or.inl rfl | exact Or.inr rfl) (pe_op op_mod (pe_callTy cb_int (by rfl) bn.int_ (by decide +kernel) (pa_cons (pe_op op_plus (pe_op op_mul (pv 4) pe_int) (pe_op op_mul (pe_ix ix_any (pv 0) pe_int (fun _ _ => rfl)) pe_int)) pa_nil)) pe_int))
    (pss_cons (ps_set (i := 5) nd rfl (by first | exact Or.inl rfl | exact Or.inr rfl) (pe_op op_mod (pe_callTy cb_int (by rfl) bn.int_ (by decide +kernel) (pa_cons (pe_op op_plus (pe_op op_mul (pv 5) pe_int) (pe_op op_mul (pe_ix ix_any (pv 0) pe_int (fun _ _ => rfl)) pe_int)) pa_nil)) pe_int))
    (pss_one (ps_ret (pe_op op_mod (pe_op op_fdiv (pv 5) pe_int) (pv 1)))))))))))
theorem ps_l_length {cdv : Value} {A : Around} {outer : List PySem.Env} {s : Shared} {H : Hp} {E : XK} (bn : Bn mg) (hr : Room k (A.deeper (PyProof.Rows.envOfC "_law_length" (defScope s_l_length) s.heap.objs.size f cdv))) :
    PSs (cxOf CX0 P w K mg base N_l_length "_law_length" (defScope s_l_length) f cdv A outer s H E).nox (defBody s_l_length) (T_l_length K) :=
  have nd := sc_l_length.nd
  (pss_cons (ps_set (i := 2) nd rfl (by first | exact Or.inl rfl | exact Or.inr rfl) pe_int)
    (pss_cons (ps_for PassesOwn.never rfl (pi_list (pv 1)) (pg_name (i := 3) nd rfl (by first | exact Or.inl rfl | exact Or.inr rfl))
      (pss_one (ps_set (i := 2) nd rfl (by first | exact Or.inl rfl | exact Or.inr rfl) (pe_op op_plus (pv 2) (pe_op op_mul pe_int (pe_op op_sub (pe_callB (cb_maxD rfl hr.units) (by rfl) bn.max_ (by decide +kernel) (pa_cons (pe_op op_plus (pe_lst (pa_cons pe_int pa_nil)) (pe_lc (own := [("k", 4)]) (g := (gName 4)) (tt := tYes) rfl nd (pi_list (pv 3)) (blkOk_by (N := N_l_length) (sc := defScope s_l_length) (by decide +kernel)) (fun _ _ _ _ _ => (pg_name (i := 4) nd rfl (by first | exact Or.inl rfl | exact Or.inr rfl))) (fun _ _ _ _ _ => pts_nil) (fun _ _ _ _ _ => (pe_ix ix_any (pv 0) (pv 4) (fun _ _ => rfl))))) pa_nil)) (pe_callB (cb_minD rfl hr.units) (by rfl) bn.min_ (by decide +kernel) (pa_cons (pe_op op_plus (pe_lst (pa_cons pe_int pa_nil)) (pe_lc (own := [("k", 4)]) (g := (gName 4)) (tt := tYes) rfl nd (pi_list (pv 3)) (blkOk_by (N := N_l_length) (sc := defScope s_l_length) (by decide +kernel)) (fun _ _ _ _ _ => (pg_name (i := 4) nd rfl (by first | exact Or.inl rfl | exact Or.inr rfl))) (fun _ _ _ _ _ => pts_nil) (fun _ _ _ _ _ => (pe_ix ix_any (pv 0) (pv 4) (fun _ _ => rfl))))) pa_nil))))))))
    (pss_one (ps_ret (pv 2)))))
theorem ok_l_length {R : List D → (D → Prop) → Prop} (F : Fun K "_law_length" "_law_length" s_l_length f fd) (bn : Bn mg) (len : ∀ ds Z, R ds Z → ds.length = 2) (sx : ∀ ds Z, R ds Z → SX (T_l_length K) (startE N_l_length ds) { nx := fun _ => Z .none, rt := fun d _ => Z d }) :
    FnOk P w K mg base CX0 (k + 1) f fd ["places", "lots"] (spP R) := fn_pure F sc_l_length len fun cdv A outer s H E hr => ⟨_, ps_l_length bn hr, sx⟩
theorem ps_l_ways {cdv : Value} {A : Around} {outer : List PySem.Env} {s : Shared} {H : Hp} {E : XK} (bn : Bn mg) (hr : Room k (A.deeper (PyProof.Rows.envOfC "_law_ways" (defScope s_l_ways) s.heap.objs.size f cdv))) {R_l_ways : List D → (D → Prop) → Prop} {k_l_ways : Nat} (C_l_ways : Cal P w K mg base "_law_ways" ["many", "room", "lots", "k"] (spP R_l_ways) k_l_ways) (h_l_ways : k_l_ways ≤ k) :
    PSs (cxOf CX0 P w K mg base N_l_ways "_law_ways" (defScope s_l_ways) f cdv A outer s H E).nox (defBody s_l_ways) (T_l_ways K R_l_ways) :=
  have nd := sc_l_ways.nd
  (pss_cons (ps_if (pt_cmpR (op_eqP hr.units) (pv 3) (pv 0) (nomark _))
      (pss_one (ps_ret (pe_lst (pa_cons (pv 2) pa_nil))))
      pss_nil)
    (pss_cons (ps_set (i := 4) nd rfl (by first | exact Or.inl rfl | exact Or.inr rfl) (pe_lst pa_nil))
    (pss_cons (ps_for PassesOwn.never rfl (pi_range1 (by rfl) bn.range_ (pa_cons (pe_callB Pu.cb_len (by rfl) bn.len_ (by decide +kernel) (pa_cons (pv 2) pa_nil)) pa_nil)) (pg_name (i := 5) nd rfl (by first | exact Or.inl rfl | exact Or.inr rfl))
      (pss_one (ps_if (pt_cmpR op_lt (pe_callB Pu.cb_len (by rfl) bn.len_ (by decide +kernel) (pa_cons (pe_ix ix_any (pv 2) (pv 5) (fun _ _ => rfl)) pa_nil)) (pv 1) (nomark _))
      (pss_one (ps_expr (pe_bm PySem.F.plainAttrs_list PySem.F.slot_list_extend PySem.F.type_list_extend mt_extR (pv 4) (pa_cons (pe_cal C_l_ways (hr.mono h_l_ways) (by rfl) (pa_cons (pv 0) (pa_cons (pv 1) (pa_cons (pe_op op_plus (pe_op op_plus (pe_slice sl_any (pv 2) po_none (po_some (pv 5))) (pe_lst (pa_cons (pe_op op_plus (pe_ix ix_any (pv 2) (pv 5) (fun _ _ => rfl)) (pe_lst (pa_cons (pv 3) pa_nil))) pa_nil))) (pe_slice sl_any (pv 2) (po_some (pe_op op_plus (pv 5) pe_int)) po_none)) (pa_cons (pe_op op_plus (pv 3) pe_int) pa_nil))))) pa_nil))))
      pss_nil)))
    (pss_one (ps_ret (pe_op op_plus (pv 4) (pe_cal C_l_ways (hr.mono h_l_ways) (by rfl) (pa_cons (pv 0) (pa_cons (pv 1) (pa_cons (pe_op op_plus (pv 2) (pe_lst (pa_cons (pe_lst (pa_cons (pv 3) pa_nil)) pa_nil))) (pa_cons (pe_op op_plus (pv 3) pe_int) pa_nil)))))))))))
theorem ok_l_ways {R : List D → (D → Prop) → Prop} (F : Fun K "_law_ways" "_law_ways" s_l_ways f fd) (bn : Bn mg) {R_l_ways : List D → (D → Prop) → Prop} {k_l_ways : Nat} (C_l_ways : Cal P w K mg base "_law_ways" ["many", "room", "lots", "k"] (spP R_l_ways) k_l_ways) (h_l_ways : k_l_ways ≤ k) (len : ∀ ds Z, R ds Z → ds.length = 4) (sx : ∀ ds Z, R ds Z → SX (T_l_ways K R_l_ways) (startE N_l_ways ds) { nx := fun _ => Z .none, rt := fun d _ => Z d }) :
    FnOk P w K mg base CX0 (k + 1) f fd ["many", "room", "lots", "k"] (spP R) := fn_pure F sc_l_ways len fun cdv A outer s H E hr => ⟨_, ps_l_ways bn hr C_l_ways h_l_ways, sx⟩
theorem ps_l_crossed {cdv : Value} {A : Around} {outer : List PySem.Env} {s : Shared} {H : Hp} {E : XK} (bn : Bn mg) (hr : Room k (A.deeper (PyProof.Rows.envOfC "_law_crossed" (defScope s_l_crossed) s.heap.objs.size f cdv))) :
    PSs (cxOf CX0 P w K mg base N_l_crossed "_law_crossed" (defScope s_l_crossed) f cdv A outer s H E).nox (defBody s_l_crossed) (T_l_crossed K) :=
  have nd := sc_l_crossed.nd
  (pss_cons (ps_set (i := 3) nd rfl (by first | exact Or.inl rfl | exact Or.inr rfl) (pe_ifExp (pt_cmpR op_ge (pv 2) pe_int (nomark _)) (pe_callB Pu.cb_len (by rfl) bn.len_ (by decide +kernel) (pa_cons (pe_lc (own := [("one", 4)]) (g := (gName 4)) (tt := (tTest (tOp (rI0 fun i j => .bl (decide (j < i))) (tVar 4) (tVar 2)))) rfl nd (pi_list (pv 0)) (blkOk_by (N := N_l_crossed) (sc := defScope s_l_crossed) (by decide +kernel)) (fun _ _ _ _ _ => (pg_name (i := 4) nd rfl (by first | exact Or.inl rfl | exact Or.inr rfl))) (fun _ _ _ _ _ => (pts_one (pt_cmpR op_gt (pv 4) (pv 2) (nomark _)))) (fun _ _ _ _ _ => (pv 4))) pa_nil)) (pe_callB Pu.cb_len (by rfl) bn.len_ (by decide +kernel) (pa_cons (pe_lc (own := [("one", 4)]) (g := (gName 4)) (tt := (tTest (tOp (rI0 fun i j => .bl (decide (i ≤ j))) (tVar 4) (tVar 2)))) rfl nd (pi_list (pv 0)) (blkOk_by (N := N_l_crossed) (sc := defScope s_l_crossed) (by decide +kernel)) (fun _ _ _ _ _ => (pg_name (i := 4) nd rfl (by first | exact Or.inl rfl | exact Or.inr rfl))) (fun _ _ _ _ _ => (pts_one (pt_cmpR op_le (pv 4) (pv 2) (nomark _)))) (fun _ _ _ _ _ => (pv 4))) pa_nil))))
    (pss_one (ps_ret (pe_op op_fdiv (pe_op op_sub (pe_op op_plus (pv 3) (pv 1)) pe_int) (pv 1)))))
theorem ok_l_crossed {R : List D → (D → Prop) → Prop} (F : Fun K "_law_crossed" "_law_crossed" s_l_crossed f fd) (bn : Bn mg) (len : ∀ ds Z, R ds Z → ds.length = 3) (sx : ∀ ds Z, R ds Z → SX (T_l_crossed K) (startE N_l_crossed ds) { nx := fun _ => Z .none, rt := fun d _ => Z d }) :
    FnOk P w K mg base CX0 (k + 1) f fd ["places", "room", "spot"] (spP R) := fn_pure F sc_l_crossed len fun cdv A outer s H E hr => ⟨_, ps_l_crossed bn hr, sx⟩
theorem ps_l_least {cdv : Value} {A : Around} {outer : List PySem.Env} {s : Shared} {H : Hp} {E : XK} (bn : Bn mg) (hr : Room k (A.deeper (PyProof.Rows.envOfC "_law_least" (defScope s_l_least) s.heap.objs.size f cdv))) {R_l_crossed : List D → (D → Prop) → Prop} {k_l_crossed : Nat} (C_l_crossed : Cal P w K mg base "_law_crossed" ["places", "room", "spot"] (spP R_l_crossed) k_l_crossed) (h_l_crossed : k_l_crossed ≤ k) :
    PSs (cxOf CX0 P w K mg base N_l_least "_law_least" (defScope s_l_least) f cdv A outer s H E).nox (defBody s_l_least) (T_l_least K R_l_crossed) :=
  have nd := sc_l_least.nd
  (pss_cons (ps_set (i := 2) nd rfl (by first | exact Or.inl rfl | exact Or.inr rfl) (pe_listRg rfl (by rfl) bn.list_ (prg_2 (by rfl) bn.range_ (pe_callB (cb_minD rfl hr.units) (by rfl) bn.min_ (by decide +kernel) (pa_cons (pe_op op_plus (pv 0) (pe_lst (pa_cons pe_int pa_nil))) pa_nil)) (pe_callB (cb_maxD rfl hr.units) (by rfl) bn.max_ (by decide +kernel) (pa_cons (pe_op op_plus (pv 0) (pe_lst (pa_cons pe_int pa_nil))) pa_nil)))))
    (pss_one (ps_ret (pe_op op_mul pe_int (pe_callB (cr_sum rfl) (by rfl) bn.sum_ (by decide +kernel) (pa_cons (pe_lc (own := [("spot", 3)]) (g := (gName 3)) (tt := tYes) rfl nd (pi_list (pv 2)) (blkOk_by (N := N_l_least) (sc := defScope s_l_least) (by decide +kernel)) (fun _ _ _ _ _ => (pg_name (i := 3) nd rfl (by first | exact Or.inl rfl | exact Or.inr rfl))) (fun _ _ _ _ _ => pts_nil) (fun _ _ _ _ _ => (pe_cal C_l_crossed (hr.mono h_l_crossed) (by rfl) (pa_cons (pv 0) (pa_cons (pv 1) (pa_cons (pv 3) pa_nil)))))) pa_nil))))))
theorem ok_l_least {R : List D → (D → Prop) → Prop} (F : Fun K "_law_least" "_law_least" s_l_least f fd) (bn : Bn mg) {R_l_crossed : List D → (D → Prop) → Prop} {k_l_crossed : Nat} (C_l_crossed : Cal P w K mg base "_law_crossed" ["places", "room", "spot"] (spP R_l_crossed) k_l_crossed) (h_l_crossed : k_l_crossed ≤ k) (len : ∀ ds Z, R ds Z → ds.length = 2) (sx : ∀ ds Z, R ds Z → SX (T_l_least K R_l_crossed) (startE N_l_least ds) { nx := fun _ => Z .none, rt := fun d _ => Z d }) :
    FnOk P w K mg base CX0 (k + 1) f fd ["places", "room"] (spP R) := fn_pure F sc_l_least len fun cdv A outer s H E hr => ⟨_, ps_l_least bn hr C_l_crossed h_l_crossed, sx⟩
theorem ps_l_fault {cdv : Value} {A : Around} {outer : List PySem.Env} {s : Shared} {H : Hp} {E : XK} (bn : Bn mg) (hr : Room k (A.deeper (PyProof.Rows.envOfC "_law_fault" (defScope s_l_fault) s.heap.objs.size f cdv))) {R_l_length : List D → (D → Prop) → Prop} {k_l_length : Nat} (C_l_length : Cal P w K mg base "_law_length" ["places", "lots"] (spP R_l_length) k_l_length) (h_l_length : k_l_length ≤ k) {R_l_least : List D → (D → Prop) → Prop} {k_l_least : Nat} (C_l_least : Cal P w K mg base "_law_least" ["places", "room"] (spP R_l_least) k_l_least) (h_l_least : k_l_least ≤ k) :
    PSs (cxOf CX0 P w K mg base N_l_fault "_law_fault" (defScope s_l_fault) f cdv A outer s H E).nox (defBody s_l_fault) (T_l_fault K R_l_length R_l_least) :=
  have nd := sc_l_fault.nd
  (pss_cons (ps_asg (pv 2) (pg_tup (n := 2) rfl (pgs_cons (pg_name (i := 3) nd rfl (by first | exact Or.inl rfl | exact Or.inr rfl)) (pgs_cons (pg_name (i := 4) nd rfl (by first | exact Or.inl rfl | exact Or.inr rfl)) pgs_nil))))
    (pss_cons (ps_set (i := 5) nd rfl (by first | exact Or.inl rfl | exact Or.inr rfl) (pe_lst pa_nil))
    (pss_cons (ps_for PassesOwn.never rfl (pi_list (pv 3)) (pg_name (i := 6) nd rfl (by first | exact Or.inl rfl | exact Or.inr rfl))
      (pss_one (ps_expr (pe_bm PySem.F.plainAttrs_list PySem.F.slot_list_extend PySem.F.type_list_extend mt_extR (pv 5) (pa_cons (pv 6) pa_nil)))))
    (pss_cons (ps_if (pt_cmpR (op_neP hr.units) (pe_callB (cb_sortD hr.units) (by rfl) bn.sorted_ (by decide +kernel) (pa_cons (pv 5) pa_nil)) (pe_listRg rfl (by rfl) bn.list_ (prg_1 (by rfl) bn.range_ (pe_callB Pu.cb_len (by rfl) bn.len_ (by decide +kernel) (pa_cons (pv 0) pa_nil)))) (nomark _))
      (pss_one (ps_ret (pe_tup (pa_cons pe_str pa_nil))))
      pss_nil)
    (pss_cons (ps_for PassesOwn.never rfl (pi_range1 (by rfl) bn.range_ (pa_cons (pe_callB Pu.cb_len (by rfl) bn.len_ (by decide +kernel) (pa_cons (pv 3) pa_nil)) pa_nil)) (pg_name (i := 7) nd rfl (by first | exact Or.inl rfl | exact Or.inr rfl))
      (pss_one (ps_if (pt_not (pt_chain op_lt op_le pe_int (pe_callB Pu.cb_len (by rfl) bn.len_ (by decide +kernel) (pa_cons (pe_ix ix_any (pv 3) (pv 7) (fun _ _ => rfl)) pa_nil)) (pv 1)))
      (pss_one (ps_ret (pe_tup (pa_cons pe_str (pa_cons (pv 7) pa_nil)))))
      pss_nil)))
    (pss_cons (ps_if (pt_cmpR (op_neP hr.units) (pe_cal C_l_length (hr.mono h_l_length) (by rfl) (pa_cons (pv 0) (pa_cons (pv 3) pa_nil))) (pv 4) (nomark _))
      (pss_one (ps_ret (pe_tup (pa_cons pe_str pa_nil))))
      pss_nil)
    (pss_one (ps_ret (pe_ifExp (pt_cmpR op_le (pv 4) (pe_cal C_l_least (hr.mono h_l_least) (by rfl) (pa_cons (pv 0) (pa_cons (pv 1) pa_nil))) (nomark _)) pe_non (pe_tup (pa_cons pe_str pa_nil)))))))))))
theorem ok_l_fault {R : List D → (D → Prop) → Prop} (F : Fun K "_law_fault" "_law_fault" s_l_fault f fd) (bn : Bn mg) {R_l_length : List D → (D → Prop) → Prop} {k_l_length : Nat} (C_l_length : Cal P w K mg base "_law_length" ["places", "lots"] (spP R_l_length) k_l_length) (h_l_length : k_l_length ≤ k) {R_l_least : List D → (D → Prop) → Prop} {k_l_least : Nat} (C_l_least : Cal P w K mg base "_law_least" ["places", "room"] (spP R_l_least) k_l_least) (h_l_least : k_l_least ≤ k) (len : ∀ ds Z, R ds Z → ds.length = 3) (sx : ∀ ds Z, R ds Z → SX (T_l_fault K R_l_length R_l_least) (startE N_l_fault ds) { nx := fun _ => Z .none, rt := fun d _ => Z d }) :
    FnOk P w K mg base CX0 (k + 1) f fd ["places", "room", "told"] (spP R) := fn_pure F sc_l_fault len fun cdv A outer s H E hr => ⟨_, ps_l_fault bn hr C_l_length h_l_length C_l_least h_l_least, sx⟩
theorem ps_law {cdv : Value} {A : Around} {outer : List PySem.Env} {s : Shared} {H : Hp} {E : XK} (bn : Bn mg) (hr : Room k (A.deeper (PyProof.Rows.envOfC "law" (defScope s_law) s.heap.objs.size f cdv))) {R_l_state : List D → (Stt → Prop) → Prop} {k_l_state : Nat} (C_l_state : Cal P w K mg base "_law_state" ["script"] (spN R_l_state) k_l_state) (h_l_state : k_l_state ≤ k) {R_trips : List D → (D → Prop) → Prop} {k_trips : Nat} (C_trips : Cal P w K mg base "trips" ["places", "room"] (spP R_trips) k_trips) (h_trips : k_trips ≤ k) {R_l_ways : List D → (D → Prop) → Prop} {k_l_ways : Nat} (C_l_ways : Cal P w K mg base "_law_ways" ["many", "room", "lots", "k"] (spP R_l_ways) k_l_ways) (h_l_ways : k_l_ways ≤ k) {R_l_take : Stt → List D → (D → Stt → Prop) → Prop} {k_l_take : Nat} (C_l_take : Cal P w K mg base "_law_take" ["state", "most"] (spS R_l_take) k_l_take) (h_l_take : k_l_take ≤ k) {R_best_gate : List D → (D → Prop) → Prop} {k_best_gate : Nat} (C_best_gate : Cal P w K mg base "best_gate" ["places", "room"] (spP R_best_gate) k_best_gate) (h_best_gate : k_best_gate ≤ k) {R_l_length : List D → (D → Prop) → Prop} {k_l_length : Nat} (C_l_length : Cal P w K mg base "_law_length" ["places", "lots"] (spP R_l_length) k_l_length) (h_l_length : k_l_length ≤ k) {R_least_length : List D → (D → Prop) → Prop} {k_least_length : Nat} (C_least_length : Cal P w K mg base "least_length" ["places", "room"] (spP R_least_length) k_least_length) (h_least_length : k_least_length ≤ k) {R_l_least : List D → (D → Prop) → Prop} {k_l_least : Nat} (C_l_least : Cal P w K mg base "_law_least" ["places", "room"] (spP R_l_least) k_l_least) (h_l_least : k_l_least ≤ k) {R_l_fault : List D → (D → Prop) → Prop} {k_l_fault : Nat} (C_l_fault : Cal P w K mg base "_law_fault" ["places", "room", "told"] (spP R_l_fault) k_l_fault) (h_l_fault : k_l_fault ≤ k) {R_trips_fault : List D → (D → Prop) → Prop} {k_trips_fault : Nat} (C_trips_fault : Cal P w K mg base "trips_fault" ["places", "room", "told"] (spP R_trips_fault) k_trips_fault) (h_trips_fault : k_trips_fault ≤ k) {R_length_of : List D → (D → Prop) → Prop} {k_length_of : Nat} (C_length_of : Cal P w K mg base "length_of" ["places", "lots"] (spP R_length_of) k_length_of) (h_length_of : k_length_of ≤ k) {R_crossed : List D → (D → Prop) → Prop} {k_crossed : Nat} (C_crossed : Cal P w K mg base "crossed" ["places", "room", "spot"] (spP R_crossed) k_crossed) (h_crossed : k_crossed ≤ k) {R_l_crossed : List D → (D → Prop) → Prop} {k_l_crossed : Nat} (C_l_crossed : Cal P w K mg base "_law_crossed" ["places", "room", "spot"] (spP R_l_crossed) k_l_crossed) (h_l_crossed : k_l_crossed ≤ k) {R_carts_needed : List D → (D → Prop) → Prop} {k_carts_needed : Nat} (C_carts_needed : Cal P w K mg base "carts_needed" ["places", "room", "most"] (spP R_carts_needed) k_carts_needed) (h_carts_needed : k_carts_needed ≤ k) :
    PSs (cxOf CX0 P w K mg base N_law "law" (defScope s_law) f cdv A outer s H E).nox (defBody s_law) (T_law K R_l_state R_trips R_l_ways R_l_take R_best_gate R_l_length R_least_length R_l_least R_l_fault R_trips_fault R_length_of R_crossed R_l_crossed R_carts_needed) :=
  have nd := sc_law.nd
  (pss_cons (ps_set (i := 1) nd rfl (by first | exact Or.inl rfl | exact Or.inr rfl) (pe_cal C_l_state (hr.mono h_l_state) (by rfl) (pa_cons (pv 0) pa_nil)))
    (pss_cons (ps_set (i := 2) nd rfl (by first | exact Or.inl rfl | exact Or.inr rfl) (pe_ix ix_any (pe_lst (pa_cons pe_int (pa_cons pe_int pa_nil))) (pe_cal C_l_take (hr.mono h_l_take) (by rfl) (pa_cons (pv 1) (pa_cons pe_int pa_nil))) (fun _ _ => rfl)))
    (pss_cons (ps_set (i := 3) nd rfl (by first | exact Or.inl rfl | exact Or.inr rfl) (pe_lc (own := [("k", 4)]) (g := (gName 4)) (tt := tYes) rfl nd (pi_range1 (by rfl) bn.range_ (pa_cons (pe_cal C_l_take (hr.mono h_l_take) (by rfl) (pa_cons (pv 1) (pa_cons pe_int pa_nil))) pa_nil)) (blkOk_by (N := N_law) (sc := defScope s_law) (by decide +kernel)) (fun _ _ _ _ _ => (pg_name (i := 4) nd rfl (by first | exact Or.inl rfl | exact Or.inr rfl))) (fun _ _ _ _ _ => pts_nil) (fun _ _ _ _ _ => (pe_op op_sub (pe_cal C_l_take (hr.mono h_l_take) (by rfl) (pa_cons (pv 1) (pa_cons (pe_op op_plus (pe_op op_mul pe_int (pv 2)) pe_int) pa_nil))) (pv 2)))))
    (pss_cons (ps_set (i := 5) nd rfl (by first | exact Or.inl rfl | exact Or.inr rfl) (pe_op op_plus pe_int (pe_cal C_l_take (hr.mono h_l_take) (by rfl) (pa_cons (pv 1) (pa_cons pe_int pa_nil)))))
    (pss_cons (ps_set (i := 6) nd rfl (by first | exact Or.inl rfl | exact Or.inr rfl) (pe_callTy cb_list (by rfl) bn.list_ (by decide +kernel) (pa_cons (pv 3) pa_nil)))
    (pss_cons (ps_set (i := 7) nd rfl (by first | exact Or.inl rfl | exact Or.inr rfl) (pe_cal C_trips (hr.mono h_trips) (by rfl) (pa_cons (pv 3) (pa_cons (pv 5) pa_nil))))
    (pss_cons (ps_set (i := 8) nd rfl (by first | exact Or.inl rfl | exact Or.inr rfl) (pe_cal C_l_ways (hr.mono h_l_ways) (by rfl) (pa_cons (pe_callB Pu.cb_len (by rfl) bn.len_ (by decide +kernel) (pa_cons (pv 3) pa_nil)) (pa_cons (pv 5) (pa_cons (pe_lst pa_nil) (pa_cons pe_int pa_nil))))))
    (pss_cons (ps_set (i := 9) nd rfl (by first | exact Or.inl rfl | exact Or.inr rfl) (pe_callB (cb_minD rfl hr.units) (by rfl) bn.min_ (by decide +kernel) (pa_cons (pe_lc (own := [("lots", 10)]) (g := (gName 10)) (tt := tYes) rfl nd (pi_list (pv 8)) (blkOk_by (N := N_law) (sc := defScope s_law) (by decide +kernel)) (fun _ _ _ _ _ => (pg_name (i := 10) nd rfl (by first | exact Or.inl rfl | exact Or.inr rfl))) (fun _ _ _ _ _ => pts_nil) (fun _ _ _ _ _ => (pe_cal C_l_length (hr.mono h_l_length) (by rfl) (pa_cons (pv 3) (pa_cons (pv 10) pa_nil))))) pa_nil)))
    (pss_cons (ps_if (PW.pt (pw_or (pt_not (pt_val (pe_callB RZ.call_isTy (by rfl) bn.isinstance_ (by decide +kernel) (pa_cons (pv 7) (pa_cons (pe_bltn (v := .ty "tuple") (u := .type "tuple") (by rfl) bn.tuple_ (by decide +kernel) rfl) pa_nil))))) (pw_or (pt_cmpR (op_neP hr.units) (pe_ix ix_any (pv 7) pe_int (fun _ _ => rfl)) (pv 9) (nomark _)) (pw_or (pt_cmpR (op_neP hr.units) (pe_cal C_least_length (hr.mono h_least_length) (by rfl) (pa_cons (pv 3) (pa_cons (pv 5) pa_nil))) (pv 9) (nomark _)) (pw_or1 (pt_cmpR (op_neP hr.units) (pe_cal C_l_least (hr.mono h_l_least) (by rfl) (pa_cons (pv 3) (pa_cons (pv 5) pa_nil))) (pv 9) (nomark _)))))))
      (pss_one (ps_ret pe_bl))
      pss_nil)
    (pss_cons (ps_if (PW.pt (pw_or (pt_cmpR op_isnt (pe_cal C_l_fault (hr.mono h_l_fault) (by rfl) (pa_cons (pv 3) (pa_cons (pv 5) (pa_cons (pv 7) pa_nil)))) pe_non (nomark _)) (pw_or (pt_cmpR op_isnt (pe_cal C_trips_fault (hr.mono h_trips_fault) (by rfl) (pa_cons (pv 3) (pa_cons (pv 5) (pa_cons (pv 7) pa_nil)))) pe_non (nomark _)) (pw_or1 (pt_cmpR (op_neP hr.units) (pe_cal C_length_of (hr.mono h_length_of) (by rfl) (pa_cons (pv 3) (pa_cons (pe_ix ix_any (pv 7) pe_int (fun _ _ => rfl)) pa_nil))) (pv 9) (nomark _))))))
      (pss_one (ps_ret pe_bl))
      pss_nil)
    (pss_cons (ps_for PassesOwn.never rfl (pi_range2 (by rfl) bn.range_ (pa_cons (pe_op op_sub pe_int (pv 2)) (pa_cons (pv 2) pa_nil))) (pg_name (i := 11) nd rfl (by first | exact Or.inl rfl | exact Or.inr rfl))
      (pss_one (ps_if (pt_cmpR (op_neP hr.units) (pe_cal C_crossed (hr.mono h_crossed) (by rfl) (pa_cons (pv 3) (pa_cons (pv 5) (pa_cons (pv 11) pa_nil)))) (pe_cal C_l_crossed (hr.mono h_l_crossed) (by rfl) (pa_cons (pv 3) (pa_cons (pv 5) (pa_cons (pv 11) pa_nil)))) (nomark _))
      (pss_one (ps_ret pe_bl))
      pss_nil)))
    (pss_cons (ps_for PassesOwn.never rfl (pi_list (pe_slice sl_any (pv 8) po_none (po_some pe_int))) (pg_name (i := 10) nd rfl (by first | exact Or.inl rfl | exact Or.inr rfl))
      (pss_cons (ps_set (i := 12) nd rfl (by first | exact Or.inl rfl | exact Or.inr rfl) (pe_tup (pa_cons (pv 10) (pa_cons (pe_cal C_l_length (hr.mono h_l_length) (by rfl) (pa_cons (pv 3) (pa_cons (pv 10) pa_nil))) pa_nil))))
    (pss_one (ps_if (pt_cmpR (op_neP hr.units) (pe_cal C_trips_fault (hr.mono h_trips_fault) (by rfl) (pa_cons (pv 3) (pa_cons (pv 5) (pa_cons (pv 12) pa_nil)))) (pe_ifExp (pt_cmpR (op_eqP hr.units) (pe_ix ix_any (pv 12) pe_int (fun _ _ => rfl)) (pv 9) (nomark _)) pe_non (pe_tup (pa_cons pe_str pa_nil))) (nomark _))
      (pss_one (ps_ret pe_bl))
      pss_nil))))
    (pss_cons (ps_for PassesOwn.never rfl (pi_range1 (by rfl) bn.range_ (pa_cons pe_int pa_nil)) (pg_name (i := 4) nd rfl (by first | exact Or.inl rfl | exact Or.inr rfl))
      (pss_cons (ps_par (i := 10) (j := 13) rfl nd rfl rfl (by decide) rfl rfl (pa_cons (pe_lc (own := [("lot", 14)]) (g := (gName 14)) (tt := tYes) rfl nd (pi_list (pe_ix ix_any (pv 7) pe_int (fun _ _ => rfl))) (blkOk_by (N := N_law) (sc := defScope s_law) (by decide +kernel)) (fun _ _ _ _ _ => (pg_name (i := 14) nd rfl (by first | exact Or.inl rfl | exact Or.inr rfl))) (fun _ _ _ _ _ => pts_nil) (fun _ _ _ _ _ => (pe_callTy cb_list (by rfl) bn.list_ (by decide +kernel) (pa_cons (pv 14) pa_nil)))) (pa_cons (pe_ix ix_any (pv 7) pe_int (fun _ _ => rfl)) pa_nil)) (by rfl))
    (pss_cons (ps_set (i := 15) nd rfl (by first | exact Or.inl rfl | exact Or.inr rfl) (pe_cal C_l_take (hr.mono h_l_take) (by rfl) (pa_cons (pv 1) (pa_cons pe_int pa_nil))))
    (pss_cons (ps_set (i := 16) nd rfl (by first | exact Or.inl rfl | exact Or.inr rfl) (pe_cal C_l_take (hr.mono h_l_take) (by rfl) (pa_cons (pv 1) (pa_cons (pe_callB (cb_max2 rfl) (by rfl) bn.max_ (by decide +kernel) (pa_cons pe_int (pa_cons (pe_callB Pu.cb_len (by rfl) bn.len_ (by decide +kernel) (pa_cons (pv 10) pa_nil)) pa_nil))) pa_nil))))
    (pss_cons (ps_if (PW.pt (pw_and (pt_cmpR (op_eqP hr.units) (pv 15) pe_int (nomark _)) (pw_and1 (pt_cmpR op_gt (pe_callB Pu.cb_len (by rfl) bn.len_ (by decide +kernel) (pa_cons (pv 10) pa_nil)) pe_int (nomark _)))))
      (pss_one (ps_asg (pe_slice sl_any (pe_ix ix_any (pv 10) (pv 16) (fun _ _ => rfl)) (po_some pe_int) po_none) (pg_sub (pv 10) (pv 16) set_list)))
      (pss_one (ps_if (PW.pt (pw_and (pt_cmpR (op_eqP hr.units) (pv 15) pe_int (nomark _)) (pw_and1 (pt_cmpR op_gt (pe_callB Pu.cb_len (by rfl) bn.len_ (by decide +kernel) (pa_cons (pv 10) pa_nil)) pe_int (nomark _)))))
      (pss_one (ps_set (i := 10) nd rfl (by first | exact Or.inl rfl | exact Or.inr rfl) (pe_op op_plus (pe_slice sl_any (pv 10) (po_some pe_int) (po_some (pe_un un_neg pe_int))) (pe_lst (pa_cons (pe_op op_plus (pe_ix ix_any (pv 10) pe_int (fun _ _ => rfl)) (pe_ix ix_any (pv 10) (pe_un un_neg pe_int) (fun _ _ => rfl))) pa_nil)))))
      (pss_one (ps_if (PW.pt (pw_and (pt_cmpR (op_eqP hr.units) (pv 15) pe_int (nomark _)) (pw_and1 (pt_cmpR op_gt (pe_callB Pu.cb_len (by rfl) bn.len_ (by decide +kernel) (pa_cons (pv 10) pa_nil)) pe_int (nomark _)))))
      (pss_one (ps_set (i := 10) nd rfl (by first | exact Or.inl rfl | exact Or.inr rfl) (pe_op op_plus (pv 10) (pe_lst (pa_cons (pe_lst (pa_cons (pe_ix ix_any (pe_ix ix_any (pv 10) (pv 16) (fun _ _ => rfl)) pe_int (fun _ _ => rfl)) pa_nil)) pa_nil)))))
      (pss_one (ps_set (i := 13) nd rfl (by first | exact Or.inl rfl | exact Or.inr rfl) (pe_op op_plus (pv 13) (pe_ix ix_any (pe_lst (pa_cons pe_int (pa_cons (pe_op op_sub pe_int pe_int) pa_nil))) (pe_cal C_l_take (hr.mono h_l_take) (by rfl) (pa_cons (pv 1) (pa_cons pe_int pa_nil))) (fun _ _ => rfl))))))))))
    (pss_one (ps_if (pt_cmpR (op_neP hr.units) (pe_cal C_trips_fault (hr.mono h_trips_fault) (by rfl) (pa_cons (pv 3) (pa_cons (pv 5) (pa_cons (pe_tup (pa_cons (pv 10) (pa_cons (pv 13) pa_nil))) pa_nil)))) (pe_cal C_l_fault (hr.mono h_l_fault) (by rfl) (pa_cons (pv 3) (pa_cons (pv 5) (pa_cons (pe_tup (pa_cons (pv 10) (pa_cons (pv 13) pa_nil))) pa_nil)))) (nomark _))
      (pss_one (ps_ret pe_bl))
      pss_nil)))))))
    (pss_cons (ps_setLc (i := 17) (own := [("gate", 19)]) (g := (gName 19)) (tt := tYes) rfl nd rfl rfl (sw_true rfl rfl rfl (by decide +kernel)) (pi_list (pv 3)) (blkOk_by (N := N_law) (sc := defScope s_law) (by decide +kernel)) (fun _ _ _ _ _ => (pg_name (i := 19) nd rfl (by first | exact Or.inl rfl | exact Or.inr rfl))) (fun _ _ _ _ _ => pts_nil) (fun _ _ _ _ _ => (pe_tup (pa_cons (pe_cal C_l_least (hr.mono h_l_least) (by rfl) (pa_cons (pe_lc (own := [("one", 18)]) (g := (gName 18)) (tt := tYes) rfl nd (pi_list (pv 3)) (blkOk_by (by with_unfolding_all rfl)) (fun _ _ _ _ _ => (pg_name (i := 18) nd rfl (by first | exact Or.inl rfl | exact Or.inr rfl))) (fun _ _ _ _ _ => pts_nil) (fun _ _ _ _ _ => (pe_op op_sub (pv 18) (pv 19)))) (pa_cons (pv 5) pa_nil))) (pa_cons (pv 19) pa_nil)))))
    (pss_cons (ps_if (pt_cmpR (op_neP hr.units) (pe_cal C_best_gate (hr.mono h_best_gate) (by rfl) (pa_cons (pv 3) (pa_cons (pv 5) pa_nil))) (pe_ifExp (pt_cmpR op_gt (pe_callB Pu.cb_len (by rfl) bn.len_ (by decide +kernel) (pa_cons (pv 17) pa_nil)) pe_int (nomark _)) (pe_tup (pa_cons (pe_ix ix_any (pe_callB (cb_minD rfl hr.units) (by rfl) bn.min_ (by decide +kernel) (pa_cons (pv 17) pa_nil)) pe_int (fun _ _ => rfl)) (pa_cons (pe_ix ix_any (pe_callB (cb_minD rfl hr.units) (by rfl) bn.min_ (by decide +kernel) (pa_cons (pv 17) pa_nil)) pe_int (fun _ _ => rfl)) pa_nil))) pe_non) (nomark _))
      (pss_one (ps_ret pe_bl))
      pss_nil)
    (pss_cons (ps_set (i := 20) nd rfl (by first | exact Or.inl rfl | exact Or.inr rfl) (pe_op op_plus pe_int (pe_cal C_l_take (hr.mono h_l_take) (by rfl) (pa_cons (pv 1) (pa_cons pe_int pa_nil)))))
    (pss_cons (ps_set (i := 21) nd rfl (by first | exact Or.inl rfl | exact Or.inr rfl) (pe_revL (pe_callB (cb_sortD hr.units) (by rfl) bn.sorted_ (by decide +kernel) (pa_cons (pe_lc (own := [("lot", 14)]) (g := (gName 14)) (tt := tYes) rfl nd (pi_list (pe_ix ix_any (pv 7) pe_int (fun _ _ => rfl))) (blkOk_by (N := N_law) (sc := defScope s_law) (by decide +kernel)) (fun _ _ _ _ _ => (pg_name (i := 14) nd rfl (by first | exact Or.inl rfl | exact Or.inr rfl))) (fun _ _ _ _ _ => pts_nil) (fun _ _ _ _ _ => (pe_cal C_l_length (hr.mono h_l_length) (by rfl) (pa_cons (pv 3) (pa_cons (pe_lst (pa_cons (pv 14) pa_nil)) pa_nil))))) pa_nil))))
    (pss_cons (ps_set (i := 22) nd rfl (by first | exact Or.inl rfl | exact Or.inr rfl) (pe_lst pa_nil))
    (pss_cons (ps_for PassesOwn.never rfl (pi_list (pv 21)) (pg_name (i := 23) nd rfl (by first | exact Or.inl rfl | exact Or.inr rfl))
      (pss_cons (ps_set (i := 24) nd rfl (by first | exact Or.inl rfl | exact Or.inr rfl) (pe_lc (own := [("k", 4)]) (g := (gName 4)) (tt := (tTest (tOp (rI0 fun i j => .bl (decide (i ≤ j))) (tOp (rPlus K) (tOp (rIxA K) (tVar 22) (tVar 4)) (tVar 23)) (tVar 20)))) rfl nd (pi_range1 (by rfl) bn.range_ (pa_cons (pe_callB Pu.cb_len (by rfl) bn.len_ (by decide +kernel) (pa_cons (pv 22) pa_nil)) pa_nil)) (blkOk_by (N := N_law) (sc := defScope s_law) (by decide +kernel)) (fun _ _ _ _ _ => (pg_name (i := 4) nd rfl (by first | exact Or.inl rfl | exact Or.inr rfl))) (fun _ _ _ _ _ => (pts_one (pt_cmpR op_le (pe_op op_plus (pe_ix ix_any (pv 22) (pv 4) (fun _ _ => rfl)) (pv 23)) (pv 20) (nomark _)))) (fun _ _ _ _ _ => (pv 4))))
    (pss_one (ps_set (i := 22) nd rfl (by first | exact Or.inl rfl | exact Or.inr rfl) (pe_op op_plus (pe_lc (own := [("k", 4)]) (g := (gName 4)) (tt := tYes) rfl nd (pi_range1 (by rfl) bn.range_ (pa_cons (pe_callB Pu.cb_len (by rfl) bn.len_ (by decide +kernel) (pa_cons (pv 22) pa_nil)) pa_nil)) (blkOk_by (N := N_law) (sc := defScope s_law) (by decide +kernel)) (fun _ _ _ _ _ => (pg_name (i := 4) nd rfl (by first | exact Or.inl rfl | exact Or.inr rfl))) (fun _ _ _ _ _ => pts_nil) (fun _ _ _ _ _ => (pe_op op_plus (pe_ix ix_any (pv 22) (pv 4) (fun _ _ => rfl)) (pe_ifExp (PW.pt (pw_and (pt_cmpR op_gt (pe_callB Pu.cb_len (by rfl) bn.len_ (by decide +kernel) (pa_cons (pv 24) pa_nil)) pe_int (nomark _)) (pw_and1 (pt_cmpR (op_eqP hr.units) (pv 4) (pe_ix ix_any (pv 24) pe_int (fun _ _ => rfl)) (nomark _))))) (pv 23) pe_int)))) (pe_ifExp (pt_cmpR (op_eqP hr.units) (pe_callB Pu.cb_len (by rfl) bn.len_ (by decide +kernel) (pa_cons (pv 24) pa_nil)) pe_int (nomark _)) (pe_lst (pa_cons (pv 23) pa_nil)) (pe_lst pa_nil)))))))
    (pss_one (ps_ret (pe_and (pe_cmpR (op_eqP hr.units) (pe_cal C_carts_needed (hr.mono h_carts_needed) (by rfl) (pa_cons (pv 3) (pa_cons (pv 5) (pa_cons (pv 20) pa_nil)))) (pe_ifExp (PW.pt (pw_and (pt_cmpR op_gt (pe_callB Pu.cb_len (by rfl) bn.len_ (by decide +kernel) (pa_cons (pv 21) pa_nil)) pe_int (nomark _)) (pw_and1 (pt_cmpR op_gt (pe_ix ix_any (pv 21) pe_int (fun _ _ => rfl)) (pv 20) (nomark _))))) pe_non (pe_callB Pu.cb_len (by rfl) bn.len_ (by decide +kernel) (pa_cons (pv 22) pa_nil))) (nomark _)) (pe_one (pe_cmpR (op_eqP hr.units) (pv 3) (pv 6) (nomark _)))))))))))))))))))))))))
theorem ok_law {R : List D → (D → Prop) → Prop} (F : Fun K "law" "law" s_law f fd) (bn : Bn mg) {R_l_state : List D → (Stt → Prop) → Prop} {k_l_state : Nat} (C_l_state : Cal P w K mg base "_law_state" ["script"] (spN R_l_state) k_l_state) (h_l_state : k_l_state ≤ k) {R_trips : List D → (D → Prop) → Prop} {k_trips : Nat} (C_trips : Cal P w K mg base "trips" ["places", "room"] (spP R_trips) k_trips) (h_trips : k_trips ≤ k) {R_l_ways : List D → (D → Prop) → Prop} {k_l_ways : Nat} (C_l_ways : Cal P w K mg base "_law_ways" ["many", "room", "lots", "k"] (spP R_l_ways) k_l_ways) (h_l_ways : k_l_ways ≤ k) {R_l_take : Stt → List D → (D → Stt → Prop) → Prop} {k_l_take : Nat} (C_l_take : Cal P w K mg base "_law_take" ["state", "most"] (spS R_l_take) k_l_take) (h_l_take : k_l_take ≤ k) {R_best_gate : List D → (D → Prop) → Prop} {k_best_gate : Nat} (C_best_gate : Cal P w K mg base "best_gate" ["places", "room"] (spP R_best_gate) k_best_gate) (h_best_gate : k_best_gate ≤ k) {R_l_length : List D → (D → Prop) → Prop} {k_l_length : Nat} (C_l_length : Cal P w K mg base "_law_length" ["places", "lots"] (spP R_l_length) k_l_length) (h_l_length : k_l_length ≤ k) {R_least_length : List D → (D → Prop) → Prop} {k_least_length : Nat} (C_least_length : Cal P w K mg base "least_length" ["places", "room"] (spP R_least_length) k_least_length) (h_least_length : k_least_length ≤ k) {R_l_least : List D → (D → Prop) → Prop} {k_l_least : Nat} (C_l_least : Cal P w K mg base "_law_least" ["places", "room"] (spP R_l_least) k_l_least) (h_l_least : k_l_least ≤ k) {R_l_fault : List D → (D → Prop) → Prop} {k_l_fault : Nat} (C_l_fault : Cal P w K mg base "_law_fault" ["places", "room", "told"] (spP R_l_fault) k_l_fault) (h_l_fault : k_l_fault ≤ k) {R_trips_fault : List D → (D → Prop) → Prop} {k_trips_fault : Nat} (C_trips_fault : Cal P w K mg base "trips_fault" ["places", "room", "told"] (spP R_trips_fault) k_trips_fault) (h_trips_fault : k_trips_fault ≤ k) {R_length_of : List D → (D → Prop) → Prop} {k_length_of : Nat} (C_length_of : Cal P w K mg base "length_of" ["places", "lots"] (spP R_length_of) k_length_of) (h_length_of : k_length_of ≤ k) {R_crossed : List D → (D → Prop) → Prop} {k_crossed : Nat} (C_crossed : Cal P w K mg base "crossed" ["places", "room", "spot"] (spP R_crossed) k_crossed) (h_crossed : k_crossed ≤ k) {R_l_crossed : List D → (D → Prop) → Prop} {k_l_crossed : Nat} (C_l_crossed : Cal P w K mg base "_law_crossed" ["places", "room", "spot"] (spP R_l_crossed) k_l_crossed) (h_l_crossed : k_l_crossed ≤ k) {R_carts_needed : List D → (D → Prop) → Prop} {k_carts_needed : Nat} (C_carts_needed : Cal P w K mg base "carts_needed" ["places", "room", "most"] (spP R_carts_needed) k_carts_needed) (h_carts_needed : k_carts_needed ≤ k) (len : ∀ ds Z, R ds Z → ds.length = 1) (sx : ∀ ds Z, R ds Z → SX (T_law K R_l_state R_trips R_l_ways R_l_take R_best_gate R_l_length R_least_length R_l_least R_l_fault R_trips_fault R_length_of R_crossed R_l_crossed R_carts_needed) (startE N_law ds) { nx := fun _ => Z .none, rt := fun d _ => Z d }) :
    FnOk P w K mg base CX0 (k + 1) f fd ["script"] (spP R) := fn_pure F sc_law len fun cdv A outer s H E hr => ⟨_, ps_law bn hr C_l_state h_l_state C_trips h_trips C_l_ways h_l_ways C_l_take h_l_take C_best_gate h_best_gate C_l_length h_l_length C_least_length h_least_length C_l_least h_l_least C_l_fault h_l_fault C_trips_fault h_trips_fault C_length_of h_length_of C_crossed h_crossed C_l_crossed h_l_crossed C_carts_needed h_carts_needed, sx⟩
end
end Law_k65
namespace Law_k65
open PySem L2 Pu
section
variable {P : Program} {w : World} {K : PySem.W.Frag} {mg : Str → Option Value} {base : Heap} {f : Addr} {fd : FuncData} {k : Nat}
theorem len_length_of : ∀ ds Z, R_length ds Z → ds.length = 2 := by
  intro ds Z h
  unfold R_length at h
  repeat (obtain ⟨e, h⟩ := h; try subst e)
  all_goals rfl
theorem len_trips : ∀ ds Z, R_trips ds Z → ds.length = 2 := by
  intro ds Z h
  unfold R_trips at h
  repeat (obtain ⟨e, h⟩ := h; try subst e)
  all_goals rfl
theorem len_l_ways : ∀ (n : Nat) ds Z, R_ways n ds Z → ds.length = 4 := by
  intro n ds Z h
  unfold R_ways at h
  repeat (obtain ⟨e, h⟩ := h; try subst e)
  all_goals rfl
theorem len_crossed : ∀ ds Z, R_cross ds Z → ds.length = 3 := by
  intro ds Z h
  unfold R_cross at h
  repeat (obtain ⟨e, h⟩ := h; try subst e)
  all_goals rfl
theorem len_least_length : ∀ ds Z, R_least ds Z → ds.length = 2 := by
  intro ds Z h
  unfold R_least at h
  repeat (obtain ⟨e, h⟩ := h; try subst e)
  all_goals rfl
theorem len_best_gate : ∀ ds Z, R_gate ds Z → ds.length = 2 := by
  intro ds Z h
  unfold R_gate at h
  repeat (obtain ⟨e, h⟩ := h; try subst e)
  all_goals rfl
theorem len_l_length : ∀ ds Z, R_length ds Z → ds.length = 2 := by
  intro ds Z h
  unfold R_length at h
  repeat (obtain ⟨e, h⟩ := h; try subst e)
  all_goals rfl
theorem len_l_crossed : ∀ ds Z, R_cross ds Z → ds.length = 3 := by
  intro ds Z h
  unfold R_cross at h
  repeat (obtain ⟨e, h⟩ := h; try subst e)
  all_goals rfl
theorem len_l_least : ∀ ds Z, R_least ds Z → ds.length = 2 := by
  intro ds Z h
  unfold R_least at h
  repeat (obtain ⟨e, h⟩ := h; try subst e)
  all_goals rfl
theorem len_l_fault : ∀ ds Z, R_fault ds Z → ds.length = 3 := by
  intro ds Z h
  unfold R_fault at h
  repeat (obtain ⟨e, h⟩ := h; try subst e)
  all_goals rfl
theorem len_trips_fault : ∀ ds Z, R_fault ds Z → ds.length = 3 := by
  intro ds Z h
  unfold R_fault at h
  repeat (obtain ⟨e, h⟩ := h; try subst e)
  all_goals rfl
theorem len_carts_needed : ∀ ds Z, R_carts ds Z → ds.length = 3 := by
  intro ds Z h
  unfold R_carts at h
  repeat (obtain ⟨e, h⟩ := h; try subst e)
  all_goals rfl
theorem len_law : ∀ ds Z, R_law ds Z → ds.length = 1 := by
  intro ds Z h
  unfold R_law at h
  repeat (obtain ⟨e, h⟩ := h; try subst e)
  all_goals rfl
theorem rec_l_ways (F : Fun K "_law_ways" "_law_ways" s_l_ways f fd) (hm : mg "_law_ways" = some (.ref f)) (bd : Binds K fd ["many", "room", "lots", "k"] []) (bn : Bn mg) {j : Nat} : ∀ n : Nat, FnOk P w K mg base CX0 (j + n) f fd ["many", "room", "lots", "k"] (spP (R_ways n))
  | 0 => fn_noP (no_l_ways)
  | n + 1 => by
    have ih := rec_l_ways F hm bd bn (j := j) n
    exact ok_l_ways (k := j + n) F bn ⟨_, _, ih, hm, F.kp, bd⟩ (Nat.le_refl _) (len_l_ways (n + 1)) (sx_l_ways K n)
end
theorem all_mk {l : PySem.W.OpenLaw} {w : World} {K : PySem.W.Frag} {h : Heap} {mg : Str → Option Value} {fa f1 f2 f3 f4 f5 f6 f7 f8 f9 f10 f11 f12 f13 f14 f15 : Addr} (X : K.In h) (G : h.Ns mainGlobals mg) (hfa : mg "law" = some (.ref fa))
    {od1 an1 od2 an2 od3 an3 od4 an4 od5 an5 od6 an6 od7 an7 od8 an8 od9 an9 od10 an10 od11 an11 od12 an12 od13 an13 od14 an14 od15 an15 : Option Addr} {sl1 sl2 sl3 sl4 sl5 sl6 sl7 sl8 sl9 sl10 sl11 sl12 sl13 sl14 sl15 : Array (Option Value)}
    {oc1 kV1 dc1 pm1 cd1 ct1 oc2 kV2 dc2 pm2 cd2 ct2 oc3 kV3 dc3 pm3 cd3 ct3 oc4 kV4 dc4 pm4 cd4 ct4 oc5 kV5 dc5 pm5 cd5 ct5 oc6 kV6 dc6 pm6 cd6 ct6 oc7 kV7 dc7 pm7 cd7 ct7 oc8 kV8 dc8 pm8 cd8 ct8 oc9 kV9 dc9 pm9 cd9 ct9 oc10 kV10 dc10 pm10 cd10 ct10 oc11 kV11 dc11 pm11 cd11 ct11 oc12 kV12 dc12 pm12 cd12 ct12 oc13 kV13 dc13 pm13 cd13 ct13 oc14 kV14 dc14 pm14 cd14 ct14 oc15 kV15 dc15 pm15 cd15 ct15 : Value}
    (a1 : PySem.W.nsIn K mainGlobals "trips" = some (some (.ref f1))) (l1 : K.lookup f1 = some ⟨oc1, od1, .func (PySem.W.fnOf "trips" "trips" (defArgs s_trips) (defBody s_trips) (defScope s_trips) .none kV1 dc1 pm1 an1 cd1 ct1), sl1⟩) (c1 : PySem.W.codeIn K cd1 "trips" = true) (k1 : PySem.W.keepIn K (.ref f1) = true)
    (a2 : PySem.W.nsIn K mainGlobals "length_of" = some (some (.ref f2))) (l2 : K.lookup f2 = some ⟨oc2, od2, .func (PySem.W.fnOf "length_of" "length_of" (defArgs s_length_of) (defBody s_length_of) (defScope s_length_of) .none kV2 dc2 pm2 an2 cd2 ct2), sl2⟩) (c2 : PySem.W.codeIn K cd2 "length_of" = true) (k2 : PySem.W.keepIn K (.ref f2) = true)
    (a3 : PySem.W.nsIn K mainGlobals "crossed" = some (some (.ref f3))) (l3 : K.lookup f3 = some ⟨oc3, od3, .func (PySem.W.fnOf "crossed" "crossed" (defArgs s_crossed) (defBody s_crossed) (defScope s_crossed) .none kV3 dc3 pm3 an3 cd3 ct3), sl3⟩) (c3 : PySem.W.codeIn K cd3 "crossed" = true) (k3 : PySem.W.keepIn K (.ref f3) = true)
    (a4 : PySem.W.nsIn K mainGlobals "least_length" = some (some (.ref f4))) (l4 : K.lookup f4 = some ⟨oc4, od4, .func (PySem.W.fnOf "least_length" "least_length" (defArgs s_least_length) (defBody s_least_length) (defScope s_least_length) .none kV4 dc4 pm4 an4 cd4 ct4), sl4⟩) (c4 : PySem.W.codeIn K cd4 "least_length" = true) (k4 : PySem.W.keepIn K (.ref f4) = true)
    (a5 : PySem.W.nsIn K mainGlobals "trips_fault" = some (some (.ref f5))) (l5 : K.lookup f5 = some ⟨oc5, od5, .func (PySem.W.fnOf "trips_fault" "trips_fault" (defArgs s_trips_fault) (defBody s_trips_fault) (defScope s_trips_fault) .none kV5 dc5 pm5 an5 cd5 ct5), sl5⟩) (c5 : PySem.W.codeIn K cd5 "trips_fault" = true) (k5 : PySem.W.keepIn K (.ref f5) = true)
    (a6 : PySem.W.nsIn K mainGlobals "best_gate" = some (some (.ref f6))) (l6 : K.lookup f6 = some ⟨oc6, od6, .func (PySem.W.fnOf "best_gate" "best_gate" (defArgs s_best_gate) (defBody s_best_gate) (defScope s_best_gate) .none kV6 dc6 pm6 an6 cd6 ct6), sl6⟩) (c6 : PySem.W.codeIn K cd6 "best_gate" = true) (k6 : PySem.W.keepIn K (.ref f6) = true)
    (a7 : PySem.W.nsIn K mainGlobals "carts_needed" = some (some (.ref f7))) (l7 : K.lookup f7 = some ⟨oc7, od7, .func (PySem.W.fnOf "carts_needed" "carts_needed" (defArgs s_carts_needed) (defBody s_carts_needed) (defScope s_carts_needed) .none kV7 dc7 pm7 an7 cd7 ct7), sl7⟩) (c7 : PySem.W.codeIn K cd7 "carts_needed" = true) (k7 : PySem.W.keepIn K (.ref f7) = true)
    (a8 : PySem.W.nsIn K mainGlobals "_law_state" = some (some (.ref f8))) (l8 : K.lookup f8 = some ⟨oc8, od8, .func (PySem.W.fnOf "_law_state" "_law_state" (defArgs s_l_state) (defBody s_l_state) (defScope s_l_state) .none kV8 dc8 pm8 an8 cd8 ct8), sl8⟩) (c8 : PySem.W.codeIn K cd8 "_law_state" = true) (k8 : PySem.W.keepIn K (.ref f8) = true)
    (a9 : PySem.W.nsIn K mainGlobals "_law_take" = some (some (.ref f9))) (l9 : K.lookup f9 = some ⟨oc9, od9, .func (PySem.W.fnOf "_law_take" "_law_take" (defArgs s_l_take) (defBody s_l_take) (defScope s_l_take) .none kV9 dc9 pm9 an9 cd9 ct9), sl9⟩) (c9 : PySem.W.codeIn K cd9 "_law_take" = true) (k9 : PySem.W.keepIn K (.ref f9) = true)
    (a10 : PySem.W.nsIn K mainGlobals "_law_length" = some (some (.ref f10))) (l10 : K.lookup f10 = some ⟨oc10, od10, .func (PySem.W.fnOf "_law_length" "_law_length" (defArgs s_l_length) (defBody s_l_length) (defScope s_l_length) .none kV10 dc10 pm10 an10 cd10 ct10), sl10⟩) (c10 : PySem.W.codeIn K cd10 "_law_length" = true) (k10 : PySem.W.keepIn K (.ref f10) = true)
    (a11 : PySem.W.nsIn K mainGlobals "_law_ways" = some (some (.ref f11))) (l11 : K.lookup f11 = some ⟨oc11, od11, .func (PySem.W.fnOf "_law_ways" "_law_ways" (defArgs s_l_ways) (defBody s_l_ways) (defScope s_l_ways) .none kV11 dc11 pm11 an11 cd11 ct11), sl11⟩) (c11 : PySem.W.codeIn K cd11 "_law_ways" = true) (k11 : PySem.W.keepIn K (.ref f11) = true)
    (a12 : PySem.W.nsIn K mainGlobals "_law_crossed" = some (some (.ref f12))) (l12 : K.lookup f12 = some ⟨oc12, od12, .func (PySem.W.fnOf "_law_crossed" "_law_crossed" (defArgs s_l_crossed) (defBody s_l_crossed) (defScope s_l_crossed) .none kV12 dc12 pm12 an12 cd12 ct12), sl12⟩) (c12 : PySem.W.codeIn K cd12 "_law_crossed" = true) (k12 : PySem.W.keepIn K (.ref f12) = true)
    (a13 : PySem.W.nsIn K mainGlobals "_law_least" = some (some (.ref f13))) (l13 : K.lookup f13 = some ⟨oc13, od13, .func (PySem.W.fnOf "_law_least" "_law_least" (defArgs s_l_least) (defBody s_l_least) (defScope s_l_least) .none kV13 dc13 pm13 an13 cd13 ct13), sl13⟩) (c13 : PySem.W.codeIn K cd13 "_law_least" = true) (k13 : PySem.W.keepIn K (.ref f13) = true)
    (a14 : PySem.W.nsIn K mainGlobals "_law_fault" = some (some (.ref f14))) (l14 : K.lookup f14 = some ⟨oc14, od14, .func (PySem.W.fnOf "_law_fault" "_law_fault" (defArgs s_l_fault) (defBody s_l_fault) (defScope s_l_fault) .none kV14 dc14 pm14 an14 cd14 ct14), sl14⟩) (c14 : PySem.W.codeIn K cd14 "_law_fault" = true) (k14 : PySem.W.keepIn K (.ref f14) = true)
    (a15 : PySem.W.nsIn K mainGlobals "law" = some (some (.ref f15))) (l15 : K.lookup f15 = some ⟨oc15, od15, .func (PySem.W.fnOf "law" "law" (defArgs s_law) (defBody s_law) (defScope s_law) .none kV15 dc15 pm15 an15 cd15 ct15), sl15⟩) (c15 : PySem.W.codeIn K cd15 "law" = true) (k15 : PySem.W.keepIn K (.ref f15) = true)
    (z1 : PySem.W.nsIn K mainGlobals "len" = some none) (z2 : PySem.W.nsIn K mainGlobals "range" = some none) (z3 : PySem.W.nsIn K mainGlobals "min" = some none) (z4 : PySem.W.nsIn K mainGlobals "max" = some none) (z5 : PySem.W.nsIn K mainGlobals "abs" = some none) (z6 : PySem.W.nsIn K mainGlobals "sum" = some none) (z7 : PySem.W.nsIn K mainGlobals "int" = some none) (z8 : PySem.W.nsIn K mainGlobals "list" = some none) (z9 : PySem.W.nsIn K mainGlobals "tuple" = some none) (z10 : PySem.W.nsIn K mainGlobals "sorted" = some none) (z11 : PySem.W.nsIn K mainGlobals "isinstance" = some none) (z12 : PySem.W.nsIn K mainGlobals "enumerate" = some none) (z13 : PySem.W.nsIn K mainGlobals "zip" = some none) (z14 : PySem.W.nsIn K mainGlobals "set" = some none) (z15 : PySem.W.nsIn K mainGlobals "repr" = some none) (z16 : PySem.W.nsIn K mainGlobals "all" = some none) (z17 : PySem.W.nsIn K mainGlobals "any" = some none) (z18 : PySem.W.nsIn K mainGlobals "dict" = some none) (z19 : PySem.W.nsIn K mainGlobals "reversed" = some none) (z20 : PySem.W.nsIn K mainGlobals "str" = some none) :
    ∃ fd : FuncData, (∀ (s : Shared) (v : Value), BindsTo s fd ⟨[v], []⟩ [("script", v)]) ∧ ∀ base : Heap, K.In base → base.Ns mainGlobals mg → FnOk l.prog w K mg base CX0 8 fa fd ["script"] (spP R_law) := by
  have e := hfa.symm.trans (PySem.W.mg_of X G a15)
  cases e
  have bn : Bn mg := ⟨PySem.W.mg_none_of X G z1, PySem.W.mg_none_of X G z2, PySem.W.mg_none_of X G z3, PySem.W.mg_none_of X G z4, PySem.W.mg_none_of X G z5, PySem.W.mg_none_of X G z6, PySem.W.mg_none_of X G z7, PySem.W.mg_none_of X G z8, PySem.W.mg_none_of X G z9, PySem.W.mg_none_of X G z10, PySem.W.mg_none_of X G z11, PySem.W.mg_none_of X G z12, PySem.W.mg_none_of X G z13, PySem.W.mg_none_of X G z14, PySem.W.mg_none_of X G z15, PySem.W.mg_none_of X G z16, PySem.W.mg_none_of X G z17, PySem.W.mg_none_of X G z18, PySem.W.mg_none_of X G z19, PySem.W.mg_none_of X G z20⟩
  have F1 := fun_mk (st := s_trips) l1 c1 k1
  have b1 := F1.binds (ps := ["places", "room"]) fun _ _ _ _ _ _ us hl => match us, hl with | [_, _], _ => rfl
  have F2 := fun_mk (st := s_length_of) l2 c2 k2
  have b2 := F2.binds (ps := ["places", "lots"]) fun _ _ _ _ _ _ us hl => match us, hl with | [_, _], _ => rfl
  have F3 := fun_mk (st := s_crossed) l3 c3 k3
  have b3 := F3.binds (ps := ["places", "room", "spot"]) fun _ _ _ _ _ _ us hl => match us, hl with | [_, _, _], _ => rfl
  have F4 := fun_mk (st := s_least_length) l4 c4 k4
  have b4 := F4.binds (ps := ["places", "room"]) fun _ _ _ _ _ _ us hl => match us, hl with | [_, _], _ => rfl
  have F5 := fun_mk (st := s_trips_fault) l5 c5 k5
  have b5 := F5.binds (ps := ["places", "room", "told"]) fun _ _ _ _ _ _ us hl => match us, hl with | [_, _, _], _ => rfl
  have F6 := fun_mk (st := s_best_gate) l6 c6 k6
  have b6 := F6.binds (ps := ["places", "room"]) fun _ _ _ _ _ _ us hl => match us, hl with | [_, _], _ => rfl
  have F7 := fun_mk (st := s_carts_needed) l7 c7 k7
  have b7 := F7.binds (ps := ["places", "room", "most"]) fun _ _ _ _ _ _ us hl => match us, hl with | [_, _, _], _ => rfl
  have F8 := fun_mk (st := s_l_state) l8 c8 k8
  have b8 := F8.binds (ps := ["script"]) fun _ _ _ _ _ _ us hl => match us, hl with | [_], _ => rfl
  have F9 := fun_mk (st := s_l_take) l9 c9 k9
  have b9 := F9.binds (ps := ["state", "most"]) fun _ _ _ _ _ _ us hl => match us, hl with | [_, _], _ => rfl
  have F10 := fun_mk (st := s_l_length) l10 c10 k10
  have b10 := F10.binds (ps := ["places", "lots"]) fun _ _ _ _ _ _ us hl => match us, hl with | [_, _], _ => rfl
  have F11 := fun_mk (st := s_l_ways) l11 c11 k11
  have b11 := F11.binds (ps := ["many", "room", "lots", "k"]) fun _ _ _ _ _ _ us hl => match us, hl with | [_, _, _, _], _ => rfl
  have F12 := fun_mk (st := s_l_crossed) l12 c12 k12
  have b12 := F12.binds (ps := ["places", "room", "spot"]) fun _ _ _ _ _ _ us hl => match us, hl with | [_, _, _], _ => rfl
  have F13 := fun_mk (st := s_l_least) l13 c13 k13
  have b13 := F13.binds (ps := ["places", "room"]) fun _ _ _ _ _ _ us hl => match us, hl with | [_, _], _ => rfl
  have F14 := fun_mk (st := s_l_fault) l14 c14 k14
  have b14 := F14.binds (ps := ["places", "room", "told"]) fun _ _ _ _ _ _ us hl => match us, hl with | [_, _, _], _ => rfl
  have F15 := fun_mk (st := s_law) l15 c15 k15
  have b15 := F15.binds (ps := ["script"]) fun _ _ _ _ _ _ us hl => match us, hl with | [_], _ => rfl
  refine ⟨PySem.W.fnOf "law" "law" (defArgs s_law) (defBody s_law) (defScope s_law) .none kV15 dc15 pm15 an15 cd15 ct15, fun s v => .of_eq rfl, fun base _ _ => ?_⟩
  have C_l_state : Cal l.prog w K mg base "_law_state" ["script"] (spN R_state) 1 := ⟨_, _, fn_newstate (k := 0) F8 sc_l_state fun cdv A outer s H E hr => ps_l_state bn hr, PySem.W.mg_of X G a8, F8.kp, b8⟩
  have C_length_of : Cal l.prog w K mg base "length_of" ["places", "lots"] (spP R_length) 1 := ⟨_, _, ok_length_of (k := 0) F2 bn len_length_of (sx_length_of K), PySem.W.mg_of X G a2, F2.kp, b2⟩
  have C_trips : Cal l.prog w K mg base "trips" ["places", "room"] (spP R_trips) 2 := ⟨_, _, ok_trips (k := 1) F1 bn C_length_of (by decide) len_trips (sx_trips K), PySem.W.mg_of X G a1, F1.kp, b1⟩
  have C_l_ways : Cal l.prog w K mg base "_law_ways" ["many", "room", "lots", "k"] (spP (R_ways 7)) 7 := ⟨_, _, rec_l_ways F11 (PySem.W.mg_of X G a11) b11 bn (j := 0) 7, PySem.W.mg_of X G a11, F11.kp, b11⟩
  have C_l_take : Cal l.prog w K mg base "_law_take" ["state", "most"] (spS R_take) 1 := ⟨_, _, fn_take (k := 0) F9 sc_l_take fun cdv A outer s H E hr => ps_l_take bn hr, PySem.W.mg_of X G a9, F9.kp, b9⟩
  have C_crossed : Cal l.prog w K mg base "crossed" ["places", "room", "spot"] (spP R_cross) 1 := ⟨_, _, ok_crossed (k := 0) F3 bn len_crossed (sx_crossed K), PySem.W.mg_of X G a3, F3.kp, b3⟩
  have C_least_length : Cal l.prog w K mg base "least_length" ["places", "room"] (spP R_least) 2 := ⟨_, _, ok_least_length (k := 1) F4 bn C_crossed (by decide) len_least_length (sx_least_length K), PySem.W.mg_of X G a4, F4.kp, b4⟩
  have C_best_gate : Cal l.prog w K mg base "best_gate" ["places", "room"] (spP R_gate) 3 := ⟨_, _, ok_best_gate (k := 2) F6 bn C_least_length (by decide) len_best_gate (sx_best_gate K), PySem.W.mg_of X G a6, F6.kp, b6⟩
  have C_l_length : Cal l.prog w K mg base "_law_length" ["places", "lots"] (spP R_length) 1 := ⟨_, _, ok_l_length (k := 0) F10 bn len_l_length (sx_l_length K), PySem.W.mg_of X G a10, F10.kp, b10⟩
  have C_l_crossed : Cal l.prog w K mg base "_law_crossed" ["places", "room", "spot"] (spP R_cross) 1 := ⟨_, _, ok_l_crossed (k := 0) F12 bn len_l_crossed (sx_l_crossed K), PySem.W.mg_of X G a12, F12.kp, b12⟩
  have C_l_least : Cal l.prog w K mg base "_law_least" ["places", "room"] (spP R_least) 2 := ⟨_, _, ok_l_least (k := 1) F13 bn C_l_crossed (by decide) len_l_least (sx_l_least K), PySem.W.mg_of X G a13, F13.kp, b13⟩
  have C_l_fault : Cal l.prog w K mg base "_law_fault" ["places", "room", "told"] (spP R_fault) 3 := ⟨_, _, ok_l_fault (k := 2) F14 bn C_l_length (by decide) C_l_least (by decide) len_l_fault (sx_l_fault K), PySem.W.mg_of X G a14, F14.kp, b14⟩
  have C_trips_fault : Cal l.prog w K mg base "trips_fault" ["places", "room", "told"] (spP R_fault) 3 := ⟨_, _, ok_trips_fault (k := 2) F5 bn C_length_of (by decide) C_least_length (by decide) len_trips_fault (sx_trips_fault K), PySem.W.mg_of X G a5, F5.kp, b5⟩
  have C_carts_needed : Cal l.prog w K mg base "carts_needed" ["places", "room", "most"] (spP R_carts) 3 := ⟨_, _, ok_carts_needed (k := 2) F7 bn C_length_of (by decide) C_trips (by decide) len_carts_needed (sx_carts_needed K), PySem.W.mg_of X G a7, F7.kp, b7⟩
  exact ok_law (k := 7) F15 bn C_l_state (by decide) C_trips (by decide) C_l_ways (by decide) C_l_take (by decide) C_best_gate (by decide) C_l_length (by decide) C_least_length (by decide) C_l_least (by decide) C_l_fault (by decide) C_trips_fault (by decide) C_length_of (by decide) C_crossed (by decide) C_l_crossed (by decide) C_carts_needed (by decide) len_law (sx_law K)
theorem walk {l : PySem.W.OpenLaw} {q : Program} {loose : List Str} {XP : (Str → Option Value) → Heap → Prop} {YP : World → Heap → Prop} {d : DefRec} {K : Params → PySem.W.Frag} (hn : l.most = some 63) (hdf : d.params.defaults = [])
    (hY : ∀ (w : World) (h : Heap), YP w h → (K w.params).In h) (nl : ∀ w : World, noLs (K w.params) = true)
    (F : ∀ (w : World) (mg : Str → Option Value) (fa : Addr) (h : Heap), (K w.params).In h → h.Ns mainGlobals mg → mg d.name = some (.ref fa) →
      ∃ fd : FuncData, (∀ (s : Shared) (u : Value), BindsTo s fd ⟨[u], []⟩ [("script", u)]) ∧ ∀ base : Heap, (K w.params).In base → base.Ns mainGlobals mg → FnOk l.prog w (K w.params) mg base CX0 8 fa fd ["script"] (spP R_law)) :
    PySem.W.WalkO q loose XP YP l.row.toRowW d [] (fun f vs => PySem.call f vs) :=
  L2.walk_of (n := 63) (k := 8) (x := "script") (CX := fun _ => CX0) (sp := fun w => spP R_law) hn (by decide) hdf ⟨rfl, by decide, by decide⟩ hY F (fun w _ a ns hl _ hS => sp_law (nl w) hS ⟨ns, rfl, rfl⟩) fun _ _ _ _ _ z => z
end Law_k65
open PySem PySem.W PyProof.Rows
set_option maxHeartbeats 0 in
theorem PySem.Challenge.cw_firescore_k65_trips_by_all_ways_holds : PySem.Challenge.rw_firescore_k65_trips_by_all_ways.Holds := by
  w_on; o_law; k_head; (case hw => w_witness2)
  k_fill
  refine Law_k65.walk (l := PySem.Challenge.rw_firescore_k65_trips_by_all_ways) rfl rfl (fun w h Y => PySem.W.kIn_of Y) (fun w => ?NL) ?F
  case NL => rfl
  case F =>
    intro w mg fa h KX G hmg
    refine' Law_k65.all_mk KX G hmg ?a1 ?l1 ?c1 ?k1 ?a2 ?l2 ?c2 ?k2 ?a3 ?l3 ?c3 ?k3 ?a4 ?l4 ?c4 ?k4 ?a5 ?l5 ?c5 ?k5 ?a6 ?l6 ?c6 ?k6 ?a7 ?l7 ?c7 ?k7 ?a8 ?l8 ?c8 ?k8 ?a9 ?l9 ?c9 ?k9 ?a10 ?l10 ?c10 ?k10 ?a11 ?l11 ?c11 ?k11 ?a12 ?l12 ?c12 ?k12 ?a13 ?l13 ?c13 ?k13 ?a14 ?l14 ?c14 ?k14 ?a15 ?l15 ?c15 ?k15 ?z1 ?z2 ?z3 ?z4 ?z5 ?z6 ?z7 ?z8 ?z9 ?z10 ?z11 ?z12 ?z13 ?z14 ?z15 ?z16 ?z17 ?z18 ?z19 ?z20
    (case a1 => k_is); (case l1 => k_is); (case c1 => k_is); (case k1 => k_is)
    (case a2 => k_is); (case l2 => k_is); (case c2 => k_is); (case k2 => k_is)
    (case a3 => k_is); (case l3 => k_is); (case c3 => k_is); (case k3 => k_is)
    (case a4 => k_is); (case l4 => k_is); (case c4 => k_is); (case k4 => k_is)
    (case a5 => k_is); (case l5 => k_is); (case c5 => k_is); (case k5 => k_is)
    (case a6 => k_is); (case l6 => k_is); (case c6 => k_is); (case k6 => k_is)
    (case a7 => k_is); (case l7 => k_is); (case c7 => k_is); (case k7 => k_is)
    (case a8 => k_is); (case l8 => k_is); (case c8 => k_is); (case k8 => k_is)
    (case a9 => k_is); (case l9 => k_is); (case c9 => k_is); (case k9 => k_is)
    (case a10 => k_is); (case l10 => k_is); (case c10 => k_is); (case k10 => k_is)
    (case a11 => k_is); (case l11 => k_is); (case c11 => k_is); (case k11 => k_is)
    (case a12 => k_is); (case l12 => k_is); (case c12 => k_is); (case k12 => k_is)
    (case a13 => k_is); (case l13 => k_is); (case c13 => k_is); (case k13 => k_is)
    (case a14 => k_is); (case l14 => k_is); (case c14 => k_is); (case k14 => k_is)
    (case a15 => k_is); (case l15 => k_is); (case c15 => k_is); (case k15 => k_is)
    (case z1 => k_is)
    (case z2 => k_is)
    (case z3 => k_is)
    (case z4 => k_is)
    (case z5 => k_is)
    (case z6 => k_is)
    (case z7 => k_is)
    (case z8 => k_is)
    (case z9 => k_is)
    (case z10 => k_is)
    (case z11 => k_is)
    (case z12 => k_is)
    (case z13 => k_is)
    (case z14 => k_is)
    (case z15 => k_is)
    (case z16 => k_is)
    (case z17 => k_is)
    (case z18 => k_is)
    (case z19 => k_is)
    (case z20 => k_is)
