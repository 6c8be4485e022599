import PyProof.Rows.All
import Wide.All
import OpenK.AllK
import Wide.FinOn
import HandS.ForMost
import HandS.TupAny
import HandS.Zip
import KE.SortData
import KE.DataMinMax
import KE.DataEq
import KE.DataFind
import HandS.Style
import HandS.Dict
import KE.DatumIndex
import HandS.Deep
import HandS.Set
import HandS.SetFor
import KE.DataAny
import HandS.Conv
import HandS.NoneIn
import PySem.Challenge.RW_firescore_k43_whole_gaps
set_option Elab.async false
set_option linter.all false
set_option autoImplicit false
set_option maxRecDepth 100000
set_option maxHeartbeats 4000000
/-! Pu: the hand layer's readings over pure data: slots hold data, own lists, a state; no addresses. -/
namespace Pu
open PySem L2

abbrev D := PyData
mutual
/-- the value v reads as the datum d in the frozen part F of the heap -/
inductive Rp (F : Hp) : V → D → Prop
  | non : Rp F .non .none
  | bl (b : Bool) : Rp F (.bl b) (.bool b)
  | int (i : Int) : Rp F (.int i) (.int i)
  | str (x : Str) : Rp F (.str x) (.str x)
  | lst {a : Addr} {xs : List V} {ds : List D} : Rd F a (.lst xs) → RpA F xs ds → Rp F (.ref a) (.list ds)
  | tup {a : Addr} {xs : List V} {ds : List D} : F a = some (.tup xs) → RpA F xs ds → Rp F (.ref a) (.tuple ds)
inductive RpA (F : Hp) : List V → List D → Prop
  | nil : RpA F [] []
  | cons {v : V} {vs : List V} {d : D} {ds : List D} : Rp F v d → RpA F vs ds → RpA F (v :: vs) (d :: ds)
end
theorem rd_mono {F G : Hp} {a : Addr} {u : HO} (e : Same F G) (h : Rd F a u) : Rd G a u := by
  rcases h with h | ⟨o, h⟩
  · exact .inl (e _ _ h)
  · exact .inr ⟨o, e _ _ h⟩
mutual
theorem Rp.mono {F G : Hp} (e : Same F G) : ∀ (d : D) {v : V}, Rp F v d → Rp G v d
  | .none, _, h => by cases h; exact .non
  | .bool b, _, h => by cases h; exact .bl b
  | .int i, _, h => by cases h; exact .int i
  | .str x, _, h => by cases h; exact .str x
  | .list ds, _, h => by
    cases h with
    | lst h1 h2 => exact .lst (rd_mono e h1) (RpA.mono e ds h2)
  | .tuple ds, _, h => by
    cases h with
    | tup h1 h2 => exact .tup (e _ _ h1) (RpA.mono e ds h2)
  | .dict _, _, h => by cases h
theorem RpA.mono {F G : Hp} (e : Same F G) : ∀ (ds : List D) {vs : List V}, RpA F vs ds → RpA G vs ds
  | [], _, h => by cases h; exact .nil
  | d :: ds, _, h => by
    cases h with
    | cons h1 h2 => exact .cons (Rp.mono e d h1) (RpA.mono e ds h2)
end
theorem Rp.up {F G : Hp} {d : D} {v : V} (h : Rp F v d) (e : Same F G) : Rp G v d := Rp.mono e d h
theorem RpA.up {F G : Hp} {ds : List D} {vs : List V} (h : RpA F vs ds) (e : Same F G) : RpA G vs ds := RpA.mono e ds h
theorem sqL_rd {K : PySem.W.Frag} {F H : Hp} {a : Addr} {xs : List V} (h : Rd F a (.lst xs)) (e : Same F H) : SqL K H a xs := .inl (rd_mono e h)
theorem sqT_rd {K : PySem.W.Frag} {F H : Hp} {a : Addr} {xs : List V} (h : F a = some (.tup xs)) (e : Same F H) : SqT K H a xs := .inl (.inl (e _ _ h))
mutual
theorem Rp.dp {K : PySem.W.Frag} {F H : Hp} (e : Same F H) : ∀ (d : D) {v : V}, Rp F v d → Dp K H v d
  | .none, _, h => by cases h; exact .non
  | .bool b, _, h => by cases h; exact .bl b
  | .int i, _, h => by cases h; exact .int i
  | .str x, _, h => by cases h; exact .str x
  | .list ds, _, h => by
    cases h with
    | lst h1 h2 => exact .lst (sqL_rd h1 e) (RpA.dp e ds h2)
  | .tuple ds, _, h => by
    cases h with
    | tup h1 h2 => exact .tup (sqT_rd h1 e) (RpA.dp e ds h2)
  | .dict _, _, h => by cases h
theorem RpA.dp {K : PySem.W.Frag} {F H : Hp} (e : Same F H) : ∀ (ds : List D) {vs : List V}, RpA F vs ds → DpAll K H vs ds
  | [], _, h => by cases h; exact .nil
  | d :: ds, _, h => by
    cases h with
    | cons h1 h2 => exact .cons (Rp.dp e d h1) (RpA.dp e ds h2)
end
section
variable {F : Hp}
theorem Rp.int_inv {v : V} {i : Int} (h : Rp F v (.int i)) : v = .int i := by cases h; rfl
theorem Rp.bl_inv {v : V} {b : Bool} (h : Rp F v (.bool b)) : v = .bl b := by cases h; rfl
theorem Rp.str_inv {v : V} {x : Str} (h : Rp F v (.str x)) : v = .str x := by cases h; rfl
theorem Rp.non_inv {v : V} (h : Rp F v .none) : v = .non := by cases h; rfl
theorem Rp.lst_inv {v : V} {ds : List D} (h : Rp F v (.list ds)) : ∃ a xs, v = .ref a ∧ Rd F a (.lst xs) ∧ RpA F xs ds := by
  cases h with
  | lst h1 h2 => exact ⟨_, _, rfl, h1, h2⟩
theorem Rp.tup_inv {v : V} {ds : List D} (h : Rp F v (.tuple ds)) : ∃ a xs, v = .ref a ∧ F a = some (.tup xs) ∧ RpA F xs ds := by
  cases h with
  | tup h1 h2 => exact ⟨_, _, rfl, h1, h2⟩
theorem RpA.len : ∀ {vs : List V} {ds : List D}, RpA F vs ds → vs.length = ds.length
  | _, [], h => by cases h; rfl
  | _, d :: ds, h => by
    cases h with
    | cons h1 h2 => simp [RpA.len h2]
theorem RpA.get : ∀ {vs : List V} {ds : List D} {k : Nat} {d : D}, RpA F vs ds → ds[k]? = some d → ∃ v, vs[k]? = some v ∧ Rp F v d
  | _, [], k, d, h, e => by simp at e
  | _, a :: ds, 0, d, h, e => by
    cases h with
    | cons h1 h2 =>
      simp at e
      subst e
      exact ⟨_, rfl, h1⟩
  | _, a :: ds, k + 1, d, h, e => by
    cases h with
    | cons h1 h2 =>
      obtain ⟨v, e1, e2⟩ := RpA.get (k := k) h2 (by simpa using e)
      exact ⟨v, by simpa using e1, e2⟩
theorem RpA.get' : ∀ {vs : List V} {ds : List D} {k : Nat} {v : V}, RpA F vs ds → vs[k]? = some v → ∃ d, ds[k]? = some d ∧ Rp F v d := fun {vs ds k v} h e => by
  have hk : k < ds.length := by rw [← h.len]; exact (List.getElem?_eq_some_iff.mp e).1
  obtain ⟨w, e1, e2⟩ := h.get (List.getElem?_eq_getElem hk)
  rw [e] at e1
  cases e1
  exact ⟨_, List.getElem?_eq_getElem hk, e2⟩
theorem RpA.app : ∀ {vs ws : List V} {ds es : List D}, RpA F vs ds → RpA F ws es → RpA F (vs ++ ws) (ds ++ es)
  | _, _, [], es, h, g => by cases h; exact g
  | _, _, d :: ds, es, h, g => by
    cases h with
    | cons h1 h2 => exact .cons h1 (RpA.app h2 g)
theorem RpA.take : ∀ {vs : List V} {ds : List D} (n : Nat), RpA F vs ds → RpA F (vs.take n) (ds.take n)
  | _, _, 0, h => by simp; exact .nil
  | _, [], n + 1, h => by cases h; exact .nil
  | _, d :: ds, n + 1, h => by
    cases h with
    | cons h1 h2 => exact .cons h1 (RpA.take n h2)
theorem RpA.drop : ∀ {vs : List V} {ds : List D} (n : Nat), RpA F vs ds → RpA F (vs.drop n) (ds.drop n)
  | _, _, 0, h => by simpa using h
  | _, [], n + 1, h => by cases h; exact .nil
  | _, d :: ds, n + 1, h => by
    cases h with
    | cons h1 h2 => exact RpA.drop n h2
theorem RpA.set : ∀ {vs : List V} {ds : List D} {v : V} {d : D} (n : Nat), RpA F vs ds → Rp F v d → RpA F (vs.set n v) (ds.set n d)
  | _, [], _, _, n, h, g => by cases h; exact .nil
  | _, e :: ds, _, _, 0, h, g => by
    cases h with
    | cons h1 h2 => exact .cons g h2
  | _, e :: ds, _, _, n + 1, h, g => by
    cases h with
    | cons h1 h2 => exact .cons h1 (RpA.set n h2 g)
theorem RpA.ints : ∀ (ns : List Int), RpA F (ns.map V.int) (ns.map PyData.int)
  | [] => .nil
  | n :: ns => .cons (.int n) (RpA.ints ns)
theorem RpA.ints_inv : ∀ {ns : List Int} {vs : List V}, RpA F vs (ns.map PyData.int) → vs = ns.map V.int
  | [], _, h => by cases h; rfl
  | n :: ns, _, h => by
    cases h with
    | cons h1 h2 =>
      rw [h1.int_inv, RpA.ints_inv h2]
      rfl
theorem RpA.rev {vs : List V} {ds : List D} (h : RpA F vs ds) : RpA F vs.reverse ds.reverse := by
  induction ds generalizing vs with
  | nil => cases h; exact .nil
  | cons d ds ih =>
    cases h with
    | cons h1 h2 =>
      rw [List.reverse_cons, List.reverse_cons]
      exact (ih h2).app (.cons h1 .nil)
end

/-! ### state, slots, the world -/
inductive Stt where
  | two (a b : Int)
  | cel (a : Int) (cs : List Int)
  | dct (kvs : List (Int × Int))
  /-- a list of lists of ints and None that nobody else has -/
  | grd (rows : List (List (Option Int)))
def ov : Option Int → V
  | none => .non
  | some i => .int i
/-- the inner lists -/
def GrA (H : Hp) : List Addr → List (List (Option Int)) → Prop
  | [], [] => True
  | q :: qs, r :: rows => H q = some (.lst (r.map ov)) ∧ GrA H qs rows
  | _, _ => False
def StAt (H : Hp) : Stt → Addr → List Addr → Prop
  | .two a b, s, as => as = [s] ∧ H s = some (.lst [.int a, .int b])
  | .cel a cs, s, as => ∃ c, as = [s, c] ∧ s ≠ c ∧ H s = some (.lst [.int a, .ref c]) ∧ H c = some (.lst (cs.map V.int))
  | .dct kvs, s, as => as = [s] ∧ H s = some (.dK (kvs.map fun p => ((.inl p.1 : Key), V.int p.2)))
  | .grd rows, s, as => ∃ qs, as = s :: qs ∧ (s :: qs).Nodup ∧ H s = some (.lst (qs.map V.ref)) ∧ GrA H qs rows
theorem GrA.mem {H : Hp} : ∀ {qs : List Addr} {rows : List (List (Option Int))}, GrA H qs rows → ∀ q ∈ qs, H q ≠ none
  | q :: qs, r :: rows, h, x, hx => by
    rcases List.mem_cons.mp hx with rfl | hx
    · rw [h.1]; intro z; cases z
    · exact GrA.mem h.2 x hx
  | [], _, _, x, hx => by cases hx
  | _ :: _, [], h, _, _ => h.elim
theorem GrA.keep {H H' : Hp} : ∀ {qs : List Addr} {rows : List (List (Option Int))}, GrA H qs rows → (∀ q ∈ qs, ∀ o, H q = some o → H' q = some o) → GrA H' qs rows
  | q :: qs, r :: rows, h, k => ⟨k q (by simp) _ h.1, GrA.keep h.2 fun x hx => k x (by simp [hx])⟩
  | [], [], _, _ => trivial
  | [], _ :: _, h, _ => h.elim
  | _ :: _, [], h, _ => h.elim
theorem StAt.mem {H : Hp} {S : Stt} {s : Addr} {as : List Addr} (h : StAt H S s as) : s ∈ as ∧ ∀ a ∈ as, H a ≠ none := by
  cases S with
  | two a b =>
    obtain ⟨rfl, h⟩ := h
    exact ⟨by simp, fun x hx => by
      have e : x = s := by simpa using hx
      rw [e, h]; intro z; cases z⟩
  | dct kvs =>
    obtain ⟨rfl, h⟩ := h
    exact ⟨by simp, fun x hx => by
      have e : x = s := by simpa using hx
      rw [e, h]; intro z; cases z⟩
  | cel a cs =>
    obtain ⟨c, rfl, _, h1, h2⟩ := h
    exact ⟨by simp, fun x hx => by
      have e : x = s ∨ x = c := by simpa using hx
      rcases e with e | e
      · rw [e, h1]; intro z; cases z
      · rw [e, h2]; intro z; cases z⟩
  | grd rows =>
    obtain ⟨qs, rfl, _, h1, h2⟩ := h
    exact ⟨by simp, fun x hx => by
      rcases List.mem_cons.mp hx with rfl | hx
      · rw [h1]; intro z; cases z
      · exact h2.mem x hx⟩
theorem StAt.keep {H H' : Hp} {S : Stt} {s : Addr} {as : List Addr} (h : StAt H S s as) (k : ∀ a ∈ as, ∀ o, H a = some o → H' a = some o) : StAt H' S s as := by
  cases S with
  | two a b =>
    obtain ⟨rfl, h⟩ := h
    exact ⟨rfl, k s (by simp) _ h⟩
  | dct kvs =>
    obtain ⟨rfl, h⟩ := h
    exact ⟨rfl, k s (by simp) _ h⟩
  | cel a cs =>
    obtain ⟨c, rfl, ne, h1, h2⟩ := h
    exact ⟨c, rfl, ne, k s (by simp) _ h1, k c (by simp) _ h2⟩
  | grd rows =>
    obtain ⟨qs, rfl, nd, h1, h2⟩ := h
    exact ⟨qs, rfl, nd, k s (by simp) _ h1, h2.keep fun q hq => k q (by simp [hq])⟩
inductive Slot where
  | emp
  | val (d : D)
  | own (ds : List D)
  | st (S : Stt)
abbrev Env := List Slot
structure Base where
  F0 : Hp
  H0 : Hp
  M : Addr → Prop
  pin : Option (Addr × List Addr) := none
/-- from (F, H) to (F', H'): all is kept but what M has -/
structure Gr (M : Addr → Prop) (F H F' H' : Hp) : Prop where
  ff : Same F F'
  fh : Same F' H'
  kp : ∀ a o, H a = some o → ¬ M a → H' a = some o
  al : ∀ a, H a ≠ none → H' a ≠ none
  fr : ∀ a, H a ≠ none → F a = none → F' a = none
theorem Gr.refl {M : Addr → Prop} {F H : Hp} (e : Same F H) : Gr M F H F H := ⟨Same.refl F, e, fun _ _ h _ => h, fun _ h => h, fun _ _ h => h⟩
theorem Gr.trans {M M1 M2 : Addr → Prop} {F H F1 H1 F2 H2 : Hp} (a : Gr M1 F H F1 H1) (b : Gr M2 F1 H1 F2 H2) (i1 : ∀ x, H x ≠ none → M1 x → M x) (i2 : ∀ x, H x ≠ none → M2 x → M x) : Gr M F H F2 H2 :=
  ⟨a.ff.trans b.ff, b.fh, fun x o h m => b.kp x o (a.kp x o h fun z => m (i1 x (by rw [h]; intro q; cases q) z)) fun z => m (i2 x (by rw [h]; intro q; cases q) z), fun x h => b.al x (a.al x h), fun x h e => b.fr x (a.al x h) (a.fr x h e)⟩
/-- nothing changes -/
abbrev Non : Addr → Prop := fun _ => False

def SlotOk (B : Base) (F H : Hp) : Slot → Option (Option V) → List Addr → Prop
  | .emp, _, as => as = []
  | .val d, x, as => as = [] ∧ ∃ v, x = some (some v) ∧ Rp F v d
  | .own ds, x, as => ∃ p vs, as = [p] ∧ B.H0 p = none ∧ x = some (some (.ref p)) ∧ H p = some (.lst vs) ∧ RpA F vs ds
  | .st S, x, as => ∃ s, x = some (some (.ref s)) ∧ StAt H S s as
/-- a state that came as the first argument stays where it is -/
def PinOk (B : Base) (ad : Nat → List Addr) (ρ : Env) (σ : St) : Prop := ∀ s as, B.pin = some (s, as) → ∀ S, ρ[0]? = some (Slot.st S) → σ[0]? = some (some (.ref s)) ∧ ad 0 = as
theorem PinOk.to {B : Base} {ad ad' : Nat → List Addr} {ρ ρ' : Env} {σ σ' : St} (h : PinOk B ad ρ σ) (k : ∀ S, ρ'[0]? = some (Slot.st S) → (∃ S', ρ[0]? = some (Slot.st S')) ∧ σ'[0]? = σ[0]? ∧ ad' 0 = ad 0) : PinOk B ad' ρ' σ' := fun s as e S q => by
  obtain ⟨⟨S', e1⟩, e2, e3⟩ := k S q
  rw [e2, e3]
  exact h s as e S' e1
structure WA (B : Base) (ad : Nat → List Addr) (ρ : Env) (σ : St) (F H : Hp) : Prop where
  gr : Gr B.M B.F0 B.H0 F H
  len : σ.length = ρ.length
  sl : ∀ i s, ρ[i]? = some s → SlotOk B F H s σ[i]? (ad i)
  fz : ∀ i p, p ∈ ad i → F p = none ∧ (B.H0 p = none ∨ (B.M p ∧ i = 0))
  dj : ∀ i j p, p ∈ ad i → p ∈ ad j → i = j
  out : ∀ i, ρ[i]? = none → ad i = []
  pin : PinOk B ad ρ σ
def W (B : Base) (ρ : Env) (σ : St) (F H : Hp) : Prop := ∃ ad, WA B ad ρ σ F H
/-- the addresses of the states -/
def MS (ad : Nat → List Addr) (ρ : Env) (a : Addr) : Prop := ∃ (i : Nat) (S : Stt), ρ[i]? = some (Slot.st S) ∧ a ∈ ad i
/-- behind an expression -/
structure Post (B : Base) (ad : Nat → List Addr) (σ : St) (ρ : Env) (F H : Hp) (ρ' : Env) (F' H' : Hp) : Prop where
  wa : WA B ad ρ' σ F' H'
  gr : Gr (MS ad ρ) F H F' H'
  sh : ∀ (i : Nat) (S' : Stt), ρ'[i]? = some (Slot.st S') → ∃ S, ρ[i]? = some (Slot.st S)
section
variable {B : Base} {ad : Nat → List Addr} {ρ ρ' ρ1 ρ2 : Env} {σ : St} {F H F' H' F1 H1 F2 H2 : Hp}
theorem Post.refl (w : WA B ad ρ σ F H) : Post B ad σ ρ F H ρ F H := ⟨w, Gr.refl w.gr.fh, fun i S h => ⟨S, h⟩⟩
theorem Post.trans (a : Post B ad σ ρ F H ρ1 F1 H1) (b : Post B ad σ ρ1 F1 H1 ρ2 F2 H2) : Post B ad σ ρ F H ρ2 F2 H2 :=
  ⟨b.wa, a.gr.trans b.gr (fun _ _ h => h) fun x _ ⟨i, S, h, m⟩ => let ⟨S', h'⟩ := a.sh i S h; ⟨i, S', h', m⟩, fun i S h => let ⟨S1, h1⟩ := b.sh i S h; a.sh i S1 h1⟩
theorem WA.lv (w : WA B ad ρ σ F H) {i : Nat} {p : Addr} (h : p ∈ ad i) : H p ≠ none := by
  cases e : ρ[i]? with
  | none => rw [w.out i e] at h; cases h
  | some s =>
    have k := w.sl i s e
    cases s with
    | emp => have k : ad i = [] := k; rw [k] at h; cases h
    | val d => have k : ad i = [] := k.1; rw [k] at h; cases h
    | own ds =>
      obtain ⟨q, vs, k, _, _, k2, _⟩ := k
      rw [k] at h
      have e : p = q := by simpa using h
      rw [e, k2]
      intro z; cases z
    | st S =>
      obtain ⟨s, _, k⟩ := k
      exact k.mem.2 p h
/-- nothing tracked changes, F grows -/
theorem WA.grow (w : WA B ad ρ σ F H) (g : Gr Non F H F' H') : WA B ad ρ σ F' H' where
  gr := w.gr.trans g (fun _ _ h => h) fun _ _ h => h.elim
  len := w.len
  sl := fun i s h => by
    have k := w.sl i s h
    cases s with
    | emp => exact k
    | val d =>
      obtain ⟨k, v, e, r⟩ := k
      exact ⟨k, v, e, r.up g.ff⟩
    | own ds =>
      obtain ⟨p, vs, k, k0, k1, k2, r⟩ := k
      exact ⟨p, vs, k, k0, k1, g.kp _ _ k2 id, r.up g.ff⟩
    | st S =>
      obtain ⟨s, k1, k⟩ := k
      exact ⟨s, k1, k.keep fun a _ o e => g.kp a o e id⟩
  fz := fun i p h => ⟨g.fr p (w.lv h) (w.fz i p h).1, (w.fz i p h).2⟩
  dj := w.dj
  out := w.out
  pin := w.pin
theorem Post.of (w : WA B ad ρ σ F H) (g : Gr Non F H F' H') : Post B ad σ ρ F H ρ F' H' := ⟨w.grow g, ⟨g.ff, g.fh, fun a o h _ => g.kp a o h id, g.al, g.fr⟩, fun i S h => ⟨S, h⟩⟩
theorem Gr.heap (e : Same F H) (g : Same H H') : Gr Non F H F H' where
  ff := Same.refl F
  fh := e.trans g
  kp := fun a o h _ => g a o h
  al := fun a h => by
    cases q : H a with
    | none => exact absurd q h
    | some o =>
      rw [g a o q]
      intro z
      cases z
  fr := fun _ _ h => h
theorem same_upd {p : Addr} {o : HO} (h : H p = none) : Same H (upd H p o) := fun b u q => by rw [upd_ne (ne_of_none q h)]; exact q
/-- a new object is laid and frozen -/
theorem Gr.new {p : Addr} {o : HO} (e : Same F H) (h : H p = none) : Gr Non F H (upd F p o) (upd H p o) where
  ff := same_upd (by
    cases q : F p with
    | none => rfl
    | some u => rw [e p u q] at h; cases h)
  fh := fun a u q => by
    by_cases ha : a = p
    · subst ha; rw [upd_same] at q ⊢; exact q
    · rw [upd_ne ha] at q ⊢; exact e a u q
  kp := fun a u q _ => by rw [upd_ne (ne_of_none q h)]; exact q
  al := fun a q => by
    by_cases ha : a = p
    · subst ha; rw [upd_same]; intro z; cases z
    · rw [upd_ne ha]; exact q
  fr := fun a q z => by
    have ha : a ≠ p := fun z => q (z ▸ h)
    rw [upd_ne ha]
    exact z
end

/-! ### expressions over pure data -/
def EX (te : TE) (ρ : Env) (Q : D → Env → Prop) : Prop := ∀ B ad σ F H, WA B ad ρ σ F H → ∀ Z : VK, (∀ d ρ' v F' H', Q d ρ' → Post B ad σ ρ F H ρ' F' H' → Rp F' v d → Z v H') → te σ H Z
def EA (ta : TA) (ρ : Env) (Q : List D → Env → Prop) : Prop := ∀ B ad σ F H, WA B ad ρ σ F H → ∀ Z : List V → Hp → Prop, (∀ ds ρ' vs F' H', Q ds ρ' → Post B ad σ ρ F H ρ' F' H' → RpA F' vs ds → Z vs H') → ta σ H Z
def ET (tt : TT) (ρ : Env) (Q : Bool → Env → Prop) : Prop := ∀ B ad σ F H, WA B ad ρ σ F H → ∀ Z : Bool → Hp → Prop, (∀ b ρ' F' H', Q b ρ' → Post B ad σ ρ F H ρ' F' H' → Z b H') → tt σ H Z
/-- a new list, not yet frozen -/
def EO (te : TE) (ρ : Env) (Q : List D → Env → Prop) : Prop := ∀ B ad σ F H, WA B ad ρ σ F H → ∀ Z : VK,
  (∀ ds ρ' p vs F' H', Q ds ρ' → Post B ad σ ρ F H ρ' F' H' → F' p = none → H p = none → H' p = some (.lst vs) → RpA F' vs ds → Z (.ref p) H') → te σ H Z
def EPt (to : TO) (ρ : Env) (Q : Option Int → Env → Prop) : Prop := ∀ B ad σ F H, WA B ad ρ σ F H → ∀ Z : Option Int → Hp → Prop, (∀ o ρ' F' H', Q o ρ' → Post B ad σ ρ F H ρ' F' H' → Z o H') → to σ H Z
/-- operations by data -/
def OpD (r : R2) (d1 d2 : D) (K : D → Prop) : Prop := ∀ F H x y, Same F H → Rp F x d1 → Rp F y d2 → ∀ Z : VK, (∀ d v F' H', K d → Gr Non F H F' H' → Rp F' v d → Z v H') → r x y H Z
def OpO (r : R2) (d1 d2 : D) (K : List D → Prop) : Prop := ∀ F H x y, Same F H → Rp F x d1 → Rp F y d2 → ∀ Z : VK, (∀ ds p vs H', K ds → Same H H' → H p = none → H' p = some (.lst vs) → RpA F vs ds → Z (.ref p) H') → r x y H Z
def UnD (r : V → Hp → VK → Prop) (d1 : D) (K : D → Prop) : Prop := ∀ F H x, Same F H → Rp F x d1 → ∀ Z : VK, (∀ d v F' H', K d → Gr Non F H F' H' → Rp F' v d → Z v H') → r x H Z
def CbD (r : List V → Hp → VK → Prop) (ds : List D) (K : D → Prop) : Prop := ∀ F H vs, Same F H → RpA F vs ds → ∀ Z : VK, (∀ d v F' H', K d → Gr Non F H F' H' → Rp F' v d → Z v H') → r vs H Z
def CbO (r : List V → Hp → VK → Prop) (ds : List D) (K : List D → Prop) : Prop := ∀ F H vs, Same F H → RpA F vs ds → ∀ Z : VK, (∀ es p ws H', K es → Same H H' → H p = none → H' p = some (.lst ws) → RpA F ws es → Z (.ref p) H') → r vs H Z
def SlD (r : V → Option Int → Option Int → Hp → VK → Prop) (d1 : D) (lo hi : Option Int) (K : D → Prop) : Prop := ∀ F H x, Same F H → Rp F x d1 → ∀ Z : VK, (∀ d v F' H', K d → Gr Non F H F' H' → Rp F' v d → Z v H') → r x lo hi H Z
def SlO (r : V → Option Int → Option Int → Hp → VK → Prop) (d1 : D) (lo hi : Option Int) (K : List D → Prop) : Prop := ∀ F H x, Same F H → Rp F x d1 → ∀ Z : VK, (∀ ds p vs H', K ds → Same H H' → H p = none → H' p = some (.lst vs) → RpA F vs ds → Z (.ref p) H') → r x lo hi H Z

section
variable {B : Base} {ad : Nat → List Addr} {ρ ρ' ρ1 ρ2 : Env} {σ : St} {F H F' H' F1 H1 F2 H2 : Hp} {te ta tb tc : TE} {tt tu : TT} {t : TA} {Q Q' : D → Env → Prop}
theorem WA.newp (w : WA B ad ρ σ F H) {p : Addr} (h : H p = none) : F p = none ∧ B.H0 p = none ∧ ∀ i, p ∉ ad i := by
  refine ⟨w.gr.fh.free h, ?_, fun i m => w.lv m h⟩
  cases q : B.H0 p with
  | none => rfl
  | some o => exact absurd h (w.gr.al p (by rw [q]; intro z; cases z))
/-- a list that nobody owns is frozen -/
theorem WA.freeze (w : WA B ad ρ σ F H) {p : Addr} {vs : List V} (hF : F p = none) (h0 : B.H0 p = none) (hn : ∀ i, p ∉ ad i) (hp : H p = some (.lst vs)) : WA B ad ρ σ (upd F p (.lst vs)) H where
  gr := ⟨w.gr.ff.trans (same_upd hF), fun a o e => by
    by_cases ha : a = p
    · subst ha; rw [upd_same] at e; rw [hp]; exact e
    · rw [upd_ne ha] at e; exact w.gr.fh a o e, w.gr.kp, w.gr.al, fun a e z => by
    have ha : a ≠ p := fun q => e (by rw [q]; exact h0)
    rw [upd_ne ha]
    exact w.gr.fr a e z⟩
  len := w.len
  sl := fun i s e => by
    have k := w.sl i s e
    have up := same_upd (o := .lst vs) hF
    cases s with
    | emp => exact k
    | val d =>
      obtain ⟨k, v, e, r⟩ := k
      exact ⟨k, v, e, r.up up⟩
    | own ds =>
      obtain ⟨q, ws, k, k0, k1, k2, r⟩ := k
      exact ⟨q, ws, k, k0, k1, k2, r.up up⟩
    | st S => exact k
  fz := fun i q m => by
    have ne : q ≠ p := fun z => hn i (z ▸ m)
    rw [upd_ne ne]
    exact w.fz i q m
  dj := w.dj
  out := w.out
  pin := w.pin
theorem Post.freeze (w : Post B ad σ ρ F H ρ' F' H') (w0 : WA B ad ρ σ F H) {p : Addr} {vs : List V} (hF : F' p = none) (hH : H p = none) (hp : H' p = some (.lst vs)) : Post B ad σ ρ F H ρ' (upd F' p (.lst vs)) H' :=
  have n := w0.newp hH
  have f := w.wa.freeze hF n.2.1 n.2.2 hp
  ⟨f, ⟨w.gr.ff.trans (same_upd hF), f.gr.fh, w.gr.kp, w.gr.al, fun a e z => by
    have ha : a ≠ p := fun q => e (by rw [q]; exact hH)
    rw [upd_ne ha]
    exact w.gr.fr a e z⟩, w.sh⟩

/-! #### the rules -/
theorem EX.imp (h : EX te ρ Q) (k : ∀ d ρ', Q d ρ' → Q' d ρ') : EX te ρ Q' := fun B ad σ F H w Z z => h B ad σ F H w Z fun d ρ' v F' H' q p r => z d ρ' v F' H' (k d ρ' q) p r
theorem ex_of {Q : D → Env → Prop} (h : EO te ρ fun ds ρ' => Q (.list ds) ρ') : EX te ρ Q := fun B ad σ F H w Z z => h B ad σ F H w Z fun ds ρ' p vs F' H' q P hF hH hp r =>
  z _ ρ' _ (upd F' p (.lst vs)) H' q (P.freeze w hF hH hp) (.lst (.inl upd_same) (r.up (same_upd hF)))
theorem ex_var {i : Nat} {d : D} (h : ρ[i]? = some (.val d)) (q : Q d ρ) : EX (tVar i) ρ Q := fun B ad σ F H w Z z => by
  obtain ⟨_, v, e, r⟩ := w.sl i _ h
  exact ⟨v, e, z d ρ v F H q (Post.refl w) r⟩
theorem ex_c {v : V} {d : D} (r : ∀ F, Rp F v d) (q : Q d ρ) : EX (tC v) ρ Q := fun B ad σ F H w Z z => z d ρ v F H q (Post.refl w) (r F)
theorem ex_int {i : Int} (q : Q (.int i) ρ) : EX (tC (.int i)) ρ Q := ex_c (fun _ => .int i) q
theorem ex_str {x : Str} (q : Q (.str x) ρ) : EX (tC (.str x)) ρ Q := ex_c (fun _ => .str x) q
theorem ex_bl {b : Bool} (q : Q (.bool b) ρ) : EX (tC (.bl b)) ρ Q := ex_c (fun _ => .bl b) q
theorem ex_non (q : Q .none ρ) : EX (tC .non) ρ Q := ex_c (fun _ => .non) q
theorem ex_op {r : R2} (h : EX ta ρ fun d1 ρ1 => EX tb ρ1 fun d2 ρ2 => OpD r d1 d2 fun d => Q d ρ2) : EX (tOp r ta tb) ρ Q := fun B ad σ F H w Z z =>
  h B ad σ F H w _ fun d1 ρ1 x F1 H1 q1 p1 r1 => q1 B ad σ F1 H1 p1.wa _ fun d2 ρ2 y F2 H2 q2 p2 r2 =>
    q2 F2 H2 x y p2.wa.gr.fh (r1.up p2.gr.ff) r2 Z fun d v F' H' kd g rv => z d ρ2 v F' H' kd ((p1.trans p2).trans (Post.of p2.wa g)) rv
theorem eo_op {r : R2} {Q : List D → Env → Prop} (h : EX ta ρ fun d1 ρ1 => EX tb ρ1 fun d2 ρ2 => OpO r d1 d2 fun d => Q d ρ2) : EO (tOp r ta tb) ρ Q := fun B ad σ F H w Z z =>
  h B ad σ F H w _ fun d1 ρ1 x F1 H1 q1 p1 r1 => q1 B ad σ F1 H1 p1.wa _ fun d2 ρ2 y F2 H2 q2 p2 r2 =>
    q2 F2 H2 x y p2.wa.gr.fh (r1.up p2.gr.ff) r2 Z fun ds p vs H' kd e hn hp rv => z ds ρ2 p vs F2 H' kd ((p1.trans p2).trans (Post.of p2.wa (Gr.heap p2.wa.gr.fh e))) (p2.wa.newp hn).1 (by
      cases q : H p with
      | none => rfl
      | some o => exact absurd hn (p2.gr.al p (p1.gr.al p (by rw [q]; intro z; cases z)))) hp rv
theorem ex_un {r : V → Hp → VK → Prop} (h : EX ta ρ fun d1 ρ1 => UnD r d1 fun d => Q d ρ1) : EX (tUn r ta) ρ Q := fun B ad σ F H w Z z =>
  h B ad σ F H w _ fun d1 ρ1 x F1 H1 q1 p1 r1 => q1 F1 H1 x p1.wa.gr.fh r1 Z fun d v F' H' kd g rv => z d ρ1 v F' H' kd (p1.trans (Post.of p1.wa g)) rv
theorem ea_nil {Q : List D → Env → Prop} (q : Q [] ρ) : EA tNil ρ Q := fun B ad σ F H w Z z => z [] ρ [] F H q (Post.refl w) .nil
theorem ea_cons {Q : List D → Env → Prop} (h : EX te ρ fun d ρ1 => EA t ρ1 fun ds ρ2 => Q (d :: ds) ρ2) : EA (tCons te t) ρ Q := fun B ad σ F H w Z z =>
  h B ad σ F H w _ fun d ρ1 v F1 H1 q1 p1 r1 => q1 B ad σ F1 H1 p1.wa _ fun ds ρ2 vs F2 H2 q2 p2 r2 => z (d :: ds) ρ2 (v :: vs) F2 H2 q2 (p1.trans p2) (.cons (r1.up p2.gr.ff) r2)
theorem ex_cb {r : List V → Hp → VK → Prop} (h : EA t ρ fun ds ρ1 => CbD r ds fun d => Q d ρ1) : EX (tCB r t) ρ Q := fun B ad σ F H w Z z =>
  h B ad σ F H w _ fun ds ρ1 vs F1 H1 q1 p1 r1 => q1 F1 H1 vs p1.wa.gr.fh r1 Z fun d v F' H' kd g rv => z d ρ1 v F' H' kd (p1.trans (Post.of p1.wa g)) rv
theorem eo_cb {r : List V → Hp → VK → Prop} {Q : List D → Env → Prop} (h : EA t ρ fun ds ρ1 => CbO r ds fun d => Q d ρ1) : EO (tCB r t) ρ Q := fun B ad σ F H w Z z =>
  h B ad σ F H w _ fun ds ρ1 vs F1 H1 q1 p1 r1 => q1 F1 H1 vs p1.wa.gr.fh r1 Z fun es p ws H' kd e hn hp rv => z es ρ1 p ws F1 H' kd (p1.trans (Post.of p1.wa (Gr.heap p1.wa.gr.fh e))) (p1.wa.newp hn).1 (by
      cases q : H p with
      | none => rfl
      | some o => exact absurd hn (p1.gr.al p (by rw [q]; intro z; cases z))) hp rv
theorem ex_tup (h : EA t ρ fun ds ρ1 => ds.length ≤ 100000 ∧ Q (.tuple ds) ρ1) : EX (tTup t) ρ Q := fun B ad σ F H w Z z =>
  h B ad σ F H w _ fun ds ρ1 vs F1 H1 q1 p1 r1 => ⟨Nat.le_trans (by rw [r1.len]; exact q1.1) (by decide), fun p hp =>
    z _ ρ1 _ (upd F1 p (.tup vs)) _ q1.2 (p1.trans (Post.of p1.wa (Gr.new p1.wa.gr.fh hp))) (.tup upd_same (r1.up (Gr.new p1.wa.gr.fh hp).ff))⟩
theorem eo_lst {Q : List D → Env → Prop} (h : EA t ρ fun ds ρ1 => ds.length ≤ 100000 ∧ Q ds ρ1) : EO (tLst t) ρ Q := fun B ad σ F H w Z z =>
  h B ad σ F H w _ fun ds ρ1 vs F1 H1 q1 p1 r1 => ⟨Nat.le_trans (by rw [r1.len]; exact q1.1) (by decide), fun p hp =>
    z _ ρ1 p vs F1 _ q1.2 (p1.trans (Post.of p1.wa (Gr.heap p1.wa.gr.fh (same_upd hp)))) (p1.wa.newp hp).1 (by
      cases q : H p with
      | none => rfl
      | some o => exact absurd hp (p1.gr.al p (by rw [q]; intro z; cases z))) upd_same r1⟩
/-! slices -/
theorem ep_no {Q : Option Int → Env → Prop} (q : Q none ρ) : EPt tNoPart ρ Q := fun B ad σ F H w Z z => z none ρ F H q (Post.refl w)
theorem ep_some {Q : Option Int → Env → Prop} (h : EX te ρ fun d ρ1 => ∃ i, d = .int i ∧ Q (some i) ρ1) : EPt (tPart te) ρ Q := fun B ad σ F H w Z z =>
  h B ad σ F H w _ fun d ρ1 v F1 H1 q1 p1 r1 => by
    obtain ⟨i, rfl, q⟩ := q1
    exact ⟨i, r1.int_inv, z _ ρ1 F1 H1 q p1⟩
theorem ex_sl {r : V → Option Int → Option Int → Hp → VK → Prop} {tl th : TO} (h : EX te ρ fun d1 ρ1 => EPt tl ρ1 fun lo ρ2 => EPt th ρ2 fun hi ρ3 => SlD r d1 lo hi fun d => Q d ρ3) : EX (tSl r te tl th) ρ Q := fun B ad σ F H w Z z =>
  h B ad σ F H w _ fun d1 ρ1 x F1 H1 q1 p1 r1 => q1 B ad σ F1 H1 p1.wa _ fun lo ρ2 F2 H2 q2 p2 => q2 B ad σ F2 H2 p2.wa _ fun hi ρ3 F3 H3 q3 p3 =>
    q3 F3 H3 x p3.wa.gr.fh ((r1.up p2.gr.ff).up p3.gr.ff) Z fun d v F' H' kd g rv => z d ρ3 v F' H' kd (((p1.trans p2).trans p3).trans (Post.of p3.wa g)) rv
theorem eo_sl {r : V → Option Int → Option Int → Hp → VK → Prop} {tl th : TO} {Q : List D → Env → Prop} (h : EX te ρ fun d1 ρ1 => EPt tl ρ1 fun lo ρ2 => EPt th ρ2 fun hi ρ3 => SlO r d1 lo hi fun d => Q d ρ3) : EO (tSl r te tl th) ρ Q := fun B ad σ F H w Z z =>
  h B ad σ F H w _ fun d1 ρ1 x F1 H1 q1 p1 r1 => q1 B ad σ F1 H1 p1.wa _ fun lo ρ2 F2 H2 q2 p2 => q2 B ad σ F2 H2 p2.wa _ fun hi ρ3 F3 H3 q3 p3 =>
    q3 F3 H3 x p3.wa.gr.fh ((r1.up p2.gr.ff).up p3.gr.ff) Z fun ds p vs H' kd e hn hp rv => z ds ρ3 p vs F3 H' kd (((p1.trans p2).trans p3).trans (Post.of p3.wa (Gr.heap p3.wa.gr.fh e))) (p3.wa.newp hn).1 (by
      cases q : H p with
      | none => rfl
      | some o => exact absurd hn (p3.gr.al p (p2.gr.al p (p1.gr.al p (by rw [q]; intro z; cases z))))) hp rv
/-! tests -/
theorem et_imp {Q Q' : Bool → Env → Prop} (h : ET tt ρ Q) (k : ∀ b ρ', Q b ρ' → Q' b ρ') : ET tt ρ Q' := fun B ad σ F H w Z z => h B ad σ F H w Z fun b ρ' F' H' q p => z b ρ' F' H' (k b ρ' q) p
theorem et_test {Q : Bool → Env → Prop} (h : EX te ρ fun d ρ1 => ∃ b, d = .bool b ∧ Q b ρ1) : ET (tTest te) ρ Q := fun B ad σ F H w Z z =>
  h B ad σ F H w _ fun d ρ1 v F1 H1 q1 p1 r1 => by
    obtain ⟨b, rfl, q⟩ := q1
    exact ⟨b, r1.bl_inv, z b ρ1 F1 H1 q p1⟩
theorem et_B {Q : Bool → Env → Prop} (h : EX te ρ fun d ρ1 => ∃ b, d = .bool b ∧ Q b ρ1) : ET (tB te) ρ Q := et_test h
theorem et_and {Q : Bool → Env → Prop} (h : ET tt ρ fun b ρ1 => (b = true → ET tu ρ1 Q) ∧ (b = false → Q false ρ1)) : ET (tAnd tt tu) ρ Q := fun B ad σ F H w Z z =>
  h B ad σ F H w _ fun b ρ1 F1 H1 q1 p1 => by
    cases b with
    | true =>
      show tu σ H1 Z
      exact q1.1 rfl B ad σ F1 H1 p1.wa Z fun b ρ' F' H' q p => z b ρ' F' H' q (p1.trans p)
    | false =>
      show Z false H1
      exact z false ρ1 F1 H1 (q1.2 rfl) p1
theorem et_or {Q : Bool → Env → Prop} (h : ET tt ρ fun b ρ1 => (b = true → Q true ρ1) ∧ (b = false → ET tu ρ1 Q)) : ET (tOr tt tu) ρ Q := fun B ad σ F H w Z z =>
  h B ad σ F H w _ fun b ρ1 F1 H1 q1 p1 => by
    cases b with
    | true =>
      show Z true H1
      exact z true ρ1 F1 H1 (q1.1 rfl) p1
    | false =>
      show tu σ H1 Z
      exact q1.2 rfl B ad σ F1 H1 p1.wa Z fun b ρ' F' H' q p => z b ρ' F' H' q (p1.trans p)
theorem et_not {Q : Bool → Env → Prop} (h : ET tt ρ fun b ρ1 => Q (!b) ρ1) : ET (tNot tt) ρ Q := fun B ad σ F H w Z z => h B ad σ F H w _ fun b ρ1 F1 H1 q p => z (!b) ρ1 F1 H1 q p
theorem ex_andV (h : EX ta ρ fun d ρ1 => ∃ b, d = .bool b ∧ (b = true → EX tb ρ1 Q) ∧ (b = false → Q (.bool false) ρ1)) : EX (tAndV ta tb) ρ Q := fun B ad σ F H w Z z =>
  h B ad σ F H w _ fun d ρ1 v F1 H1 q1 p1 r1 => by
    obtain ⟨b, rfl, k1, k2⟩ := q1
    refine ⟨b, r1.bl_inv, ?_⟩
    cases b with
    | true =>
      show tb σ H1 Z
      exact k1 rfl B ad σ F1 H1 p1.wa Z fun d ρ' v F' H' q p r => z d ρ' v F' H' q (p1.trans p) r
    | false =>
      show Z (.bl false) H1
      exact z _ ρ1 _ F1 H1 (k2 rfl) p1 (.bl false)
theorem ex_orV (h : EX ta ρ fun d ρ1 => ∃ b, d = .bool b ∧ (b = true → Q (.bool true) ρ1) ∧ (b = false → EX tb ρ1 Q)) : EX (tOrV ta tb) ρ Q := fun B ad σ F H w Z z =>
  h B ad σ F H w _ fun d ρ1 v F1 H1 q1 p1 r1 => by
    obtain ⟨b, rfl, k1, k2⟩ := q1
    refine ⟨b, r1.bl_inv, ?_⟩
    cases b with
    | true =>
      show Z (.bl true) H1
      exact z _ ρ1 _ F1 H1 (k1 rfl) p1 (.bl true)
    | false =>
      show tb σ H1 Z
      exact k2 rfl B ad σ F1 H1 p1.wa Z fun d ρ' v F' H' q p r => z d ρ' v F' H' q (p1.trans p) r
theorem ex_notV (h : EX ta ρ fun d ρ1 => ∃ b, d = .bool b ∧ Q (.bool !b) ρ1) : EX (tNotV ta) ρ Q := fun B ad σ F H w Z z =>
  h B ad σ F H w _ fun d ρ1 v F1 H1 q1 p1 r1 => by
    obtain ⟨b, rfl, k⟩ := q1
    exact ⟨b, r1.bl_inv, z _ ρ1 _ F1 H1 k p1 (.bl _)⟩
theorem ex_if (h : ET tt ρ fun b ρ1 => (b = true → EX ta ρ1 Q) ∧ (b = false → EX tb ρ1 Q)) : EX (tIf tt ta tb) ρ Q := fun B ad σ F H w Z z =>
  h B ad σ F H w _ fun b ρ1 F1 H1 q1 p1 => by
    cases b with
    | true =>
      show ta σ H1 Z
      exact q1.1 rfl B ad σ F1 H1 p1.wa Z fun d ρ' v F' H' q p r => z d ρ' v F' H' q (p1.trans p) r
    | false =>
      show tb σ H1 Z
      exact q1.2 rfl B ad σ F1 H1 p1.wa Z fun d ρ' v F' H' q p r => z d ρ' v F' H' q (p1.trans p) r
theorem ex_chain {r r' : R2} (h : EX ta ρ fun d1 ρ1 => EX tb ρ1 fun d2 ρ2 => OpD r d1 d2 fun d => ∃ b, d = .bool b ∧ (b = true → EX tc ρ2 fun d3 ρ3 => OpD r' d2 d3 fun d => Q d ρ3) ∧ (b = false → Q (.bool false) ρ2)) : EX (tChain r r' ta tb tc) ρ Q := fun B ad σ F H w Z z =>
  h B ad σ F H w _ fun d1 ρ1 x F1 H1 q1 p1 r1 => q1 B ad σ F1 H1 p1.wa _ fun d2 ρ2 y F2 H2 q2 p2 r2 =>
    q2 F2 H2 x y p2.wa.gr.fh (r1.up p2.gr.ff) r2 _ fun d v F3 H3 kd g rv => by
      obtain ⟨b, rfl, k1, k2⟩ := kd
      refine ⟨b, rv.bl_inv, ?_⟩
      have p3 := (p1.trans p2).trans (Post.of p2.wa g)
      cases b with
      | true =>
        show tc σ H3 fun w' H4 => r' y w' H4 Z
        exact k1 rfl B ad σ F3 H3 p3.wa _ fun d3 ρ3 u F4 H4 q4 p4 r4 => q4 F4 H4 y u p4.wa.gr.fh ((r2.up g.ff).up p4.gr.ff) r4 Z fun d v F' H' kd g rv => z d ρ3 v F' H' kd ((p3.trans p4).trans (Post.of p4.wa g)) rv
      | false =>
        show Z (.bl false) H3
        exact z _ ρ2 _ F3 H3 (k2 rfl) p3 (.bl false)
end
/-! ### operations -/
section
variable {K : PySem.W.Frag} {Q : D → Prop} {i j : Int} {d d1 d2 : D} {ds es : List D}
theorem opd_I0 {g : Int → Int → Int} (k : Q (.int (g i j))) : OpD (rI0 fun i j => .int (g i j)) (.int i) (.int j) Q := fun F H x y e rx ry Z z => ⟨i, j, rx.int_inv, ry.int_inv, z _ _ F H k (Gr.refl e) (.int _)⟩
theorem opd_B0 {g : Int → Int → Bool} (k : Q (.bool (g i j))) : OpD (rI0 fun i j => .bl (g i j)) (.int i) (.int j) Q := fun F H x y e rx ry Z z => ⟨i, j, rx.int_inv, ry.int_inv, z _ _ F H k (Gr.refl e) (.bl _)⟩
theorem opd_I {C : Int → Int → Prop} {g : Int → Int → Int} (c : C i j) (k : Q (.int (g i j))) : OpD (rI C fun i j => .int (g i j)) (.int i) (.int j) Q := fun F H x y e rx ry Z z => ⟨i, j, rx.int_inv, ry.int_inv, c, z _ _ F H k (Gr.refl e) (.int _)⟩
theorem und_neg (k : Q (.int (-i))) : UnD (rU fun i => .int (-i)) (.int i) Q := fun F H x e rx Z z => ⟨i, rx.int_inv, z _ _ F H k (Gr.refl e) (.int _)⟩
theorem opd_eq (s1 : SeqAt.shaped d1 = true) (s2 : SeqAt.shaped d2 = true) (k : Q (.bool (PyData.eqv d1 d2))) : OpD (rEqD K) d1 d2 Q := fun F H x y e rx ry Z z => ⟨d1, d2, rx.dp e, ry.dp e, s1, s2, z _ _ F H k (Gr.refl e) (.bl _)⟩
theorem opd_ne (s1 : SeqAt.shaped d1 = true) (s2 : SeqAt.shaped d2 = true) (k : Q (.bool (!PyData.eqv d1 d2))) : OpD (rNeD K) d1 d2 Q := fun F H x y e rx ry Z z => ⟨d1, d2, rx.dp e, ry.dp e, s1, s2, z _ _ F H k (Gr.refl e) (.bl _)⟩
def isN : D → Bool
  | .none => true
  | _ => false
theorem isN_of {F : Hp} {x : V} (r : Rp F x d) : decide (x = .non) = isN d := by cases r <;> rfl
def rIs : R2 := fun x y H Q => y = .non ∧ Q (.bl (decide (x = .non))) H
def rIsnt : R2 := fun x y H Q => y = .non ∧ Q (.bl (!decide (x = .non))) H
theorem op_is {X : Cx} : OpR X (compareOp .Is) rIs := op_isN
theorem op_isnt {X : Cx} : OpR X (compareOp .IsNot) rIsnt := op_notN
theorem opd_is (k : Q (.bool (isN d))) : OpD rIs d .none Q := fun F H x y e rx ry Z z => ⟨ry.non_inv, by rw [isN_of rx]; exact z _ _ F H k (Gr.refl e) (.bl _)⟩
theorem opd_isnt (k : Q (.bool (!isN d))) : OpD rIsnt d .none Q := fun F H x y e rx ry Z z => ⟨ry.non_inv, by rw [isN_of rx]; exact z _ _ F H k (Gr.refl e) (.bl _)⟩
/-! an item -/
theorem RpA.at_ {F : Hp} {vs : List V} (r : RpA F vs ds) (h : atI ds i = some d) : ∃ v, atI vs i = some v ∧ Rp F v d := by
  unfold atI at h ⊢
  rw [r.len]
  cases e : ixN ds.length i with
  | none => rw [e] at h; cases h
  | some k =>
    rw [e] at h
    exact r.get (k := k) h
def rIxA (K : PySem.W.Frag) : R2 := fun x y H Q => rIxL K x y H Q ∨ rIxT K x y H Q
theorem ix_any {X : Cx} : IxR X (rIxA X.K) := IxR.or ix_list ix_tup
theorem opd_ixL (h : atI ds i = some d) (k : Q d) : OpD (rIxA K) (.list ds) (.int i) Q := fun F H x y e rx ry Z z => by
  obtain ⟨a, xs, rfl, h1, h2⟩ := rx.lst_inv
  obtain ⟨v, hv, rv⟩ := h2.at_ h
  exact .inl ⟨a, xs, i, v, rfl, ry.int_inv, sqL_rd h1 e, hv, z _ _ F H k (Gr.refl e) rv⟩
theorem opd_ixT (h : atI ds i = some d) (k : Q d) : OpD (rIxA K) (.tuple ds) (.int i) Q := fun F H x y e rx ry Z z => by
  obtain ⟨a, xs, rfl, h1, h2⟩ := rx.tup_inv
  obtain ⟨v, hv, rv⟩ := h2.at_ h
  exact .inr ⟨a, xs, i, v, rfl, ry.int_inv, sqT_rd h1 e, hv, z _ _ F H k (Gr.refl e) rv⟩
/-! + -/
def rCatR : R2 := fun x y H Q => ∃ l b xs zs, x = .ref l ∧ y = .ref b ∧ Rd H l (.lst xs) ∧ Rd H b (.lst zs) ∧ xs.length + zs.length ≤ sizeLine ∧ ∀ p, H p = none → Q (.ref p) (upd H p (.lst (xs ++ zs)))
theorem op_catR {X : Cx} : OpR X (binaryOp .Add) rCatR := by
  intro pins s σ H x y v u Q I rx ry h
  obtain ⟨l, b, xs, zs, rfl, rfl, hH, hB, hz, q⟩ := h
  cases rx
  cases ry
  obtain ⟨z, its, n, r, e⟩ := hH.ok I.hok
  obtain ⟨z2, its2, n2, r2, e2⟩ := hB.ok I.hok
  have hl := r.length
  have hl2 := r2.length
  refine PySem.P.add_list e e2 ?_ (by rw [List.size_toArray, List.size_toArray]; omega)
  have ea : its.toArray ++ its2.toArray = (its ++ its2).toArray := by simp
  rw [ea]
  exact ⟨.ref _, _, I.lnew (t' := s.toks) (r.append r2) (by rw [List.length_append]; omega), rfl, q _ I.fresh⟩
def rPlus (K : PySem.W.Frag) : R2 := fun x y H Q => (fun x y H Q => rI0 (fun i j => .int (i + j)) x y H Q ∨ rCatR x y H Q) x y H Q ∨ rCatA K x y H Q
theorem op_plus {X : Cx} : OpR X (binaryOp .Add) (rPlus X.K) := OpR.or (OpR.or op_add op_catR) op_catA
theorem opd_plusI (k : Q (.int (i + j))) : OpD (rPlus K) (.int i) (.int j) Q := fun F H x y e rx ry Z z => .inl (.inl (opd_I0 k F H x y e rx ry Z z))
theorem opo_plusL {Q : List D → Prop} (hz : ds.length + es.length ≤ 1000000) (k : Q (ds ++ es)) : OpO (rPlus K) (.list ds) (.list es) Q := fun F H x y e rx ry Z z => by
  obtain ⟨a, xs, rfl, h1, h2⟩ := rx.lst_inv
  obtain ⟨b, ys, rfl, g1, g2⟩ := ry.lst_inv
  exact .inl (.inr ⟨a, b, xs, ys, rfl, rfl, rd_mono e h1, rd_mono e g1, Nat.le_trans (by rw [h2.len, g2.len]; exact hz) (by decide), fun p hp => z _ p _ _ k (same_upd hp) hp upd_same (h2.app g2)⟩)
theorem opd_plusT (hz : ds.length + es.length ≤ 1000000) (k : Q (.tuple (ds ++ es))) : OpD (rPlus K) (.tuple ds) (.tuple es) Q := fun F H x y e rx ry Z z => by
  obtain ⟨a, xs, rfl, h1, h2⟩ := rx.tup_inv
  obtain ⟨b, ys, rfl, g1, g2⟩ := ry.tup_inv
  refine .inr ⟨a, b, xs, ys, rfl, rfl, sqT_rd h1 e, sqT_rd g1 e, Nat.le_trans (by rw [h2.len, g2.len]; exact hz) (by decide), fun q => ?_, fun _ q => ?_, fun _ _ p hp => ?_⟩
  · subst q
    cases h2
    exact z _ _ F H k (Gr.refl e) ry
  · subst q
    cases g2
    rw [List.append_nil] at k
    exact z _ _ F H k (Gr.refl e) rx
  · exact z _ _ _ _ k (Gr.new e hp) (.tup upd_same ((h2.app g2).up (Gr.new e hp).ff))
/-! slices -/
def rSl (K : PySem.W.Frag) : V → Option Int → Option Int → Hp → VK → Prop := fun x lo hi H Q => rSlL K x lo hi H Q ∨ rSlA K x lo hi H Q
theorem sl_any {X : Cx} : SlR X (rSl X.K) := SlR.or sl_list sl_tupA
def cutD (xs : List D) (lo hi : Option Int) : List D := (xs.drop (HT.sIx xs.length 0 lo)).take (HT.sIx xs.length xs.length hi - HT.sIx xs.length 0 lo)
theorem RpA.cut {F : Hp} {vs : List V} (r : RpA F vs ds) (lo hi : Option Int) : RpA F (cutV vs lo hi) (cutD ds lo hi) := by
  unfold cutV cutD
  rw [r.len]
  exact (r.drop _).take _
theorem slo_L {Q : List D → Prop} {lo hi : Option Int} (k : Q (cutD ds lo hi)) : SlO (rSl K) (.list ds) lo hi Q := fun F H x e rx Z z => by
  obtain ⟨a, xs, rfl, h1, h2⟩ := rx.lst_inv
  exact .inl ⟨a, xs, rfl, sqL_rd h1 e, fun p hp => z _ p _ _ k (same_upd hp) hp upd_same (h2.cut lo hi)⟩
theorem sld_T {lo hi : Option Int} (k : Q (.tuple (cutD ds lo hi))) : SlD (rSl K) (.tuple ds) lo hi Q := fun F H x e rx Z z => by
  obtain ⟨a, xs, rfl, h1, h2⟩ := rx.tup_inv
  refine .inr ⟨a, xs, rfl, sqT_rd h1 e, fun w => ?_, fun w p hp => z _ _ _ _ k (Gr.new e hp) (.tup upd_same ((h2.cut lo hi).up (Gr.new e hp).ff))⟩
  have ec : cutD ds lo hi = ds := by
    rw [h2.len] at w
    unfold cutD
    rw [w.1, w.2, List.drop_zero, Nat.sub_zero, List.take_length]
  rw [ec] at k
  exact z _ _ F H k (Gr.refl e) rx
/-! built-ins -/
def rLen (K : PySem.W.Frag) : List V → Hp → VK → Prop := fun xs H Q => ∃ x n, xs = [x] ∧ LenV K x H n ∧ Q (.int (n : Int)) H
theorem cb_len {X : Cx} : CallR X (.builtin "len") (rLen X.K) := call_len
theorem RpA.one {F : Hp} {vs : List V} (h : RpA F vs [d]) : ∃ v, vs = [v] ∧ Rp F v d := by
  cases h with
  | cons h1 h2 => cases h2; exact ⟨_, rfl, h1⟩
theorem RpA.two {F : Hp} {vs : List V} (h : RpA F vs [d1, d2]) : ∃ v u, vs = [v, u] ∧ Rp F v d1 ∧ Rp F u d2 := by
  cases h with
  | cons h1 h2 => obtain ⟨u, rfl, r⟩ := h2.one; exact ⟨_, _, rfl, h1, r⟩
theorem cbd_lenL (k : Q (.int (ds.length : Int))) : CbD (rLen K) [.list ds] Q := fun F H vs e r Z z => by
  obtain ⟨v, rfl, rv⟩ := r.one
  obtain ⟨a, xs, rfl, h1, h2⟩ := rv.lst_inv
  exact ⟨_, ds.length, rfl, .inl ⟨xs, sqL_rd h1 e, h2.len.symm⟩, z _ _ F H k (Gr.refl e) (.int _)⟩
theorem cbd_lenT (k : Q (.int (ds.length : Int))) : CbD (rLen K) [.tuple ds] Q := fun F H vs e r Z z => by
  obtain ⟨v, rfl, rv⟩ := r.one
  obtain ⟨a, xs, rfl, h1, h2⟩ := rv.tup_inv
  exact ⟨_, ds.length, rfl, .inr ⟨xs, sqT_rd h1 e, h2.len.symm⟩, z _ _ F H k (Gr.refl e) (.int _)⟩
def rAbs : List V → Hp → VK → Prop := fun xs H Q => ∃ i, xs = [.int i] ∧ Q (.int (if i < 0 then -i else i)) H
theorem cb_abs {X : Cx} : CallR X (.builtin "abs") rAbs := call_abs
theorem cbd_abs (k : Q (.int (i.natAbs : Int))) : CbD rAbs [.int i] Q := fun F H vs e r Z z => by
  obtain ⟨v, rfl, rv⟩ := r.one
  refine ⟨i, by rw [rv.int_inv], ?_⟩
  have e2 : (if i < 0 then -i else i) = (i.natAbs : Int) := by
    by_cases h : i < 0
    · rw [if_pos h]; omega
    · rw [if_neg h]; omega
  rw [e2]
  exact z _ _ F H k (Gr.refl e) (.int _)
def rMx2 : List V → Hp → VK → Prop := fun xs H Q => ∃ i j, xs = [.int i, .int j] ∧ Q (.int (if j > i then j else i)) H
def rMn2 : List V → Hp → VK → Prop := fun xs H Q => ∃ i j, xs = [.int i, .int j] ∧ Q (.int (if j < i then j else i)) H
theorem cb_max2 {X : Cx} (hc : X.calm = true) : CallR X (.builtin "max") rMx2 := call_max2 hc
theorem cb_min2 {X : Cx} (hc : X.calm = true) : CallR X (.builtin "min") rMn2 := call_min2 hc
theorem cbd_max2 (k : Q (.int (max i j))) : CbD rMx2 [.int i, .int j] Q := fun F H vs e r Z z => by
  obtain ⟨v, u, rfl, rv, ru⟩ := r.two
  refine ⟨i, j, by rw [rv.int_inv, ru.int_inv], ?_⟩
  have e2 : (if j > i then j else i) = max i j := by
    by_cases h : j > i
    · rw [if_pos h]; omega
    · rw [if_neg h]; omega
  rw [e2]
  exact z _ _ F H k (Gr.refl e) (.int _)
theorem cbd_min2 (k : Q (.int (min i j))) : CbD rMn2 [.int i, .int j] Q := fun F H vs e r Z z => by
  obtain ⟨v, u, rfl, rv, ru⟩ := r.two
  refine ⟨i, j, by rw [rv.int_inv, ru.int_inv], ?_⟩
  have e2 : (if j < i then j else i) = min i j := by
    by_cases h : j < i
    · rw [if_pos h]; omega
    · rw [if_neg h]; omega
  rw [e2]
  exact z _ _ F H k (Gr.refl e) (.int _)
def rInt : List V → Hp → VK → Prop := fun xs H Q => (∃ i, xs = [.int i] ∧ Q (.int i) H) ∨ ∃ k, xs = [.bl k] ∧ Q (.int (if k then 1 else 0)) H
theorem cb_int {X : Cx} : CallR X (.type "int") rInt := call_int1
theorem cbd_int (k : Q (.int i)) : CbD rInt [.int i] Q := fun F H vs e r Z z => by
  obtain ⟨v, rfl, rv⟩ := r.one
  exact .inl ⟨i, by rw [rv.int_inv], z _ _ F H k (Gr.refl e) (.int _)⟩
def rList (K : PySem.W.Frag) : List V → Hp → VK → Prop := fun xs H Q => ∃ p ys, xs = [.ref p] ∧ (SqL K H p ys ∨ SqT K H p ys) ∧ ∀ l, H l = none → Q (.ref l) (upd H l (.lst ys))
theorem cb_list {X : Cx} : CallR X (.type "list") (rList X.K) := call_list_of
theorem cbo_listL {Q : List D → Prop} (k : Q ds) : CbO (rList K) [.list ds] Q := fun F H vs e r Z z => by
  obtain ⟨v, rfl, rv⟩ := r.one
  obtain ⟨a, xs, rfl, h1, h2⟩ := rv.lst_inv
  exact ⟨a, xs, rfl, .inl (sqL_rd h1 e), fun p hp => z _ p _ _ k (same_upd hp) hp upd_same h2⟩
theorem cbo_listT {Q : List D → Prop} (k : Q ds) : CbO (rList K) [.tuple ds] Q := fun F H vs e r Z z => by
  obtain ⟨v, rfl, rv⟩ := r.one
  obtain ⟨a, xs, rfl, h1, h2⟩ := rv.tup_inv
  exact ⟨a, xs, rfl, .inr (sqT_rd h1 e), fun p hp => z _ p _ _ k (same_upd hp) hp upd_same h2⟩
def rTup (K : PySem.W.Frag) : List V → Hp → VK → Prop := fun xs H Q => ∃ p ys, xs = [.ref p] ∧ ((SqL K H p ys ∧ ∀ l, H l = none → Q (.ref l) (upd H l (.tup ys))) ∨ (SqT K H p ys ∧ Q (.ref p) H))
theorem cb_tuple {X : Cx} : CallR X (.type "tuple") (rTup X.K) := call_tuple_of
theorem cbd_tupL (k : Q (.tuple ds)) : CbD (rTup K) [.list ds] Q := fun F H vs e r Z z => by
  obtain ⟨v, rfl, rv⟩ := r.one
  obtain ⟨a, xs, rfl, h1, h2⟩ := rv.lst_inv
  exact ⟨a, xs, rfl, .inl ⟨sqL_rd h1 e, fun p hp => z _ _ _ _ k (Gr.new e hp) (.tup upd_same (h2.up (Gr.new e hp).ff))⟩⟩
theorem cbd_sum {ns : List Int} (k : Q (.int ns.sum)) : CbD (rSum K) [.list (ns.map .int)] Q := fun F H vs e r Z z => by
  obtain ⟨v, rfl, rv⟩ := r.one
  obtain ⟨a, xs, rfl, h1, h2⟩ := rv.lst_inv
  exact ⟨a, ns, rfl, by rw [← h2.ints_inv]; exact sqL_rd h1 e, z _ _ F H k (Gr.refl e) (.int _)⟩
/-- isinstance(x, tuple) -/
theorem ex_isT {te : TE} {ρ : Env} {Q : D → Env → Prop} (h : EX te ρ fun d ρ1 => ∃ ds, d = .tuple ds ∧ Q (.bool true) ρ1) : EX (tCB RZ.rIsTy (tCons te (tCons (tC (.ty "tuple")) tNil))) ρ Q := fun B ad σ F H w Z z =>
  h B ad σ F H w _ fun d ρ1 v F1 H1 q1 p1 r1 => by
    obtain ⟨ds, rfl, q⟩ := q1
    obtain ⟨a, xs, rfl, h1, h2⟩ := r1.tup_inv
    exact ⟨.ref a, "tuple", rfl, .tup (p1.wa.gr.fh _ _ h1), z _ ρ1 _ F1 H1 q p1 (.bl true)⟩
end

/-! ### own lists -/
section
variable {B : Base} {ad : Nat → List Addr} {ρ ρ' : Env} {σ : St} {F H F' H' : Hp} {te tb : TE} {Q : D → Env → Prop}
theorem get_set {α : Type} {l : List α} {i j : Nat} {x y : α} (h : (l.set i x)[j]? = some y) : (j = i ∧ y = x) ∨ (j ≠ i ∧ l[j]? = some y) := by
  by_cases e : j = i
  · subst e
    by_cases hl : j < l.length
    · rw [List.getElem?_set_self hl] at h
      exact .inl ⟨rfl, (Option.some.inj h).symm⟩
    · rw [List.getElem?_eq_none (by simpa using hl)] at h
      cases h
  · rw [List.getElem?_set_ne (Ne.symm e)] at h
    exact .inr ⟨e, h⟩
theorem get_set' {α : Type} {l : List α} {i j : Nat} {x : α} (h : (l.set i x)[j]? = none) : l[j]? = none := by
  rw [List.getElem?_eq_none_iff] at h ⊢
  simpa using h
/-- slot i's own list is frozen where it stands -/
theorem WA.lend (w : WA B ad ρ σ F H) {i : Nat} {ds : List D} (h : ρ[i]? = some (.own ds)) : ∃ p vs, ad i = [p] ∧ F p = none ∧ H p = some (.lst vs) ∧ RpA F vs ds ∧ B.H0 p = none ∧ σ[i]? = some (some (.ref p)) ∧
    WA B (fun k => if k = i then [] else ad k) (ρ.set i (.val (.list ds))) σ (upd F p (.lst vs)) H := by
  obtain ⟨p, vs, k, k0, k1, k2, r⟩ := w.sl i _ h
  have hF : F p = none := (w.fz i p (by rw [k]; simp)).1
  have up := same_upd (o := .lst vs) hF
  refine ⟨p, vs, k, hF, k2, r, k0, k1, ?_⟩
  have hn : ∀ j, j ≠ i → p ∉ ad j := fun j hj m => hj (w.dj j i p m (by rw [k]; simp))
  refine ⟨⟨w.gr.ff.trans up, fun a o e => ?_, w.gr.kp, w.gr.al, fun a e z => ?_⟩, by rw [List.length_set]; exact w.len, fun j s e => ?_, fun j q m => ?_, fun j1 j2 q m1 m2 => ?_, fun j e => ?_, w.pin.to fun S e => by
    rcases get_set e with ⟨_, q⟩ | ⟨hj, e⟩
    · cases q
    · exact ⟨⟨S, e⟩, rfl, if_neg hj⟩⟩
  · by_cases ha : a = p
    · subst ha; rw [upd_same] at e; rw [k2]; exact e
    · rw [upd_ne ha] at e; exact w.gr.fh a o e
  · have ha : a ≠ p := fun q => e (by rw [q]; exact k0)
    rw [upd_ne ha]
    exact w.gr.fr a e z
  · rcases get_set e with ⟨rfl, rfl⟩ | ⟨hj, e⟩
    · exact ⟨if_pos rfl, _, k1, .lst (.inl upd_same) (r.up up)⟩
    · have q := w.sl j s e
      rw [if_neg hj]
      cases s with
      | emp => exact q
      | val d =>
        obtain ⟨k, v, e, r⟩ := q
        exact ⟨k, v, e, r.up up⟩
      | own es =>
        obtain ⟨q, ws, k, k0, k1, k2, r⟩ := q
        exact ⟨q, ws, k, k0, k1, k2, r.up up⟩
      | st S => exact q
  · by_cases hj : j = i
    · simp [hj] at m
    · simp only [if_neg hj] at m
      have ne : q ≠ p := fun z => hn j hj (z ▸ m)
      rw [upd_ne ne]
      exact w.fz j q m
  · by_cases h1 : j1 = i
    · simp [h1] at m1
    · by_cases h2 : j2 = i
      · simp [h2] at m2
      · simp only [if_neg h1] at m1
        simp only [if_neg h2] at m2
        exact w.dj j1 j2 q m1 m2
  · by_cases hj : j = i
    · show (if j = i then [] else ad j) = []
      rw [if_pos hj]
    · show (if j = i then [] else ad j) = []
      rw [if_neg hj]
      exact w.out j (get_set' e)
def scalD : D → Bool
  | .none => true
  | .bool _ => true
  | .int _ => true
  | .str _ => true
  | _ => false
theorem scal_any {d : D} {v : V} (h : scalD d = true) (r : Rp F v d) : Rp F' v d := by
  cases r with
  | non => exact .non
  | bl b => exact .bl b
  | int i => exact .int i
  | str x => exact .str x
  | lst _ _ => cases h
  | tup _ _ => cases h
/-- behind a loan, with nothing changed but the heap's new objects -/
theorem WA.back (w : WA B ad ρ σ F H) {i : Nat} {ds : List D} (h : ρ[i]? = some (.own ds)) {F1 : Hp} {ad1 : Nat → List Addr} {ρ1 : Env} (e1 : ρ1 = ρ.set i (.val (.list ds))) (ea : ad1 = fun k => if k = i then [] else ad k)
    (hF1 : Same F F1) (p : Post B ad1 σ ρ1 F1 H ρ1 F' H') : Post B ad σ ρ F H ρ F H' := by
  subst e1 ea
  have hi : i < ρ.length := (List.getElem?_eq_some_iff.mp h).1
  have ms : ∀ a, MS (fun k => if k = i then [] else ad k) (ρ.set i (.val (.list ds))) a → MS ad ρ a := fun a ⟨j, S, e, m⟩ => by
    rcases get_set e with ⟨_, q⟩ | ⟨hj, e⟩
    · cases q
    · simp only [if_neg hj] at m
      exact ⟨j, S, e, m⟩
  have fh : Same F H' := (hF1.trans p.gr.ff).trans p.gr.fh
  have nms : ∀ j q, q ∈ ad j → (∀ S, ρ[j]? ≠ some (Slot.st S)) → ¬ MS ad ρ q := fun j q m hj ⟨j', S, e, m'⟩ => by
    have := w.dj j j' q m m'
    subst this
    exact hj S e
  refine ⟨⟨⟨w.gr.ff, fh, p.wa.gr.kp, p.wa.gr.al, w.gr.fr⟩, w.len, fun j s e => ?_, w.fz, w.dj, w.out, w.pin⟩, ⟨Same.refl F, fh, fun a o e m => p.gr.kp a o e fun z => m (ms a z), p.gr.al, fun _ _ z => z⟩, fun j S e => ⟨S, e⟩⟩
  have k := w.sl j s e
  cases s with
  | emp => exact k
  | val d => exact k
  | own es =>
    obtain ⟨q, ws, k, k0, k1, k2, r⟩ := k
    refine ⟨q, ws, k, k0, k1, p.gr.kp q _ k2 fun z => nms j q (by rw [k]; simp) (fun S z => by rw [e] at z; cases z) (ms q z), r⟩
  | st S =>
    have hj : j ≠ i := fun z => by subst z; rw [h] at e; cases e
    have k' := p.wa.sl j (.st S) (by rw [List.getElem?_set_ne (Ne.symm hj)]; exact e)
    simp only [if_neg hj] at k'
    exact k'
theorem ex_lend (i : Nat) {ds : List D} (h : ρ[i]? = some (.own ds)) (k : EX te (ρ.set i (.val (.list ds))) fun d ρ' => ρ' = ρ.set i (.val (.list ds)) ∧ scalD d = true ∧ Q d ρ) : EX te ρ Q := fun B ad σ F H w Z z => by
  obtain ⟨p, vs, k1, k2, k3, k4, k5, k6, w2⟩ := w.lend h
  refine k B _ σ _ H w2 Z fun d ρ' v F' H' q P r => ?_
  obtain ⟨rfl, sc, q⟩ := q
  exact z d ρ v F H' q (w.back h rfl rfl (same_upd k2) P) (scal_any sc r)
theorem et_lend (i : Nat) {tt : TT} {Q : Bool → Env → Prop} {ds : List D} (h : ρ[i]? = some (.own ds)) (k : ET tt (ρ.set i (.val (.list ds))) fun b ρ' => ρ' = ρ.set i (.val (.list ds)) ∧ Q b ρ) : ET tt ρ Q := fun B ad σ F H w Z z => by
  obtain ⟨p, vs, k1, k2, k3, k4, k5, k6, w2⟩ := w.lend h
  refine k B _ σ _ H w2 Z fun d ρ' F' H' q P => ?_
  obtain ⟨rfl, q⟩ := q
  exact z d ρ F H' q (w.back h rfl rfl (same_upd k2) P)
/-- x[k], x an own list -/
theorem ex_ixO {K : PySem.W.Frag} {i : Nat} {es : List D} (h : ρ[i]? = some (.own es)) (k : EX tb ρ fun d ρ2 => ∃ ds j e, ρ2[i]? = some (.own ds) ∧ d = .int j ∧ atI ds j = some e ∧ Q e ρ2) : EX (tOp (rIxA K) (tVar i) tb) ρ Q := fun B ad σ F H w Z z => by
  obtain ⟨p0, _, _, _, k1, _⟩ := w.sl i _ h
  refine ⟨_, k1, k B ad σ F H w _ fun d ρ2 y F2 H2 q2 p2 r2 => ?_⟩
  obtain ⟨ds, j, e, h2, rfl, hj, q⟩ := q2
  obtain ⟨p, vs, _, _, k2, k3, rr⟩ := p2.wa.sl i _ h2
  rw [k1] at k2
  cases k2
  obtain ⟨v, hv, rv⟩ := rr.at_ hj
  exact .inl ⟨_, vs, j, v, rfl, r2.int_inv, .inl (.inl k3), hv, z e ρ2 v F2 H2 q p2 rv⟩
theorem ex_lenO {K : PySem.W.Frag} {i : Nat} {ds : List D} (h : ρ[i]? = some (.own ds)) (q : Q (.int (ds.length : Int)) ρ) : EX (tCB (rLen K) (tCons (tVar i) tNil)) ρ Q := fun B ad σ F H w Z z => by
  obtain ⟨p, vs, _, _, k1, k3, rr⟩ := w.sl i _ h
  exact ⟨_, k1, _, ds.length, rfl, .inl ⟨vs, .inl (.inl k3), rr.len.symm⟩, z _ ρ _ F H q (Post.refl w) (.int _)⟩
end

/-! ### statements -/
structure Po where
  nx : Env → Prop
  rt : D → Env → Prop
  bk : Env → Prop := fun _ => False
  ct : Env → Prop := fun _ => False
def SX (ts : TS) (ρ : Env) (P : Po) : Prop := ∀ B σ F H, W B ρ σ F H → ∀ Dn : Ends, (∀ ρ' σ' F' H', P.nx ρ' → W B ρ' σ' F' H' → Dn.nx σ' H') → (∀ d ρ' σ' v F' H', P.rt d ρ' → W B ρ' σ' F' H' → Rp F' v d → Dn.rt v H') →
  (∀ ρ' σ' F' H', P.bk ρ' → W B ρ' σ' F' H' → Dn.bk σ' H') → (∀ ρ' σ' F' H', P.ct ρ' → W B ρ' σ' F' H' → Dn.ct σ' H') → ts Dn σ H
/-- ρ' knows no more than ρ -/
inductive LeE : Env → Env → Prop
  | nil : LeE [] []
  | emp {s : Slot} {ρ' ρ : Env} : LeE ρ' ρ → LeE (.emp :: ρ') (s :: ρ)
  | eq {s s' : Slot} {ρ' ρ : Env} : s = s' → LeE ρ' ρ → LeE (s :: ρ') (s' :: ρ)
theorem LeE.refl : ∀ ρ, LeE ρ ρ
  | [] => .nil
  | _ :: ρ => .eq rfl (LeE.refl ρ)
theorem LeE.len {ρ' ρ : Env} (h : LeE ρ' ρ) : ρ'.length = ρ.length := by
  induction h with
  | nil => rfl
  | emp _ ih => simp [ih]
  | eq _ _ ih => simp [ih]
theorem LeE.get {ρ' ρ : Env} (h : LeE ρ' ρ) : ∀ {i : Nat} {s : Slot}, ρ'[i]? = some s → s = .emp ∨ ρ[i]? = some s := by
  induction h with
  | nil => intro i s e; simp at e
  | emp _ ih =>
    intro i s e
    cases i with
    | zero => simp at e; exact .inl e.symm
    | succ i => exact ih (by simpa using e)
  | eq q _ ih =>
    intro i s e
    cases i with
    | zero => simp at e; subst e; subst q; exact .inr rfl
    | succ i => exact ih (by simpa using e)
theorem WA.weak {B : Base} {ad : Nat → List Addr} {ρ ρ' : Env} {σ : St} {F H : Hp} (w : WA B ad ρ σ F H) (l : LeE ρ' ρ) : W B ρ' σ F H := by
  refine ⟨fun i => match ρ'[i]? with | some .emp => [] | _ => ad i, w.gr, by rw [l.len]; exact w.len, fun i s e => ?_, fun i p m => ?_, fun i j p m1 m2 => ?_, fun i e => ?_, w.pin.to fun S e => by
    rcases l.get e with h | h
    · cases h
    · exact ⟨⟨S, h⟩, rfl, by
        show (match ρ'[0]? with | some .emp => [] | _ => ad 0) = ad 0
        rw [e]⟩⟩
  · rcases l.get e with h | h
    · subst h
      show (match ρ'[i]? with | some .emp => [] | _ => ad i) = []
      rw [e]
    · have k := w.sl i s h
      show SlotOk B F H s σ[i]? (match ρ'[i]? with | some .emp => [] | _ => ad i)
      rw [e]
      cases s with
      | emp => rfl
      | _ => exact k
  · exact w.fz i p (by
      revert m
      show p ∈ (match ρ'[i]? with | some .emp => [] | _ => ad i) → p ∈ ad i
      split <;> simp)
  · have g : ∀ i, p ∈ (match ρ'[i]? with | some .emp => [] | _ => ad i) → p ∈ ad i := fun i => by split <;> simp
    exact w.dj i j p (g i m1) (g j m2)
  · show (match ρ'[i]? with | some .emp => [] | _ => ad i) = []
    rw [e]
    exact w.out i (by
      rw [List.getElem?_eq_none_iff] at e ⊢
      rw [← l.len]; exact e)
theorem W.weak {B : Base} {ρ ρ' : Env} {σ : St} {F H : Hp} (w : W B ρ σ F H) (l : LeE ρ' ρ) : W B ρ' σ F H := let ⟨_, w⟩ := w; w.weak l
/-- a slot is stored -/
theorem WA.setVal {B : Base} {ad : Nat → List Addr} {ρ : Env} {σ : St} {F H : Hp} (w : WA B ad ρ σ F H) (i : Nat) {d : D} {v : V} (r : Rp F v d) : W B (ρ.set i (.val d)) (σ.set i (some v)) F H := by
  refine ⟨fun k => if k = i then [] else ad k, w.gr, by rw [List.length_set, List.length_set]; exact w.len, fun j s e => ?_, fun j p m => ?_, fun j1 j2 q m1 m2 => ?_, fun j e => ?_, w.pin.to fun S e => by
    rcases get_set e with ⟨_, q⟩ | ⟨hj, e⟩
    · cases q
    · exact ⟨⟨S, e⟩, List.getElem?_set_ne (Ne.symm hj), if_neg hj⟩⟩
  · rcases get_set e with ⟨rfl, rfl⟩ | ⟨hj, e'⟩
    · have hi : j < σ.length := by
        have := (List.getElem?_eq_some_iff.mp e).1
        rw [List.length_set] at this
        rw [w.len]; exact this
      exact ⟨if_pos rfl, v, List.getElem?_set_self hi, r⟩
    · rw [if_neg hj, List.getElem?_set_ne (Ne.symm hj)]
      exact w.sl j s e'
  · by_cases hj : j = i
    · simp [hj] at m
    · simp only [if_neg hj] at m
      exact w.fz j p m
  · by_cases h1 : j1 = i
    · simp [h1] at m1
    · by_cases h2 : j2 = i
      · simp [h2] at m2
      · simp only [if_neg h1] at m1
        simp only [if_neg h2] at m2
        exact w.dj j1 j2 q m1 m2
  · show (if j = i then [] else ad j) = []
    by_cases hj : j = i
    · rw [if_pos hj]
    · rw [if_neg hj]
      exact w.out j (get_set' e)
theorem WA.setOwn {B : Base} {ad : Nat → List Addr} {ρ : Env} {σ : St} {F H : Hp} (w : WA B ad ρ σ F H) (i : Nat) {ds : List D} {p : Addr} {vs : List V} (hF : F p = none) (h0 : B.H0 p = none) (hn : ∀ i, p ∉ ad i) (hp : H p = some (.lst vs)) (r : RpA F vs ds) :
    W B (ρ.set i (.own ds)) (σ.set i (some (.ref p))) F H := by
  refine ⟨fun k => if k = i then (if i < ρ.length then [p] else []) else ad k, w.gr, by rw [List.length_set, List.length_set]; exact w.len, fun j s e => ?_, fun j q m => ?_, fun j1 j2 q m1 m2 => ?_, fun j e => ?_, w.pin.to fun S e => by
    rcases get_set e with ⟨_, q⟩ | ⟨hj, e⟩
    · cases q
    · exact ⟨⟨S, e⟩, List.getElem?_set_ne (Ne.symm hj), if_neg hj⟩⟩
  · rcases get_set e with ⟨rfl, rfl⟩ | ⟨hj, e'⟩
    · have hi : j < ρ.length := by
        have := (List.getElem?_eq_some_iff.mp e).1
        rwa [List.length_set] at this
      exact ⟨p, vs, by rw [if_pos rfl, if_pos hi], h0, List.getElem?_set_self (by rw [w.len]; exact hi), hp, r⟩
    · rw [if_neg hj, List.getElem?_set_ne (Ne.symm hj)]
      exact w.sl j s e'
  · by_cases hj : j = i
    · simp only [if_pos hj] at m
      by_cases hi : i < ρ.length
      · simp only [if_pos hi, List.mem_singleton] at m
        subst m
        exact ⟨hF, .inl h0⟩
      · simp [if_neg hi] at m
    · simp only [if_neg hj] at m
      exact w.fz j q m
  · have g : ∀ j, q ∈ (if j = i then (if i < ρ.length then [p] else []) else ad j) → (j = i ∧ q = p) ∨ (j ≠ i ∧ q ∈ ad j) := fun j m => by
      by_cases hj : j = i
      · simp only [if_pos hj] at m
        by_cases hi : i < ρ.length
        · simp only [if_pos hi, List.mem_singleton] at m
          exact .inl ⟨hj, m⟩
        · simp [if_neg hi] at m
      · simp only [if_neg hj] at m
        exact .inr ⟨hj, m⟩
    rcases g j1 m1 with ⟨a1, b1⟩ | ⟨a1, b1⟩ <;> rcases g j2 m2 with ⟨a2, b2⟩ | ⟨a2, b2⟩
    · rw [a1, a2]
    · exact absurd (b1 ▸ b2) (hn j2)
    · exact absurd (b2 ▸ b1) (hn j1)
    · exact w.dj j1 j2 q b1 b2
  · show (if j = i then (if i < ρ.length then [p] else []) else ad j) = []
    have e' := get_set' e
    by_cases hj : j = i
    · subst hj
      rw [if_pos rfl, if_neg (by rw [List.getElem?_eq_none_iff] at e'; omega)]
    · rw [if_neg hj]
      exact w.out j e'
/-- an own list is changed in place -/
theorem WA.mut {B : Base} {ad : Nat → List Addr} {ρ : Env} {σ : St} {F H : Hp} (w : WA B ad ρ σ F H) {i : Nat} {ds es : List D} {p : Addr} {ws : List V} (h : ρ[i]? = some (.own ds)) (hp : σ[i]? = some (some (.ref p))) (r : RpA F ws es) :
    W B (ρ.set i (.own es)) σ F (upd H p (.lst ws)) := by
  obtain ⟨p', vs, k, k0, k1, k2, _⟩ := w.sl i _ h
  rw [hp] at k1
  cases k1
  have hF : F p = none := (w.fz i p (by rw [k]; simp)).1
  have hn : ∀ j, j ≠ i → p ∉ ad j := fun j hj m => hj (w.dj j i p m (by rw [k]; simp))
  have ne0 : ∀ a o, B.H0 a = some o → a ≠ p := fun a o e z => by rw [z, k0] at e; cases e
  refine ⟨ad, ⟨w.gr.ff, fun a o e => ?_, fun a o e m => ?_, fun a e => ?_, w.gr.fr⟩, by rw [List.length_set]; exact w.len, fun j s e => ?_, w.fz, w.dj, fun j e => w.out j (get_set' e), w.pin.to fun S e => by
    rcases get_set e with ⟨_, q⟩ | ⟨hj, e⟩
    · cases q
    · exact ⟨⟨S, e⟩, rfl, rfl⟩⟩
  · rw [upd_ne (fun z => by rw [z, hF] at e; cases e)]
    exact w.gr.fh a o e
  · rw [upd_ne (ne0 a o e)]
    exact w.gr.kp a o e m
  · by_cases ha : a = p
    · rw [ha, upd_same]; intro z; cases z
    · rw [upd_ne ha]; exact w.gr.al a e
  · rcases get_set e with ⟨rfl, rfl⟩ | ⟨hj, e⟩
    · exact ⟨p, ws, k, k0, hp, upd_same, r⟩
    · have q := w.sl j s e
      cases s with
      | emp => exact q
      | val d => exact q
      | own es =>
        obtain ⟨q, vs, k1, k2, k3, k4, k5⟩ := q
        refine ⟨q, vs, k1, k2, k3, ?_, k5⟩
        rw [upd_ne (fun z => hn j hj (by rw [k1, z]; simp))]
        exact k4
      | st S =>
        obtain ⟨s, k1, q⟩ := q
        exact ⟨s, k1, q.keep fun a m o e => by
          rw [upd_ne (fun z => hn j hj (by rw [← z]; exact m))]
          exact e⟩

/-! #### the rules for statements -/
section
variable {ρ ρ' : Env} {P : Po} {te ta tb : TE} {tt : TT} {t u : TS}
/-- what follows, perhaps with less known -/
def NX (P : Po) (ρ : Env) : Prop := ∃ ρ', LeE ρ' ρ ∧ P.nx ρ'
theorem nx_same (h : P.nx ρ) : NX P ρ := ⟨ρ, LeE.refl ρ, h⟩
theorem nx_le (l : LeE ρ' ρ) (h : P.nx ρ') : NX P ρ := ⟨ρ', l, h⟩
def CTn (P : Po) (ρ : Env) : Prop := ∃ ρ', LeE ρ' ρ ∧ P.ct ρ'
theorem sx_weak (l : LeE ρ' ρ) (h : SX t ρ' P) : SX t ρ P := fun B σ F H w => h B σ F H (w.weak l)
/-- then u -/
def Po.seq (P : Po) (u : TS) : Po := { P with nx := fun ρ' => SX u ρ' P }
theorem nx_seq (h : SX u ρ P) : NX (P.seq u) ρ := nx_same h
theorem nx_seqw (l : LeE ρ' ρ) (h : SX u ρ' P) : NX (P.seq u) ρ := nx_le l h
theorem sx_seq (h : SX t ρ (P.seq u)) : SX (tSeq t u) ρ P := fun B σ F H w Dn n r b c =>
  h B σ F H w { Dn with nx := u Dn } (fun ρ' σ' F' H' q w' => q B σ' F' H' w' Dn n r b c) r b c
theorem sx_next (h : NX P ρ) : SX tNext ρ P := fun B σ F H w Dn n r b c => let ⟨ρ', l, q⟩ := h; n ρ' σ F H q (w.weak l)
theorem sx_asg {i : Nat} (h : EX te ρ fun d ρ1 => NX P (ρ1.set i (.val d))) : SX (tAsg te (gName i)) ρ P := fun B σ F H w Dn n r b c => by
  obtain ⟨ad, w⟩ := w
  exact h B ad σ F H w _ fun d ρ1 v F1 H1 q p rv => let ⟨ρ', l, q⟩ := q; n ρ' _ F1 H1 q ((p.wa.setVal i rv).weak l)
theorem sx_asgO {i : Nat} (h : EO te ρ fun ds ρ1 => NX P (ρ1.set i (.own ds))) : SX (tAsg te (gName i)) ρ P := fun B σ F H w Dn n r b c => by
  obtain ⟨ad, w⟩ := w
  refine h B ad σ F H w _ fun ds ρ1 p vs F1 H1 q P hF hH hp rv => ?_
  obtain ⟨ρ', l, q⟩ := q
  have k := w.newp hH
  exact n ρ' _ F1 H1 q ((P.wa.setOwn i hF k.2.1 k.2.2 hp rv).weak l)
theorem sx_if (h : ET tt ρ fun b ρ1 => (b = true → SX t ρ1 P) ∧ (b = false → SX u ρ1 P)) : SX (tIfS tt t u) ρ P := fun B σ F H w Dn n r bk c => by
  obtain ⟨ad, w⟩ := w
  refine h B ad σ F H w _ fun b ρ1 F1 H1 q p => ?_
  cases b with
  | true =>
    show t Dn σ H1
    exact q.1 rfl B σ F1 H1 ⟨ad, p.wa⟩ Dn n r bk c
  | false =>
    show u Dn σ H1
    exact q.2 rfl B σ F1 H1 ⟨ad, p.wa⟩ Dn n r bk c
theorem sx_ret (h : EX te ρ fun d ρ1 => P.rt d ρ1) : SX (tRet te) ρ P := fun B σ F H w Dn n r b c => by
  obtain ⟨ad, w⟩ := w
  exact h B ad σ F H w _ fun d ρ1 v F1 H1 q p rv => r d ρ1 σ v F1 H1 q ⟨ad, p.wa⟩ rv
theorem sx_retN (h : P.rt .none ρ) : SX tRetN ρ P := fun B σ F H w Dn n r b c => r .none ρ σ .non F H h w .non
theorem sx_brk (h : P.bk ρ) : SX tBreak ρ P := fun B σ F H w Dn n r b c => b ρ σ F H h w
theorem sx_cont (h : CTn P ρ) : SX tCont ρ P := fun B σ F H w Dn n r b c => let ⟨ρ', l, q⟩ := h; c ρ' σ F H q (w.weak l)
theorem sx_drop (h : EX te ρ fun _ ρ1 => NX P ρ1) : SX (tDrop te) ρ P := fun B σ F H w Dn n r b c => by
  obtain ⟨ad, w⟩ := w
  exact h B ad σ F H w _ fun d ρ1 v F1 H1 q p rv => let ⟨ρ', l, q⟩ := q; n ρ' σ F1 H1 q (p.wa.weak l)
theorem W.freeze {B : Base} {σ : St} {F H : Hp} (w : W B ρ σ F H) {i : Nat} {ds : List D} (h : ρ[i]? = some (.own ds)) : ∃ F', W B (ρ.set i (.val (.list ds))) σ F' H := by
  obtain ⟨ad, w⟩ := w
  obtain ⟨p, vs, _, _, _, _, _, _, w2⟩ := w.lend h
  exact ⟨_, _, w2⟩
theorem sx_freeze (i : Nat) {ds : List D} (h : ρ[i]? = some (.own ds)) (k : SX t (ρ.set i (.val (.list ds))) P) : SX t ρ P := fun B σ F H w => by
  obtain ⟨F', w2⟩ := w.freeze h
  exact k B σ F' H w2
/-- x.append(e), x an own list -/
theorem sx_app {K : PySem.W.Frag} {i : Nat} {es : List D} (h : ρ[i]? = some (.own es)) (k : EX te ρ fun d ρ1 => ∃ ds, ρ1[i]? = some (.own ds) ∧ ds.length < 1000000 ∧ NX P (ρ1.set i (.own (ds ++ [d])))) : SX (tDrop (tBM K "list" rAppend (tVar i) (tCons te tNil))) ρ P := fun B σ F H w Dn n r b c => by
  obtain ⟨ad, w⟩ := w
  obtain ⟨p0, vs0, _, _, k1, k0, _⟩ := w.sl i _ h
  refine ⟨_, k1, .inl ⟨rfl, _, .inl (.inl k0)⟩, k B ad σ F H w _ fun d ρ1 v F1 H1 q1 p1 r1 => ?_⟩
  obtain ⟨ds, h1, hz, ρ', l, q⟩ := q1
  obtain ⟨p, vs, _, _, k2, k3, rr⟩ := p1.wa.sl i _ h1
  have e := k1.symm.trans k2
  cases e
  exact ⟨_, vs, v, rfl, rfl, k3, Nat.lt_of_lt_of_le (by rw [rr.len]; exact hz) (by decide), n ρ' σ F1 _ q ((p1.wa.mut h1 k2 (rr.app (.cons r1 .nil))).weak l)⟩
/-- x[j] = e, x an own list -/
theorem sx_setO {i : Nat} {es : List D} (h : EX te ρ fun d ρ1 => ρ1[i]? = some (.own es) ∧ EX tb ρ1 fun j ρ2 => ∃ ds k m, ρ2[i]? = some (.own ds) ∧ j = .int k ∧ ixN ds.length k = some m ∧ NX P (ρ2.set i (.own (ds.set m d)))) : SX (tAsg te (gSub (tVar i) tb rSetL)) ρ P := fun B σ F H w Dn n r b c => by
  obtain ⟨ad, w⟩ := w
  refine h B ad σ F H w _ fun d ρ1 v F1 H1 q1 p1 r1 => ?_
  obtain ⟨h1, q1⟩ := q1
  obtain ⟨p0, vs0, _, _, k1, k0, _⟩ := p1.wa.sl i _ h1
  refine ⟨_, k1, q1 B ad σ F1 H1 p1.wa _ fun j ρ2 y F2 H2 q2 p2 r2 => ?_⟩
  obtain ⟨ds, k, m, h2, rfl, hm, ρ', l, q⟩ := q2
  obtain ⟨p, vs, _, _, k2, k3, rr⟩ := p2.wa.sl i _ h2
  have e := k1.symm.trans k2
  cases e
  exact ⟨_, vs, k, m, rfl, r2.int_inv, k3, by rw [rr.len]; exact hm, n ρ' σ F2 _ q ((p2.wa.mut h2 k2 (rr.set m (r1.up p2.gr.ff))).weak l)⟩
/-- a, b = e, f -/
theorem sx_par {i j : Nat} {t : TA} (h : EA t ρ fun ds ρ1 => ∃ d e, ds = [d, e] ∧ NX P ((ρ1.set i (.val d)).set j (.val e))) : SX (tPar i j t) ρ P := fun B σ F H w Dn n r b c => by
  obtain ⟨ad, w⟩ := w
  refine h B ad σ F H w _ fun ds ρ1 vs F1 H1 q p rv => ?_
  obtain ⟨d, e, rfl, ρ', l, q⟩ := q
  obtain ⟨v, u, rfl, r1, r2⟩ := rv.two
  obtain ⟨ad2, w2⟩ := p.wa.setVal i r1
  exact ⟨v, u, rfl, n ρ' _ F1 H1 q ((w2.setVal j r2).weak l)⟩
/-! targets -/
def SG (J : List Nat) (g : TG) (d : D) (ρ : Env) (Qn : Env → Prop) : Prop := ∀ B ad σ F H v, WA B ad ρ σ F H → (∀ j ∈ J, ad j = []) → Rp F v d → ∀ Z : St → Hp → Prop, (∀ ρ' σ', Qn ρ' → WA B ad ρ' σ' F H → wipe σ' J = wipe σ J → (∀ i, i ∉ J → ρ'[i]? = ρ[i]?) → Z σ' H) → g v σ H Z
def SGs (J : List Nat) (g : TGs) (ds : List D) (ρ : Env) (Qn : Env → Prop) : Prop := ∀ B ad σ F H vs, WA B ad ρ σ F H → (∀ j ∈ J, ad j = []) → RpA F vs ds → ∀ Z : St → Hp → Prop, (∀ ρ' σ', Qn ρ' → WA B ad ρ' σ' F H → wipe σ' J = wipe σ J → (∀ i, i ∉ J → ρ'[i]? = ρ[i]?) → Z σ' H) → g vs σ H Z
theorem wipe_get {σ : St} {i : Nat} : ∀ {vs : List Nat}, (wipe σ vs)[i]? = if i ∈ vs ∧ i < σ.length then some none else σ[i]?
  | [] => by simp [wipe]
  | v :: vs => by
    unfold wipe
    by_cases h : i = v
    · subst h
      by_cases hl : i < σ.length
      · rw [List.getElem?_set_self (by rw [wipe_length]; exact hl)]
        simp [hl]
      · rw [List.getElem?_eq_none (by rw [List.length_set, wipe_length]; omega)]
        simp [hl]
    · rw [List.getElem?_set_ne (Ne.symm h), wipe_get]
      simp [h]
theorem wipe_set {σ : St} {i : Nat} {x : Option V} {J : List Nat} (h : i ∈ J) : wipe (σ.set i x) J = wipe σ J := by
  apply List.ext_getElem?
  intro k
  rw [wipe_get, wipe_get, List.length_set]
  by_cases hk : k ∈ J ∧ k < σ.length
  · rw [if_pos hk, if_pos hk]
  · rw [if_neg hk, if_neg hk]
    by_cases e : k = i
    · subst e
      have : ¬ k < σ.length := fun z => hk ⟨h, z⟩
      rw [List.getElem?_eq_none (by rw [List.length_set]; omega), List.getElem?_eq_none (by omega)]
    · rw [List.getElem?_set_ne (Ne.symm e)]
theorem WA.setVal' {B : Base} {ad : Nat → List Addr} {σ : St} {F H : Hp} (w : WA B ad ρ σ F H) (i : Nat) (hi : ad i = []) {d : D} {v : V} (r : Rp F v d) : WA B ad (ρ.set i (.val d)) (σ.set i (some v)) F H := by
  refine ⟨w.gr, by rw [List.length_set, List.length_set]; exact w.len, fun j s e => ?_, w.fz, w.dj, fun j e => w.out j (get_set' e), w.pin.to fun S e => by
    rcases get_set e with ⟨_, q⟩ | ⟨hj, e⟩
    · cases q
    · exact ⟨⟨S, e⟩, List.getElem?_set_ne (Ne.symm hj), rfl⟩⟩
  rcases get_set e with ⟨rfl, rfl⟩ | ⟨hj, e'⟩
  · have hl : j < σ.length := by
      have := (List.getElem?_eq_some_iff.mp e).1
      rw [List.length_set] at this
      rw [w.len]; exact this
    exact ⟨hi, v, List.getElem?_set_self hl, r⟩
  · rw [List.getElem?_set_ne (Ne.symm hj)]
    exact w.sl j s e'
theorem sg_name {J : List Nat} {i : Nat} {d : D} {Qn : Env → Prop} (hj : i ∈ J) (q : Qn (ρ.set i (.val d))) : SG J (gName i) d ρ Qn := fun B ad σ F H v w hJ r Z z => z _ _ q (w.setVal' i (hJ i hj) r) (wipe_set hj) fun k hk => List.getElem?_set_ne fun e => hk (by rw [← e]; exact hj)
theorem sgs_nil {J : List Nat} {Qn : Env → Prop} (q : Qn ρ) : SGs J gNil [] ρ Qn := fun B ad σ F H vs w hJ r Z z => by
  cases r
  exact ⟨rfl, z ρ σ q w rfl fun _ _ => rfl⟩
theorem sgs_cons {J : List Nat} {g : TG} {gs : TGs} {d : D} {ds : List D} {Qn : Env → Prop} (h : SG J g d ρ fun ρ1 => SGs J gs ds ρ1 Qn) : SGs J (gCons g gs) (d :: ds) ρ Qn := fun B ad σ F H vs w hJ r Z z => by
  cases r with
  | cons r1 r2 =>
    exact ⟨_, _, rfl, h B ad σ F H _ w hJ r1 _ fun ρ1 σ1 q w1 e1 f1 => q B ad σ1 F H _ w1 hJ r2 Z fun ρ2 σ2 q w2 e2 f2 => z ρ2 σ2 q w2 (e2.trans e1) fun i hi => (f2 i hi).trans (f1 i hi)⟩
theorem sg_tup {K : PySem.W.Frag} {J : List Nat} {n : Nat} {gs : TGs} {ds : List D} {Qn : Env → Prop} (hn : ds.length = n) (h : SGs J gs ds ρ Qn) : SG J (gTup K n gs) (.tuple ds) ρ Qn := fun B ad σ F H v w hJ r Z z => by
  obtain ⟨a, xs, rfl, h1, h2⟩ := r.tup_inv
  exact ⟨a, xs, rfl, sqT_rd h1 w.gr.fh, h2.len.trans hn, h B ad σ F H xs w hJ h2 Z z⟩
/-- the slots at vs forgotten -/
def wipeE (ρ : Env) (vs : List Nat) : Env := vs.foldl (fun r v => r.set v .emp) ρ
theorem wipeE_len (ρ : Env) (vs : List Nat) : (wipeE ρ vs).length = ρ.length := by
  unfold wipeE
  induction vs generalizing ρ with
  | nil => rfl
  | cons v vs ih => rw [List.foldl_cons, ih, List.length_set]
theorem wipeE_get : ∀ {vs : List Nat} {ρ : Env} {i : Nat}, (wipeE ρ vs)[i]? = if i ∈ vs ∧ i < ρ.length then some .emp else ρ[i]?
  | [], ρ, i => by simp [wipeE]
  | v :: vs, ρ, i => by
    have e : wipeE ρ (v :: vs) = wipeE (ρ.set v .emp) vs := rfl
    rw [e, wipeE_get, List.length_set]
    by_cases h : i ∈ vs ∧ i < ρ.length
    · rw [if_pos h, if_pos ⟨List.mem_cons_of_mem _ h.1, h.2⟩]
    · rw [if_neg h]
      by_cases hv : i = v
      · subst hv
        by_cases hl : i < ρ.length
        · rw [List.getElem?_set_self hl, if_pos ⟨by simp, hl⟩]
        · rw [List.getElem?_eq_none (by rw [List.length_set]; omega), if_neg (fun z => hl z.2), List.getElem?_eq_none (by omega)]
      · rw [List.getElem?_set_ne (Ne.symm hv)]
        rw [if_neg (fun z => h ⟨(List.mem_cons.mp z.1).resolve_left hv, z.2⟩)]
theorem WA.weakJ {B : Base} {ad : Nat → List Addr} {σ : St} {F H : Hp} (w : WA B ad ρ σ F H) (J : List Nat) : WA B (fun k => if k ∈ J then [] else ad k) (wipeE ρ J) σ F H := by
  have g : ∀ i p, p ∈ (if i ∈ J then [] else ad i) → p ∈ ad i := fun i p m => by
    by_cases h : i ∈ J
    · rw [if_pos h] at m; cases m
    · rw [if_neg h] at m; exact m
  refine ⟨w.gr, by rw [wipeE_len]; exact w.len, fun i s e => ?_, fun i p m => w.fz i p (g i p m), fun i j p m1 m2 => w.dj i j p (g i p m1) (g j p m2), fun i e => ?_, w.pin.to fun S e => by
    rw [wipeE_get] at e
    by_cases h : 0 ∈ J ∧ 0 < ρ.length
    · rw [if_pos h] at e; cases e
    · rw [if_neg h] at e
      have hi : 0 < ρ.length := (List.getElem?_eq_some_iff.mp e).1
      exact ⟨⟨S, e⟩, rfl, if_neg fun z => h ⟨z, hi⟩⟩⟩
  · rw [wipeE_get] at e
    by_cases h : i ∈ J ∧ i < ρ.length
    · rw [if_pos h] at e
      cases e
      exact if_pos h.1
    · rw [if_neg h] at e
      have hi : i < ρ.length := (List.getElem?_eq_some_iff.mp e).1
      have hJ : i ∉ J := fun z => h ⟨z, hi⟩
      simp only [if_neg hJ]
      exact w.sl i s e
  · rw [wipeE_get] at e
    by_cases hJ : i ∈ J
    · exact if_pos hJ
    · show (if i ∈ J then [] else ad i) = []
      rw [if_neg hJ]
      rw [if_neg (fun z => hJ z.1)] at e
      exact w.out i e
theorem sg_go {B : Base} {ad : Nat → List Addr} {σ : St} {F H : Hp} {J : List Nat} {g : TG} {d : D} {v : V} {Qn : Env → Prop} (h : SG J g d (wipeE ρ J) Qn) (w : WA B ad ρ σ F H) (r : Rp F v d) (Z : St → Hp → Prop) (z : ∀ ρ' σ', Qn ρ' → W B ρ' σ' F H → Z σ' H) : g v σ H Z :=
  h B _ σ F H v (w.weakJ J) (fun j hj => if_pos hj) r Z fun ρ' σ' q w' _ _ => z ρ' σ' q ⟨_, w'⟩
/-- (a, b) = e by a target -/
theorem sx_asgT {J : List Nat} {g : TG} (h : EX te ρ fun d ρ1 => SG J g d (wipeE ρ1 J) fun ρ2 => NX P ρ2) : SX (tAsg te g) ρ P := fun B σ F H w Dn n r b c => by
  obtain ⟨ad, w⟩ := w
  exact h B ad σ F H w _ fun d ρ1 v F1 H1 q p rv => sg_go q p.wa rv _ fun ρ2 σ2 q w2 => let ⟨ρ', l, q⟩ := q; n ρ' σ2 F1 H1 q (w2.weak l)
/-! loops -/
structure ItD (J : It) (F : Hp) (ds : List D) : Prop where
  go : ∀ i H, Same F H → i < ds.length → J.go i H
  stop : ∀ i H, Same F H → ds.length ≤ i → J.stop i H
  yld : ∀ i H x H' F1, Same F F1 → Same F1 H → J.yld i H x H' → i < ds.length → ∃ d F2, ds[i]? = some d ∧ Gr Non F1 H F2 H' ∧ Rp F2 x d
/-- what is walked -/
def EI (wi : TI) (ρ : Env) (Q : List D → Env → Prop) : Prop := ∀ B ad σ F H, WA B ad ρ σ F H → ∀ R : It → Hp → Prop, (∀ ds ρ' J F' H', Q ds ρ' → Post B ad σ ρ F H ρ' F' H' → ItD J F' ds → R J H') → wi σ H R
theorem W.rebase {B : Base} {σ : St} {F H : Hp} (w : W B ρ σ F H) : W { F0 := F, H0 := B.H0, M := B.M, pin := B.pin } ρ σ F H := by
  obtain ⟨ad, w⟩ := w
  refine ⟨ad, ⟨Same.refl F, w.gr.fh, w.gr.kp, w.gr.al, fun _ _ z => z⟩, w.len, fun i s e => ?_, w.fz, w.dj, w.out, w.pin⟩
  have k := w.sl i s e
  cases s <;> exact k
theorem W.unbase {B : Base} {σ σ' : St} {F H F' H' : Hp} (w : W B ρ σ F H) (w' : W { F0 := F, H0 := B.H0, M := B.M, pin := B.pin } ρ' σ' F' H') : W B ρ' σ' F' H' ∧ Same F F' := by
  obtain ⟨ad, w⟩ := w
  obtain ⟨ad', w'⟩ := w'
  refine ⟨⟨ad', ⟨w.gr.ff.trans w'.gr.ff, w'.gr.fh, w'.gr.kp, w'.gr.al, fun a e z => w'.gr.fr a e (w.gr.fr a e z)⟩, w'.len, fun i s e => ?_, w'.fz, w'.dj, w'.out, w'.pin⟩, w'.gr.ff⟩
  have k := w'.sl i s e
  cases s <;> exact k
theorem sx_for {wi : TI} {J : List Nat} {g : TG} (h : EI wi ρ fun ds ρ1 => ∃ I : Nat → Env → Prop, I 0 ρ1 ∧ (∀ k d ρ', ds[k]? = some d → I k ρ' → SG J g d (wipeE ρ' J) fun ρ2 => SX t ρ2 { nx := I (k + 1), ct := I (k + 1), bk := NX P, rt := P.rt }) ∧ ∀ ρ', I ds.length ρ' → NX P ρ') :
    SX (tFor wi g t) ρ P := fun B σ F H w Dn n r b c => by
  obtain ⟨ad, w⟩ := w
  refine h B ad σ F H w _ fun ds ρ1 J F1 H1 q1 p1 it => ?_
  obtain ⟨I, i0, turn, done⟩ := q1
  refine ⟨fun i m σ' H' => m = ds.length - i ∧ i ≤ ds.length ∧ ∃ ρ' F', I i ρ' ∧ W B ρ' σ' F' H' ∧ Same F1 F', ⟨_, rfl, Nat.zero_le _, ρ1, F1, i0, ⟨ad, p1.wa⟩, Same.refl _⟩, ?_⟩
  rintro i m σ' H' ⟨rfl, hi, ρ', F', iv, ⟨ad', w'⟩, sf⟩
  by_cases hlt : i < ds.length
  · refine .inr ⟨it.go i H' (sf.trans w'.gr.fh) hlt, fun σ2 H2 => ∃ ρ2 F2, I (i + 1) ρ2 ∧ W B ρ2 σ2 F2 H2 ∧ Same F1 F2, fun σ2 H2 ⟨ρ2, F2, a, b, c⟩ => ⟨ds.length - (i + 1), by omega, rfl, hlt, ρ2, F2, a, b, c⟩, fun x H2 y => ?_⟩
    obtain ⟨d, F2, e, gr, rx⟩ := it.yld i H' x H2 F' sf w'.gr.fh y hlt
    refine sg_go (turn i d ρ' e iv) (w'.grow gr) rx _ fun ρ2 σ2 q w2 => ?_
    exact q _ σ2 F2 H2 w2.rebase _ (fun ρ3 σ3 F3 H3 q3 w3 => let k := w2.unbase w3; ⟨ρ3, F3, q3, k.1, (sf.trans gr.ff).trans k.2⟩) (fun d ρ3 σ3 v F3 H3 q3 w3 rv => r d ρ3 σ3 v F3 H3 q3 (w2.unbase w3).1 rv) (fun ρ3 σ3 F3 H3 q3 w3 => let ⟨ρ4, l, q4⟩ := q3; n ρ4 σ3 F3 H3 q4 ((w2.unbase w3).1.weak l)) (fun ρ3 σ3 F3 H3 q3 w3 => let k := w2.unbase w3; ⟨ρ3, F3, q3, k.1, (sf.trans gr.ff).trans k.2⟩)
  · have e : i = ds.length := by omega
    subst e
    obtain ⟨ρ2, l, q⟩ := done ρ' iv
    exact .inl ⟨it.stop _ H' (sf.trans w'.gr.fh) (Nat.le_refl _), n ρ2 σ' F' H' q (w'.weak l)⟩
theorem sx_while (I : Nat → Env → Prop) (m0 : Nat) (i0 : I m0 ρ) (h : ∀ m ρ', I m ρ' → ET tt ρ' fun b ρ1 => (b = true → SX t ρ1 { nx := fun ρ2 => ∃ m', m' < m ∧ I m' ρ2, ct := fun ρ2 => ∃ m', m' < m ∧ I m' ρ2, bk := NX P, rt := P.rt }) ∧ (b = false → NX P ρ1)) : SX (tWhile tt t) ρ P := fun B σ F H w Dn n r b c => by
  refine ⟨fun m σ' H' => ∃ ρ' F', I m ρ' ∧ W B ρ' σ' F' H', ⟨m0, ρ, F, i0, w⟩, ?_⟩
  rintro m σ' H' ⟨ρ', F', iv, ⟨ad, w'⟩⟩
  refine h m ρ' iv B ad σ' F' H' w' _ fun b1 ρ1 F1 H1 q p => ?_
  cases b1 with
  | true =>
    refine ⟨fun σ2 H2 => ∃ m' ρ2 F2, m' < m ∧ I m' ρ2 ∧ W B ρ2 σ2 F2 H2, fun σ2 H2 ⟨m', ρ2, F2, a, b, c⟩ => ⟨m', a, ρ2, F2, b, c⟩, ?_⟩
    exact q.1 rfl B σ' F1 H1 ⟨ad, p.wa⟩ _ (fun ρ3 σ3 F3 H3 q3 w3 => let ⟨m', a, b⟩ := q3; ⟨m', ρ3, F3, a, b, w3⟩) r (fun ρ3 σ3 F3 H3 q3 w3 => let ⟨ρ4, l, q4⟩ := q3; n ρ4 σ3 F3 H3 q4 (w3.weak l)) (fun ρ3 σ3 F3 H3 q3 w3 => let ⟨m', a, b⟩ := q3; ⟨m', ρ3, F3, a, b, w3⟩)
  | false =>
    show Dn.nx σ' H1
    obtain ⟨ρ2, l, q2⟩ := q.2 rfl
    exact n ρ2 σ' F1 H1 q2 (W.weak ⟨ad, p.wa⟩ l)
/-! what is walked -/
theorem ei_list {K : PySem.W.Frag} {Q : List D → Env → Prop} (h : EX te ρ fun d ρ1 => ∃ ds, d = .list ds ∧ Q ds ρ1) : EI (iList K te) ρ Q := fun B ad σ F H w R z =>
  h B ad σ F H w _ fun d ρ1 v F1 H1 q p r => by
    obtain ⟨ds, rfl, q⟩ := q
    obtain ⟨a, xs, rfl, h1, h2⟩ := r.lst_inv
    refine ⟨a, rfl, ⟨xs, sqL_rd h1 p.wa.gr.fh⟩, z ds ρ1 _ F1 H1 q p ⟨fun i H' e hi => ⟨xs, xs[i]'(by rw [h2.len]; exact hi), sqL_rd h1 e, by simp⟩, fun i H' e hi => ⟨xs, sqL_rd h1 e, by rw [h2.len]; exact hi⟩, fun i H' x H2 F2 e1 e2 y hi => ?_⟩⟩
    obtain ⟨rfl, y⟩ := y
    obtain ⟨d, hd, rd⟩ := h2.get' (y xs (sqL_rd h1 (e1.trans e2)))
    exact ⟨d, F2, hd, Gr.refl e2, rd.up e1⟩
theorem ei_tup {K : PySem.W.Frag} {Q : List D → Env → Prop} (h : EX te ρ fun d ρ1 => ∃ ds, d = .tuple ds ∧ Q ds ρ1) : EI (iTup K te) ρ Q := fun B ad σ F H w R z =>
  h B ad σ F H w _ fun d ρ1 v F1 H1 q p r => by
    obtain ⟨ds, rfl, q⟩ := q
    obtain ⟨a, xs, rfl, h1, h2⟩ := r.tup_inv
    refine ⟨a, rfl, ⟨xs, sqT_rd h1 p.wa.gr.fh⟩, z ds ρ1 _ F1 H1 q p ⟨fun i H' e hi => ⟨xs, xs[i]'(by rw [h2.len]; exact hi), sqT_rd h1 e, by simp⟩, fun i H' e hi => ⟨xs, sqT_rd h1 e, by rw [h2.len]; exact hi⟩, fun i H' x H2 F2 e1 e2 y hi => ?_⟩⟩
    obtain ⟨rfl, y⟩ := y
    obtain ⟨d, hd, rd⟩ := h2.get' (y xs (sqT_rd h1 (e1.trans e2)))
    exact ⟨d, F2, hd, Gr.refl e2, rd.up e1⟩
/-- lo, lo + 1, .., n of them -/
def rngI (lo : Int) (n : Nat) : List Int := (List.range n).map fun k : Nat => lo + (k : Int)
theorem rngI_len (lo : Int) (n : Nat) : (rngI lo n).length = n := by simp [rngI]
theorem rngI_get {lo : Int} {n k : Nat} (h : k < n) : (rngI lo n)[k]? = some (lo + (k : Int)) := by simp [rngI, h]
theorem rngI_mem {lo x : Int} {n : Nat} : x ∈ rngI lo n ↔ lo ≤ x ∧ x < lo + (n : Int) := by
  unfold rngI
  rw [List.mem_map]
  constructor
  · rintro ⟨k, hk, rfl⟩
    rw [List.mem_range] at hk
    omega
  · intro h
    exact ⟨(x - lo).toNat, by rw [List.mem_range]; omega, by omega⟩
theorem itd_rng {F : Hp} (lo : Int) (n : Nat) : ItD (Itr lo n) F ((rngI lo n).map .int) where
  go := fun i H _ h => by rw [List.length_map, rngI_len] at h; exact h
  stop := fun i H _ h => by rw [List.length_map, rngI_len] at h; exact h
  yld := fun i H x H' F1 _ e2 y h => by
    rw [List.length_map, rngI_len] at h
    obtain ⟨rfl, rfl⟩ := y
    exact ⟨.int (lo + (i : Int)), F1, by rw [List.getElem?_map, rngI_get h]; rfl, Gr.refl e2, .int _⟩
theorem ei_rng1 {t : TA} {Q : List D → Env → Prop} (h : EA t ρ fun ds ρ1 => ∃ n, ds = [.int n] ∧ (-1000000000000 ≤ n ∧ n ≤ 1000000000000) ∧ Q ((rngI 0 n.toNat).map .int) ρ1) : EI (iRng1 t) ρ Q := fun B ad σ F H w R z =>
  h B ad σ F H w _ fun ds ρ1 vs F1 H1 q p r => by
    obtain ⟨n, rfl, ⟨hn1, hn2⟩, q⟩ := q
    obtain ⟨v, rfl, rv⟩ := r.one
    exact ⟨n, by rw [rv.int_inv], by omega, by omega, z _ ρ1 _ F1 H1 q p (itd_rng 0 _)⟩
theorem ei_rng2 {t : TA} {Q : List D → Env → Prop} (h : EA t ρ fun ds ρ1 => ∃ l n, ds = [.int l, .int n] ∧ (-1000000000000 ≤ l ∧ l ≤ 1000000000000 ∧ -1000000000000 ≤ n ∧ n ≤ 1000000000000) ∧ Q ((rngI l (n - l).toNat).map .int) ρ1) : EI (iRng2 t) ρ Q := fun B ad σ F H w R z =>
  h B ad σ F H w _ fun ds ρ1 vs F1 H1 q p r => by
    obtain ⟨l, n, rfl, ⟨hl1, hl2, hn1, hn2⟩, q⟩ := q
    obtain ⟨v, u, rfl, rv, ru⟩ := r.two
    exact ⟨l, n, by rw [rv.int_inv, ru.int_inv], ⟨by omega, by omega, by omega, by omega⟩, z _ ρ1 _ F1 H1 q p (itd_rng l _)⟩
/-- enumerate: pairs (index, item) -/
def enumD (k : Nat) : List D → List D
  | [] => []
  | d :: ds => .tuple [.int (k : Int), d] :: enumD (k + 1) ds
theorem enumD_len : ∀ (ds : List D) (k : Nat), (enumD k ds).length = ds.length
  | [], _ => rfl
  | d :: ds, k => by simp [enumD, enumD_len ds]
theorem enumD_get : ∀ (ds : List D) (k i : Nat) {d : D}, ds[i]? = some d → (enumD k ds)[i]? = some (.tuple [.int ((k + i : Nat) : Int), d])
  | [], _, i, _, h => by simp at h
  | e :: ds, k, 0, d, h => by simp at h; subst h; rfl
  | e :: ds, k, i + 1, d, h => by
    have q := enumD_get ds (k + 1) i (by simpa using h)
    show (enumD (k + 1) ds)[i]? = _
    rw [q, show k + 1 + i = k + (i + 1) by omega]
theorem ei_enum {K : PySem.W.Frag} {t : TA} {Q : List D → Env → Prop} (h : EA t ρ fun es ρ1 => ∃ ds, es = [.list ds] ∧ Q (enumD 0 ds) ρ1) : EI (iEnum K t) ρ Q := fun B ad σ F H w R z =>
  h B ad σ F H w _ fun es ρ1 vs F1 H1 q p r => by
    obtain ⟨ds, rfl, q⟩ := q
    obtain ⟨v, rfl, rv⟩ := r.one
    obtain ⟨a, xs, rfl, h1, h2⟩ := rv.lst_inv
    refine ⟨a, xs, rfl, sqL_rd h1 p.wa.gr.fh, z _ ρ1 _ F1 H1 q p ⟨fun i H' e hi => ?_, fun i H' e hi => ?_, fun i H' x H2 F2 e1 e2 y hi => ?_⟩⟩
    · rw [enumD_len] at hi
      exact ⟨xs, xs[i]'(by rw [h2.len]; exact hi), sqL_rd h1 e, by simp⟩
    · rw [enumD_len] at hi
      exact ⟨xs, sqL_rd h1 e, by rw [h2.len]; exact hi⟩
    · obtain ⟨T, x, rfl, hT, rfl, y⟩ := y
      obtain ⟨d, hd, rd⟩ := h2.get' (y xs (sqL_rd h1 (e1.trans e2)))
      have g := Gr.new (o := .tup [.int (i : Nat), x]) e2 hT
      refine ⟨_, upd F2 T (.tup [.int (i : Nat), x]), enumD_get ds 0 i hd, g, .tup upd_same (.cons ?_ (.cons ((rd.up e1).up g.ff) .nil))⟩
      rw [Nat.zero_add]
      exact .int _
theorem ei_zip {K : PySem.W.Frag} {t : TA} {Q : List D → Env → Prop} (h : EA t ρ fun es ρ1 => ∃ ds fs, es = [.list ds, .list fs] ∧ Q (List.zipWith (fun d f => PyData.tuple [d, f]) ds fs) ρ1) : EI (iZip K t) ρ Q := fun B ad σ F H w R z =>
  h B ad σ F H w _ fun es ρ1 vs F1 H1 q p r => by
    obtain ⟨ds, fs, rfl, q⟩ := q
    obtain ⟨v, u, rfl, rv, ru⟩ := r.two
    obtain ⟨a, xs, rfl, h1, h2⟩ := rv.lst_inv
    obtain ⟨b, ys, rfl, g1, g2⟩ := ru.lst_inv
    refine ⟨a, b, xs, ys, rfl, sqL_rd h1 p.wa.gr.fh, sqL_rd g1 p.wa.gr.fh, z _ ρ1 _ F1 H1 q p ⟨fun i H' e hi => ?_, fun i H' e hi => ?_, fun i H' x H2 F2 e1 e2 y hi => ?_⟩⟩
    · rw [List.length_zipWith] at hi
      exact ⟨xs, ys, xs[i]'(by rw [h2.len]; omega), ys[i]'(by rw [g2.len]; omega), sqL_rd h1 e, sqL_rd g1 e, by simp, by simp⟩
    · rw [List.length_zipWith] at hi
      exact ⟨xs, ys, sqL_rd h1 e, sqL_rd g1 e, by rw [h2.len, g2.len]; omega⟩
    · obtain ⟨T, x, y', rfl, hT, rfl, y1, y2⟩ := y
      obtain ⟨d, hd, rd⟩ := h2.get' (y1 xs (sqL_rd h1 (e1.trans e2)))
      obtain ⟨f, hf, rf⟩ := g2.get' (y2 ys (sqL_rd g1 (e1.trans e2)))
      have g := Gr.new (o := .tup [x, y']) e2 hT
      exact ⟨_, upd F2 T (.tup [x, y']), by rw [List.getElem?_zipWith, hd, hf], g, .tup upd_same (.cons ((rd.up e1).up g.ff) (.cons ((rf.up e1).up g.ff) .nil))⟩
end

/-! ### comprehensions -/
section
variable {ρ ρ' : Env} {te : TE} {tt : TT} {wi : TI} {g : TG}
/-- vs's slots as in the first, the others as in the second -/
def unwA : Nat → List Nat → Env → Env → Env
  | k, vs, a :: ρ, b :: ρ' => (if vs.contains k = true then a else b) :: unwA (k + 1) vs ρ ρ'
  | _, _, _, _ => []
abbrev unw (vs : List Nat) (ρ ρ' : Env) : Env := unwA 0 vs ρ ρ'
theorem unwA_len : ∀ {k : Nat} {vs : List Nat} {ρ ρ' : Env}, ρ'.length = ρ.length → (unwA k vs ρ ρ').length = ρ.length
  | _, _, [], [], _ => rfl
  | _, _, [], _ :: _, h => by simp at h
  | _, _, _ :: _, [], h => by simp at h
  | k, vs, a :: ρ, b :: ρ', h => by
    show (unwA (k + 1) vs ρ ρ').length + 1 = ρ.length + 1
    rw [unwA_len (by simpa using h)]
theorem unwA_get : ∀ {k : Nat} {vs : List Nat} {ρ ρ' : Env} {i : Nat}, ρ'.length = ρ.length → (unwA k vs ρ ρ')[i]? = if k + i ∈ vs then ρ[i]? else ρ'[i]?
  | _, _, [], [], i, _ => by simp [unwA]
  | _, _, [], _ :: _, _, h => by simp at h
  | _, _, _ :: _, [], _, h => by simp at h
  | k, vs, a :: ρ, b :: ρ', 0, h => by
    show some (if vs.contains k = true then a else b) = if k + 0 ∈ vs then some a else some b
    by_cases hk : k ∈ vs
    · rw [if_pos (by simpa using hk), if_pos (by simpa using hk)]
    · rw [if_neg (by simpa using hk), if_neg (by simpa using hk)]
  | k, vs, a :: ρ, b :: ρ', i + 1, h => by
    show (unwA (k + 1) vs ρ ρ')[i]? = if k + (i + 1) ∈ vs then ρ[i]? else ρ'[i]?
    rw [unwA_get (by simpa using h), show k + 1 + i = k + (i + 1) by omega]
/-- the slots at vs hold nothing that is owned -/
def isPl : Option Slot → Bool
  | some (.own _) => false
  | some (.st _) => false
  | _ => true
def Plain (ρ : Env) (vs : List Nat) : Prop := ∀ i ∈ vs, isPl ρ[i]? = true
theorem Plain.ad {B : Base} {ad : Nat → List Addr} {σ : St} {F H : Hp} {vs : List Nat} (w : WA B ad ρ σ F H) (pl : Plain ρ vs) : ∀ j ∈ vs, ad j = [] := fun j hj => by
  have k := pl j hj
  cases e : ρ[j]? with
  | none => exact w.out j e
  | some s =>
    have q := w.sl j s e
    rw [e] at k
    cases s with
    | emp => exact q
    | val d => exact q.1
    | own _ => cases k
    | st _ => cases k
theorem WA.wiped {B : Base} {ad : Nat → List Addr} {σ : St} {F H : Hp} {vs : List Nat} (w : WA B ad ρ σ F H) (pl : Plain ρ vs) : WA B ad (wipeE ρ vs) (wipe σ vs) F H where
  gr := w.gr
  len := by rw [wipe_length, wipeE_len]; exact w.len
  sl := fun i s e => by
    rw [wipeE_get] at e
    rw [wipe_get]
    by_cases h : i ∈ vs ∧ i < ρ.length
    · rw [if_pos h] at e
      cases e
      exact pl.ad w i h.1
    · rw [if_neg h] at e
      rw [if_neg (by rw [w.len]; exact h)]
      exact w.sl i s e
  fz := w.fz
  dj := w.dj
  out := fun i e => by
    rw [wipeE_get] at e
    by_cases h : i ∈ vs ∧ i < ρ.length
    · rw [if_pos h] at e; cases e
    · rw [if_neg h] at e; exact w.out i e
  pin := w.pin.to fun S e => by
    rw [wipeE_get] at e
    by_cases h : 0 ∈ vs ∧ 0 < ρ.length
    · rw [if_pos h] at e; cases e
    · rw [if_neg h] at e
      exact ⟨⟨S, e⟩, by rw [wipe_get, if_neg (by rw [w.len]; exact h)], rfl⟩
theorem wipe_eq {σ σ' : St} {vs : List Nat} (h : wipe σ' vs = wipe σ vs) {i : Nat} (hi : i ∉ vs) : σ'[i]? = σ[i]? := by
  have e := congrArg (fun l => l[i]?) h
  simp only [wipe_get] at e
  rwa [if_neg (fun z => hi z.1), if_neg (fun z => hi z.1)] at e
/-- behind the block's turn: the outer slots again -/
theorem Post.unwiped {B : Base} {ad : Nat → List Addr} {σ σ2 : St} {F H F' H' : Hp} {vs : List Nat} {ρ1 ρ2 : Env} (w : WA B ad ρ1 σ F H) (pl : Plain ρ1 vs)
    (hσ : wipe σ2 vs = wipe σ vs) (fr : ∀ i, i ∉ vs → ρ2[i]? = (wipeE ρ1 vs)[i]?) (w2 : WA B ad ρ2 σ2 F H) (p : Post B ad σ2 ρ2 F H ρ' F' H') : Post B ad σ ρ1 F H (unw vs ρ1 ρ') F' H' := by
  have hl : ρ'.length = ρ1.length := by
    have l1 := p.wa.len
    have l2 := congrArg List.length hσ
    rw [wipe_length, wipe_length] at l2
    rw [← l1, l2, w.len]
  have pa := pl.ad w
  have ms : ∀ a, MS ad ρ2 a → MS ad ρ1 a := fun a ⟨i, S, e, m⟩ => by
    have hi : i ∉ vs := fun z => by rw [pa i z] at m; cases m
    rw [fr i hi, wipeE_get, if_neg (fun z => hi z.1)] at e
    exact ⟨i, S, e, m⟩
  refine ⟨⟨p.wa.gr, by rw [unwA_len hl]; exact w.len, fun i s e => ?_, p.wa.fz, p.wa.dj, fun i e => ?_, fun s as hp S e => ?_⟩, ⟨p.gr.ff, p.gr.fh, fun a o e m => p.gr.kp a o e fun z => m (ms a z), p.gr.al, p.gr.fr⟩, fun i S e => ?_⟩
  · rw [unwA_get hl, Nat.zero_add] at e
    by_cases hi : i ∈ vs
    · rw [if_pos hi] at e
      have k := w.sl i s e
      have q := pl i hi
      rw [e] at q
      cases s with
      | emp => exact k
      | val d =>
        obtain ⟨k, v, e, r⟩ := k
        exact ⟨k, v, e, r.up p.gr.ff⟩
      | own _ => cases q
      | st _ => cases q
    · rw [if_neg hi] at e
      rw [← wipe_eq hσ hi]
      exact p.wa.sl i s e
  · rw [List.getElem?_eq_none_iff, unwA_len hl, ← hl, ← List.getElem?_eq_none_iff] at e
    exact p.wa.out i e
  · rw [unwA_get hl, Nat.zero_add] at e
    by_cases hi : 0 ∈ vs
    · rw [if_pos hi] at e
      have q := pl 0 hi
      rw [e] at q
      cases q
    · rw [if_neg hi] at e
      rw [← wipe_eq hσ hi]
      exact p.wa.pin s as hp S e
  · rw [unwA_get hl, Nat.zero_add] at e
    by_cases hi : i ∈ vs
    · rw [if_pos hi] at e
      exact ⟨S, e⟩
    · rw [if_neg hi] at e
      obtain ⟨S', e'⟩ := p.sh i S e
      rw [fr i hi, wipeE_get, if_neg (fun z => hi z.1)] at e'
      exact ⟨S', e'⟩
/-- [e for target in ..], by an invariant over the turn, the items made, the slots -/
theorem eo_lc {vs : List Nat} {Q : List D → Env → Prop} (h : EI wi ρ fun ds ρ1 => ∃ I : Nat → List D → Env → Prop, I 0 [] ρ1 ∧
    (∀ k d acc ρ', ds[k]? = some d → I k acc ρ' → Plain ρ' vs ∧ acc.length < 1000000 ∧ SG vs g d (wipeE ρ' vs) fun ρ2 => ET tt ρ2 fun b ρ3 => (b = true → EX te ρ3 fun e ρ4 => I (k + 1) (acc ++ [e]) (unw vs ρ' ρ4)) ∧ (b = false → I (k + 1) acc (unw vs ρ' ρ3))) ∧
    ∀ acc ρ', I ds.length acc ρ' → Q acc ρ') : EO (tLc wi g tt te vs) ρ Q := fun B ad σ F H w Z z => by
  refine h B ad σ F H w _ fun ds ρ1 J F1 H1 q1 p1 it => ?_
  obtain ⟨I, i0, turn, done⟩ := q1
  intro Dl hD
  have hDH : H Dl = none := by
    cases q : H Dl with
    | none => rfl
    | some o => exact absurd hD (p1.gr.al Dl (by rw [q]; intro z; cases z))
  have nw := p1.wa.newp hD
  -- at each turn: the outer slots, over a heap in which Dl is not seen
  let Inv := fun (i : Nat) (H' : Hp) => ∃ acc ρ' F' vs', I i acc ρ' ∧ Post B ad σ ρ1 F1 H1 ρ' F' H' ∧ F' Dl = none ∧ H' Dl = some (.lst vs') ∧ RpA F' vs' acc
  refine ⟨fun i m H' => m = ds.length - i ∧ i ≤ ds.length ∧ Inv i H', ⟨_, rfl, Nat.zero_le _, [], ρ1, F1, [], i0, Post.of p1.wa (Gr.heap p1.wa.gr.fh (same_upd hD)), nw.1, upd_same, .nil⟩, ?_⟩
  rintro i m H' ⟨rfl, hi, acc, ρ', F', vs', iv, P, hF, hH, ra⟩
  by_cases hlt : i < ds.length
  · refine .inr ⟨it.go i H' (P.gr.ff.trans P.wa.gr.fh) hlt, fun H2 => Inv (i + 1) H2, fun H2 k => ⟨ds.length - (i + 1), by omega, rfl, hlt, k⟩, fun x H2 y => ?_⟩
    obtain ⟨d, F2, e, gr, rx⟩ := it.yld i H' x H2 F' P.gr.ff P.wa.gr.fh y hlt
    obtain ⟨pl, hz, k⟩ := turn i d acc ρ' e iv
    have P2 := P.trans (Post.of P.wa gr)
    have w2 := P.wa.grow gr
    have hF2 : F2 Dl = none := gr.fr Dl (by rw [hH]; intro z; cases z) hF
    have hH2 : H2 Dl = some (.lst vs') := gr.kp Dl _ hH id
    have nms : ∀ (ρ2 : Env), ¬ MS ad ρ2 Dl := fun ρ2 ⟨j, S, _, m⟩ => nw.2.2 j m
    refine k B ad (wipe σ vs) F2 H2 x (w2.wiped pl) (pl.ad w2) rx _ fun ρ2 σ2 q wb e2 fr => ?_
    have e2' : wipe σ2 vs = wipe σ vs := by
      rw [e2]
      apply List.ext_getElem?
      intro j
      rw [wipe_get, wipe_get, wipe_length]
      split
      · rfl
      · first | rfl | rw [wipe_get, if_neg (by assumption)]
    refine ⟨e2', q B ad σ2 F2 H2 wb _ fun b ρ3 F3 H3 q3 p3 => ?_⟩
    cases b with
    | true =>
      show te σ2 H3 _
      refine q3.1 rfl B ad σ2 F3 H3 p3.wa _ fun e ρ4 v F4 H4 q4 p4 rv => ?_
      have p34 := p3.trans p4
      have pu := Post.unwiped w2 pl e2' fr wb p34
      have hH4 : H4 Dl = some (.lst vs') := p34.gr.kp Dl _ hH2 (nms _)
      have hF4 : F4 Dl = none := p34.gr.fr Dl (by rw [hH2]; intro z; cases z) hF2
      have ra4 : RpA F4 (vs' ++ [v]) (acc ++ [e]) := (ra.up (gr.ff.trans p34.gr.ff)).app (.cons rv .nil)
      refine ⟨vs', hH4, Nat.lt_of_lt_of_le (by rw [ra.len]; exact hz) (by decide), acc ++ [e], _, F4, vs' ++ [v], q4, ?_, hF4, upd_same, ra4⟩
      -- Dl grows: nobody sees it
      have pt := P2.trans pu
      have ne1 : ∀ a o, H1 a = some o → a ≠ Dl := fun a o q z => by rw [z, hD] at q; cases q
      have neF : ∀ a o, F4 a = some o → a ≠ Dl := fun a o q z => by rw [z, hF4] at q; cases q
      refine ⟨⟨⟨pt.wa.gr.ff, fun a o q => by rw [upd_ne (neF a o q)]; exact pt.wa.gr.fh a o q, fun a o q m => ?_, fun a q => ?_, pt.wa.gr.fr⟩, pt.wa.len, fun j s q => ?_, pt.wa.fz, pt.wa.dj, pt.wa.out, pt.wa.pin⟩, ⟨pt.gr.ff, fun a o q => by rw [upd_ne (neF a o q)]; exact pt.gr.fh a o q, fun a o q m => by rw [upd_ne (ne1 a o q)]; exact pt.gr.kp a o q m, fun a q => ?_, pt.gr.fr⟩, pt.sh⟩
      · rw [upd_ne (fun z => by rw [z, nw.2.1] at q; cases q)]
        exact pt.wa.gr.kp a o q m
      · by_cases ha : a = Dl
        · rw [ha, upd_same]; intro z; cases z
        · rw [upd_ne ha]; exact pt.wa.gr.al a q
      · have k := pt.wa.sl j s q
        cases s with
        | emp => exact k
        | val d => exact k
        | own es =>
          obtain ⟨p, ws, a1, a2, a3, a4, a5⟩ := k
          refine ⟨p, ws, a1, a2, a3, ?_, a5⟩
          rw [upd_ne (fun z => nw.2.2 j (by rw [a1, z]; simp))]
          exact a4
        | st S =>
          obtain ⟨s, a1, a2⟩ := k
          exact ⟨s, a1, a2.keep fun a m o e => by
            rw [upd_ne (fun z => nw.2.2 j (by rw [← z]; exact m))]
            exact e⟩
      · by_cases ha : a = Dl
        · rw [ha, upd_same]; intro z; cases z
        · rw [upd_ne ha]; exact pt.gr.al a q
    | false =>
      show Inv (i + 1) H3
      have pu := Post.unwiped w2 pl e2' fr wb p3
      exact ⟨acc, _, F3, vs', q3.2 rfl, P2.trans pu, p3.gr.fr Dl (by rw [hH2]; intro z; cases z) hF2, p3.gr.kp Dl _ hH2 (nms _), ra.up (gr.ff.trans p3.gr.ff)⟩
  · have e : i = ds.length := by omega
    subst e
    exact .inl ⟨it.stop _ H' (P.gr.ff.trans P.wa.gr.fh) (Nat.le_refl _), z acc ρ' Dl vs' F' H' (done acc ρ' iv) (p1.trans P) hF hDH hH ra⟩
theorem et_yes {Q : Bool → Env → Prop} (q : Q true ρ) : ET tYes ρ Q := fun B ad σ F H w Z z => z true ρ F H q (Post.refl w)
/-- items that read off a list of one's own; nothing changes: the filter and the map -/
theorem eo_lcP {α : Type} {vs : List Nat} {Q : List D → Env → Prop} (f : α → Bool) (gg : α → D) (h : EI wi ρ fun ds ρ1 => ∃ (xs : List α) (enc : α → D), ds = xs.map enc ∧ xs.length < 1000000 ∧ Plain ρ1 vs ∧
    (∀ x ∈ xs, SG vs g (enc x) (wipeE ρ1 vs) fun ρ2 => unw vs ρ1 ρ2 = ρ1 ∧ ET tt ρ2 fun b ρ3 => b = f x ∧ ρ3 = ρ2 ∧ (f x = true → EX te ρ2 fun e ρ4 => e = gg x ∧ ρ4 = ρ2)) ∧ Q ((xs.filter f).map gg) ρ1) : EO (tLc wi g tt te vs) ρ Q := by
  refine eo_lc fun B ad σ F H w R z => h B ad σ F H w R fun ds ρ1 J F' H' q p it => z ds ρ1 J F' H' ?_ p it
  obtain ⟨xs, enc, rfl, hz, pl, turn, q⟩ := q
  refine ⟨fun k acc ρ' => ρ' = ρ1 ∧ acc = ((xs.take k).filter f).map gg, ⟨rfl, by simp⟩, ?_, ?_⟩
  · rintro k d acc ρ' e ⟨rfl, rfl⟩
    rw [List.getElem?_map] at e
    obtain ⟨x, ex, rfl⟩ : ∃ x, xs[k]? = some x ∧ enc x = d := by
      cases hx : xs[k]? with
      | none => rw [hx] at e; cases e
      | some x => rw [hx] at e; exact ⟨x, rfl, Option.some.inj e⟩
    have hm : x ∈ xs := List.mem_of_getElem? ex
    have hk : k < xs.length := (List.getElem?_eq_some_iff.mp ex).1
    have et : xs.take (k + 1) = xs.take k ++ [x] := by
      rw [List.take_succ, ex]; rfl
    refine ⟨pl, ?_, fun B ad σ F H v w hJ r Z z => turn x hm B ad σ F H v w hJ r Z fun ρ2 σ2 q w2 a b => z ρ2 σ2 (fun B ad σ F H w Z z => q.2 B ad σ F H w Z fun b ρ3 F' H' q2 p => z b ρ3 F' H' ⟨fun hb => ?_, fun hb => ?_⟩ p) w2 a b⟩
    · rw [List.length_map]
      exact Nat.lt_of_le_of_lt (Nat.le_trans (List.length_filter_le _ _) (by rw [List.length_take]; exact Nat.min_le_right _ _)) hz
    · obtain ⟨rfl, rfl, q2⟩ := q2
      refine (q2 hb).imp fun e ρ4 q => ?_
      obtain ⟨rfl, rfl⟩ := q
      exact ⟨‹_ ∧ _›.1, by rw [et, List.filter_append, List.map_append, List.filter_cons, if_pos hb]; rfl⟩
    · obtain ⟨rfl, rfl, q2⟩ := q2
      exact ⟨‹_ ∧ _›.1, by rw [et, List.filter_append, List.filter_cons, if_neg (by rw [hb]; exact Bool.false_ne_true), List.filter_nil, List.append_nil]⟩
  · rintro acc ρ' ⟨rfl, rfl⟩
    rw [List.length_map, List.take_length]
    exact q
end

/-! ### calls -/
/-- what a def of data promises: R tells of the arguments and of what is wanted of the answer -/
def spP (R : List D → (D → Prop) → Prop) : Sp := fun vs H Q _ => ∃ F ds Z, Same F H ∧ RpA F vs ds ∧ R ds Z ∧ ∀ d v F' H', Z d → Gr Non F H F' H' → Rp F' v d → Q v H'
/-- the same with a state ahead of the arguments -/
def spS (R : Stt → List D → (D → Stt → Prop) → Prop) : Sp := fun vs H Q _ => ∃ F s as S us ds Z, vs = .ref s :: us ∧ Same F H ∧ StAt H S s as ∧ (∀ a ∈ as, F a = none) ∧ RpA F us ds ∧ R S ds Z ∧
  ∀ d S' v F' H', Z d S' → Gr (· ∈ as) F H F' H' → StAt H' S' s as → (∀ a ∈ as, F' a = none) → Rp F' v d → Q v H'
/-- a new state is handed back -/
def spN (R : List D → (Stt → Prop) → Prop) : Sp := fun vs H Q _ => ∃ F ds Z, Same F H ∧ RpA F vs ds ∧ R ds Z ∧ ∀ S s as F' H', Z S → Gr Non F H F' H' → StAt H' S s as → (∀ a ∈ as, F' a = none ∧ H a = none) → Q (.ref s) H'
section
variable {ρ ρ' : Env} {te : TE} {tt : TT} {t : TA} {E : XK}
theorem ex_call {R : List D → (D → Prop) → Prop} {Q : D → Env → Prop} (h : EA t ρ fun ds ρ1 => R ds fun d => Q d ρ1) : EX (tCall (spP R) [] E t) ρ Q := fun B ad σ F H w Z z =>
  h B ad σ F H w _ fun ds ρ1 vs F1 H1 q p r => by
    rw [List.append_nil]
    exact ⟨F1, ds, _, p.wa.gr.fh, r, q, fun d v F' H' zd g rv => z d ρ1 v F' H' zd (p.trans (Post.of p.wa g)) rv⟩
/-- f(state, ..) -/
theorem ex_callS {R : Stt → List D → (D → Stt → Prop) → Prop} {i : Nat} {S0 : Stt} {Q : D → Env → Prop} (h0 : ρ[i]? = some (.st S0)) (h : EA t ρ fun ds ρ1 => ∃ S, ρ1[i]? = some (.st S) ∧ R S ds fun d S' => Q d (ρ1.set i (.st S'))) :
    EX (tCall (spS R) [] E (tCons (tVar i) t)) ρ Q := fun B ad σ F H w Z z => by
  obtain ⟨s0, k0, _⟩ := w.sl i _ h0
  refine ⟨_, k0, h B ad σ F H w _ fun ds ρ1 vs F1 H1 q p r => ?_⟩
  obtain ⟨S, h1, q⟩ := q
  obtain ⟨s, k1, k2⟩ := p.wa.sl i _ h1
  rw [k0] at k1
  cases k1
  have hi : i < ρ1.length := (List.getElem?_eq_some_iff.mp h1).1
  rw [List.append_nil]
  refine ⟨F1, s0, ad i, S, vs, ds, _, rfl, p.wa.gr.fh, k2, fun a m => (p.wa.fz i a m).1, r, q, fun d S' v F' H' zd g st fn rv => ?_⟩
  have nm : ∀ j a, j ≠ i → a ∈ ad j → a ∉ ad i := fun j a hj m m' => hj (p.wa.dj j i a m m')
  refine z d _ v F' H' zd (p.trans ⟨⟨?_, ?_, fun j sl e => ?_, fun j a m => ?_, p.wa.dj, fun j e => p.wa.out j (get_set' e), p.wa.pin.to fun S2 e => by
    rcases get_set e with ⟨e0, _⟩ | ⟨hj, e⟩
    · exact ⟨⟨S, by rw [e0]; exact h1⟩, rfl, rfl⟩
    · exact ⟨⟨S2, e⟩, rfl, rfl⟩⟩, ⟨g.ff, g.fh, fun a o e m => g.kp a o e fun z => m ⟨i, S, h1, z⟩, g.al, g.fr⟩, fun j S'' e => ?_⟩) rv
  · refine ⟨p.wa.gr.ff.trans g.ff, g.fh, fun a o e m => g.kp a o (p.wa.gr.kp a o e m) fun z => ?_, fun a e => g.al a (p.wa.gr.al a e), fun a e z => g.fr a (p.wa.gr.al a e) (p.wa.gr.fr a e z)⟩
    rcases (p.wa.fz i a z).2 with q | q
    · rw [q] at e; cases e
    · exact m q.1
  · rw [List.length_set]; exact p.wa.len
  · rcases get_set e with ⟨rfl, rfl⟩ | ⟨hj, e⟩
    · exact ⟨s0, k0, st⟩
    · have k := p.wa.sl j sl e
      cases sl with
      | emp => exact k
      | val d =>
        obtain ⟨k, v, e, r⟩ := k
        exact ⟨k, v, e, r.up g.ff⟩
      | own es =>
        obtain ⟨q, ws, a1, a2, a3, a4, a5⟩ := k
        exact ⟨q, ws, a1, a2, a3, g.kp q _ a4 (nm j q hj (by rw [a1]; simp)), a5.up g.ff⟩
      | st S2 =>
        obtain ⟨s2, a1, a2⟩ := k
        exact ⟨s2, a1, a2.keep fun a m o e => g.kp a o e (nm j a hj m)⟩
  · refine ⟨?_, (p.wa.fz j a m).2⟩
    by_cases hj : j = i
    · subst hj; exact fn a m
    · exact g.fr a (p.wa.lv m) (p.wa.fz j a m).1
  · rcases get_set e with ⟨rfl, _⟩ | ⟨_, e⟩
    · exact ⟨S, h1⟩
    · exact ⟨S'', e⟩
/-- state = f(..) -/
theorem sx_asgN {R : List D → (Stt → Prop) → Prop} {i : Nat} {P : Po} (h00 : i ≠ 0) (h : EA t ρ fun ds ρ1 => R ds fun S => NX P (ρ1.set i (.st S))) : SX (tAsg (tCall (spN R) [] E t) (gName i)) ρ P := fun B σ F H w Dn n r b c => by
  obtain ⟨ad, w⟩ := w
  refine h B ad σ F H w _ fun ds ρ1 vs F1 H1 q p rv => ?_
  rw [List.append_nil]
  refine ⟨F1, ds, _, p.wa.gr.fh, rv, q, fun S s as F' H' zd g st fn => ?_⟩
  obtain ⟨ρ2, l, q⟩ := zd
  have w2 := p.wa.grow g
  have nw : ∀ a ∈ as, B.H0 a = none ∧ ∀ j, a ∉ ad j := fun a m => (p.wa.newp (fn a m).2).2
  refine n ρ2 _ F' H' q (W.weak ⟨fun k => if k = i then (if i < ρ1.length then as else []) else ad k, w2.gr, by rw [List.length_set, List.length_set]; exact w2.len, fun j sl e => ?_, fun j q m => ?_, fun j1 j2 q m1 m2 => ?_, fun j e => ?_, w2.pin.to fun S2 e => by
    rcases get_set e with ⟨e0, _⟩ | ⟨hj, e⟩
    · exact absurd e0.symm h00
    · exact ⟨⟨S2, e⟩, List.getElem?_set_ne (Ne.symm hj), if_neg hj⟩⟩ l)
  · rcases get_set e with ⟨rfl, rfl⟩ | ⟨hj, e'⟩
    · have hi : j < ρ1.length := by
        have := (List.getElem?_eq_some_iff.mp e).1
        rwa [List.length_set] at this
      exact ⟨s, List.getElem?_set_self (by rw [w2.len]; exact hi), by rw [if_pos rfl, if_pos hi]; exact st⟩
    · rw [if_neg hj, List.getElem?_set_ne (Ne.symm hj)]
      exact w2.sl j sl e'
  · by_cases hj : j = i
    · simp only [if_pos hj] at m
      by_cases hi : i < ρ1.length
      · simp only [if_pos hi] at m
        exact ⟨(fn q m).1, .inl (nw q m).1⟩
      · simp [if_neg hi] at m
    · simp only [if_neg hj] at m
      exact w2.fz j q m
  · have g : ∀ j, q ∈ (if j = i then (if i < ρ1.length then as else []) else ad j) → (j = i ∧ q ∈ as) ∨ (j ≠ i ∧ q ∈ ad j) := fun j m => by
      by_cases hj : j = i
      · simp only [if_pos hj] at m
        by_cases hi : i < ρ1.length
        · simp only [if_pos hi] at m
          exact .inl ⟨hj, m⟩
        · simp [if_neg hi] at m
      · simp only [if_neg hj] at m
        exact .inr ⟨hj, m⟩
    rcases g j1 m1 with ⟨a1, b1⟩ | ⟨a1, b1⟩ <;> rcases g j2 m2 with ⟨a2, b2⟩ | ⟨a2, b2⟩
    · rw [a1, a2]
    · exact absurd b2 ((nw q b1).2 j2)
    · exact absurd b1 ((nw q b2).2 j1)
    · exact w2.dj j1 j2 q b1 b2
  · show (if j = i then (if i < ρ1.length then as else []) else ad j) = []
    have e' := get_set' e
    by_cases hj : j = i
    · subst hj
      rw [if_pos rfl, if_neg (by rw [List.getElem?_eq_none_iff] at e'; omega)]
    · rw [if_neg hj]
      exact w2.out j e'
end

/-! ### defs -/
def startE (N : List Str) (ds : List D) : Env := ds.map .val ++ List.replicate (N.length - ds.length) .emp
section
variable {P : Program} {w : World} {K : PySem.W.Frag} {mg : Str → Option Value} {base : Heap} {x qual : Str} {st : Stmt} {f : Addr} {fd : FuncData} {N ps : List Str} {k : Nat}
theorem start_get {N : List Str} {us : List V} {i : Nat} {v : V} (h : us[i]? = some v) : (L2.start N us)[i]? = some (some v) := by
  unfold L2.start
  have hi := (List.getElem?_eq_some_iff.mp h).1
  rw [List.getElem?_append_left (by rw [List.length_map]; exact hi), List.getElem?_map, h]
  rfl
theorem startE_get {N : List Str} {ds : List D} {i : Nat} {s : Slot} (h : (startE N ds)[i]? = some s) : (∃ d, ds[i]? = some d ∧ s = .val d) ∨ s = .emp := by
  unfold startE at h
  by_cases hi : i < ds.length
  · rw [List.getElem?_append_left (by rw [List.length_map]; exact hi), List.getElem?_map] at h
    cases e : ds[i]? with
    | none => rw [e] at h; cases h
    | some d => rw [e] at h; exact .inl ⟨d, rfl, (Option.some.inj h).symm⟩
  · rw [List.getElem?_append_right (by rw [List.length_map]; omega)] at h
    exact .inr (List.eq_of_mem_replicate (List.mem_of_getElem? h))
theorem fn_pure {R : List D → (D → Prop) → Prop} (F : Fun K x qual st f fd) (S : FnScope N ps (defScope st)) (len : ∀ ds Z, R ds Z → ds.length = ps.length)
    (body : ∀ (cdv : Value) (A : Around) (outer : List PySem.Env) (s : Shared) (H : Hp) (E : XK), Room k (A.deeper (PyProof.Rows.envOfC qual (defScope st) s.heap.objs.size f cdv)) →
      ∃ t, PSs (cxOf CX0 P w K mg base N qual (defScope st) f cdv A outer s H E).nox (defBody st) t ∧ ∀ ds Z, R ds Z → SX t (startE N ds) { nx := fun _ => Z .none, rt := fun d _ => Z d }) :
    FnOk P w K mg base CX0 (k + 1) f fd ps (spP R) := by
  refine F.ok S (fun vs H Q E h => ?_) (fun cdv A outer s H vs Q E hr h => ?_)
  · obtain ⟨F, ds, Z, _, r, q, _⟩ := h
    rw [r.len]
    exact len ds Z q
  · obtain ⟨F0, ds, Z, fh, r, q, z⟩ := h
    obtain ⟨t, ht, hs⟩ := body cdv A outer s H E hr
    refine ⟨t, ht, hs ds Z q { F0 := F0, H0 := H, M := Non } (L2.start N vs) F0 H ⟨fun _ => [], Gr.refl fh, ?_, fun i s e => ?_, (fun i p m => by cases m), (fun i j p m => by cases m), fun _ _ => rfl, (fun s as e => by cases e)⟩ _ (fun ρ' σ' F' H' q w' => ?_) (fun d ρ' σ' v F' H' q w' rv => ?_) (fun _ _ _ _ q _ => q.elim) (fun _ _ _ _ q _ => q.elim)⟩
    · unfold L2.start startE
      rw [List.length_append, List.length_append, List.length_map, List.length_map, List.length_replicate, List.length_replicate, r.len]
    · rcases startE_get e with ⟨d, e2, rfl⟩ | rfl
      · obtain ⟨v, e1, rv⟩ := r.get e2
        exact ⟨rfl, v, start_get e1, rv⟩
      · rfl
    · obtain ⟨ad, w'⟩ := w'
      exact z .none .non F' H' q w'.gr .non
    · obtain ⟨ad, w'⟩ := w'
      exact z d v F' H' q w'.gr rv
/-- a def whose first parameter is a state -/
theorem fn_state {R : Stt → List D → (D → Stt → Prop) → Prop} (F : Fun K x qual st f fd) (S : FnScope N ps (defScope st)) (len : ∀ S ds Z, R S ds Z → ds.length + 1 = ps.length)
    (body : ∀ (cdv : Value) (A : Around) (outer : List PySem.Env) (s : Shared) (H : Hp) (E : XK), Room k (A.deeper (PyProof.Rows.envOfC qual (defScope st) s.heap.objs.size f cdv)) →
      ∃ t, PSs (cxOf CX0 P w K mg base N qual (defScope st) f cdv A outer s H E).nox (defBody st) t ∧ ∀ S ds Z, R S ds Z → SX t (.st S :: (ds.map .val ++ List.replicate (N.length - (ds.length + 1)) .emp)) { nx := fun ρ' => ∃ S', ρ'[0]? = some (.st S') ∧ Z .none S', rt := fun d ρ' => ∃ S', ρ'[0]? = some (.st S') ∧ Z d S' }) :
    FnOk P w K mg base CX0 (k + 1) f fd ps (spS R) := by
  refine F.ok S (fun vs H Q E h => ?_) (fun cdv A outer s H vs Q E hr h => ?_)
  · obtain ⟨F, s, as, S, us, ds, Z, rfl, _, _, _, r, q, _⟩ := h
    rw [List.length_cons, r.len]
    exact len S ds Z q
  · obtain ⟨F0, s0, as, S0, us, ds, Z, rfl, fh, sa, fn, r, q, z⟩ := h
    obtain ⟨t, ht, hs⟩ := body cdv A outer s H E hr
    have hm := sa.mem
    have hl : (L2.start N (.ref s0 :: us)).length = (Slot.st S0 :: (ds.map Slot.val ++ List.replicate (N.length - (ds.length + 1)) Slot.emp)).length := by
      unfold L2.start
      simp [r.len]
    have fin : ∀ (d : D) (ρ' : Env) (σ' : St) (v : V) (F' H' : Hp), (∃ S', ρ'[0]? = some (Slot.st S') ∧ Z d S') → W { F0 := F0, H0 := H, M := (· ∈ as), pin := some (s0, as) } ρ' σ' F' H' → Rp F' v d → Q v H' := fun d ρ' σ' v F' H' ⟨S', e, zd⟩ ⟨ad, w'⟩ rv => by
      obtain ⟨e1, e2⟩ := w'.pin s0 as rfl S' e
      obtain ⟨s1, k1, k2⟩ := w'.sl 0 _ e
      rw [e1] at k1
      cases k1
      rw [e2] at k2
      exact z d S' v F' H' zd w'.gr k2 (fun a m => (w'.fz 0 a (by rw [e2]; exact m)).1) rv
    refine ⟨t, ht, hs S0 ds Z q { F0 := F0, H0 := H, M := (· ∈ as), pin := some (s0, as) } (L2.start N (.ref s0 :: us)) F0 H ⟨fun i => if i = 0 then as else [], Gr.refl fh, hl, fun i sl e => ?_, fun i p m => ?_, fun i j p m1 m2 => ?_, fun i e => ?_, fun s as' e S _ => ?_⟩ _ (fun ρ' σ' F' H' q w' => fin .none ρ' σ' .non F' H' q w' .non) (fun d ρ' σ' v F' H' q w' rv => fin d ρ' σ' v F' H' q w' rv) (fun _ _ _ _ q _ => q.elim) (fun _ _ _ _ q _ => q.elim)⟩
    · cases i with
      | zero =>
        cases e
        exact ⟨s0, start_get (us := .ref s0 :: us) rfl, by rw [if_pos rfl]; exact sa⟩
      | succ i =>
        have e' : (startE (List.replicate (N.length - 1) "") ds)[i]? = some sl := by
          unfold startE
          rw [List.length_replicate, show N.length - 1 - ds.length = N.length - (ds.length + 1) by omega]
          exact e
        rw [if_neg (Nat.succ_ne_zero i)]
        rcases startE_get e' with ⟨d, e2, rfl⟩ | rfl
        · obtain ⟨v, e1, rv⟩ := r.get e2
          exact ⟨rfl, v, start_get (us := .ref s0 :: us) (by simpa using e1), rv⟩
        · rfl
    · by_cases hi : i = 0
      · rw [if_pos hi] at m
        exact ⟨fn p m, .inr ⟨m, hi⟩⟩
      · rw [if_neg hi] at m; cases m
    · by_cases hi : i = 0
      · by_cases hj : j = 0
        · rw [hi, hj]
        · rw [if_neg hj] at m2; cases m2
      · rw [if_neg hi] at m1; cases m1
    · by_cases hi : i = 0
      · subst hi; cases e
      · exact if_neg hi
    · cases e
      exact ⟨start_get (us := .ref s0 :: us) rfl, if_pos rfl⟩
end
end Pu
namespace Pu
open PySem L2

/-! ### what the defs call: built-ins, one another -/
/-- no name of a built-in is bound by the module -/
structure Bn (mg : Str → Option Value) : Prop where
  len_ : mg "len" = none
  range_ : mg "range" = none
  min_ : mg "min" = none
  max_ : mg "max" = none
  abs_ : mg "abs" = none
  sum_ : mg "sum" = none
  int_ : mg "int" = none
  list_ : mg "list" = none
  tuple_ : mg "tuple" = none
  sorted_ : mg "sorted" = none
  isinstance_ : mg "isinstance" = none
  enumerate_ : mg "enumerate" = none
  zip_ : mg "zip" = none
  set_ : mg "set" = none
  repr_ : mg "repr" = none
  all_ : mg "all" = none
  any_ : mg "any" = none
  dict_ : mg "dict" = none
  reversed_ : mg "reversed" = none
  str_ : mg "str" = none
/-- a def of the module that keeps a promise -/
inductive Cal (P : Program) (w : World) (K : PySem.W.Frag) (mg : Str → Option Value) (base : Heap) (x : Str) (ps : List Str) (sp : Sp) (k : Nat) : Prop
  | mk (f : Addr) (fd : FuncData) (ok : FnOk P w K mg base CX0 k f fd ps sp) (hm : mg x = some (.ref f)) (kp : PySem.W.keepIn K (.ref f) = true) (bd : Binds K fd ps []) : Cal P w K mg base x ps sp k
theorem pe_cal {X : Cx} {k : Nat} {ps : List Str} {sp : Sp} {x : Str} {p pos : Pos} {e : Expr} {es : List Expr} {t : TA} (C : Cal X.prog X.w X.K X.mg X.base x ps sp k) (hr : Room k X.A) (hg : Gl X x) (ha : PA X (e :: es) t)
    (hdb : (x == ("__debug__" : Str)) = false := by decide) (he : starEach (e :: es) X.env = (false, eval e X.env) :: starEach es X.env := by rfl) (hpl : (backTo pos (starEach es X.env)).any (·.1) = false := by rfl) :
    PE X (.Call (.Name x p) (e :: es) [] pos) (tCall sp [] E0 t) := by
  obtain ⟨f, fd, ok, hm, kp, bd⟩ := C
  exact pe_call ok hr hg hm kp bd .nil pass0 ha hdb he hpl
theorem Cal.imp {P : Program} {w : World} {K : PySem.W.Frag} {mg : Str → Option Value} {base : Heap} {x : Str} {ps : List Str} {sp sp' : Sp} {k : Nat} (C : Cal P w K mg base x ps sp k) (h : ∀ vs H Q E, sp' vs H Q E → sp vs H Q E) : Cal P w K mg base x ps sp' k := by
  obtain ⟨f, fd, ok, hm, kp, bd⟩ := C
  exact ⟨f, fd, ok.imp h, hm, kp, bd⟩
theorem Cal.mono {P : Program} {w : World} {K : PySem.W.Frag} {mg : Str → Option Value} {base : Heap} {x : Str} {ps : List Str} {sp : Sp} {j k : Nat} (C : Cal P w K mg base x ps sp j) (h : j ≤ k) : Cal P w K mg base x ps sp k := by
  obtain ⟨f, fd, ok, hm, kp, bd⟩ := C
  exact ⟨f, fd, ok.mono h, hm, kp, bd⟩

/-! ### reading data off the heap -/
section
variable {X : Cx} {pins : List (Addr × Obj)} {σ : St} {F H : Hp} {s : Shared} {d : D} {ds : List D} {v : V} {u : Value} {vs : List V} {us : List Value}
theorem rp_reads (I : Inv X pins σ H s) (e : Same F H) (r : Rp F v d) (ru : RelV v u) : ∃ as, Reads s.heap u d as := Dp.reads I d v u (r.dp e) ru
theorem rpa_reads (I : Inv X pins σ H s) (e : Same F H) (r : RpA F vs ds) (ru : Vals vs us) : ∃ as, ReadsAll s.heap us ds as := Dp.readsAll I ds vs us (r.dp e) ru
mutual
theorem Rp.plain : ∀ (d : D) {v : V}, Rp F v d → d.plain = true
  | .none, _, _ => by simp only [PyData.plain]
  | .bool _, _, _ => by simp only [PyData.plain]
  | .int _, _, _ => by simp only [PyData.plain]
  | .str _, _, _ => by simp only [PyData.plain]
  | .list ds, _, h => by
    cases h with
    | lst _ h => simp only [PyData.plain]; exact RpA.plain ds h
  | .tuple ds, _, h => by
    cases h with
    | tup _ h => simp only [PyData.plain]; exact RpA.plain ds h
  | .dict _, _, h => by cases h
theorem RpA.plain : ∀ (ds : List D) {vs : List V}, RpA F vs ds → PyData.plainAll ds = true
  | [], _, _ => by simp only [PyData.plainAll]
  | d :: ds, _, h => by
    cases h with
    | cons h1 h2 => simp only [PyData.plainAll, Bool.and_eq_true]; exact ⟨Rp.plain d h1, RpA.plain ds h2⟩
end
/-- at most so deep -/
def DpN (n : Nat) (d : D) : Prop := d.depth ≤ n
theorem dpn_int {n : Nat} {i : Int} : DpN n (.int i) := by simp [DpN, PyData.depth]
theorem dpn_bl {n : Nat} {b : Bool} : DpN n (.bool b) := by simp [DpN, PyData.depth]
theorem dpn_str {n : Nat} {x : Str} : DpN n (.str x) := by simp [DpN, PyData.depth]
theorem dpn_non {n : Nat} : DpN n .none := by simp [DpN, PyData.depth]
theorem depthAll_le {n : Nat} : ∀ {ds : List D}, (∀ d ∈ ds, DpN n d) → PyData.depthAll ds ≤ n
  | [], _ => by simp [PyData.depthAll]
  | d :: ds, h => by
    simp only [PyData.depthAll]
    exact Nat.max_le.mpr ⟨h d (by simp), depthAll_le fun e he => h e (by simp [he])⟩
theorem dpn_list {n : Nat} {ds : List D} (h : ∀ d ∈ ds, DpN n d) : DpN (n + 1) (.list ds) := by
  simp only [DpN, PyData.depth]
  exact Nat.succ_le_succ (depthAll_le h)
theorem dpn_tup {n : Nat} {ds : List D} (h : ∀ d ∈ ds, DpN n d) : DpN (n + 1) (.tuple ds) := by
  simp only [DpN, PyData.depth]
  exact Nat.succ_le_succ (depthAll_le h)
theorem dpn_map {α : Type} {n : Nat} {xs : List α} {f : α → D} (h : ∀ x ∈ xs, DpN n (f x)) : ∀ d ∈ xs.map f, DpN n d := fun d hd => by
  obtain ⟨x, hx, rfl⟩ := List.mem_map.mp hd
  exact h x hx
theorem dpn_nil {n : Nat} : ∀ d ∈ ([] : List D), DpN n d := fun d h => by cases h
theorem dpn_cons {n : Nat} {d : D} {ds : List D} (h : DpN n d) (hs : ∀ e ∈ ds, DpN n e) : ∀ e ∈ d :: ds, DpN n e := fun e he => by
  rcases List.mem_cons.mp he with rfl | he
  · exact h
  · exact hs e he
theorem DpN.up {n m : Nat} {d : D} (h : DpN n d) (k : n ≤ m) : DpN m d := Nat.le_trans h k
end

/-! ### ==, != of data at depth 64 -/
section
variable {X : Cx} {K : PySem.W.Frag} {d d1 d2 : D} {ds es : List D} {Q : D → Prop}
def rEqP (K : PySem.W.Frag) : R2 := fun x y H Q => ∃ d e, Dp K H x d ∧ Dp K H y e ∧ d.plain = true ∧ e.plain = true ∧ min d.depth e.depth ≤ 60 ∧ Q (.bl (PyData.eqv d e)) H
def rNeP (K : PySem.W.Frag) : R2 := fun x y H Q => ∃ d e, Dp K H x d ∧ Dp K H y e ∧ d.plain = true ∧ e.plain = true ∧ min d.depth e.depth ≤ 60 ∧ Q (.bl (!PyData.eqv d e)) H
theorem op_eqP (hu : X.A.units + 64 < cLine) : OpR X (compareOp .Eq) (rEqP X.K) := by
  rintro pins s σ H x y v u Q I rx ry ⟨d, e, hd, he, pd, pe, hz, q⟩
  obtain ⟨as, r1⟩ := Dp.reads I d x v hd rx
  obtain ⟨bs, r2⟩ := Dp.reads I e y u he ry
  exact PySem.SeqAt.eq_plain r1 r2 pd pe (by omega) ⟨.bl _, H, I, rfl, q⟩
theorem op_neP (hu : X.A.units + 64 < cLine) : OpR X (compareOp .NotEq) (rNeP X.K) := by
  rintro pins s σ H x y v u Q I rx ry ⟨d, e, hd, he, pd, pe, hz, q⟩
  obtain ⟨as, r1⟩ := Dp.reads I d x v hd rx
  obtain ⟨bs, r2⟩ := Dp.reads I e y u he ry
  exact PySem.SeqAt.ne_plain r1 r2 pd pe (by omega) ⟨.bl _, H, I, rfl, q⟩
theorem opd_eqP (h : min d1.depth d2.depth ≤ 60) (k : Q (.bool (PyData.eqv d1 d2))) : OpD (rEqP K) d1 d2 Q := fun F H x y e rx ry Z z => ⟨d1, d2, rx.dp e, ry.dp e, Rp.plain _ rx, Rp.plain _ ry, h, z _ _ F H k (Gr.refl e) (.bl _)⟩
theorem opd_neP (h : min d1.depth d2.depth ≤ 60) (k : Q (.bool (!PyData.eqv d1 d2))) : OpD (rNeP K) d1 d2 Q := fun F H x y e rx ry Z z => ⟨d1, d2, rx.dp e, ry.dp e, Rp.plain _ rx, Rp.plain _ ry, h, z _ _ F H k (Gr.refl e) (.bl _)⟩
theorem min_l {n m k : Nat} (h : n ≤ k) : min n m ≤ k := Nat.le_trans (Nat.min_le_left _ _) h
theorem min_r {n m k : Nat} (h : m ≤ k) : min n m ≤ k := Nat.le_trans (Nat.min_le_right _ _) h
/-! in, not in -/
def rInP (K : PySem.W.Frag) : R2 := fun x y H Q => ∃ d es, Dp K H x d ∧ (Dp K H y (.list es) ∨ Dp K H y (.tuple es)) ∧ d.plain = true ∧ PyData.plainAll es = true ∧ min (PyData.depthAll es) d.depth ≤ 60 ∧ Q (.bl (es.any fun y => PyData.eqv y d)) H
def rNinP (K : PySem.W.Frag) : R2 := fun x y H Q => ∃ d es, Dp K H x d ∧ (Dp K H y (.list es) ∨ Dp K H y (.tuple es)) ∧ d.plain = true ∧ PyData.plainAll es = true ∧ min (PyData.depthAll es) d.depth ≤ 60 ∧ Q (.bl (!es.any fun y => PyData.eqv y d)) H
theorem op_inP (hu : X.A.units + 64 < cLine) : OpR X (compareOp .In) (rInP X.K) := by
  rintro pins s σ H x y v u Q I rx ry ⟨d, es, hd, he, pd, pe, hz, q⟩
  obtain ⟨as, r1⟩ := Dp.reads I d x v hd rx
  rcases he with he | he
  · obtain ⟨bs, r2⟩ := Dp.reads I _ y u he ry
    exact PySem.SeqAt.in_list_data r2 r1 pe pd (by omega) ⟨.bl _, H, I, rfl, q⟩
  · obtain ⟨bs, r2⟩ := Dp.reads I _ y u he ry
    exact PySem.SeqAt.in_tuple_data r2 r1 pe pd (by omega) ⟨.bl _, H, I, rfl, q⟩
theorem op_ninP (hu : X.A.units + 64 < cLine) : OpR X (compareOp .NotIn) (rNinP X.K) := by
  rintro pins s σ H x y v u Q I rx ry ⟨d, es, hd, he, pd, pe, hz, q⟩
  obtain ⟨as, r1⟩ := Dp.reads I d x v hd rx
  rcases he with he | he
  · obtain ⟨bs, r2⟩ := Dp.reads I _ y u he ry
    exact PySem.SeqAt.notIn_list_data r2 r1 pe pd (by omega) ⟨.bl _, H, I, rfl, q⟩
  · obtain ⟨bs, r2⟩ := Dp.reads I _ y u he ry
    exact PySem.SeqAt.notIn_tuple_data r2 r1 pe pd (by omega) ⟨.bl _, H, I, rfl, q⟩
theorem opd_inL (h : min (PyData.depthAll es) d.depth ≤ 60) (k : Q (.bool (es.any fun y => PyData.eqv y d))) : OpD (rInP K) d (.list es) Q := fun F H x y e rx ry Z z =>
  ⟨d, es, rx.dp e, .inl (ry.dp e), Rp.plain _ rx, by have := Rp.plain _ ry; simpa only [PyData.plain] using this, h, z _ _ F H k (Gr.refl e) (.bl _)⟩
theorem opd_inT (h : min (PyData.depthAll es) d.depth ≤ 60) (k : Q (.bool (es.any fun y => PyData.eqv y d))) : OpD (rInP K) d (.tuple es) Q := fun F H x y e rx ry Z z =>
  ⟨d, es, rx.dp e, .inr (ry.dp e), Rp.plain _ rx, by have := Rp.plain _ ry; simpa only [PyData.plain] using this, h, z _ _ F H k (Gr.refl e) (.bl _)⟩
theorem opd_ninL (h : min (PyData.depthAll es) d.depth ≤ 60) (k : Q (.bool (!es.any fun y => PyData.eqv y d))) : OpD (rNinP K) d (.list es) Q := fun F H x y e rx ry Z z =>
  ⟨d, es, rx.dp e, .inl (ry.dp e), Rp.plain _ rx, by have := Rp.plain _ ry; simpa only [PyData.plain] using this, h, z _ _ F H k (Gr.refl e) (.bl _)⟩
theorem opd_ninT (h : min (PyData.depthAll es) d.depth ≤ 60) (k : Q (.bool (!es.any fun y => PyData.eqv y d))) : OpD (rNinP K) d (.tuple es) Q := fun F H x y e rx ry Z z =>
  ⟨d, es, rx.dp e, .inr (ry.dp e), Rp.plain _ rx, by have := Rp.plain _ ry; simpa only [PyData.plain] using this, h, z _ _ F H k (Gr.refl e) (.bl _)⟩
/-! min, max of a list of alike data -/
def rMnD (K : PySem.W.Frag) : List V → Hp → VK → Prop := fun vs H Q => ∃ (F : Hp) (a : Addr) (xs : List V) (d : D) (ds : List D), vs = [.ref a] ∧ Same F H ∧ Rd F a (.lst xs) ∧ RpA F xs (d :: ds) ∧ PySem.W.AlikeAll (d :: ds) ∧ PyData.depthAll (d :: ds) ≤ 60 ∧ ∀ v, Rp F v (PySem.W.minD d ds) → Q v H
def rMxD (K : PySem.W.Frag) : List V → Hp → VK → Prop := fun vs H Q => ∃ (F : Hp) (a : Addr) (xs : List V) (d : D) (ds : List D), vs = [.ref a] ∧ Same F H ∧ Rd F a (.lst xs) ∧ RpA F xs (d :: ds) ∧ PySem.W.AlikeAll (d :: ds) ∧ PyData.depthAll (d :: ds) ≤ 60 ∧ ∀ v, Rp F v (PySem.W.maxD d ds) → Q v H
theorem minD_mem (d : D) (ds : List D) : PySem.W.minD d ds ∈ d :: ds := by
  have : ∀ (es : List D) (a : D), es.foldl (fun a y => if PySem.W.dataLt y a then y else a) a ∈ a :: es := by
    intro es
    induction es with
    | nil => intro a; simp
    | cons e es ih =>
      intro a
      rw [List.foldl_cons]
      have q := ih (if PySem.W.dataLt e a then e else a)
      by_cases c : PySem.W.dataLt e a = true
      · rw [if_pos c] at q ⊢
        exact List.mem_cons_of_mem _ q
      · rw [if_neg c] at q ⊢
        rcases List.mem_cons.mp q with q | q
        · rw [q]; exact List.mem_cons_self
        · exact List.mem_cons_of_mem _ (List.mem_cons_of_mem _ q)
  exact this ds d
theorem maxD_mem (d : D) (ds : List D) : PySem.W.maxD d ds ∈ d :: ds := by
  have : ∀ (es : List D) (a : D), es.foldl (fun a y => if PySem.W.dataLt a y then y else a) a ∈ a :: es := by
    intro es
    induction es with
    | nil => intro a; simp
    | cons e es ih =>
      intro a
      rw [List.foldl_cons]
      have q := ih (if PySem.W.dataLt a e then e else a)
      by_cases c : PySem.W.dataLt a e = true
      · rw [if_pos c] at q ⊢
        exact List.mem_cons_of_mem _ q
      · rw [if_neg c] at q ⊢
        rcases List.mem_cons.mp q with q | q
        · rw [q]; exact List.mem_cons_self
        · exact List.mem_cons_of_mem _ (List.mem_cons_of_mem _ q)
  exact this ds d
theorem pick_rp {pins : List (Addr × Obj)} {σ : St} {F H : Hp} {s : Shared} {xs : List V} {its : List Value} {es : List D} {m : D} (I : Inv X pins σ H s) (e : Same F H) (ra : RpA F xs es) (rv : Vals xs its) (al : PySem.W.AlikeAll es) (hm : m ∈ es)
    {i : Nat} {v : Value} {h' : Heap} {bs : List Addr} (hi : its.toArray[i]? = some v) (rd : Reads h' v m bs) (hk : ∀ b o, s.heap.get? b = some o → h'.get? b = some o) : ∃ y, RelV y v ∧ Rp F y m := by
  have hi' : its[i]? = some v := by simpa using hi
  have hl : i < xs.length := by rw [rv.length]; exact (List.getElem?_eq_some_iff.mp hi').1
  obtain ⟨u, hu, ru⟩ := rv.get (List.getElem?_eq_getElem hl)
  rw [hi'] at hu
  cases hu
  obtain ⟨d, hd, rp⟩ := ra.get' (List.getElem?_eq_getElem hl)
  obtain ⟨as, r1⟩ := rp_reads I e rp ru
  have q : d = m := PySem.W.alike_unique d m v as bs (al.1 d (List.mem_of_getElem? hd) m hm) (PyProof.Rows.Reads.keeps hk r1) rd
  rw [q] at rp
  exact ⟨_, ru, rp⟩
theorem cb_minD (hc : X.calm = true) (hu : X.A.units + 64 < cLine) : CallR X (.builtin "min") (rMnD X.K) := by
  rintro pins s σ H vs us Q I r ⟨F, a, xs, d, ds, rfl, e, ha, ra, al, hz, q⟩
  obtain ⟨its, rv, hl, _⟩ := I.list (sqL_rd (K := X.K) ha e)
  obtain ⟨as, rr⟩ := rpa_reads I e ra rv
  rw [Vals.ref1 r]
  refine PySem.W.min_list_data (I.ok.hd hc) hl.isList (by simpa using rr) al (by omega) fun i v h' tk bs hi rd hk => ?_
  obtain ⟨y, ry, rp⟩ := pick_rp I e ra rv al (minD_mem d ds) hi rd hk
  exact ⟨y, H, I.kept hk, ry, q y rp⟩
theorem cb_maxD (hc : X.calm = true) (hu : X.A.units + 64 < cLine) : CallR X (.builtin "max") (rMxD X.K) := by
  rintro pins s σ H vs us Q I r ⟨F, a, xs, d, ds, rfl, e, ha, ra, al, hz, q⟩
  obtain ⟨its, rv, hl, _⟩ := I.list (sqL_rd (K := X.K) ha e)
  obtain ⟨as, rr⟩ := rpa_reads I e ra rv
  rw [Vals.ref1 r]
  refine PySem.W.max_list_data (I.ok.hd hc) hl.isList (by simpa using rr) al (by omega) fun i v h' tk bs hi rd hk => ?_
  obtain ⟨y, ry, rp⟩ := pick_rp I e ra rv al (maxD_mem d ds) hi rd hk
  exact ⟨y, H, I.kept hk, ry, q y rp⟩
theorem cbd_minD (al : PySem.W.AlikeAll (d :: ds)) (hz : PyData.depthAll (d :: ds) ≤ 60) (k : Q (PySem.W.minD d ds)) : CbD (rMnD K) [.list (d :: ds)] Q := fun F H vs e r Z z => by
  obtain ⟨v, rfl, rv⟩ := r.one
  obtain ⟨a, xs, rfl, h1, h2⟩ := rv.lst_inv
  exact ⟨F, a, xs, d, ds, rfl, e, h1, h2, al, hz, fun v rv => z _ _ F H k (Gr.refl e) rv⟩
theorem cbd_maxD (al : PySem.W.AlikeAll (d :: ds)) (hz : PyData.depthAll (d :: ds) ≤ 60) (k : Q (PySem.W.maxD d ds)) : CbD (rMxD K) [.list (d :: ds)] Q := fun F H vs e r Z z => by
  obtain ⟨v, rfl, rv⟩ := r.one
  obtain ⟨a, xs, rfl, h1, h2⟩ := rv.lst_inv
  exact ⟨F, a, xs, d, ds, rfl, e, h1, h2, al, hz, fun v rv => z _ _ F H k (Gr.refl e) rv⟩
theorem alike_ints (ns : List Int) : PySem.W.AlikeAll (ns.map PyData.int) := ⟨fun x hx y hy => by
  obtain ⟨a, _, rfl⟩ := List.mem_map.mp hx
  obtain ⟨b, _, rfl⟩ := List.mem_map.mp hy
  rfl, fun x hx => by
  obtain ⟨a, _, rfl⟩ := List.mem_map.mp hx
  intro z; cases z⟩
def foldMin : List Int → Int
  | [] => 0
  | n :: ns => ns.foldl min n
def foldMax : List Int → Int
  | [] => 0
  | n :: ns => ns.foldl max n
theorem cbd_minI {ns : List Int} (h : 0 < ns.length) (k : Q (.int (foldMin ns))) : CbD (rMnD K) [.list (ns.map .int)] Q := by
  cases ns with
  | nil => cases h
  | cons n ns =>
    refine cbd_minD (alike_ints (n :: ns)) ?_ ?_
    · exact depthAll_le (dpn_map (xs := n :: ns) fun x _ => dpn_int)
    · have e := PySem.W.minD_ints n ns
      show Q (PySem.W.minD (.int n) (ns.map .int))
      rw [e]
      exact k
theorem cbd_maxI {ns : List Int} (h : 0 < ns.length) (k : Q (.int (foldMax ns))) : CbD (rMxD K) [.list (ns.map .int)] Q := by
  cases ns with
  | nil => cases h
  | cons n ns =>
    refine cbd_maxD (alike_ints (n :: ns)) ?_ ?_
    · exact depthAll_le (dpn_map (xs := n :: ns) fun x _ => dpn_int)
    · have e := PySem.W.maxD_ints n ns
      show Q (PySem.W.maxD (.int n) (ns.map .int))
      rw [e]
      exact k
/-! sorted -/
abbrev sortD (ds : List D) : List D := ds.mergeSort (PySem.W.dataLe false id)
def rSrD (K : PySem.W.Frag) : List V → Hp → VK → Prop := fun vs H Q => ∃ (F : Hp) (a : Addr) (xs : List V) (ds : List D), vs = [.ref a] ∧ Same F H ∧ Rd F a (.lst xs) ∧ RpA F xs ds ∧ PySem.W.AllAlike ds ∧ PySem.W.Sortable ds ∧ PyData.depthAll ds ≤ 60 ∧
  ∀ p ys, H p = none → RpA F ys (sortD ds) → Q (.ref p) (upd H p (.lst ys))
theorem rpa_zip {F : Hp} : ∀ {xs : List V} {ds : List D}, RpA F xs ds → ∀ p ∈ xs.zip ds, Rp F p.1 p.2
  | _, [], h, p, hp => by cases h; cases hp
  | _, d :: ds, h, p, hp => by
    cases h with
    | cons h1 h2 =>
      rcases List.mem_cons.mp hp with rfl | hp
      · exact h1
      · exact rpa_zip h2 p hp
theorem rpa_of {F : Hp} : ∀ {zs : List (V × D)}, (∀ p ∈ zs, Rp F p.1 p.2) → RpA F (zs.map Prod.fst) (zs.map Prod.snd)
  | [], _ => .nil
  | z :: zs, h => .cons (h z (by simp)) (rpa_of fun p hp => h p (by simp [hp]))
theorem each_zip {F : Hp} : ∀ {xs : List V} {ds : List D} {its : List Value}, RpA F xs ds → Vals xs its → PySem.W.EachIs (fun v (b : V × D) => RelV b.1 v) its (xs.zip ds)
  | _, [], _, h, r => by cases h; cases r; exact .nil
  | _, d :: ds, _, h, r => by
    cases h with
    | cons h1 h2 =>
      cases r with
      | cons r1 r2 => exact .cons r1 (each_zip h2 r2)
theorem vals_each : ∀ {zs : List (V × D)} {out : List Value}, PySem.W.EachIs (fun v (b : V × D) => RelV b.1 v) out zs → Vals (zs.map Prod.fst) out
  | _, _, .nil => .nil
  | _, _, .cons h t => .cons h (vals_each t)
theorem each_reads {h : Heap} : ∀ {xs : List V} {ds : List D} {its : List Value} {as : List Addr}, xs.length = ds.length → ReadsAll h its ds as → PySem.W.EachIs (fun v (b : V × D) => ∃ as, Reads h v b.2 as) its (xs.zip ds)
  | [], [], _, _, _, r => by cases r; exact .nil
  | x :: xs, d :: ds, _, _, l, r => by
    cases r with
    | cons r1 r2 => exact .cons ⟨_, r1⟩ (each_reads (by simpa using l) r2)
  | [], _ :: _, _, _, l, _ => by simp at l
  | _ :: _, [], _, _, l, _ => by simp at l
theorem depth_mem : ∀ {ds : List D} {d : D}, d ∈ ds → d.depth ≤ PyData.depthAll ds
  | [], _, h => by cases h
  | e :: ds, d, h => by
    simp only [PyData.depthAll]
    rcases List.mem_cons.mp h with rfl | h
    · exact Nat.le_max_left _ _
    · exact Nat.le_trans (depth_mem h) (Nat.le_max_right _ _)
theorem cb_sortD (hu : X.A.units + 64 < cLine) : CallR X (.builtin "sorted") (rSrD X.K) := by
  rintro pins s σ H vs us Q I r ⟨F, a, xs, ds, rfl, e, ha, ra, al, so, hz, q⟩
  obtain ⟨its, rv, hl, hzl⟩ := I.list (sqL_rd (K := X.K) ha e)
  obtain ⟨as, rr⟩ := rpa_reads I e ra rv
  rw [Vals.ref1 r]
  have hmap : (xs.zip ds).map Prod.snd = ds := List.map_snd_zip (by rw [ra.len]; exact Nat.le_refl _)
  have hlen : (xs.zip ds).length = xs.length := by rw [List.length_zip, ra.len, Nat.min_self]
  refine PySem.W.sorted_data (bs := xs.zip ds) (enc := Prod.snd) hl.isList (each_zip ra rv) (each_reads ra.len rr) (by rw [hmap]; exact al) (by rw [hmap]; exact so) (by rw [hlen]; exact hzl)
    (fun b hb => ?_) fun out ho he => ?_
  · have hd : b.2 ∈ ds := by rw [← hmap]; exact List.mem_map_of_mem hb
    have := depth_mem hd
    omega
  · obtain ⟨ep, he'⟩ := PyProof.Rows.sortedAll_at s.heap its out.toArray
    have hv := vals_each he
    have hd : (List.mergeSort (xs.zip ds) (PySem.W.dataLe false Prod.snd)).map Prod.snd = sortD ds := by
      have q := PySem.W.sort_maps (r := PySem.W.dataLe false Prod.snd) (s := PySem.W.dataLe false id) (Prod.snd : V × D → D) (l := xs.zip ds) (fun a _ b _ => rfl)
      rw [q, hmap]
    have hr := rpa_of (F := F) (zs := List.mergeSort (xs.zip ds) (PySem.W.dataLe false Prod.snd)) fun p hp => rpa_zip ra p (List.mem_mergeSort.mp hp)
    rw [hd] at hr
    refine ⟨.ref _, upd H (s.heap.objs.size + 1) (.lst ((List.mergeSort (xs.zip ds) (PySem.W.dataLe false Prod.snd)).map Prod.fst)), I.laid (t' := s.toks) (fun _ _ => PyProof.Rows.sortedAll_old) (Nat.le_succ _) ⟨?_, out, ep, hv, he'⟩, rfl, q _ _ (I.hok.fresh (Nat.le_succ _)) hr⟩
    rw [List.length_map, List.length_mergeSort, hlen]
    exact hzl
theorem cbo_sortD {Q : List D → Prop} (al : PySem.W.AllAlike ds) (so : PySem.W.Sortable ds) (hz : PyData.depthAll ds ≤ 60) (k : Q (sortD ds)) : CbO (rSrD K) [.list ds] Q := fun F H vs e r Z z => by
  obtain ⟨v, rfl, rv⟩ := r.one
  obtain ⟨a, xs, rfl, h1, h2⟩ := rv.lst_inv
  exact ⟨F, a, xs, ds, rfl, e, h1, h2, al, so, hz, fun p ys hp rp => z _ p _ _ k (same_upd hp) hp upd_same rp⟩
/-! x.extend(ys) -/
def rExtR : V → List V → Hp → VK → Prop := fun x vs H Q => ∃ l b xs zs, x = .ref l ∧ vs = [.ref b] ∧ H l = some (.lst xs) ∧ Rd H b (.lst zs) ∧ xs.length + zs.length ≤ sizeLine ∧ Q .non (upd H l (.lst (xs ++ zs)))
theorem mt_extR : MtM X "list.extend" rExtR := by
  intro pins s σ H x vs v us Q I rx rv h
  obtain ⟨l, b, xs, zs, rfl, rfl, hH, hB, hz, q⟩ := h
  cases rx
  obtain ⟨u, rfl, ru⟩ := rv.one
  cases ru
  obtain ⟨z, its, n, r, hl, e⟩ := I.lstM hH
  obtain ⟨z2, its2, n2, r2, e2⟩ := hB.ok I.hok
  have hl2 := r2.length
  have k1 : its.toArray.size + its2.toArray.size ≤ sizeLine := by rw [List.size_toArray, List.size_toArray]; omega
  have k2 : ¬ (!its.toArray.isEmpty && Builtin.List.listTooLong (its.toArray.size + its2.toArray.size)) = true := by rw [notLongL k1, Bool.and_false]; exact Bool.false_ne_true
  refine call_meets F.slot_list_extend ⟨_, e, rfl⟩ F.entry_list_extend (F.args_list_extend_2 _ _) (AutoSeq1.list_extend_list_list_0 l its.toArray n b its2.toArray n2 k2 (by rw [List.size_toArray]; omega) (by omega)) ⟨e, e2, ?_⟩
  refine ⟨.non, _, I.lset (its' := its ++ its2) hH e (by simp) (r.append r2) ?_, rfl, q⟩
  rw [List.length_append]; omega
theorem sx_ext {ρ : Env} {P : Po} {te : TE} {i : Nat} {fs : List D} (h : ρ[i]? = some (.own fs)) (k : EX te ρ fun d ρ1 => ∃ ds es, d = .list es ∧ ρ1[i]? = some (.own ds) ∧ ds.length + es.length ≤ 1000000 ∧ NX P (ρ1.set i (.own (ds ++ es)))) : SX (tDrop (tBM K "list" rExtR (tVar i) (tCons te tNil))) ρ P := fun B σ F H w Dn n r b c => by
  obtain ⟨ad, w⟩ := w
  obtain ⟨p0, vs0, _, _, k1, k0, _⟩ := w.sl i _ h
  refine ⟨_, k1, .inl ⟨rfl, _, .inl (.inl k0)⟩, k B ad σ F H w _ fun d ρ1 v F1 H1 q1 p1 r1 => ?_⟩
  obtain ⟨ds, es, rfl, h1, hz, ρ', l, q⟩ := q1
  obtain ⟨p, vs, _, _, k2, k3, rr⟩ := p1.wa.sl i _ h1
  have e := k1.symm.trans k2
  cases e
  obtain ⟨a, ws, rfl, g1, g2⟩ := r1.lst_inv
  exact ⟨_, a, vs, ws, rfl, rfl, k3, rd_mono p1.wa.gr.fh g1, Nat.le_trans (by rw [rr.len, g2.len]; exact hz) (by decide), n ρ' σ F1 _ q ((p1.wa.mut h1 k2 (rr.app g2)).weak l)⟩
end

/-! ### short forms for a run -/
section
variable {K : PySem.W.Frag} {Q : D → Prop} {i j : Int} {d d1 d2 : D} {ds es : List D}
theorem Gr.frz {F H H' : Hp} {p : Addr} {vs : List V} (e : Same F H) (g : Same H H') (hn : H p = none) (hp : H' p = some (.lst vs)) : Gr Non F H (upd F p (.lst vs)) H' where
  ff := same_upd (e.free hn)
  fh := fun a u q => by
    by_cases ha : a = p
    · subst ha; rw [upd_same] at q; rw [hp]; exact q
    · rw [upd_ne ha] at q; exact g a u (e a u q)
  kp := fun a u q _ => g a u q
  al := fun a q => by
    cases z : H a with
    | none => exact absurd z q
    | some o => rw [g a o z]; intro z; cases z
  fr := fun a q z => by
    have ha : a ≠ p := fun z => q (z ▸ hn)
    rw [upd_ne ha]; exact z
theorem opd_ofO {r : R2} (h : OpO r d1 d2 fun ds => Q (.list ds)) : OpD r d1 d2 Q := fun F H x y e rx ry Z z => h F H x y e rx ry Z fun ds p vs H' q g hn hp rv =>
  z _ _ (upd F p (.lst vs)) H' q (Gr.frz e g hn hp) (.lst (.inl upd_same) (rv.up (Gr.frz e g hn hp).ff))
theorem cbd_ofO {r : List V → Hp → VK → Prop} (h : CbO r ds fun ds => Q (.list ds)) : CbD r ds Q := fun F H vs e rv Z z => h F H vs e rv Z fun ds p vs H' q g hn hp rv =>
  z _ _ (upd F p (.lst vs)) H' q (Gr.frz e g hn hp) (.lst (.inl upd_same) (rv.up (Gr.frz e g hn hp).ff))
theorem sld_ofO {r : V → Option Int → Option Int → Hp → VK → Prop} {lo hi : Option Int} (h : SlO r d lo hi fun ds => Q (.list ds)) : SlD r d lo hi Q := fun F H x e rx Z z => h F H x e rx Z fun ds p vs H' q g hn hp rv =>
  z _ _ (upd F p (.lst vs)) H' q (Gr.frz e g hn hp) (.lst (.inl upd_same) (rv.up (Gr.frz e g hn hp).ff))
theorem opd_plusL (hz : ds.length + es.length ≤ 1000000) (k : Q (.list (ds ++ es))) : OpD (rPlus K) (.list ds) (.list es) Q := opd_ofO (opo_plusL hz k)
theorem sld_L {lo hi : Option Int} (k : Q (.list (cutD ds lo hi))) : SlD (rSl K) (.list ds) lo hi Q := sld_ofO (slo_L k)
theorem cbd_listL (k : Q (.list ds)) : CbD (rList K) [.list ds] Q := cbd_ofO (cbo_listL k)
theorem cbd_listT (k : Q (.list ds)) : CbD (rList K) [.tuple ds] Q := cbd_ofO (cbo_listT k)
theorem cbd_sortD (al : PySem.W.AllAlike ds) (so : PySem.W.Sortable ds) (hz : PyData.depthAll ds ≤ 60) (k : Q (.list (sortD ds))) : CbD (rSrD K) [.list ds] Q := cbd_ofO (cbo_sortD al so hz k)
theorem opd_eqI (k : Q (.bool (decide (i = j)))) : OpD (rEqP K) (.int i) (.int j) Q := opd_eqP (min_l (by simp [PyData.depth])) (by
  have e : PyData.eqv (.int i) (.int j) = decide (i = j) := by simp only [PyData.eqv]; exact Bool.beq_eq_decide_eq i j
  rw [e]; exact k)
theorem opd_neI (k : Q (.bool (!decide (i = j)))) : OpD (rNeP K) (.int i) (.int j) Q := opd_neP (min_l (by simp [PyData.depth])) (by
  have e : PyData.eqv (.int i) (.int j) = decide (i = j) := by simp only [PyData.eqv]; exact Bool.beq_eq_decide_eq i j
  rw [e]; exact k)
theorem opd_eqS {x y : Str} (k : Q (.bool (decide (x = y)))) : OpD (rEqP K) (.str x) (.str y) Q := opd_eqP (min_l (by simp [PyData.depth])) (by
  have e : PyData.eqv (.str x) (.str y) = decide (x = y) := by simp only [PyData.eqv]; by_cases h : x = y <;> simp [h]
  rw [e]; exact k)
theorem opd_neS {x y : Str} (k : Q (.bool (!decide (x = y)))) : OpD (rNeP K) (.str x) (.str y) Q := opd_neP (min_l (by simp [PyData.depth])) (by
  have e : PyData.eqv (.str x) (.str y) = decide (x = y) := by simp only [PyData.eqv]; by_cases h : x = y <;> simp [h]
  rw [e]; exact k)
theorem atI_in {α : Type} {xs : List α} {k : Int} (h0 : 0 ≤ k) (h1 : k < xs.length) : atI xs k = some (xs[k.toNat]'(by omega)) := by
  obtain ⟨n, rfl⟩ : ∃ n : Nat, k = (n : Int) := ⟨k.toNat, by omega⟩
  exact atI_nat (by simp)
/-- an item of a mapped list, told by a default -/
theorem atI_map {α : Type} {xs : List α} {f : α → D} {k : Int} (a : α) (h0 : 0 ≤ k) (h1 : k < xs.length) : atI (xs.map f) k = some (f (xs.getD k.toNat a)) := by
  have hk : k.toNat < xs.length := by omega
  have e := atI_in (xs := xs.map f) h0 (by rw [List.length_map]; exact h1)
  rw [e, List.getElem_map, List.getD_eq_getElem?_getD, List.getElem?_eq_getElem hk]
  rfl
theorem opd_ixM {α : Type} {xs : List α} {f : α → D} {k : Int} (a : α) (h0 : 0 ≤ k) (h1 : k < xs.length) (q : Q (f (xs.getD k.toNat a))) : OpD (rIxA K) (.list (xs.map f)) (.int k) Q := opd_ixL (atI_map a h0 h1) q
end

theorem rng_at {lo : Int} {n k : Nat} {d : D} (h : ((rngI lo n).map PyData.int)[k]? = some d) : k < n ∧ d = .int (lo + (k : Int)) := by
  have hk : k < n := by
    have := (List.getElem?_eq_some_iff.mp h).1
    rw [List.length_map, rngI_len] at this
    exact this
  rw [List.getElem?_map, rngI_get hk] at h
  exact ⟨hk, (Option.some.inj h).symm⟩
theorem rng_size (lo : Int) (n : Nat) : ((rngI lo n).map PyData.int).length = n := by rw [List.length_map, rngI_len]
theorem map_at {α : Type} {xs : List α} {f : α → D} {k : Nat} {d : D} (h : (xs.map f)[k]? = some d) : ∃ x, xs[k]? = some x ∧ d = f x := by
  rw [List.getElem?_map] at h
  cases e : xs[k]? with
  | none => rw [e] at h; cases h
  | some x => rw [e] at h; exact ⟨x, rfl, (Option.some.inj h).symm⟩

/-- what a slot that holds data gives on -/
def VQ (s : Option Slot) (Q : D → Env → Prop) (ρ : Env) : Prop := match s with
  | some (.val d) => Q d ρ
  | _ => False
theorem ex_vr {ρ : Env} {i : Nat} {Q : D → Env → Prop} (h : VQ ρ[i]? Q ρ) : EX (tVar i) ρ Q := by
  unfold VQ at h
  split at h
  · rename_i d e
    exact ex_var e h
  · exact h.elim

section
variable {K : PySem.W.Frag} {Q : D → Prop} {d : D}
/-- two times the same datum -/
theorem opd_eqSelf (h : d.depth ≤ 60) (k : Q (.bool true)) : OpD (rEqP K) d d Q := fun F H x y e rx ry Z z => opd_eqP (Q := Q) (min_l h) (by rw [PySem.SeqAt.eqv_refl_plain d (Rp.plain d rx)]; exact k) F H x y e rx ry Z z
theorem opd_neSelf (h : d.depth ≤ 60) (k : Q (.bool false)) : OpD (rNeP K) d d Q := fun F H x y e rx ry Z z => opd_neP (Q := Q) (min_l h) (by rw [PySem.SeqAt.eqv_refl_plain d (Rp.plain d rx)]; exact k) F H x y e rx ry Z z
/-! pairs of ints -/
def ltP (a b : Int × Int) : Bool := decide (a.1 < b.1 ∨ a.1 = b.1 ∧ a.2 < b.2)
def encP (p : Int × Int) : D := .tuple [.int p.1, .int p.2]
theorem dataLt_P (a b : Int × Int) : PySem.W.dataLt (encP a) (encP b) = ltP a b := by
  unfold encP ltP
  rw [PySem.W.dataLt_pair rfl rfl]
  simp only [PyData.eqv, PySem.W.dataLt_int]
  by_cases h : a.1 = b.1
  · by_cases h2 : a.2 = b.2
    · simp [h, h2]
    · simp [h, h2]
  · simp [h]
def minPs : List (Int × Int) → Int × Int
  | [] => (0, 0)
  | p :: ps => ps.foldl (fun a y => if ltP y a = true then y else a) p
theorem minD_P (p : Int × Int) (ps : List (Int × Int)) : PySem.W.minD (encP p) (ps.map encP) = encP (minPs (p :: ps)) := by
  have h : ∀ (qs : List (Int × Int)) (a : Int × Int), (qs.map encP).foldl (fun a y => if PySem.W.dataLt y a then y else a) (encP a) = encP (qs.foldl (fun a y => if ltP y a = true then y else a) a) := by
    intro qs
    induction qs with
    | nil => intro a; rfl
    | cons q qs ih =>
      intro a
      simp only [List.map_cons, List.foldl_cons, dataLt_P]
      by_cases h : ltP q a = true
      · rw [if_pos h, if_pos h]; exact ih q
      · rw [if_neg h, if_neg h]; exact ih a
  exact h ps p
theorem alike_P (ps : List (Int × Int)) : PySem.W.AlikeAll (ps.map encP) := ⟨fun x hx y hy => by
  obtain ⟨a, _, rfl⟩ := List.mem_map.mp hx
  obtain ⟨b, _, rfl⟩ := List.mem_map.mp hy
  rfl, fun x hx => by
  obtain ⟨a, _, rfl⟩ := List.mem_map.mp hx
  intro z; cases z⟩
theorem cbd_minP {ps : List (Int × Int)} (h : 0 < ps.length) (k : Q (encP (minPs ps))) : CbD (rMnD K) [.list (ps.map encP)] Q := by
  cases ps with
  | nil => cases h
  | cons p ps =>
    refine cbd_minD (alike_P (p :: ps)) (depthAll_le (dpn_map (xs := p :: ps) fun x _ => dpn_tup (dpn_cons dpn_int (dpn_cons dpn_int dpn_nil)))) ?_
    have e := minD_P p ps
    show Q (PySem.W.minD (encP p) (ps.map encP))
    rw [e]
    exact k
theorem minPs_mem : ∀ {ps : List (Int × Int)}, 0 < ps.length → minPs ps ∈ ps
  | p :: ps, _ => by
    have : ∀ (qs : List (Int × Int)) (a : Int × Int), qs.foldl (fun a y => if ltP y a = true then y else a) a ∈ a :: qs := by
      intro qs
      induction qs with
      | nil => intro a; simp
      | cons e es ih =>
        intro a
        rw [List.foldl_cons]
        have q := ih (if ltP e a = true then e else a)
        by_cases c : ltP e a = true
        · rw [if_pos c] at q ⊢; exact List.mem_cons_of_mem _ q
        · rw [if_neg c] at q ⊢
          rcases List.mem_cons.mp q with q | q
          · rw [q]; exact List.mem_cons_self
          · exact List.mem_cons_of_mem _ (List.mem_cons_of_mem _ q)
    exact this ps p
end

/-! ### the ends: nothing asked, the law's own argument -/
section
variable {P : Program} {w : World} {K : PySem.W.Frag} {mg : Str → Option Value} {base : Heap} {f : Addr} {fd : FuncData} {k : Nat} {ps : List Str}
theorem fn_no {sp : Sp} (no : ∀ vs H Q E, ¬ sp vs H Q E) : FnOk P w K mg base CX0 k f fd ps sp := ⟨fun vs H Q E h => absurd h (no vs H Q E), fun A outer s H args us vs Q E _ _ _ _ h => absurd h (no vs H Q E)⟩
theorem fn_noP {R : List D → (D → Prop) → Prop} (no : ∀ ds Z, ¬ R ds Z) : FnOk P w K mg base CX0 k f fd ps (spP R) := fn_no fun vs H Q E h => by
  obtain ⟨F, ds, Z, _, _, q, _⟩ := h
  exact no ds Z q
theorem fn_noS {R : Stt → List D → (D → Stt → Prop) → Prop} (no : ∀ S ds Z, ¬ R S ds Z) : FnOk P w K mg base CX0 k f fd ps (spS R) := fn_no fun vs H Q E h => by
  obtain ⟨F, s, as, S, us, ds, Z, _, _, _, _, _, q, _⟩ := h
  exact no S ds Z q
/-- the written part holds no list -/
def noLs (K : PySem.W.Frag) : Bool := K.all fun p => match p.2.cls with
  | .type s => !(s == "list")
  | _ => true
theorem noLs_at {K : PySem.W.Frag} (h : noLs K = true) : ∀ {a : Addr} {o : Obj}, K.lookup a = some o → o.cls ≠ .type "list" := by
  intro a o e q
  unfold noLs at h
  induction K with
  | nil => cases e
  | cons p r ih =>
    obtain ⟨b, x⟩ := p
    simp only [List.all_cons, Bool.and_eq_true] at h
    simp only [List.lookup] at e
    split at e
    · cases e
      have h1 := h.1
      rw [q] at h1
      revert h1
      decide
    · exact ih h.2 e
theorem sqL_noK {H : Hp} {a : Addr} {xs : List V} (h : noLs K = true) (s : SqL K H a xs) : Rd H a (.lst xs) := by
  rcases s with s | ⟨o, its, n, e, c, _⟩
  · exact s
  · exact absurd c (noLs_at h e)
theorem rpa_ints {F : Hp} : ∀ ns : List Int, RpA F (ns.map V.int) (ns.map PyData.int)
  | [] => .nil
  | n :: ns => .cons (.int n) (rpa_ints ns)
theorem sp_law {R : List D → (D → Prop) → Prop} {H : Hp} {a : Addr} {ns : List Int} {E : XK} (nl : noLs K = true) (s : SqL K H a (ns.map V.int)) (hR : R [.list (ns.map .int)] fun d => d = .bool true) : spP R [.ref a] H (fun v _ => v = .bl true) E :=
  ⟨H, _, _, fun _ _ h => h, .cons (.lst (sqL_noK nl s) (rpa_ints ns)) .nil, hR, fun d v F' H' e _ rv => by
    subst e
    cases rv
    rfl⟩
end
end Pu
/-! the laws' drawing state: its making and its draws, once for all laws -/
namespace Pu
open PySem L2
/-- a state of the laws: a counter, cells from 0 on -/
def Ok : Stt → Prop
  | .cel a cs => 0 < cs.length ∧ cs.length ≤ 100000 ∧ 0 ≤ a ∧ ∀ c ∈ cs, 0 ≤ c
  | _ => False
def R_state : List D → (Stt → Prop) → Prop := fun ds Z => ∃ ns : List Int, ds = [.list (ns.map .int)] ∧ ∀ S, Ok S → Z S
/-- what is drawn: any number below the bound -/
def R_take : Stt → List D → (D → Stt → Prop) → Prop := fun S ds Z => ∃ m : Int, ds = [.int m] ∧ 1 ≤ m ∧ m < 1073741824 ∧ Ok S ∧ ∀ r S', 0 ≤ r → r < m → Ok S' → Z (.int r) S'
def T_state (K : PySem.W.Frag) : TS :=
    (tSeq (tAsg (tLc (iList K (tSl (rSl K) (tVar 0) tNoPart (tPart (tC (.int 63))))) (gName 2) tYes (tCB (rAbs) (tCons (tVar 2) tNil)) [2]) (gName 1))
    (tSeq (tIfS (tTest (tOp (rEqP K) (tCB (rLen K) (tCons (tVar 1) tNil)) (tC (.int 0))))
      (tAsg (tLst (tCons (tC (.int 0)) tNil)) (gName 1))
      tNext)
    (tRet (tLst (tCons (tC (.int 0)) (tCons (tVar 1) tNil))))))
def T_take (K : PySem.W.Frag) : TS :=
    (tSeq (tAsg (tOp (rIxA K) (tVar 0) (tC (.int 1))) (gName 2))
    (tSeq (tAsg (tOp (rI (fun _ j => 0 < j) fun i j => .int (i % j)) (tOp (rIxA K) (tVar 0) (tC (.int 0))) (tCB (rLen K) (tCons (tVar 2) tNil))) (gName 3))
    (tSeq (tAsg (tOp (rIxA K) (tVar 2) (tVar 3)) (gName 4))
    (tSeq (tIfS (tTest (tOp (rI0 fun i j => .bl (decide (j ≤ i))) (tVar 4) (tC (.int 1000000000000000000))))
      (tSeq (tAsg (tOp (rI CDiv fun i j => .int (i / j)) (tVar 4) (tVar 1)) (gSub (tVar 2) (tVar 3) rSetL))
    (tRet (tOp (rI (fun _ j => 0 < j) fun i j => .int (i % j)) (tVar 4) (tVar 1))))
      tNext)
    (tSeq (tAsg (tOp (rPlus K) (tOp (rIxA K) (tVar 0) (tC (.int 0))) (tC (.int 1))) (gSub (tVar 0) (tC (.int 0)) rSetL))
    (tSeq (tAsg (tOp (rI (fun _ j => 0 < j) fun i j => .int (i % j)) (tCB (rInt) (tCons (tOp (rPlus K) (tOp (rI CMul fun i j => .int (i * j)) (tVar 4) (tC (.int 48271))) (tOp (rI CMul fun i j => .int (i * j)) (tOp (rIxA K) (tVar 0) (tC (.int 0))) (tC (.int 69621)))) tNil)) (tC (.int 2147483647))) (gName 5))
    (tSeq (tAsg (tOp (rI (fun _ j => 0 < j) fun i j => .int (i % j)) (tCB (rInt) (tCons (tOp (rPlus K) (tOp (rI CMul fun i j => .int (i * j)) (tVar 5) (tC (.int 16807))) (tOp (rI CMul fun i j => .int (i * j)) (tOp (rIxA K) (tVar 0) (tC (.int 0))) (tC (.int 7919)))) tNil)) (tC (.int 1000000007))) (gName 5))
    (tRet (tOp (rI (fun _ j => 0 < j) fun i j => .int (i % j)) (tOp (rI CDiv fun i j => .int (i / j)) (tVar 5) (tC (.int 7))) (tVar 1))))))))))
theorem W.first {F H : Hp} {N : List Str} {vs : List V} {ds : List D} (fh : Same F H) (r : RpA F vs ds) : W { F0 := F, H0 := H, M := Non } (startE N ds) (L2.start N vs) F H := by
  refine ⟨fun _ => [], Gr.refl fh, ?_, fun i s e => ?_, (fun i p m => by cases m), (fun i j p m => by cases m), fun _ _ => rfl, (fun s as e => by cases e)⟩
  · unfold L2.start startE
    rw [List.length_append, List.length_append, List.length_map, List.length_map, List.length_replicate, List.length_replicate, r.len]
  · rcases startE_get e with ⟨d, e2, rfl⟩ | rfl
    · obtain ⟨v, e1, rv⟩ := r.get e2
      exact ⟨rfl, v, start_get e1, rv⟩
    · rfl
theorem mem_cut {xs : List D} {lo hi : Option Int} {x : D} (h : x ∈ cutD xs lo hi) : x ∈ xs := List.mem_of_mem_drop (List.mem_of_mem_take h)
theorem cut_map {α : Type} {f : α → D} (xs : List α) (lo hi : Option Int) : ∃ ys : List α, cutD (xs.map f) lo hi = ys.map f ∧ ys.length ≤ xs.length := by
  refine ⟨(xs.drop (HT.sIx (xs.map f).length 0 lo)).take (HT.sIx (xs.map f).length (xs.map f).length hi - HT.sIx (xs.map f).length 0 lo), ?_, ?_⟩
  · unfold cutD
    rw [← List.map_drop, ← List.map_take]
  · rw [List.length_take, List.length_drop]
    omega
theorem run_state {K : PySem.W.Frag} {vs : List V} {H : Hp} {Q : VK} {E : XK} (h : spN R_state vs H Q E) : T_state K { nx := fun _ H' => Q .non H', rt := Q } (L2.start ["script", "cells", "cell"] vs) H := by
  obtain ⟨F, ds, Z, fh, r, ⟨ns, rfl, hz⟩, z⟩ := h
  -- the cells, then the state
  have s1 : SX (tAsg (tLc (iList K (tSl (rSl K) (tVar 0) tNoPart (tPart (tC (.int 63))))) (gName 2) tYes (tCB (rAbs) (tCons (tVar 2) tNil)) [2]) (gName 1)) [.val (.list (ns.map .int)), .emp, .emp]
      { nx := fun ρ' => ∃ cs : List Int, (cs.length ≤ 63 ∧ ∀ c ∈ cs, 0 ≤ c) ∧ ρ' = [.val (.list (ns.map .int)), .own (cs.map .int), .emp], rt := fun _ _ => False } := by
    refine sx_asgO (eo_lcP (α := Int) (fun _ => true) (fun c => .int (c.natAbs : Int)) (ei_list (ex_of (eo_sl (ex_var rfl (ep_no (ep_some (ex_int ⟨63, rfl, slo_L ?_⟩))))))))
    obtain ⟨ys, ey, ly⟩ : ∃ ys : List Int, cutD (ns.map PyData.int) none (some 63) = ys.map PyData.int ∧ ys.length ≤ 63 := by
      refine ⟨(ns.drop (HT.sIx (ns.map PyData.int).length 0 none)).take (HT.sIx (ns.map PyData.int).length (ns.map PyData.int).length (some 63) - HT.sIx (ns.map PyData.int).length 0 none), ?_, ?_⟩
      · unfold cutD
        rw [← List.map_drop, ← List.map_take]
      · rw [List.length_take]
        refine Nat.le_trans (Nat.min_le_left _ _) ?_
        unfold HT.sIx
        simp
        omega
    refine ⟨_, rfl, ys, .int, ey, by omega, fun i hi => by simp at hi; subst hi; rfl, fun x _ => sg_name (by simp) ⟨rfl, et_yes ⟨rfl, rfl, fun _ => ex_cb (ea_cons (ex_var rfl (ea_nil (cbd_abs ⟨rfl, rfl⟩))))⟩⟩, ?_⟩
    refine nx_same ⟨ys.map fun c => (c.natAbs : Int), ⟨by rw [List.length_map]; exact ly, fun c hc => ?_⟩, ?_⟩
    · obtain ⟨x, _, rfl⟩ := List.mem_map.mp hc
      omega
    · rw [List.filter_eq_self.mpr (fun _ _ => rfl), List.map_map]
      rfl
  have s2 : ∀ cs : List Int, (cs.length ≤ 63 ∧ ∀ c ∈ cs, 0 ≤ c) → SX (tIfS (tTest (tOp (rEqP K) (tCB (rLen K) (tCons (tVar 1) tNil)) (tC (.int 0)))) (tAsg (tLst (tCons (tC (.int 0)) tNil)) (gName 1)) tNext) [.val (.list (ns.map .int)), .own (cs.map .int), .emp]
      { nx := fun ρ' => ∃ cs : List Int, (0 < cs.length ∧ cs.length ≤ 63 ∧ ∀ c ∈ cs, 0 ≤ c) ∧ ρ' = [.val (.list (ns.map .int)), .own (cs.map .int), .emp], rt := fun _ _ => False } := fun cs hcs => by
    refine sx_if (et_test (ex_op (ex_lenO rfl (ex_int (opd_eqP (min_l (by simp [PyData.depth])) ⟨_, rfl, fun hb => ?_, fun hb => ?_⟩)))))
    · exact sx_asgO (eo_lst (ea_cons (ex_int (ea_nil ⟨by simp, nx_same ⟨[0], by simp, rfl⟩⟩))))
    · refine sx_next (nx_same ⟨cs, ⟨?_, hcs⟩, rfl⟩)
      simp only [PyData.eqv, List.length_map, beq_eq_false_iff_ne, ne_eq] at hb
      omega
  have w0 := W.first (N := ["script", "cells", "cell"]) fh r
  refine s1 _ _ F H w0 _ (fun ρ1 σ1 F1 H1 q1 w1 => ?_) (fun _ _ _ _ _ _ q => q.elim) (fun _ _ _ _ q => q.elim) (fun _ _ _ _ q => q.elim)
  obtain ⟨cs, hcs, rfl⟩ := q1
  refine s2 cs hcs _ _ F1 H1 w1 _ (fun ρ2 σ2 F2 H2 q2 w2 => ?_) (fun _ _ _ _ _ _ q => q.elim) (fun _ _ _ _ q => q.elim) (fun _ _ _ _ q => q.elim)
  obtain ⟨cs, hcs, rfl⟩ := q2
  obtain ⟨ad, w2⟩ := w2
  obtain ⟨p, us, ka, k0, k1, k2, kr⟩ := w2.sl 1 _ rfl
  refine ⟨_, k1, by show 2 ≤ sizeLine; decide, fun q hq => ?_⟩
  have nq := w2.newp hq
  have npq : p ≠ q := ne_of_none k2 hq
  have g := w2.gr
  refine z (.cel 0 cs) q [q, p] F2 _ (hz _ ⟨hcs.1, by omega, Int.le_refl 0, hcs.2.2⟩) ⟨g.ff, g.fh.trans (same_upd hq), fun a o e m => same_upd hq _ _ (g.kp a o e m), fun a e => ?_, g.fr⟩ ⟨p, rfl, npq.symm, upd_same, ?_⟩ fun a ha => ?_
  · by_cases ha : a = q
    · rw [ha, upd_same]; intro z; cases z
    · rw [upd_ne ha]; exact g.al a e
  · rw [upd_ne npq, k2, kr.ints_inv]
  · have e : a = q ∨ a = p := by simpa using ha
    rcases e with e | e
    · rw [e]; exact ⟨nq.1, nq.2.1⟩
    · rw [e]; exact ⟨(w2.fz 1 p (by rw [ka]; simp)).1, k0⟩
theorem run_take {K : PySem.W.Frag} {vs : List V} {H : Hp} {Q : VK} {E : XK} (h : spS R_take vs H Q E) : T_take K { nx := fun _ H' => Q .non H', rt := Q } (L2.start ["state", "most", "cells", "at", "cell", "mixed"] vs) H := by
  obtain ⟨F, s, as, S, us, ds, Z, rfl, fh, sa, fn, r, ⟨m, rfl, hm1, hm2, ok, hz⟩, z⟩ := h
  obtain ⟨v, rfl, rv⟩ := r.one
  have ev := rv.int_inv
  subst ev
  cases S with
  | two a b => exact ok.elim
  | dct kvs => exact ok.elim
  | grd rows => exact ok.elim
  | cel a cs =>
    obtain ⟨c, rfl, ne, hs, hc⟩ := sa
    obtain ⟨hl, hl2, ha, hcs⟩ := ok
    have hlen : (cs.map V.int).length = cs.length := List.length_map _
    have hi0 : 0 ≤ a % (cs.length : Int) := Int.emod_nonneg _ (by omega)
    have hi1 : a % (cs.length : Int) < (cs.length : Int) := Int.emod_lt_of_pos _ (by omega)
    obtain ⟨i, ei⟩ : ∃ i : Nat, a % (cs.length : Int) = (i : Int) := ⟨(a % (cs.length : Int)).toNat, by omega⟩
    have hi : i < cs.length := by omega
    -- cells = state[1]; at = state[0] % len(cells); cell = cells[at]
    refine ⟨_, rfl, .inl ⟨s, _, 1, .ref c, rfl, rfl, .inl (.inl hs), rfl, ?_⟩⟩
    refine ⟨_, rfl, .inl ⟨s, _, 0, .int a, rfl, rfl, .inl (.inl hs), rfl, ?_⟩⟩
    refine ⟨_, rfl, _, cs.length, rfl, .inl ⟨_, .inl (.inl hc), hlen.symm⟩, a, (cs.length : Int), rfl, rfl, by omega, ?_⟩
    refine ⟨_, rfl, _, rfl, .inl ⟨c, _, (i : Int), .int cs[i], rfl, congrArg V.int ei, .inl (.inl hc), atI_nat (by rw [List.getElem?_map, List.getElem?_eq_getElem hi]; rfl), ?_⟩⟩
    refine ⟨_, rfl, _, _, rfl, rfl, _, rfl, ?_⟩
    have gr : ∀ H', (∀ b o, H b = some o → b ≠ s → b ≠ c → H' b = some o) → (∃ o, H' s = some o) → (∃ o, H' c = some o) → Gr (· ∈ [s, c]) F H F H' := fun H' k1 k2 k3 => by
      have fs := fn s (by simp)
      have fc := fn c (by simp)
      refine ⟨Same.refl F, fun b o e => k1 b o (fh b o e) (fun q => by rw [q, fs] at e; cases e) (fun q => by rw [q, fc] at e; cases e), fun b o e m => k1 b o e (fun q => m (by simp [q])) (fun q => m (by simp [q])), fun b e => ?_, fun _ _ z => z⟩
      by_cases h1 : b = s
      · obtain ⟨o, k⟩ := k2
        rw [h1, k]; intro z; cases z
      · by_cases h2 : b = c
        · obtain ⟨o, k⟩ := k3
          rw [h2, k]; intro z; cases z
        · cases q : H b with
          | none => exact absurd q e
          | some o => rw [k1 b o q h1 h2]; intro z; cases z
    refine ite2 (fun hbig => ?_) (fun hsmall => ?_)
    · -- cells[at] = cell // most; return cell % most
      refine ⟨_, rfl, _, rfl, cs[i], m, rfl, rfl, ⟨by omega, by omega⟩, ?_⟩
      refine ⟨_, rfl, _, rfl, c, _, (i : Int), i, rfl, congrArg V.int ei, hc, ?_, ?_⟩
      · unfold ixN
        rw [hlen, if_pos (by omega), if_pos (by omega)]
        simp
      refine ⟨_, rfl, _, rfl, cs[i], m, rfl, rfl, by omega, ?_⟩
      have hd : 0 ≤ cs[i] := hcs _ (List.getElem_mem hi)
      refine z (.int (cs[i] % m)) (.cel a (cs.set i (cs[i] / m))) _ F _ (hz _ _ (Int.emod_nonneg _ (by omega)) (Int.emod_lt_of_pos _ (by omega)) ⟨by rw [List.length_set]; exact hl, by rw [List.length_set]; exact hl2, ha, fun x hx => ?_⟩) (gr _ (fun b o e h1 h2 => by rw [upd_ne h2]; exact e) ⟨_, by rw [upd_ne ne]; exact hs⟩ ⟨_, upd_same⟩) ⟨c, rfl, ne, by rw [upd_ne ne]; exact hs, by rw [upd_same, List.map_set]⟩ fn (.int _)
      rcases List.mem_or_eq_of_mem_set hx with h | h
      · exact hcs x h
      · rw [h]; exact Int.ediv_nonneg hd (by omega)
    · -- state[0] = state[0] + 1
      refine ⟨_, rfl, .inl ⟨s, _, 0, .int a, rfl, rfl, .inl (.inl hs), rfl, ?_⟩⟩
      refine .inl (.inl ⟨a, 1, rfl, rfl, ?_⟩)
      refine ⟨_, rfl, s, _, 0, 0, rfl, rfl, hs, rfl, ?_⟩
      have hs' : upd H s (.lst ([.int a, .ref c].set 0 (.int (a + 1)))) s = some (.lst [.int (a + 1), .ref c]) := upd_same
      -- mixed
      refine ⟨_, rfl, _, _, rfl, rfl, .inr ⟨by decide, by decide⟩, ?_⟩
      refine ⟨_, rfl, .inl ⟨s, _, 0, .int (a + 1), rfl, rfl, .inl (.inl hs'), rfl, ?_⟩⟩
      refine ⟨_, _, rfl, rfl, .inr ⟨by decide, by decide⟩, ?_⟩
      refine .inl (.inl ⟨_, _, rfl, rfl, ?_⟩)
      refine .inl ⟨_, rfl, ?_⟩
      refine ⟨_, _, rfl, rfl, (by decide : (0 : Int) < 2147483647), ?_⟩
      refine ⟨_, rfl, _, _, rfl, rfl, .inr ⟨by decide, by decide⟩, ?_⟩
      refine ⟨_, rfl, .inl ⟨s, _, 0, .int (a + 1), rfl, rfl, .inl (.inl hs'), rfl, ?_⟩⟩
      refine ⟨_, _, rfl, rfl, .inr ⟨by decide, by decide⟩, ?_⟩
      refine .inl (.inl ⟨_, _, rfl, rfl, ?_⟩)
      refine .inl ⟨_, rfl, ?_⟩
      refine ⟨_, _, rfl, rfl, (by decide : (0 : Int) < 1000000007), ?_⟩
      refine ⟨_, rfl, _, _, rfl, rfl, ⟨by decide, by decide⟩, ?_⟩
      refine ⟨_, rfl, _, _, rfl, rfl, by omega, ?_⟩
      exact z _ (.cel (a + 1) cs) _ F _ (hz _ _ (Int.emod_nonneg _ (by omega)) (Int.emod_lt_of_pos _ (by omega)) ⟨hl, hl2, by omega, hcs⟩) (gr _ (fun b o e h1 h2 => by rw [upd_ne h1]; exact e) ⟨_, upd_same⟩ ⟨_, by rw [upd_ne ne.symm]; exact hc⟩) ⟨c, rfl, ne, hs', by rw [upd_ne ne.symm]; exact hc⟩ fn (.int _)

section
variable {P : Program} {w : World} {K : PySem.W.Frag} {mg : Str → Option Value} {base : Heap} {f : Addr} {fd : FuncData} {k : Nat} {x qual : Str} {st : Stmt}
theorem fn_newstate (F : Fun K x qual st f fd) (S : FnScope ["script", "cells", "cell"] ["script"] (defScope st))
    (body : ∀ (cdv : Value) (A : Around) (outer : List PySem.Env) (s : Shared) (H : Hp) (E : XK), Room k (A.deeper (PyProof.Rows.envOfC qual (defScope st) s.heap.objs.size f cdv)) →
      PSs (cxOf CX0 P w K mg base ["script", "cells", "cell"] qual (defScope st) f cdv A outer s H E).nox (defBody st) (T_state K)) : FnOk P w K mg base CX0 (k + 1) f fd ["script"] (spN R_state) :=
  F.ok S (fun vs H Q E h => by
    obtain ⟨F, ds, Z, _, r, ⟨ns, rfl, _⟩, _⟩ := h
    rw [r.len]; rfl) fun cdv A outer s H vs Q E hr h => ⟨_, body cdv A outer s H E hr, run_state h⟩
theorem fn_take (F : Fun K x qual st f fd) (S : FnScope ["state", "most", "cells", "at", "cell", "mixed"] ["state", "most"] (defScope st))
    (body : ∀ (cdv : Value) (A : Around) (outer : List PySem.Env) (s : Shared) (H : Hp) (E : XK), Room k (A.deeper (PyProof.Rows.envOfC qual (defScope st) s.heap.objs.size f cdv)) →
      PSs (cxOf CX0 P w K mg base ["state", "most", "cells", "at", "cell", "mixed"] qual (defScope st) f cdv A outer s H E).nox (defBody st) (T_take K)) : FnOk P w K mg base CX0 (k + 1) f fd ["state", "most"] (spS R_take) :=
  F.ok S (fun vs H Q E h => by
    obtain ⟨F, s, as, S, us, ds, Z, rfl, _, _, _, r, ⟨m, rfl, _⟩, _⟩ := h
    rw [List.length_cons, r.len]; rfl) fun cdv A outer s H vs Q E hr h => ⟨_, body cdv A outer s H E hr, run_take h⟩
end
end Pu
/-! PuC: xs[::-1], xs.index(n), sorted rows -/
namespace Pu
open PySem L2
section
variable {ρ : Pu.Env} {te to : TE} {t : TA} {K : PySem.W.Frag} {Q : D → Pu.Env → Prop}
theorem ex_revL (h : EX te ρ fun d ρ1 => ∃ ds, d = .list ds ∧ Q (.list ds.reverse) ρ1) : EX (tRevL K te) ρ Q := fun B ad σ F H w Z z =>
  h B ad σ F H w _ fun d1 ρ1 x F1 H1 q1 p1 r1 => by
    obtain ⟨ds, rfl, q⟩ := q1
    obtain ⟨a, xs, rfl, h1, h2⟩ := r1.lst_inv
    refine ⟨a, xs, rfl, sqL_rd h1 p1.wa.gr.fh, fun p hp => ?_⟩
    have g := Gr.frz (F := F1) (H := H1) (H' := upd H1 p (.lst xs.reverse)) (p := p) (vs := xs.reverse) p1.wa.gr.fh (same_upd hp) hp upd_same
    exact z _ ρ1 _ _ _ q (p1.trans (Post.of p1.wa g)) (.lst (.inl upd_same) (h2.rev.up g.ff))
/-- a method that changes nothing -/
def MtD (r : V → List V → Hp → VK → Prop) (d : D) (es : List D) (Q : D → Prop) : Prop := ∀ (F H : Hp) (x : V) (vs : List V), Same F H → Rp F x d → RpA F vs es → ∀ Z : VK, (∀ e v F' H', Q e → Gr Non F H F' H' → Rp F' v e → Z v H') → r x vs H Z
theorem ex_bmL {r : V → List V → Hp → VK → Prop} (h : EX to ρ fun d ρ1 => ∃ ds, d = .list ds ∧ EA t ρ1 fun es ρ2 => MtD r (.list ds) es fun e => Q e ρ2) : EX (tBM K "list" r to t) ρ Q := fun B ad σ F H w Z z =>
  h B ad σ F H w _ fun d1 ρ1 x F1 H1 q1 p1 r1 => by
    obtain ⟨ds, rfl, q⟩ := q1
    obtain ⟨a, xs, rfl, h1, h2⟩ := r1.lst_inv
    refine ⟨?_, q B ad σ F1 H1 p1.wa _ fun es ρ2 vs F2 H2 q2 p2 r2 => ?_⟩
    · exact .inl ⟨rfl, xs, sqL_rd h1 p1.wa.gr.fh⟩
    · exact q2 F2 H2 (.ref a) vs p2.wa.gr.fh (r1.up p2.gr.ff) r2 Z fun e v F' H' k g rv => z e ρ2 v F' H' k ((p1.trans p2).trans (Post.of p2.wa g)) rv
theorem rpa_intsI {F : Hp} : ∀ {ns : List Int} {vs : List V}, RpA F vs (ns.map .int) → vs = ns.map V.int
  | [], _, h => by cases h; rfl
  | n :: ns, _, h => by
    cases h with
    | cons h1 h2 => rw [h1.int_inv, rpa_intsI h2]; rfl
theorem mtd_indexI {ns : List Int} {n : Int} {Q : D → Prop} (hn : n ∈ ns) (k : Q (.int (ns.idxOf n : Nat))) : MtD (rIndex K) (.list (ns.map .int)) [.int n] Q := fun F H x vs e r rv Z z => by
  obtain ⟨a, xs, rfl, h1, h2⟩ := r.lst_inv
  obtain ⟨v, rfl, rv1⟩ := rv.one
  have e1 := rv1.int_inv
  have e2 := rpa_intsI h2
  subst e1 e2
  have hl : ns.idxOf n < ns.length := List.idxOf_lt_length_iff.mpr hn
  refine ⟨a, ns.map V.int, .int n, ns.idxOf n, .int n, rfl, rfl, sqL_rd h1 e, rfl, ?_, ?_, ?_, fun m z' hm hz => ?_, z _ _ F H k (Gr.refl e) (.int _)⟩
  · rw [List.all_eq_true]
    intro x hx
    obtain ⟨i, _, rfl⟩ := List.mem_map.mp hx
    rfl
  · rw [List.getElem?_map, List.getElem?_eq_getElem hl, List.getElem_idxOf hl]; rfl
  · show (n == n) = true
    simp
  · rw [List.getElem?_map] at hz
    have hml : m < ns.length := by omega
    rw [List.getElem?_eq_getElem hml] at hz
    cases hz
    show (ns[m] == n) = false
    exact List.not_of_lt_findIdx (p := fun x => x == n) hm
end
/-! sorted -/
theorem uniq_of {α : Type} {le : α → α → Bool} (anti : ∀ a b, le a b = true → le b a = true → a = b) : ∀ {xs ys : List α}, xs.Perm ys → xs.Pairwise (fun a b => le a b = true) → ys.Pairwise (fun a b => le a b = true) → xs = ys
  | [], ys, p, _, _ => (List.nil_perm.mp p).symm
  | a :: xs, [], p, _, _ => absurd p.length_eq (by simp)
  | a :: xs, b :: ys, p, h1, h2 => by
    have e : a = b := by
      by_cases e : a = b
      · exact e
      · have ha : a ∈ ys := (List.mem_cons.mp (p.mem_iff.mp (by simp : a ∈ a :: xs))).resolve_left e
        have hb : b ∈ xs := (List.mem_cons.mp (p.mem_iff.mpr (by simp : b ∈ b :: ys))).resolve_left (fun q => e q.symm)
        exact anti a b ((List.pairwise_cons.mp h1).1 b hb) ((List.pairwise_cons.mp h2).1 a ha)
    subst e
    rw [uniq_of anti (p.cons_inv) (List.pairwise_cons.mp h1).2 (List.pairwise_cons.mp h2).2]
theorem sortD_of {α : Type} {enc : α → D} {xs ys : List α} {lt : α → α → Bool} (hlt : ∀ a b, PySem.W.dataLt (enc a) (enc b) = lt a b) (ntr : ∀ a b c, lt b a = false → lt c b = false → lt c a = false) (as : ∀ a b, lt a b = true → lt b a = false) (tot : ∀ a b, lt a b = false → lt b a = false → a = b)
    (hp : xs.Perm ys) (hs : ys.Pairwise fun a b => lt a b = true) : sortD (xs.map enc) = ys.map enc := by
  have e := PySem.W.sort_maps (r := fun a b => !lt b a) (s := PySem.W.dataLe false id) enc (l := xs) (fun a _ b _ => by
    show (!lt b a) = (!PySem.W.dataLt (enc b) (enc a))
    rw [hlt])
  show (xs.map enc).mergeSort (PySem.W.dataLe false id) = ys.map enc
  rw [← e]
  have u : xs.mergeSort (fun a b => !lt b a) = ys := uniq_of (le := fun a b => !lt b a) (fun a b h1 h2 => by
      simp only [Bool.not_eq_true'] at h1 h2
      exact tot a b h2 h1) ((List.mergeSort_perm _ _).trans hp) (List.pairwise_mergeSort (fun a b c h1 h2 => by
        simp only [Bool.not_eq_true'] at h1 h2 ⊢
        exact ntr a b c h1 h2) (fun a b => by
        cases h : lt b a with
        | false => rfl
        | true => simp [as _ _ h]) xs) (hs.imp fun {a b} h => by simp [as _ _ h])
  rw [u]
/-! ### dict(pairs of ints), d[k] -/
section
variable {ρ : Pu.Env} {ty : TE} {K : PySem.W.Frag} {Q : D → Pu.Env → Prop}
def kvOf (p : Int × Int) : Key × V := ((.inl p.1 : Key), V.int p.2)
/-- pairs with different keys -/
def R_dict : List D → (Stt → Prop) → Prop := fun ds Z => ∃ kvs : List (Int × Int), ds = [.list (kvs.map encP)] ∧ (kvs.map Prod.fst).Nodup ∧ Z (.dct kvs)
theorem merge_new : ∀ (more acc : List (Int × Int)), ((acc ++ more).map Prod.fst).Nodup → mergeK (acc.map kvOf) (more.map kvOf) = (acc ++ more).map kvOf
  | [], acc, _ => by simp [mergeK]
  | p :: more, acc, h => by
    have h2 : ((acc ++ [p] ++ more).map Prod.fst).Nodup := by simpa using h
    have ih := merge_new more (acc ++ [p]) h2
    have np : ∀ q ∈ acc, q.1 ≠ p.1 := fun q hq e => by
      have h3 : ((acc.map Prod.fst) ++ (p.1 :: more.map Prod.fst)).Nodup := by simpa using h
      exact (List.nodup_append.mp h3).2.2 q.1 (List.mem_map_of_mem hq) p.1 (by simp) e
    have e1 : ((acc.map kvOf).any fun kv => decide (kv.1 = (kvOf p).1)) = false := by
      rw [List.any_eq_false]
      intro x hx
      obtain ⟨q, hq, rfl⟩ := List.mem_map.mp hx
      simp only [decide_eq_true_eq, kvOf, Sum.inl.injEq]
      exact np q hq
    show mergeK (putK (acc.map kvOf) (kvOf p).1 (kvOf p).2) (more.map kvOf) = _
    unfold putK
    rw [e1, if_neg Bool.false_ne_true]
    have e2 : acc.map kvOf ++ [((kvOf p).1, (kvOf p).2)] = (acc ++ [p]).map kvOf := by simp
    rw [e2, ih]
    simp
theorem paired_of {H F : Hp} (e : Same F H) : ∀ {kvs : List (Int × Int)} {xs : List V}, RpA F xs (kvs.map encP) → ∃ ps : List Addr, xs = ps.map V.ref ∧ Paired (fun p kv => SqT K H p [kV kv.1, kv.2]) ps (kvs.map kvOf)
  | [], _, h => by cases h; exact ⟨[], rfl, .nil⟩
  | p :: kvs, _, h => by
    cases h with
    | cons h1 h2 =>
      obtain ⟨ps, rfl, hp⟩ := paired_of e h2
      obtain ⟨a, ys, rfl, g1, g2⟩ := h1.tup_inv
      obtain ⟨u, v, rfl, r1, r2⟩ := g2.two
      have e1 := r1.int_inv
      have e2 := r2.int_inv
      subst e1 e2
      exact ⟨a :: ps, rfl, .cons (sqT_rd g1 e) hp⟩
theorem dict_fits {H : Hp} {vs : List V} {Q : VK} {E : XK} (h : spN R_dict vs H Q E) : ∃ (a : Addr) (ps : List Addr) (kvs : List (Key × V)), vs = [.ref a] ∧ SqL K H a (ps.map V.ref) ∧ Paired (fun p kv => SqT K H p [kV kv.1, kv.2]) ps kvs ∧
    ∀ p, H p = none → Q (.ref p) (upd H p (.dK (mergeK [] kvs))) := by
  obtain ⟨F, ds, Z, e, r, ⟨kvs, rfl, nd, hz⟩, z⟩ := h
  obtain ⟨v, rfl, rv⟩ := r.one
  obtain ⟨a, xs, rfl, h1, h2⟩ := rv.lst_inv
  obtain ⟨ps, rfl, hp⟩ := paired_of (K := K) e h2
  refine ⟨a, ps, kvs.map kvOf, rfl, sqL_rd h1 e, hp, fun p hn => ?_⟩
  have em : mergeK [] (kvs.map kvOf) = kvs.map kvOf := merge_new kvs [] nd
  rw [em]
  exact z (.dct kvs) p [p] F _ hz (Gr.heap e (same_upd hn)) ⟨rfl, upd_same⟩ fun b hb => by
    rw [List.mem_singleton.mp hb]
    refine ⟨?_, hn⟩
    cases q : F p with
    | none => rfl
    | some o => rw [e p o q] at hn; cases hn
theorem cb_dictN {X : Cx} (hcalm : X.calm = true) : CallR X (.type "dict") fun vs H Q => spN R_dict (vs ++ []) H Q E0 := fun pins s σ H vs us Q I r h => call_dictP hcalm pins s σ H vs us Q I r (dict_fits (E := E0) (by have h : spN R_dict (vs ++ []) H Q E0 := h; rw [List.append_nil] at h; exact h))
theorem valV_int : ∀ {kvs : List (Int × Int)} {k v : Int}, kvs.lookup k = some v → valV (kvs.map kvOf) (.inl k : Key) = some (V.int v)
  | [], _, _, h => by cases h
  | p :: kvs, k, v, h => by
    obtain ⟨a, b⟩ := p
    by_cases c : a = k
    · subst c
      simp only [List.lookup, beq_self_eq_true] at h
      cases h
      exact valV_pos rfl
    · have c2 : (k == a) = false := beq_eq_false_iff_ne.mpr (fun q => c q.symm)
      simp only [List.lookup, c2] at h
      rw [List.map_cons, valV_neg (by simp [kvOf, c])]
      exact valV_int h
theorem ex_dget {i : Nat} {S0 : Stt} (h0 : ρ[i]? = some (.st S0)) (h : EX ty ρ fun d ρ1 => ∃ k v kvs, d = .int k ∧ ρ1[i]? = some (.st (.dct kvs)) ∧ kvs.lookup k = some v ∧ Q (.int v) ρ1) : EX (tDGet (tVar i) ty) ρ Q := fun B ad σ F H w Z z => by
  obtain ⟨s0, k0, _⟩ := w.sl i _ h0
  refine ⟨_, k0, h B ad σ F H w _ fun d ρ1 y F1 H1 q1 p1 r1 => ?_⟩
  obtain ⟨k, v, kvs, rfl, h1, hl, q⟩ := q1
  obtain ⟨s1, k1, st1⟩ := p1.wa.sl i _ h1
  have e := k0.symm.trans k1
  cases e
  have ey := r1.int_inv
  subst ey
  have g := DGet.k (k := (.inl k : Key)) st1.2
  have ev := valV_int hl
  have g' : DGet H1 s0 (.int k) (some (.int v)) := by
    have e2 : (kvs.map fun p => ((.inl p.1 : Key), V.int p.2)) = kvs.map kvOf := rfl
    rw [e2, ev] at g
    exact g
  exact ⟨s0, .int v, rfl, g', z (.int v) ρ1 (.int v) F1 H1 q p1 (.int v)⟩
end
/-! ### a op b op c op d, as a test -/
section
open PyProof.Rows
def tCh3 (r r' r'' : R2) (ta tb tc td : TE) : TT := fun σ H Q => ta σ H fun x H1 => tb σ H1 fun y H2 => r x y H2 fun z H3 => ∃ k, z = .bl k ∧
  (if k = true then tc σ H3 fun x3 H4 => r' y x3 H4 fun z2 H5 => ∃ k2, z2 = .bl k2 ∧ (if k2 = true then td σ H5 fun x4 H6 => r'' x3 x4 H6 fun z3 H7 => ∃ k3, z3 = .bl k3 ∧ Q k3 H7 else Q false H5) else Q false H3)
theorem pt_chain3 {X : Cx} {a b c d : Expr} {ta tb tc td : TE} {pos : Pos} {op op' op'' : CmpOp} {r r' r'' : R2} (ho : OpR X (compareOp op) r) (ho' : OpR X (compareOp op') r') (ho'' : OpR X (compareOp op'') r'') (ha : PE X a ta) (hb : PE X b tb) (hc : PE X c tc) (hd : PE X d td)
    (hm : lastMarks [op, op', op''] [b, c, d] = false := by with_unfolding_all rfl) : PT X (.Compare a [op, op', op''] [b, c, d] pos) (tCh3 r r' r'' ta tb tc td) := by
  refine ⟨fun pins s σ H Q I h => ?_⟩
  refine isTrue_chain (thn (ha.run pins s σ H _ I h) fun v s1 ⟨x, H1, I1, r1, q1⟩ => test_link (thn (hb.run pins s1 σ H1 _ I1 q1) fun u s2 ⟨y, H2, I2, r2, q2⟩ => thn (ho pins s2 σ H2 x y v u _ I2 r1 r2 q2) fun _ s3 ⟨z, H3, I3, r3, k, e, q3⟩ => ?_)) hm
  subst e
  cases r3
  refine wpAny_truthy_bool ?_
  cases k with
  | false => exact ite_ff ⟨H3, I3, q3⟩
  | true =>
    refine ite_tt (test_link (thn (hc.run pins s3 σ H3 _ I3 q3) fun u3 s4 ⟨x3, H4, I4, r4, q4⟩ => thn (ho' pins s4 σ H4 y x3 u u3 _ I4 r2 r4 q4) fun _ s5 ⟨z2, H5, I5, r5, k2, e2, q5⟩ => ?_))
    subst e2
    cases r5
    refine wpAny_truthy_bool ?_
    cases k2 with
    | false => exact ite_ff ⟨H5, I5, q5⟩
    | true =>
      refine ite_tt (test_last (thn (hd.run pins s5 σ H5 _ I5 q5) fun u4 s6 ⟨x4, H6, I6, r6, q6⟩ => thn (ho'' pins s6 σ H6 x3 x4 u3 u4 _ I6 r4 r6 q6) fun _ s7 ⟨z3, H7, I7, r7, k3, e3, q7⟩ => ?_))
      subst e3
      cases r7
      exact wpAny_truthy_bool ⟨H7, I7, q7⟩
theorem et_ch3 {ρ : Pu.Env} {r r' r'' : R2} {ta tb tc td : TE} {Q : Bool → Pu.Env → Prop} (h : EX ta ρ fun d1 ρ1 => EX tb ρ1 fun d2 ρ2 => OpD r d1 d2 fun d => ∃ b, d = .bool b ∧ (b = true → EX tc ρ2 fun d3 ρ3 => OpD r' d2 d3 fun d => ∃ b2, d = .bool b2 ∧
    (b2 = true → EX td ρ3 fun d4 ρ4 => OpD r'' d3 d4 fun d => ∃ b3, d = .bool b3 ∧ Q b3 ρ4) ∧ (b2 = false → Q false ρ3)) ∧ (b = false → Q false ρ2)) : ET (tCh3 r r' r'' ta tb tc td) ρ Q := fun B ad σ F H w Z z =>
  h B ad σ F H w _ fun d1 ρ1 x F1 H1 q1 p1 r1 => q1 B ad σ F1 H1 p1.wa _ fun d2 ρ2 y F2 H2 q2 p2 r2 => q2 F2 H2 x y p2.wa.gr.fh (r1.up p2.gr.ff) r2 _ fun d v F3 H3 kd g rv => by
    obtain ⟨b, rfl, k1, k2⟩ := kd
    refine ⟨b, rv.bl_inv, ?_⟩
    have p3 := (p1.trans p2).trans (Post.of p2.wa g)
    cases b with
    | false => exact z false ρ2 F3 H3 (k2 rfl) p3
    | true =>
      show tc σ H3 _
      refine k1 rfl B ad σ F3 H3 p3.wa _ fun d3 ρ3 u F4 H4 q4 p4 r4 => q4 F4 H4 y u p4.wa.gr.fh ((r2.up g.ff).up p4.gr.ff) r4 _ fun d v F5 H5 kd2 g2 rv2 => ?_
      obtain ⟨b2, rfl, m1, m2⟩ := kd2
      refine ⟨b2, rv2.bl_inv, ?_⟩
      have p5 := (p3.trans p4).trans (Post.of p4.wa g2)
      cases b2 with
      | false => exact z false ρ3 F5 H5 (m2 rfl) p5
      | true =>
        show td σ H5 _
        refine m1 rfl B ad σ F5 H5 p5.wa _ fun d4 ρ4 u4 F6 H6 q6 p6 r6 => q6 F6 H6 u u4 p6.wa.gr.fh ((r4.up g2.ff).up p6.gr.ff) r6 _ fun d v F7 H7 kd3 g3 rv3 => ?_
        obtain ⟨b3, rfl, q⟩ := kd3
        exact ⟨b3, rv3.bl_inv, z b3 ρ4 F7 H7 q ((p5.trans p6).trans (Post.of p6.wa g3))⟩
end
/-! ### a list times an int -/
section
open PyProof.Rows
def rRepR : R2 := fun x y H Q => ∃ l k xs, x = .ref l ∧ y = .int k ∧ Rd H l (.lst xs) ∧ (-1000000 ≤ k ∧ k ≤ 1000000) ∧ xs.length * k.toNat ≤ sizeLine ∧ ∀ p, H p = none → Q (.ref p) (upd H p (.lst (List.replicate k.toNat xs).flatten))
theorem op_repR {X : Cx} : OpR X (binaryOp .Mult) rRepR := by
  rintro pins sh σ H x y v u Q I rx ry ⟨l, k, xs, rfl, rfl, hd, ⟨k1, k2⟩, room, q⟩
  cases rx
  obtain ⟨t, rfl⟩ := ry
  obtain ⟨z, its, n, rv, ob⟩ := hd.ok I.hok
  have ln := rv.length
  have sz : its.toArray.size * k.toNat ≤ sizeLine := by rw [List.size_toArray, ← ln]; exact room
  have fits : ¬ (!Builtin.List.listFitsIndex k) = true := by
    rw [fitsIndex_both (by omega) (by omega)]
    decide
  have cap : ¬ its.toArray.size * k.toNat > (2 ^ 63 - 1) / 8 := Nat.not_lt.mpr (Nat.le_trans sz (by decide))
  have long : ¬ Builtin.List.listTooLong (its.toArray.size * k.toNat) = true := by
    rw [notLongL sz]
    decide
  have flat : ∀ m : Nat, List.foldl (fun a b => a ++ b) #[] (List.replicate m its.toArray) = (List.replicate m its).flatten.toArray := fun m => by
    have f := foldl_rep its m []
    rwa [List.nil_append] at f
  have made : List.foldl (fun a b => a ++ b) #[] (List.replicate (if its.toArray.isEmpty = true then 0 else k.toNat) its.toArray) = (List.replicate k.toNat its).flatten.toArray := by
    rw [flat]
    cases its with
    | nil => simp
    | cons a r => rw [if_neg (by simp)]
  refine wpAny_binaryOp_repeat_ref (U := "int") (T := "list") (by decide) ⟨_, ob, rfl⟩ (fun g => typeIs_int g k t) noFill_list_mul F.fills_int_mul F.slot_int_rmul repeat_list F.slot_int_index.lookup (call_meets F.slot_int_rmul (typeIs_int sh k t) F.entry_int_rmul (F.args_int_rmul_2 _ _) (int___rmul___int_list k t l its.toArray n) ⟨ob, rfl, ⟨_, ob, rfl⟩, call_meets F.slot_list_mul ⟨_, ob, rfl⟩ F.entry_list_mul (F.args_list_mul_2 _ _) (AutoListH.list___mul___list_int_3 l its.toArray n k t fits cap long) ⟨ob, ?_⟩⟩)
  rw [made]
  exact ⟨.ref _, _, I.lnew (t' := sh.toks) (rv.rep k.toNat) (by rw [PyProof.Rows.lm_len_rep_flat, Nat.mul_comm]; exact room), rfl, q _ I.fresh⟩
theorem RpA.rep {F : Hp} {vs : List V} {ds : List D} (h : RpA F vs ds) : ∀ k : Nat, RpA F (List.replicate k vs).flatten (List.replicate k ds).flatten
  | 0 => .nil
  | k + 1 => by
    rw [List.replicate_succ, List.replicate_succ, List.flatten_cons, List.flatten_cons]
    exact h.app (RpA.rep h k)
theorem opo_rep {ds : List D} {k : Int} {Q : List D → Prop} (hk : -1000000 ≤ k ∧ k ≤ 1000000) (hz : ds.length * k.toNat ≤ 1000000) (q : Q (List.replicate k.toNat ds).flatten) : OpO rRepR (.list ds) (.int k) Q := fun F H x y e rx ry Z z => by
  obtain ⟨a, xs, rfl, h1, h2⟩ := rx.lst_inv
  exact ⟨a, k, xs, rfl, ry.int_inv, rd_mono e h1, hk, Nat.le_trans (by rw [h2.len]; exact hz) (by decide), fun p hp => z _ p _ _ q (same_upd hp) hp upd_same (h2.rep _)⟩
theorem opd_rep {ds : List D} {k : Int} {Q : D → Prop} (hk : -1000000 ≤ k ∧ k ≤ 1000000) (hz : ds.length * k.toNat ≤ 1000000) (q : Q (.list (List.replicate k.toNat ds).flatten)) : OpD rRepR (.list ds) (.int k) Q := opd_ofO (opo_rep hk hz q)
end
end Pu
/-! PuG: the law's def at the claim's caller alone, where no repr is under way; so repr of data may be told -/
namespace Pu
open PySem L2 PySem.Spec PyProof.Rows
section
variable {P : Program} {w : World} {K : PySem.W.Frag} {mg mb : Str → Option Value} {base : Heap} {f : Addr} {fd : FuncData} {k : Nat} {x qual : Str} {st : Stmt} {N ps : List Str}
/-- room at the claim's caller -/
abbrev RoomTop (k : Nat) : Prop := Room k callerA
/-- the promise of the law's def when the claim's caller calls it -/
def TopOk (P : Program) (w : World) (K : PySem.W.Frag) (mg : Str → Option Value) (base : Heap) (f : Addr) (fd : FuncData) (ps : List Str) (sp : Sp) : Prop :=
  ∀ (sh : Shared) (G : Hp) (args : Args) (us : List Value) (ws : List V) (Z : VK) (E : XK), Env0 P w K mg base callerA [] sh G → BindsTo sh fd args (ps.zip us) → Vals ws us → sp ws G Z E →
    codeAny (model P w) callerA (.call (.ref f) args) (CR CX0 [] P w G sh Z E) sh
theorem top_of {sp : Sp} (F : Fun K x qual st f fd) (S : FnScope N ps (defScope st)) (len : ∀ vs H Q E, sp vs H Q E → vs.length = ps.length) (room : Room (k + 1) callerA)
    (body : ∀ (cdv : Value) (sh : Shared) (G : Hp) (ws : List V) (Z : VK) (E : XK), Room k (callerA.deeper (envOfC qual (defScope st) sh.heap.objs.size f cdv)) → sp ws G Z E →
      ∃ t, PSs (cxOf CX0 P w K mg base N qual (defScope st) f cdv callerA [] sh G E).nox (defBody st) t ∧ t { nx := fun _ G' => Z .non G', rt := Z } (L2.start N ws) G) : TopOk P w K mg base f fd ps sp := by
  obtain ⟨oc, od, kV, doc, pm, an, cdv, ct, osl, rfl, lk, hcd⟩ := F.ex
  intro sh G args us ws Z E e0 hb rv hz
  have hlen := len _ _ _ _ hz
  have kin : K.In sh.heap := e0.mod.kin.keeps fun b o q => (e0.bs b o q).1
  have nolim : sh.heap.NoLimit := e0.mod.nolimit.keeps fun b o q => (e0.bs b o q).1
  have kinds : ∀ z ∈ ps.zip us, (defScope st).names.lookup z.1 = some .local ∨ ((defScope st).names.lookup z.1 = some .cell ∧ ((cellsFrom (sh.heap.objs.size + 1) (defScope st).names []).lookup z.1).isSome = true) := fun ⟨n, u⟩ hz => by
    have hn := S.par n (List.of_mem_zip hz).1
    exact hn.imp id fun q => ⟨q, PySem.W.cellsFrom_some _ _ _ (.inl q)⟩
  refine codeAny_call_function room.depth (kin _ _ lk) rfl S.co S.gen rfl (PySem.W.codeRec_of kin hcd) (hb _ _ _ _ (wpAny_newFunctionEnv_cells S.kind kinds fun env he s1 inc => ?_))
  subst he
  refine ⟨nolim.keeps inc.toInCall.keep, codeAny_func ?_⟩
  obtain ⟨t, ht, hq⟩ := body cdv sh G ws Z E (room.deeper _) hz
  have I0 : Inv (cxOf CX0 P w K mg base N qual (defScope st) f cdv callerA [] sh G E) [] (L2.start N ws) G s1 := inv_start S room.hd e0 hlen rv inc
  refine wpAny_mono (ht.nox.run [] s1 (L2.start N ws) G _ I0 hq) (fun fl s' hs => ?_) fun _ _ hs => hs
  cases fl with
  | ret u =>
    obtain ⟨v, σ', H', J, r, q⟩ := hs
    exact ⟨v, H', J.os, J.bare, J.base, J.hok, r, q⟩
  | next =>
    obtain ⟨σ', H', J, q⟩ := hs
    exact ⟨V.non, H', J.os, J.bare, J.base, J.hok, rfl, q⟩
  | brk => exact hs.elim fun _ hs => hs.elim fun _ hs => (hs.2 : False).elim
  | cont => exact hs.elim fun _ hs => hs.elim fun _ hs => (hs.2 : False).elim
/-- the script as it stands ahead of the call: one frozen list -/
def scriptH (a : Addr) (vs : List Value) (ns : List Int) : Hp := fun b => if b = a then some (.frz { cls := .type "list", data := .seq vs.toArray } (.lst (ns.map V.int))) else none
theorem scriptH_at (a : Addr) (vs : List Value) (ns : List Int) : scriptH a vs ns a = some (.frz { cls := .type "list", data := .seq vs.toArray } (.lst (ns.map V.int))) := if_pos rfl
theorem scriptH_no {a b : Addr} {vs : List Value} {ns : List Int} (h : b ≠ a) : scriptH a vs ns b = none := if_neg h
theorem top_call {fa a : Addr} {sh : Shared} {vs : List Value} {ns : List Int} {R : List D → (D → Prop) → Prop} (kin : K.In sh.heap) (gl : sh.heap.Ns mainGlobals mg) (bl : sh.heap.Ns builtinsNs mb) (bb : ∀ y : Str, y ≠ "__name__" → mb y = bootBuiltins y) (nolim : sh.heap.NoLimit) (gens : sh.gens = #[])
    (hs : sh.heap.get? a = some { cls := .type "list", data := .seq vs.toArray }) (hi : IntsAre vs ns) (hl : ns.length ≤ sizeLine) (nl : noLs K = true)
    (F : ∀ base : Heap, K.In base → base.Ns mainGlobals mg → TopOk P w K mg base fa fd [x] (spP R)) (hbind : ∀ (s : Shared) (u : Value), BindsTo s fd ⟨[u], []⟩ [(x, u)]) (hR : R [.list (ns.map .int)] fun d => d = .bool true) :
    codeAny (model P w) callerA (.call (.ref fa) ⟨[.ref a], []⟩) (fun r s' => r = .ok (.ret (.bool true)) ∧ OldK sh.heap s'.heap ∧ s'.os = sh.os ∧ AllBare s'.gens) sh := by
  let G := scriptH a vs ns
  have gAt : G a = some (.frz { cls := .type "list", data := .seq vs.toArray } (.lst (ns.map V.int))) := scriptH_at a vs ns
  have gNo : ∀ {b : Addr}, b ≠ a → G b = none := fun h => scriptH_no h
  have keep : ∀ {b : Addr} {o : Obj}, sh.heap.get? b = some o → b ≠ a → (hidT sh.heap G).get? b = some o := fun e h => hidT_get e (gNo h)
  have notDict : ∀ {b : Addr} {o : Obj} {es : Array DictEntry} {ep : Nat}, sh.heap.get? b = some o → o.data = .dict es ep → b ≠ a := fun {b o es ep} e d q => by
    subst q
    rw [hs] at e
    cases e
    cases d
  have nsOf : ∀ {b : Addr} {m : Str → Option Value}, sh.heap.Ns b m → (hidT sh.heap G).Ns b m := fun {b m} ⟨o, es, ep, e, d, r⟩ => ⟨o, es, ep, keep e (notDict e d), d, r⟩
  have kin' : K.In (hidT sh.heap G) := fun b o e => keep (kin b o e) fun q => by
    subst q
    have z := kin b o e
    rw [hs] at z
    cases z
    exact noLs_at nl e rfl
  have md : Mod K mg (hidT sh.heap G) := ⟨kin', nsOf gl, ⟨mb, nsOf bl, bb⟩, nolim.elim fun mc h => ⟨mc, nsOf h.1, h.2⟩⟩
  have vals := vals_ints hi
  have gok : HOk P w G sh.heap := fun b u z => by
    by_cases q : b = a
    · subst q
      rw [gAt] at z
      cases z
      exact ⟨hs, by rw [List.length_map]; exact hl, vs, _, vals, hs⟩
    · rw [gNo q] at z; cases z
  have e0 : Env0 P w K mg (hidT sh.heap G) callerA [] sh G := ⟨rfl, md, fun b o e => of_hidT e, Nat.le_of_eq (hidT_size _ _), trivial, fun b hb => (by cases hb), gok, .of_eq gens⟩
  have spec : spP R [.ref a] G (fun v _ => v = .bl true) fun _ _ _ => False := sp_law nl (.inl (.inr ⟨_, gAt⟩)) hR
  refine codeAny_mono (F _ kin' (nsOf gl) sh G ⟨[.ref a], []⟩ [.ref a] [.ref a] _ _ e0 (hbind sh (.ref a)) (.cons rfl .nil) spec) fun r s' h => ?_
  cases r with
  | error e => exact (show False from h).elim
  | ok fl =>
    cases fl with
    | next => exact h.elim
    | brk => exact h.elim
    | cont => exact h.elim
    | ret u =>
      obtain ⟨v, G', os, bare, un, gok', rv, q⟩ := h
      have q : v = .bl true := q
      subst q
      have rv : u = Value.bool true := rv
      subst rv
      refine ⟨rfl, OldK.of_keep fun b o e => ?_, os, bare⟩
      by_cases hb : b = a
      · subst hb
        have z := un.frzs b _ _ gAt
        have e1 := (gok b _ gAt).1
        rw [e] at e1
        cases e1
        exact (gok' b _ z).1
      · exact un.keep b o e (gNo hb) (fun z => by cases z) (fun z => by cases z)
/-- a law's def whose argument is the script -/
theorem top_pure {R : List D → (D → Prop) → Prop} (F : Fun K x qual st f fd) (S : FnScope N ps (defScope st)) (len : ∀ ds Z, R ds Z → ds.length = ps.length) (room : Room (k + 1) callerA)
    (body : ∀ (cdv : Value) (s : Shared) (H : Hp) (E : XK), Room k (callerA.deeper (envOfC qual (defScope st) s.heap.objs.size f cdv)) →
      ∃ t, PSs (cxOf CX0 P w K mg base N qual (defScope st) f cdv callerA [] s H E).nox (defBody st) t ∧ ∀ ds Z, R ds Z → SX t (startE N ds) { nx := fun _ => Z .none, rt := fun d _ => Z d }) :
    TopOk P w K mg base f fd ps (spP R) := by
  refine top_of F S (fun vs H Q E h => ?_) room (fun cdv s H vs Q E hr h => ?_)
  · obtain ⟨F, ds, Z, _, r, q, _⟩ := h
    rw [r.len]
    exact len ds Z q
  · obtain ⟨F0, ds, Z, fh, r, q, z⟩ := h
    obtain ⟨t, ht, hs⟩ := body cdv s H E hr
    refine ⟨t, ht, hs ds Z q { F0 := F0, H0 := H, M := Non } (L2.start N vs) F0 H ⟨fun _ => [], Gr.refl fh, ?_, fun i s e => ?_, (fun i p m => by cases m), (fun i j p m => by cases m), fun _ _ => rfl, (fun s as e => by cases e)⟩ _ (fun ρ' σ' F' H' q w' => ?_) (fun d ρ' σ' v F' H' q w' rv => ?_) (fun _ _ _ _ q _ => q.elim) (fun _ _ _ _ q _ => q.elim)⟩
    · unfold L2.start startE
      rw [List.length_append, List.length_append, List.length_map, List.length_map, List.length_replicate, List.length_replicate, r.len]
    · rcases startE_get e with ⟨d, e2, rfl⟩ | rfl
      · obtain ⟨v, e1, rv⟩ := r.get e2
        exact ⟨rfl, v, start_get e1, rv⟩
      · rfl
    · obtain ⟨ad, w'⟩ := w'
      exact z .none .non F' H' q w'.gr .non
    · obtain ⟨ad, w'⟩ := w'
      exact z d v F' H' q w'.gr rv
/-- the law's statement out of the law's def at the claim's caller -/
theorem walk_top {l : PySem.W.OpenLaw} {n : Nat} {q : Program} {loose : List Str} {XP : (Str → Option Value) → Heap → Prop} {YP : World → Heap → Prop} {d : DefRec} {K : Params → PySem.W.Frag} {R : List D → (D → Prop) → Prop} {x : Str} (hn : l.most = some n) (hn2 : n ≤ sizeLine) (hdf : d.params.defaults = [])
    (hY : ∀ (w : World) (h : Heap), YP w h → (K w.params).In h) (nl : ∀ w : World, noLs (K w.params) = true)
    (F : ∀ (w : World) (mg : Str → Option Value) (fa : Addr) (h : Heap), (K w.params).In h → h.Ns mainGlobals mg → mg d.name = some (.ref fa) →
      ∃ fd : FuncData, (∀ (s : Shared) (u : Value), BindsTo s fd ⟨[u], []⟩ [(x, u)]) ∧ ∀ base : Heap, (K w.params).In base → base.Ns mainGlobals mg → TopOk l.prog w (K w.params) mg base fa fd [x] (spP R))
    (hR : ∀ ns : List Int, ns.length ≤ n → R [.list (ns.map .int)] fun d => d = .bool true) : PySem.W.WalkO q loose XP YP l.row.toRowW d [] (fun f vs => PySem.call f vs) := by
  refine Att.attach_call hn hdf fun w s₀ s₁ mg mb fa o pm cd doc a vs ns G Y ho hd hcd hm hs hi hlen hg => ?_
  obtain ⟨fd, hb, hF⟩ := F w mg fa _ (hY w _ Y) G.T.g hm
  exact top_call (hY w _ Y) G.T.g G.T.b G.T.builtins G.T.nolimit hg hs hi (Nat.le_trans hlen hn2) (nl w) hF hb (hR ns hlen)
end
/-! ### repr of data -/
theorem textFrom_le : ∀ (ts : List Str) (k n : Nat) (acc : Str), (∀ t ∈ ts, t.length ≤ n) → (textFrom k acc ts).length ≤ acc.length + ts.length * (n + 2)
  | [], k, n, acc, _ => by
    show acc.length ≤ _
    omega
  | t :: r, k, n, acc, h => by
    have ih := textFrom_le r (k + 1) n (acc ++ (if k > 0 then ", " else "" : String) ++ t) fun u hu => h u (by simp [hu])
    have ht := h t (by simp)
    have hl : (acc ++ (if k > 0 then ", " else "" : String) ++ t : Str).length ≤ acc.length + 2 + t.length := by
      rw [Str.length_append, Str.length_append]
      by_cases c : k > 0
      · rw [if_pos c]
        have e : (Str.ofString ", ").length = 2 := by decide +kernel
        have e2 : (", " : Str).length = 2 := e
        omega
      · rw [if_neg c]
        have e : (Str.ofString "").length = 0 := by decide +kernel
        have e2 : ("" : Str).length = 0 := e
        omega
    show (textFrom (k + 1) (acc ++ (if k > 0 then ", " else "" : String) ++ t) r).length ≤ _
    rw [List.length_cons, Nat.succ_mul]
    omega
theorem listText_le {ts : List Str} {n : Nat} (h : ∀ t ∈ ts, t.length ≤ n) : (listText ts).length ≤ ts.length * (n + 2) + 2 := by
  unfold listText
  rw [Str.length_append]
  have q := textFrom_le ts 0 n "[" h
  have e1 : ("[" : Str).length = 1 := (by decide +kernel : (Str.ofString "[").length = 1)
  have e2 : ("]" : Str).length = 1 := (by decide +kernel : (Str.ofString "]").length = 1)
  omega
theorem piled_le : ∀ {ts : List Str} {n : Nat}, (∀ t ∈ ts, t.length ≤ n) → piled ts ≤ ts.length * (n + 2)
  | [], n, _ => by simp [piled]
  | t :: ts, n, h => by
    have h1 := h t (by simp)
    have h2 := piled_le (ts := ts) fun u hu => h u (by simp [hu])
    rw [piled_cons, List.length_cons, Nat.succ_mul]
    omega
theorem tupleText_le {ts : List Str} {n : Nat} (h : ∀ t ∈ ts, t.length ≤ n) : (tupleText ts).length ≤ ts.length * (n + 2) + 4 := by
  unfold tupleText
  rw [Str.length_append, Str.length_append]
  have e1 : ("(" : Str).length = 1 := (by decide +kernel : (Str.ofString "(").length = 1)
  have e2 : ((if ts.length == 1 then ",)" else ")" : String) : Str).length ≤ 2 := by
    split
    · exact (by decide +kernel : (Str.ofString ",)").length ≤ 2)
    · exact (by decide +kernel : (Str.ofString ")").length ≤ 2)
  have e3 : (Str.join ", " ts).length ≤ ts.length * (n + 2) := by
    cases ts with
    | nil =>
      have e : (Str.join (Str.ofString ", ") []).length = 0 := by decide +kernel
      have e' : (Str.join ", " []).length = 0 := e
      omega
    | cons t ts =>
      have q := join_length_add (t :: ts) (by simp)
      have p := piled_le h
      omega
  omega
/-- text that can be shown, of at most so many signs -/
structure Sh (n : Nat) (d : D) : Prop where
  sh : d.showable = true
  nd : d.hasDict = false
  ln : d.shown.length ≤ n
theorem sh_int {i : Int} (h : i.natAbs < 2 ^ 64) : Sh 2000 (.int i) where
  sh := by
    simp only [PyData.showable, decide_eq_true_eq]
    rcases Nat.eq_zero_or_pos i.natAbs with z | z
    · rw [z]; decide
    · exact Nat.lt_of_lt_of_le ((Nat.log2_lt (by omega)).mpr h) (by decide)
  nd := by simp only [PyData.hasDict]
  ln := by
    simp only [PyData.shown]
    refine Nat.le_trans (int_text_len_1921 ?_) (by decide)
    rcases Nat.eq_zero_or_pos i.natAbs with z | z
    · rw [z]; decide
    · exact Nat.lt_of_lt_of_le ((Nat.log2_lt (by omega)).mpr h) (by decide)
theorem sh_non : Sh 2000 .none := ⟨by simp only [PyData.showable], by simp only [PyData.hasDict], by simp only [PyData.shown]; decide +kernel⟩
theorem sh_all {n : Nat} : ∀ {ds : List D}, (∀ d ∈ ds, Sh n d) → PyData.showableAll ds = true ∧ PyData.hasDictAll ds = false ∧ (∀ t ∈ PyData.shownAll ds, t.length ≤ n) ∧ (PyData.shownAll ds).length = ds.length
  | [], _ => ⟨by simp only [PyData.showableAll], by simp only [PyData.hasDictAll], (fun t ht => by simp [PyData.shownAll] at ht), by simp [PyData.shownAll]⟩
  | d :: ds, h => by
    have h1 := h d (by simp)
    obtain ⟨a, b, c, e⟩ := sh_all (ds := ds) fun x hx => h x (by simp [hx])
    refine ⟨by simp only [PyData.showableAll, h1.sh, a, Bool.and_self], by simp only [PyData.hasDictAll, h1.nd, b, Bool.or_self], fun t ht => ?_, by simp [PyData.shownAll, e]⟩
    simp only [PyData.shownAll, List.mem_cons] at ht
    rcases ht with rfl | ht
    · exact h1.ln
    · exact c t ht
theorem sh_list {n m : Nat} {ds : List D} (h : ∀ d ∈ ds, Sh n d) (hm : ds.length ≤ m) : Sh (m * (n + 2) + 4) (.list ds) := by
  obtain ⟨a, b, c, e⟩ := sh_all h
  refine ⟨by simp only [PyData.showable]; exact a, by simp only [PyData.hasDict]; exact b, ?_⟩
  simp only [PyData.shown]
  have q := listText_le c
  rw [e] at q
  have q2 : ds.length * (n + 2) ≤ m * (n + 2) := Nat.mul_le_mul_right _ hm
  omega
theorem sh_tup {n m : Nat} {ds : List D} (h : ∀ d ∈ ds, Sh n d) (hm : ds.length ≤ m) : Sh (m * (n + 2) + 4) (.tuple ds) := by
  obtain ⟨a, b, c, e⟩ := sh_all h
  refine ⟨by simp only [PyData.showable]; exact a, by simp only [PyData.hasDict]; exact b, ?_⟩
  simp only [PyData.shown]
  have q := tupleText_le c
  rw [e] at q
  have q2 : ds.length * (n + 2) ≤ m * (n + 2) := Nat.mul_le_mul_right _ hm
  omega
theorem Sh.up {n m : Nat} {d : D} (h : Sh n d) (k : n ≤ m) : Sh m d := ⟨h.sh, h.nd, Nat.le_trans h.ln k⟩
theorem sh_map {α : Type} {n : Nat} {xs : List α} {f : α → D} (h : ∀ x ∈ xs, Sh n (f x)) : ∀ d ∈ xs.map f, Sh n d := fun d hd => by
  obtain ⟨x, hx, rfl⟩ := List.mem_map.mp hd
  exact h x hx
theorem sh_nil {n : Nat} : ∀ d ∈ ([] : List D), Sh n d := fun d h => by cases h
theorem sh_cons {n : Nat} {d : D} {ds : List D} (h : Sh n d) (hs : ∀ e ∈ ds, Sh n e) : ∀ e ∈ d :: ds, Sh n e := fun e he => by
  rcases List.mem_cons.mp he with rfl | he
  · exact h
  · exact hs e he
def rRepr (_ : PySem.W.Frag) : List V → Hp → VK → Prop := fun vs H Q => ∃ (F : Hp) (v : V) (d : D), vs = [v] ∧ Same F H ∧ Rp F v d ∧ Sh sizeLine d ∧ d.depth ≤ 60 ∧ Q (.str d.shown) H
theorem cb_repr {X : Cx} (hu : X.A.units + 64 < cLine) (hg : X.A.guards = some []) : CallR X (.builtin "repr") (rRepr X.K) := by
  rintro pins s σ H vs us Q I r ⟨F, v, d, rfl, e, rp, ⟨hs, hnd, hl⟩, hz, q⟩
  obtain ⟨u, rfl, ru⟩ := r.one
  obtain ⟨as, rd⟩ := rp_reads I e rp ru
  have disp : isDisplay d = true → wpAny (model X.prog X.w) X.A (call (.builtin "repr") [u]) (EP X pins σ Q) X.xe s := fun hd => by
    obtain ⟨a, rfl⟩ := isRef_of_reads rd hd
    exact repr_of_reads' rd hs (PyData.noDict_hsm hnd) hg (by omega) (fun _ _ e => e) (fun h' u tk hk => ⟨.str d.shown, H, I.kept hk, ⟨u, rfl⟩, q⟩) hl
  cases d with
  | none =>
    cases rp
    have ru : u = Value.none := ru
    subst ru
    simp only [PyData.shown] at q
    exact PySem.P.repr_of_none ⟨.str "None", H, I.tok _, ⟨_, rfl⟩, q⟩
  | bool b =>
    cases rp
    have ru : u = Value.bool b := ru
    subst ru
    simp only [PyData.shown] at q
    exact PySem.P.repr_of_bool ⟨.str _, H, I.tok _, ⟨_, rfl⟩, q⟩
  | int i =>
    cases rp
    obtain ⟨t, rfl⟩ := ru
    simp only [PyData.shown] at q
    simp only [PyData.showable, decide_eq_true_eq] at hs
    exact PySem.P.repr_of_int hs ⟨.str _, H, I.tok _, ⟨_, rfl⟩, q⟩
  | str x =>
    cases rp
    obtain ⟨t, rfl⟩ := ru
    simp only [PyData.shown] at q hl
    exact PySem.P.repr_of_str ⟨.str _, H, I.tok _, ⟨_, rfl⟩, q⟩ hl
  | list xs => exact disp rfl
  | tuple xs => exact disp rfl
  | dict xs => simp only [PyData.hasDict] at hnd; cases hnd
theorem cbd_repr {K : PySem.W.Frag} {d : D} {n : Nat} {Q : D → Prop} (h : Sh n d) (hn : n ≤ sizeLine) (hz : d.depth ≤ 60) (k : Q (.str d.shown)) : CbD (rRepr K) [d] Q := fun F H vs e r Z z => by
  obtain ⟨v, rfl, rv⟩ := r.one
  exact ⟨F, v, d, rfl, e, rv, h.up hn, hz, z _ _ F H k (Gr.refl e) (.str _)⟩
end Pu
/-! PuD: the drawing state of the laws k00 .. k45: a list of two ints, read and written by its owner -/
namespace Pu
open PySem L2
section
variable {ρ : Pu.Env} {te : TE} {K : PySem.W.Frag} {Q : D → Pu.Env → Prop} {P : Po} {i : Nat}
theorem WA.stp {B : Base} {ad : Nat → List Addr} {σ : St} {F H F' H' : Hp} {s : Addr} {S S' : Stt} (w : WA B ad ρ σ F H) (h1 : ρ[i]? = some (.st S)) (k0 : σ[i]? = some (some (.ref s))) (g : Gr (· ∈ ad i) F H F' H') (st : StAt H' S' s (ad i)) (fn : ∀ a ∈ ad i, F' a = none) : WA B ad (ρ.set i (.st S')) σ F' H' := by
  have nm : ∀ j a, j ≠ i → a ∈ ad j → a ∉ ad i := fun j a hj m m' => hj (w.dj j i a m m')
  refine ⟨⟨w.gr.ff.trans g.ff, g.fh, fun a o e m => g.kp a o (w.gr.kp a o e m) fun z => ?_, fun a e => g.al a (w.gr.al a e), fun a e z => g.fr a (w.gr.al a e) (w.gr.fr a e z)⟩, by rw [List.length_set]; exact w.len, fun j sl e => ?_, fun j a m => ⟨?_, (w.fz j a m).2⟩, w.dj, fun j e => w.out j (get_set' e), w.pin.to fun S2 e => by
    rcases get_set e with ⟨e0, _⟩ | ⟨hj, e⟩
    · exact ⟨⟨S, by rw [e0]; exact h1⟩, rfl, rfl⟩
    · exact ⟨⟨S2, e⟩, rfl, rfl⟩⟩
  · rcases (w.fz i a z).2 with q | q
    · rw [q] at e; cases e
    · exact m q.1
  · rcases get_set e with ⟨rfl, rfl⟩ | ⟨hj, e⟩
    · exact ⟨s, k0, st⟩
    · have k := w.sl j sl e
      cases sl with
      | emp => exact k
      | val d =>
        obtain ⟨k, v, e, r⟩ := k
        exact ⟨k, v, e, r.up g.ff⟩
      | own es =>
        obtain ⟨q, ws, a1, a2, a3, a4, a5⟩ := k
        exact ⟨q, ws, a1, a2, a3, g.kp q _ a4 (nm j q hj (by rw [a1]; simp)), a5.up g.ff⟩
      | st S2 =>
        obtain ⟨s2, a1, a2⟩ := k
        exact ⟨s2, a1, a2.keep fun a m o e => g.kp a o e (nm j a hj m)⟩
  · by_cases hj : j = i
    · subst hj; exact fn a m
    · exact g.fr a (w.lv m) (w.fz j a m).1
/-- a fresh list of two ints is the state from now on -/
theorem W.toTwo {B : Base} {σ : St} {F H : Hp} {a b : Int} (h00 : i ≠ 0) (h : ρ[i]? = some (.own [.int a, .int b])) (w : W B ρ σ F H) : W B (ρ.set i (.st (.two a b))) σ F H := by
  obtain ⟨ad, w⟩ := w
  obtain ⟨p, vs, hp, a1, a2, a3, rr⟩ := w.sl i _ h
  obtain ⟨u, v, rfl, r1, r2⟩ := rr.two
  have e1 := r1.int_inv
  have e2 := r2.int_inv
  subst e1 e2
  refine ⟨ad, w.gr, by rw [List.length_set]; exact w.len, fun j sl e => ?_, w.fz, w.dj, fun j e => w.out j (get_set' e), w.pin.to fun S2 e => by
    rcases get_set e with ⟨e0, _⟩ | ⟨hj, e⟩
    · exact absurd e0.symm h00
    · exact ⟨⟨S2, e⟩, rfl, rfl⟩⟩
  rcases get_set e with ⟨rfl, rfl⟩ | ⟨hj, e⟩
  · exact ⟨p, a2, hp, a3⟩
  · exact w.sl j sl e
theorem sx_toTwo {t : TS} {a b : Int} (h00 : i ≠ 0) (h : ρ[i]? = some (.own [.int a, .int b])) (k : SX t (ρ.set i (.st (.two a b))) P) : SX t ρ P := fun B σ F H w Dn n r bk c => k B σ F H (W.toTwo h00 h w) Dn n r bk c
theorem ex_st0 {a b : Int} (h : ρ[i]? = some (.st (.two a b))) (q : Q (.int a) ρ) : EX (tOp (rIxA K) (tVar i) (tC (.int 0))) ρ Q := fun B ad σ F H w Z z => by
  obtain ⟨s, k0, _, hs⟩ := w.sl i _ h
  exact ⟨_, k0, .inl ⟨s, [.int a, .int b], 0, .int a, rfl, rfl, .inl (.inl hs), rfl, z (.int a) ρ (.int a) F H q (Post.refl w) (.int a)⟩⟩
theorem ex_st1 {a b : Int} (h : ρ[i]? = some (.st (.two a b))) (q : Q (.int b) ρ) : EX (tOp (rIxA K) (tVar i) (tC (.int 1))) ρ Q := fun B ad σ F H w Z z => by
  obtain ⟨s, k0, _, hs⟩ := w.sl i _ h
  exact ⟨_, k0, .inl ⟨s, [.int a, .int b], 1, .int b, rfl, rfl, .inl (.inl hs), rfl, z (.int b) ρ (.int b) F H q (Post.refl w) (.int b)⟩⟩
theorem two_grow {F H : Hp} {s : Addr} {a b c d : Int} {as : List Addr} (ha : as = [s]) (fh : Same F H) (hs : H s = some (.lst [.int a, .int b])) (fn : ∀ x ∈ as, F x = none) : Gr (· ∈ as) F H F (upd H s (.lst [.int c, .int d])) := by
  subst ha
  have fs := fn s (by simp)
  refine ⟨Same.refl F, fun x o e => ?_, fun x o e m => ?_, fun x e => ?_, fun _ _ z => z⟩
  · have ne : x ≠ s := fun q => by rw [q, fs] at e; cases e
    rw [upd_ne ne]; exact fh x o e
  · rw [upd_ne (fun q => m (by simp [q]))]; exact e
  · by_cases q : x = s
    · rw [q, upd_same]; intro z; cases z
    · rw [upd_ne q]; exact e
theorem sx_st0 (h : EX te ρ fun d ρ1 => ∃ v a b, d = .int v ∧ ρ1[i]? = some (.st (.two a b)) ∧ NX P (ρ1.set i (.st (.two v b)))) : SX (tAsg te (gSub (tVar i) (tC (.int 0)) rSetL)) ρ P := fun B σ F H w Dn n r bk c => by
  obtain ⟨ad, w⟩ := w
  refine h B ad σ F H w _ fun d ρ1 v F1 H1 q1 p1 r1 => ?_
  obtain ⟨x, a, b, rfl, h1, ρ', l, q⟩ := q1
  have ev := r1.int_inv
  subst ev
  obtain ⟨s, k0, as, hs⟩ := p1.wa.sl i _ h1
  have g := two_grow (c := x) (d := b) as p1.wa.gr.fh hs fun y hy => (p1.wa.fz i y hy).1
  exact ⟨_, k0, s, [.int a, .int b], 0, 0, rfl, rfl, hs, rfl, n ρ' σ F1 _ q (W.weak ⟨ad, p1.wa.stp (S' := .two x b) h1 k0 g ⟨as, upd_same⟩ fun y hy => (p1.wa.fz i y hy).1⟩ l)⟩
theorem sx_st1 (h : EX te ρ fun d ρ1 => ∃ v a b, d = .int v ∧ ρ1[i]? = some (.st (.two a b)) ∧ NX P (ρ1.set i (.st (.two a v)))) : SX (tAsg te (gSub (tVar i) (tC (.int 1)) rSetL)) ρ P := fun B σ F H w Dn n r bk c => by
  obtain ⟨ad, w⟩ := w
  refine h B ad σ F H w _ fun d ρ1 v F1 H1 q1 p1 r1 => ?_
  obtain ⟨x, a, b, rfl, h1, ρ', l, q⟩ := q1
  have ev := r1.int_inv
  subst ev
  obtain ⟨s, k0, as, hs⟩ := p1.wa.sl i _ h1
  have g := two_grow (c := a) (d := x) as p1.wa.gr.fh hs fun y hy => (p1.wa.fz i y hy).1
  exact ⟨_, k0, s, [.int a, .int b], 1, 1, rfl, rfl, hs, rfl, n ρ' σ F1 _ q (W.weak ⟨ad, p1.wa.stp (S' := .two a x) h1 k0 g ⟨as, upd_same⟩ fun y hy => (p1.wa.fz i y hy).1⟩ l)⟩
end
def T_draw (K : PySem.W.Frag) : TS :=
    (tSeq (tIfS (tTest (tOp (rEqP K) (tOp (rIxA K) (tVar 0) (tC (.int 1))) (tC (.int 0))))
      (tSeq (tAsg (tC (.int 0)) (gName 3))
    (tSeq (tIfS (tTest (tOp (rI0 fun i j => .bl (decide (j < i))) (tCB (rLen K) (tCons (tVar 1) tNil)) (tC (.int 0))))
      (tAsg (tOp (rIxA K) (tVar 1) (tOp (rI (fun _ j => 0 < j) fun i j => .int (i % j)) (tOp (rIxA K) (tVar 0) (tC (.int 0))) (tCB (rLen K) (tCons (tVar 1) tNil)))) (gName 3))
      tNext)
    (tSeq (tIfS (tTest (tOp (rI0 fun i j => .bl (decide (i < j))) (tVar 3) (tC (.int 0))))
      (tAsg (tOp (rI0 fun i j => .int (i - j)) (tC (.int 1)) (tOp (rI CMul fun i j => .int (i * j)) (tC (.int 2)) (tVar 3))) (gName 3))
      tNext)
    (tSeq (tAsg (tOp (rI (fun _ j => 0 < j) fun i j => .int (i % j)) (tCB (rInt) (tCons (tOp (rI CMul fun i j => .int (i * j)) (tOp (rPlus K) (tOp (rPlus K) (tVar 3) (tOp (rI CMul fun i j => .int (i * j)) (tOp (rIxA K) (tVar 0) (tC (.int 0))) (tC (.int 7919)))) (tC (.int 1))) (tC (.int 48271))) tNil)) (tC (.int 2147483647))) (gName 4))
    (tSeq (tAsg (tOp (rI (fun _ j => 0 < j) fun i j => .int (i % j)) (tCB (rInt) (tCons (tOp (rPlus K) (tOp (rI CMul fun i j => .int (i * j)) (tVar 4) (tC (.int 69621))) (tOp (rI CMul fun i j => .int (i * j)) (tOp (rIxA K) (tVar 0) (tC (.int 0))) (tC (.int 104729)))) tNil)) (tC (.int 4294967291))) (gSub (tVar 0) (tC (.int 1)) rSetL))
    (tSeq (tIfS (tAnd (tTest (tOp (rI0 fun i j => .bl (decide (j ≤ i))) (tVar 3) (tOp (rI CPow fun i j => .int (i ^ j.toNat)) (tC (.int 10)) (tC (.int 18))))) (tTest (tOp (rI0 fun i j => .bl (decide (i < j))) (tOp (rIxA K) (tVar 0) (tC (.int 0))) (tCB (rLen K) (tCons (tVar 1) tNil)))))
      (tAsg (tVar 3) (gSub (tVar 0) (tC (.int 1)) rSetL))
      tNext)
    (tAsg (tOp (rPlus K) (tOp (rIxA K) (tVar 0) (tC (.int 0))) (tC (.int 1))) (gSub (tVar 0) (tC (.int 0)) rSetL))))))))
      tNext)
    (tSeq (tAsg (tOp (rI (fun _ j => 0 < j) fun i j => .int (i % j)) (tCB (rInt) (tCons (tOp (rIxA K) (tVar 0) (tC (.int 1))) tNil)) (tVar 2)) (gName 5))
    (tSeq (tAsg (tOp (rI CDiv fun i j => .int (i / j)) (tOp (rIxA K) (tVar 0) (tC (.int 1))) (tVar 2)) (gSub (tVar 0) (tC (.int 1)) rSetL))
    (tRet (tVar 5)))))
def T_dr3 (K : PySem.W.Frag) : TS :=
    (tSeq (tAsg (tOp (rI (fun _ j => 0 < j) fun i j => .int (i % j)) (tCB (rInt) (tCons (tOp (rIxA K) (tVar 0) (tC (.int 1))) tNil)) (tVar 2)) (gName 5))
    (tSeq (tAsg (tOp (rI CDiv fun i j => .int (i / j)) (tOp (rIxA K) (tVar 0) (tC (.int 1))) (tVar 2)) (gSub (tVar 0) (tC (.int 1)) rSetL))
    (tRet (tVar 5))))
def T_dr4 (K : PySem.W.Frag) : TS :=
    (tSeq (tAsg (tOp (rI (fun _ j => 0 < j) fun i j => .int (i % j)) (tCB (rInt) (tCons (tOp (rI CMul fun i j => .int (i * j)) (tOp (rPlus K) (tOp (rPlus K) (tVar 3) (tOp (rI CMul fun i j => .int (i * j)) (tOp (rIxA K) (tVar 0) (tC (.int 0))) (tC (.int 7919)))) (tC (.int 1))) (tC (.int 48271))) tNil)) (tC (.int 2147483647))) (gName 4))
    (tSeq (tAsg (tOp (rI (fun _ j => 0 < j) fun i j => .int (i % j)) (tCB (rInt) (tCons (tOp (rPlus K) (tOp (rI CMul fun i j => .int (i * j)) (tVar 4) (tC (.int 69621))) (tOp (rI CMul fun i j => .int (i * j)) (tOp (rIxA K) (tVar 0) (tC (.int 0))) (tC (.int 104729)))) tNil)) (tC (.int 4294967291))) (gSub (tVar 0) (tC (.int 1)) rSetL))
    (tSeq (tIfS (tAnd (tTest (tOp (rI0 fun i j => .bl (decide (j ≤ i))) (tVar 3) (tOp (rI CPow fun i j => .int (i ^ j.toNat)) (tC (.int 10)) (tC (.int 18))))) (tTest (tOp (rI0 fun i j => .bl (decide (i < j))) (tOp (rIxA K) (tVar 0) (tC (.int 0))) (tCB (rLen K) (tCons (tVar 1) tNil)))))
      (tAsg (tVar 3) (gSub (tVar 0) (tC (.int 1)) rSetL))
      tNext)
    (tAsg (tOp (rPlus K) (tOp (rIxA K) (tVar 0) (tC (.int 0))) (tC (.int 1))) (gSub (tVar 0) (tC (.int 0)) rSetL)))))
def T_dr2 (K : PySem.W.Frag) : TS :=
    (tSeq (tIfS (tTest (tOp (rI0 fun i j => .bl (decide (i < j))) (tVar 3) (tC (.int 0))))
      (tAsg (tOp (rI0 fun i j => .int (i - j)) (tC (.int 1)) (tOp (rI CMul fun i j => .int (i * j)) (tC (.int 2)) (tVar 3))) (gName 3))
      tNext)
    (T_dr4 K))
def Ok2 : Stt → Prop
  | .two a b => 0 ≤ a ∧ 0 ≤ b
  | _ => False
def R_draw : Stt → List D → (D → Stt → Prop) → Prop := fun S ds Z => ∃ (ns : List Int) (m : Int), ds = [.list (ns.map .int), .int m] ∧ (1 ≤ m ∧ m < 1073741824) ∧ Ok2 S ∧ ∀ (r : Int) (S' : Stt), 0 ≤ r → r < m → Ok2 S' → Z (.int r) S'
local macro_rules | `(tactic| walk_at "e") => `(tactic| first
  | ((with_reducible refine nx_seq ?_); (try dsimp only [List.set_cons_succ, List.set_cons_zero]))
  | ((with_reducible refine ex_vr ?_); dsimp only [VQ, List.set_cons_succ, List.set_cons_zero, List.getElem?_cons_zero, List.getElem?_cons_succ]; (fail_if_success (with_reducible show False)))
  | (with_reducible refine sx_seq ?_)
  | (with_reducible refine sx_if ?_)
  | (with_reducible refine sx_next ?_)
  | (with_reducible refine sx_ret ?_)
  | ((fail_if_success (with_reducible refine sx_asgO (eo_lst ?_))); (with_reducible refine sx_asg ?_))
  | (with_reducible refine ex_int ?_)
  | (with_reducible refine ex_str ?_)
  | (with_reducible refine ex_bl ?_)
  | (with_reducible refine ex_non ?_)
  | (with_reducible refine ex_op ?_)
  | (with_reducible refine ex_un ?_)
  | (with_reducible refine ex_chain ?_)
  | (with_reducible refine ex_call ?_)
  | (with_reducible refine ex_isT ?_)
  | (with_reducible refine ex_cb ?_)
  | (with_reducible refine ex_sl ?_)
  | (with_reducible refine ex_tup ?_)
  | (with_reducible refine ex_if ?_)
  | (with_reducible refine ex_of (eo_lst ?_))
  | (with_reducible refine ex_notV ?_)
  | (with_reducible refine ea_nil ?_)
  | (with_reducible refine ea_cons ?_)
  | (with_reducible refine ep_no ?_)
  | (with_reducible refine ep_some ?_)
  | (with_reducible refine et_test ?_)
  | (with_reducible refine et_B ?_)
  | (with_reducible refine et_and ?_)
  | (with_reducible refine et_or ?_)
  | (with_reducible refine et_not ?_)
  | (with_reducible refine et_yes ?_)
  | (with_reducible refine opd_plusI ?_)
  | (with_reducible refine opd_I0 ?_)
  | (with_reducible refine opd_B0 ?_)
  | (with_reducible refine opd_eqI ?_)
  | (with_reducible refine opd_neI ?_)
  | (with_reducible refine opd_eqS ?_)
  | (with_reducible refine opd_neS ?_)
  | (with_reducible refine opd_is ?_)
  | (with_reducible refine opd_isnt ?_)
  | (with_reducible refine opd_ixT rfl ?_)
  | (with_reducible refine opd_ixL rfl ?_)
  | (with_reducible refine und_neg ?_)
  | (with_reducible refine cbd_lenL ?_)
  | (with_reducible refine cbd_lenT ?_)
  | (with_reducible refine cbd_min2 ?_)
  | (with_reducible refine cbd_max2 ?_)
  | (with_reducible refine cbd_abs ?_)
  | (with_reducible refine cbd_int ?_)
  | (with_reducible refine cbd_tupL ?_)
  | (with_reducible refine cbd_listL ?_)
  | (with_reducible refine cbd_listT ?_)
  | (with_reducible refine cbd_sum ?_)
  | (with_reducible refine sld_T ?_)
  | (with_reducible refine sld_L ?_)
  | (with_reducible refine ex_revL ?_)
  | (with_reducible refine ex_bmL ?_)
  | (with_reducible refine ex_andV ?_)
  | (with_reducible refine ei_list ?_)
  | (with_reducible refine ei_rng1 ?_)
  | (with_reducible refine ei_rng2 ?_)
  | (with_reducible refine ei_enum ?_)
  | (with_reducible refine ei_enumT ?_)
  | (with_reducible refine ei_zip ?_)
  | (with_reducible refine sx_par ?_)
  | (with_reducible refine Exists.intro _ (And.intro rfl ?_))
  | (with_reducible refine Exists.intro _ (Exists.intro _ (And.intro rfl ?_)))
  | ((with_reducible show EX (tCall (spS _) [] _ (tCons (tVar _) _)) _ _); refine ex_callS rfl ?_)
  | ((with_reducible refine And.intro (show (_ : Nat) ≤ 100000 from ?_) ?_); (focus (simp; done)))
  | ((with_reducible refine opd_I ?_ ?_); focus (first | omega | (show CDiv _ _; exact ⟨by omega, by omega⟩) | (show CMul _ _; first | exact Or.inl ⟨by omega, by omega⟩ | exact Or.inr ⟨by omega, by omega⟩))))
local macro_rules | `(tactic| walk_at "es") => `(tactic| repeat walk_at "e")
local macro_rules | `(tactic| walk_at "w") => `(tactic| try dsimp only [wipeE, List.foldl_cons, List.foldl_nil, List.set_cons_succ, List.set_cons_zero])
local macro_rules | `(tactic| walk_at "le") => `(tactic| repeat' first | exact LeE.nil | (refine LeE.eq rfl ?_) | (refine LeE.emp ?_) | (refine LeE.eq ?_ ?_))
local macro_rules | `(tactic| walk_at "no") => `(tactic| ((refine And.intro (fun hb => absurd hb ?_) (fun _ => ?_)); (focus (first | (exact Bool.false_ne_true) | (simp; done) | (simp; omega) | (simp only [decide_eq_true_eq]; omega)))))
local macro_rules | `(tactic| walk_at "yes") => `(tactic| ((refine And.intro (fun _ => ?_) (fun hb => absurd hb ?_)); (rotate_left); (focus (first | (exact Bool.noConfusion) | (simp; done) | (simp; omega) | (simp only [decide_eq_false_iff_not]; omega)))))
local macro_rules | `(tactic| walk_at "e") => `(tactic| first
  | ((with_reducible show EX (tOp (rIxA _) (tVar 0) (tC (.int 0))) _ _); refine ex_st0 rfl ?_)
  | ((with_reducible show EX (tOp (rIxA _) (tVar 0) (tC (.int 1))) _ _); refine ex_st1 rfl ?_))
theorem sx_draw (K : PySem.W.Frag) (S : Stt) (ds : List D) (Z : D → Stt → Prop) (h : R_draw S ds Z) :
    SX (T_draw K) (.st S :: (ds.map .val ++ List.replicate (6 - (ds.length + 1)) .emp)) { nx := fun ρ' => ∃ S', ρ'[0]? = some (.st S') ∧ Z .none S', rt := fun d ρ' => ∃ S', ρ'[0]? = some (.st S') ∧ Z d S' } := by
  obtain ⟨ns, m, rfl, ⟨m1, m2⟩, ok, z⟩ := h
  cases S with
  | cel a cs => exact ok.elim
  | dct kvs => exact ok.elim
  | grd rows => exact ok.elim
  | two a b =>
  obtain ⟨a0, b0⟩ := ok
  show SX (T_draw K) [.st (.two a b), .val (.list (ns.map .int)), .val (.int m), .emp, .emp, .emp] _
  have fin : ∀ (a b : Int) (s3 s4 : Slot), 0 ≤ a → 0 ≤ b → SX (T_dr3 K) [.st (.two a b), .val (.list (ns.map .int)), .val (.int m), s3, s4, .emp] { nx := fun ρ' => ∃ S', ρ'[0]? = some (.st S') ∧ Z .none S', rt := fun d ρ' => ∃ S', ρ'[0]? = some (.st S') ∧ Z d S' } := fun a b s3 s4 a0 b0 => by
    unfold T_dr3
    refine sx_seq (sx_asg (ex_op (ex_cb (ea_cons (ex_st1 rfl (ea_nil (cbd_int ?_)))))))
    walk_at "es"
    refine sx_st1 (ex_op (ex_st1 rfl ?_))
    walk_at "es"
    refine ⟨_, a, b, rfl, rfl, ?_⟩
    walk_at "es"
    exact z _ _ (Int.emod_nonneg _ (by omega)) (Int.emod_lt_of_pos _ (by omega)) ⟨a0, Int.ediv_nonneg b0 (by omega)⟩
  have fill : ∀ (cell : Int), SX (T_dr4 K) [.st (.two a b), .val (.list (ns.map .int)), .val (.int m), .val (.int cell), .emp, .emp] (({ nx := fun ρ' => ∃ S', ρ'[0]? = some (.st S') ∧ Z .none S', rt := fun d ρ' => ∃ S', ρ'[0]? = some (.st S') ∧ Z d S' } : Po).seq (T_dr3 K)) := fun cell => by
    unfold T_dr4
    walk_at "es"
    have v0 : ∀ x : Int, 0 ≤ x % 4294967291 := fun x => Int.emod_nonneg _ (by decide)
    refine sx_st1 ?_
    walk_at "es"
    refine ⟨_, a, b, rfl, rfl, ?_⟩
    walk_at "es"
    have last : ∀ (b' : Int) (s4 : Slot), 0 ≤ b' → SX (tAsg (tOp (rPlus K) (tOp (rIxA K) (tVar 0) (tC (.int 0))) (tC (.int 1))) (gSub (tVar 0) (tC (.int 0)) rSetL)) [.st (.two a b'), .val (.list (ns.map .int)), .val (.int m), .val (.int cell), s4, .emp] (({ nx := fun ρ' => ∃ S', ρ'[0]? = some (.st S') ∧ Z .none S', rt := fun d ρ' => ∃ S', ρ'[0]? = some (.st S') ∧ Z d S' } : Po).seq (T_dr3 K)) := fun b' s4 hb' => by
      refine sx_st0 ?_
      walk_at "es"
      refine ⟨_, a, b', rfl, rfl, ?_⟩
      exact nx_seq (fin _ _ _ _ (by omega) hb')
    refine opd_I (C := CPow) ⟨by decide, by decide, by decide⟩ ?_
    walk_at "es"
    refine ⟨fun hc => ?_, fun hc => ?_⟩
    · have hc := of_decide_eq_true hc
      have h18 : (0 : Int) ≤ 10 ^ (18 : Int).toNat := by decide
      walk_at "es"
      refine ⟨fun hd => ?_, fun hd => ?_⟩
      · refine sx_st1 ?_
        walk_at "es"
        refine ⟨_, a, _, rfl, rfl, ?_⟩
        exact nx_seq (last _ _ (by omega))
      · exact sx_next (nx_seq (last _ _ (v0 _)))
    · refine ⟨(fun q => by cases q), fun _ => ?_⟩
      exact sx_next (nx_seq (last _ _ (v0 _)))
  have second : ∀ (cell : Int), SX (T_dr2 K) [.st (.two a b), .val (.list (ns.map .int)), .val (.int m), .val (.int cell), .emp, .emp] (({ nx := fun ρ' => ∃ S', ρ'[0]? = some (.st S') ∧ Z .none S', rt := fun d ρ' => ∃ S', ρ'[0]? = some (.st S') ∧ Z d S' } : Po).seq (T_dr3 K)) := fun cell => by
    unfold T_dr2
    refine sx_seq (sx_if (et_test (ex_op ?_)))
    walk_at "es"
    refine ⟨fun hc => ?_, fun hc => ?_⟩
    · refine sx_asg (ex_op (ex_int (ex_op (ex_int ?_))))
      walk_at "es"
      exact fill _
    · exact sx_next (nx_seq (fill _))
  unfold T_draw
  walk_at "es"
  refine ⟨fun hb => ?_, fun hb => ?_⟩
  · walk_at "es"
    refine ⟨fun hc => ?_, fun hc => ?_⟩
    · have hc := of_decide_eq_true hc
      rw [List.length_map] at hc
      refine sx_asg (ex_op ?_)
      walk_at "es"
      rw [List.length_map]
      refine opd_I (C := fun _ j => 0 < j) hc ?_
      refine opd_ixM 0 (Int.emod_nonneg _ (by omega)) (Int.emod_lt_of_pos _ hc) ?_
      exact nx_seq (second _)
    · exact sx_next (nx_seq (second _))
  · exact sx_next (nx_seq (fin _ _ _ _ a0 b0))
end Pu
/-! Comprehensions of two clauses over data. -/
namespace Pu
open PySem L2
section
variable {B : Base} {ad : Nat → List Addr} {ρ ρ' : Pu.Env} {σ : St} {F H F' H' F1 H1 : Hp}
theorem WA.updD (w : WA B ad ρ σ F H) {p : Addr} {o : HO} (nb : B.H0 p = none) (nad : ∀ i, p ∉ ad i) (hF : F p = none) : WA B ad ρ σ F (upd H p o) := by
  have neF : ∀ a o, F a = some o → a ≠ p := fun a o q z => by rw [z, hF] at q; cases q
  refine ⟨⟨w.gr.ff, fun a o q => by rw [upd_ne (neF a o q)]; exact w.gr.fh a o q, fun a o q m => ?_, fun a q => ?_, w.gr.fr⟩, w.len, fun j s q => ?_, w.fz, w.dj, w.out, w.pin⟩
  · rw [upd_ne (fun z => by rw [z, nb] at q; cases q)]
    exact w.gr.kp a o q m
  · by_cases ha : a = p
    · rw [ha, upd_same]; intro z; cases z
    · rw [upd_ne ha]; exact w.gr.al a q
  · have k := w.sl j s q
    cases s with
    | emp => exact k
    | val d => exact k
    | own es =>
      obtain ⟨p', ws, a1, a2, a3, a4, a5⟩ := k
      refine ⟨p', ws, a1, a2, a3, ?_, a5⟩
      rw [upd_ne (fun z => nad j (by rw [a1, z]; simp))]
      exact a4
    | st S =>
      obtain ⟨s, a1, a2⟩ := k
      exact ⟨s, a1, a2.keep fun a m o e => by
        rw [upd_ne (fun z => nad j (by rw [← z]; exact m))]
        exact e⟩
theorem Post.updD (pt : Post B ad σ ρ F1 H1 ρ' F H) {p : Addr} {o : HO} (hD : H1 p = none) (nb : B.H0 p = none) (nad : ∀ i, p ∉ ad i) (hF : F p = none) : Post B ad σ ρ F1 H1 ρ' F (upd H p o) := by
  have ne1 : ∀ a o, H1 a = some o → a ≠ p := fun a o q z => by rw [z, hD] at q; cases q
  have neF : ∀ a o, F a = some o → a ≠ p := fun a o q z => by rw [z, hF] at q; cases q
  refine ⟨pt.wa.updD nb nad hF, ⟨pt.gr.ff, fun a o q => by rw [upd_ne (neF a o q)]; exact pt.gr.fh a o q, fun a o q m => by rw [upd_ne (ne1 a o q)]; exact pt.gr.kp a o q m, fun a q => ?_, pt.gr.fr⟩, pt.sh⟩
  by_cases ha : a = p
  · rw [ha, upd_same]; intro z; cases z
  · rw [upd_ne ha]; exact pt.gr.al a q
end
/-- a value's truth as a test -/
def tTru (K : PySem.W.Frag) (te : TE) : TT := fun σ H Q => te σ H fun x H' => ∃ k, TruV K x H' k ∧ Q k H'
theorem pt_tru {X : Cx} {a : Expr} {te : TE} (h : PT X a (fun σ H Q => te σ H fun x H' => ∃ k, TruV X.K x H' k ∧ Q k H')) : PT X a (tTru X.K te) := h
theorem et_truL {K : PySem.W.Frag} {ρ : Pu.Env} {te : TE} {Q : Bool → Pu.Env → Prop} (h : EX te ρ fun d ρ1 => ∃ ds, d = .list ds ∧ Q (!ds.isEmpty) ρ1) : ET (tTru K te) ρ Q := fun B ad σ F H w Z z =>
  h B ad σ F H w _ fun d ρ1 v F1 H1 q1 p1 r1 => by
    obtain ⟨ds, rfl, q⟩ := q1
    obtain ⟨a, xs, rfl, h1, h2⟩ := r1.lst_inv
    refine ⟨!ds.isEmpty, .inl ⟨xs, sqL_rd h1 p1.wa.gr.fh, ?_⟩, z _ ρ1 F1 H1 q p1⟩
    have e := h2.len
    cases xs <;> cases ds <;> simp at e <;> rfl
section
variable {ρ : Pu.Env} {wi wi1 : TI} {g g1 : TG} {tt tt1 : TT} {te : TE}
def lc2L {α β : Type} (f : α → Bool) (ys : α → List β) (f1 : α → β → Bool) (gg : α → β → D) (xs : List α) : List D := (xs.filter f).flatMap fun x => ((ys x).filter (f1 x)).map (gg x)
theorem lc2L_snoc {α β : Type} {f : α → Bool} {ys : α → List β} {f1 : α → β → Bool} {gg : α → β → D} {xs : List α} {x : α} : lc2L f ys f1 gg (xs ++ [x]) = lc2L f ys f1 gg xs ++ (if f x = true then ((ys x).filter (f1 x)).map (gg x) else []) := by
  unfold lc2L
  rw [List.filter_append, List.flatMap_append]
  cases h : f x <;> simp [List.filter_cons, h]
theorem lc2L_le {α β : Type} {f : α → Bool} {ys : α → List β} {f1 : α → β → Bool} {gg : α → β → D} {xs : List α} {k : Nat} {x : α} (hx : xs[k]? = some x) (hf : f x = true) (j : Nat) :
    (lc2L f ys f1 gg (xs.take k) ++ (((ys x).take j).filter (f1 x)).map (gg x)).length ≤ (lc2L f ys f1 gg xs).length := by
  have hk : k < xs.length := (List.getElem?_eq_some_iff.mp hx).1
  have e : xs = xs.take k ++ [x] ++ xs.drop (k + 1) := by
    have h1 : xs.take k ++ [x] = xs.take (k + 1) := by rw [List.take_add_one, hx]; rfl
    rw [h1, List.take_append_drop]
  have e2 : lc2L f ys f1 gg xs = lc2L f ys f1 gg (xs.take k) ++ (((ys x).filter (f1 x)).map (gg x) ++ lc2L f ys f1 gg (xs.drop (k + 1))) := by
    conv => lhs; rw [e]
    have : lc2L f ys f1 gg (xs.take k ++ [x] ++ xs.drop (k + 1)) = lc2L f ys f1 gg (xs.take k ++ [x]) ++ lc2L f ys f1 gg (xs.drop (k + 1)) := by
      unfold lc2L; rw [List.filter_append, List.flatMap_append]
    rw [this, lc2L_snoc, if_pos hf, List.append_assoc]
  rw [e2]
  simp only [List.length_append, List.length_map]
  have : (((ys x).take j).filter (f1 x)).length ≤ ((ys x).filter (f1 x)).length := (List.Sublist.filter _ (List.take_sublist _ _)).length_le
  omega
/-- [e for target in .. if .. for target1 in .. if ..], nothing changes -/
theorem eo_lc2P {α β : Type} {vs vs1 : List Nat} {Q : List D → Pu.Env → Prop} (f : α → Bool) (ys : α → List β) (f1 : α → β → Bool) (enc1 : α → β → D) (gg : α → β → D) (h : EI wi ρ fun ds ρ1 => ∃ (xs : List α) (enc : α → D), ds = xs.map enc ∧ (lc2L f ys f1 gg xs).length < 1000000 ∧ Plain ρ1 vs ∧
    (∀ x ∈ xs, SG vs g (enc x) (wipeE ρ1 vs) fun ρ2 => unw vs ρ1 ρ2 = ρ1 ∧ Plain ρ2 vs1 ∧ ET tt ρ2 fun b ρ3 => b = f x ∧ ρ3 = ρ2 ∧ (f x = true → EI wi1 ρ2 fun ds1 ρ4 => ds1 = (ys x).map (enc1 x) ∧ ρ4 = ρ2 ∧
      ∀ y ∈ ys x, SG vs1 g1 (enc1 x y) (wipeE ρ2 vs1) fun ρ5 => unw vs1 ρ2 ρ5 = ρ2 ∧ ET tt1 ρ5 fun b ρ6 => b = f1 x y ∧ ρ6 = ρ5 ∧ (f1 x y = true → EX te ρ5 fun e ρ7 => e = gg x y ∧ ρ7 = ρ5))) ∧ Q (lc2L f ys f1 gg xs) ρ1) : EO (tLc2 wi g tt wi1 g1 tt1 te vs vs1) ρ Q := fun B ad σ F H w Z z => by
  refine h B ad σ F H w _ fun ds ρ1 J F1 H1 q1 p1 it => ?_
  obtain ⟨xs, enc, rfl, hz, pl, turn, done⟩ := q1
  intro Dl hD
  have hDH : H Dl = none := by
    cases q : H Dl with
    | none => rfl
    | some o => exact absurd hD (p1.gr.al Dl (by rw [q]; intro z; cases z))
  have nw := p1.wa.newp hD
  have nms : ∀ (ρ2 : Pu.Env), ¬ MS ad ρ2 Dl := fun ρ2 ⟨j, S, _, m⟩ => nw.2.2 j m
  let Inv := fun (i : Nat) (H' : Hp) => ∃ F' vs', Post B ad σ ρ1 F1 H1 ρ1 F' H' ∧ F' Dl = none ∧ H' Dl = some (.lst vs') ∧ RpA F' vs' (lc2L f ys f1 gg (xs.take i))
  refine ⟨fun i m H' => m = (xs.map enc).length - i ∧ i ≤ (xs.map enc).length ∧ Inv i H', ⟨_, rfl, Nat.zero_le _, F1, [], Post.of p1.wa (Gr.heap p1.wa.gr.fh (same_upd hD)), nw.1, upd_same, .nil⟩, ?_⟩
  rintro i m H' ⟨rfl, hi, F', vs', P, hF, hH, ra⟩
  by_cases hlt : i < (xs.map enc).length
  · refine .inr ⟨it.go i H' (P.gr.ff.trans P.wa.gr.fh) hlt, fun H2 => Inv (i + 1) H2, fun H2 k => ⟨(xs.map enc).length - (i + 1), by omega, rfl, hlt, k⟩, fun x H2 y => ?_⟩
    obtain ⟨d, F2, e, gr, rx⟩ := it.yld i H' x H2 F' P.gr.ff P.wa.gr.fh y hlt
    rw [List.getElem?_map] at e
    obtain ⟨a, ex, rfl⟩ : ∃ a, xs[i]? = some a ∧ enc a = d := by
      cases hx : xs[i]? with
      | none => rw [hx] at e; cases e
      | some a => rw [hx] at e; exact ⟨a, rfl, Option.some.inj e⟩
    have hm : a ∈ xs := List.mem_of_getElem? ex
    have et : xs.take (i + 1) = xs.take i ++ [a] := by rw [List.take_add_one, ex]; rfl
    have P2 := P.trans (Post.of P.wa gr)
    have w2 := P.wa.grow gr
    have hF2 : F2 Dl = none := gr.fr Dl (by rw [hH]; intro z; cases z) hF
    have hH2 : H2 Dl = some (.lst vs') := gr.kp Dl _ hH id
    refine turn a hm B ad (wipe σ vs) F2 H2 x (w2.wiped pl) (pl.ad w2) rx _ fun ρ2 σ2 q wb e2 fr => ?_
    obtain ⟨un2, pl1, q⟩ := q
    have e2' : wipe σ2 vs = wipe σ vs := by
      rw [e2]
      apply List.ext_getElem?
      intro j
      rw [wipe_get, wipe_get, wipe_length]
      split
      · rfl
      · first | rfl | rw [wipe_get, if_neg (by assumption)]
    refine ⟨e2', q B ad σ2 F2 H2 wb _ fun b ρ3 F3 H3 q3 p3 => ?_⟩
    obtain ⟨rfl, rfl, q3⟩ := q3
    cases hb : f a with
    | false =>
      show Inv (i + 1) H3
      have pu := Post.unwiped w2 pl e2' fr wb p3
      rw [un2] at pu
      refine ⟨F3, vs', P2.trans pu, p3.gr.fr Dl (by rw [hH2]; intro z; cases z) hF2, p3.gr.kp Dl _ hH2 (nms _), ?_⟩
      rw [et, lc2L_snoc, if_neg (by rw [hb]; decide), List.append_nil]
      exact ra.up (gr.ff.trans p3.gr.ff)
    | true =>
      show wi1 σ2 H3 _
      refine q3 hb B ad σ2 F3 H3 p3.wa _ fun ds1 ρ4 J1 F4 H4 q4 p4 it1 => ?_
      obtain ⟨rfl, rfl, turn1⟩ := q4
      have p34 := p3.trans p4
      have pu := Post.unwiped w2 pl e2' fr wb p34
      rw [un2] at pu
      let Inv1 := fun (j : Nat) (H' : Hp) => ∃ F' vs', Post B ad σ ρ1 F1 H1 ρ1 F' H' ∧ WA B ad ρ4 σ2 F' H' ∧ Same F4 F' ∧ F' Dl = none ∧ H' Dl = some (.lst vs') ∧ RpA F' vs' (lc2L f ys f1 gg (xs.take i) ++ (((ys a).take j).filter (f1 a)).map (gg a))
      refine ⟨fun j k H' => k = ((ys a).map (enc1 a)).length - j ∧ j ≤ ((ys a).map (enc1 a)).length ∧ Inv1 j H', ⟨_, rfl, Nat.zero_le _, F4, vs', P2.trans pu, p34.wa, Same.refl F4, p34.gr.fr Dl (by rw [hH2]; intro z; cases z) hF2, p34.gr.kp Dl _ hH2 (nms _), by
        show RpA F4 vs' (lc2L f ys f1 gg (xs.take i) ++ [])
        rw [List.append_nil]; exact ra.up (gr.ff.trans p34.gr.ff)⟩, ?_⟩
      rintro j k H5 ⟨rfl, hj, F5, vs5, P5, w5, f45, hF5, hH5, ra5⟩
      by_cases hl1 : j < ((ys a).map (enc1 a)).length
      · refine .inr ⟨it1.go j H5 (f45.trans w5.gr.fh) hl1, fun H6 => Inv1 (j + 1) H6, fun H6 k => ⟨((ys a).map (enc1 a)).length - (j + 1), by omega, rfl, hl1, k⟩, fun x1 H6 y1 => ?_⟩
        obtain ⟨d1, F6, e1, gr1, rx1⟩ := it1.yld j H5 x1 H6 F5 f45 w5.gr.fh y1 hl1
        rw [List.getElem?_map] at e1
        obtain ⟨c, ec, rfl⟩ : ∃ c, (ys a)[j]? = some c ∧ enc1 a c = d1 := by
          cases hx : (ys a)[j]? with
          | none => rw [hx] at e1; cases e1
          | some c => rw [hx] at e1; exact ⟨c, rfl, Option.some.inj e1⟩
        have hc : c ∈ ys a := List.mem_of_getElem? ec
        have et1 : (ys a).take (j + 1) = (ys a).take j ++ [c] := by rw [List.take_add_one, ec]; rfl
        have P6 := P5.trans (Post.of P5.wa gr1)
        have w6 := w5.grow gr1
        have hF6 : F6 Dl = none := gr1.fr Dl (by rw [hH5]; intro z; cases z) hF5
        have hH6 : H6 Dl = some (.lst vs5) := gr1.kp Dl _ hH5 id
        refine turn1 c hc B ad (wipe σ2 vs1) F6 H6 x1 (w6.wiped pl1) (pl1.ad w6) rx1 _ fun ρ5 σ5 q wb5 e5 fr5 => ?_
        obtain ⟨un5, q⟩ := q
        have e5' : wipe σ5 vs1 = wipe σ2 vs1 := by
          rw [e5]
          apply List.ext_getElem?
          intro j
          rw [wipe_get, wipe_get, wipe_length]
          split
          · rfl
          · first | rfl | rw [wipe_get, if_neg (by assumption)]
        refine ⟨e5', q B ad σ5 F6 H6 wb5 _ fun b ρ6 F7 H7 q6 p6 => ?_⟩
        obtain ⟨rfl, rfl, q6⟩ := q6
        have low : ∀ {F8 H8 : Hp}, Post B ad σ5 ρ6 F6 H6 ρ6 F8 H8 → Post B ad σ2 ρ4 F6 H6 ρ4 F8 H8 ∧ Post B ad σ ρ1 F6 H6 ρ1 F8 H8 := fun p => by
          have a1 := Post.unwiped w6 pl1 e5' fr5 wb5 p
          rw [un5] at a1
          have a2 := Post.unwiped P6.wa pl e2' fr w6 a1
          rw [un2] at a2
          exact ⟨a1, a2⟩
        cases hb1 : f1 a c with
        | false =>
          show Inv1 (j + 1) H7
          obtain ⟨a1, a2⟩ := low p6
          refine ⟨F7, vs5, P6.trans a2, a1.wa, f45.trans (gr1.ff.trans p6.gr.ff), p6.gr.fr Dl (by rw [hH6]; intro z; cases z) hF6, p6.gr.kp Dl _ hH6 (nms _), ?_⟩
          rw [et1, List.filter_append, List.filter_cons, if_neg (by rw [hb1]; decide), List.filter_nil, List.append_nil]
          exact ra5.up (gr1.ff.trans p6.gr.ff)
        | true =>
          show te σ5 H7 _
          refine q6 hb1 B ad σ5 F7 H7 p6.wa _ fun e ρ7 v F8 H8 q7 p7 rv => ?_
          obtain ⟨rfl, rfl⟩ := q7
          obtain ⟨a1, a2⟩ := low (p6.trans p7)
          have p67 := p6.trans p7
          have hF8 : F8 Dl = none := p67.gr.fr Dl (by rw [hH6]; intro z; cases z) hF6
          have hH8 : H8 Dl = some (.lst vs5) := p67.gr.kp Dl _ hH6 (nms _)
          have ra8 := (ra5.up (gr1.ff.trans p67.gr.ff)).app (.cons rv .nil)
          refine ⟨vs5, hH8, Nat.lt_of_lt_of_le (by rw [ra5.len]; exact Nat.lt_of_le_of_lt (lc2L_le ex hb j) hz) (by decide), ?_⟩
          show Inv1 (j + 1) _
          refine ⟨F8, vs5 ++ [v], (P6.trans a2).updD hD nw.2.1 nw.2.2 hF8, a1.wa.updD nw.2.1 nw.2.2 hF8, f45.trans (gr1.ff.trans p67.gr.ff), hF8, upd_same, ?_⟩
          rw [et1, List.filter_append, List.map_append, List.filter_cons, if_pos hb1, List.filter_nil, ← List.append_assoc]
          exact ra8
      · have e : j = (ys a).length := by rw [List.length_map] at hl1 hj; omega
        subst e
        rw [List.take_length] at ra5
        refine .inl ⟨it1.stop _ H5 (f45.trans w5.gr.fh) (by rw [List.length_map]; exact Nat.le_refl _), ?_⟩
        show Inv (i + 1) H5
        refine ⟨F5, vs5, P5, hF5, hH5, ?_⟩
        rw [et, lc2L_snoc, if_pos hb]
        exact ra5
  · have e : i = xs.length := by rw [List.length_map] at hlt hi; omega
    subst e
    rw [List.take_length] at ra
    exact .inl ⟨it.stop _ H' (P.gr.ff.trans P.wa.gr.fh) (by rw [List.length_map]; exact Nat.le_refl _), z _ ρ1 Dl vs' F' H' done (p1.trans P) hF hDH hH ra⟩
end
end Pu
namespace Pu
open PySem L2
theorem ex_val {te : TE} {ρ : Pu.Env} {Q : D → Pu.Env → Prop} (d0 : D) (h : EX te ρ fun d ρ' => d = d0 ∧ ρ' = ρ) (q : Q d0 ρ) : EX te ρ Q := h.imp fun d ρ' e => by rw [e.1, e.2]; exact q
theorem et_val {tt : TT} {ρ : Pu.Env} {Q : Bool → Pu.Env → Prop} (b0 : Bool) (h : ET tt ρ fun b ρ' => b = b0 ∧ ρ' = ρ) (q : Q b0 ρ) : ET tt ρ Q := et_imp h fun b ρ' e => by rw [e.1, e.2]; exact q
theorem sx_mid {t u : TS} {ρ : Pu.Env} {P : Po} (ρ1 : Pu.Env) (h : SX t ρ { nx := fun ρ' => ρ' = ρ1, rt := fun _ _ => False }) (k : SX u ρ1 P) : SX (tSeq t u) ρ P := sx_seq fun B σ F H w Dn n r b c =>
  h B σ F H w Dn (fun ρ' σ' F' H' e w' => n ρ' σ' F' H' (by rw [e]; exact k) w') (fun _ _ _ _ _ _ q => q.elim) (fun _ _ _ _ q => q.elim) (fun _ _ _ _ q => q.elim)
/-- the same with what holds of the slots behind t -/
theorem sx_midP {t u : TS} {ρ : Pu.Env} {P : Po} (J : Pu.Env → Prop) (h : SX t ρ { nx := J, rt := fun _ _ => False }) (k : ∀ ρ1, J ρ1 → SX u ρ1 P) : SX (tSeq t u) ρ P := sx_seq fun B σ F H w Dn n r b c =>
  h B σ F H w Dn (fun ρ' σ' F' H' e w' => n ρ' σ' F' H' (k ρ' e) w') (fun _ _ _ _ _ _ q => q.elim) (fun _ _ _ _ q => q.elim) (fun _ _ _ _ q => q.elim)
theorem cbd_intB {b : Bool} {Q : D → Prop} (k : Q (.int (if b then 1 else 0))) : CbD rInt [.bool b] Q := fun F H vs e r Z z => by
  obtain ⟨v, rfl, rv⟩ := r.one
  cases rv.bl_inv
  exact .inr ⟨_, rfl, z _ _ F H k (Gr.refl e) (.int _)⟩
theorem last_at (ds : List D) (d : D) : atI (ds ++ [d]) (-1) = some d := by
  have e : ixN (ds.length + 1) (-1) = some ds.length := by
    unfold ixN
    simp
    omega
  simp [atI, e]
theorem enum_zip {α : Type} (f : α → D) : ∀ (k : Nat) (xs : List α), enumD k (xs.map f) = (xs.zipIdx k).map fun p => .tuple [.int (p.2 : Int), f p.1]
  | _, [] => rfl
  | k, x :: xs => by
    rw [List.map_cons, List.zipIdx_cons, List.map_cons, ← enum_zip f (k + 1) xs]
    rfl
theorem enum_at {α : Type} {f : α → D} {xs : List α} {k : Nat} {d : D} (h : (enumD 0 (xs.map f))[k]? = some d) : ∃ x, xs[k]? = some x ∧ d = .tuple [.int (k : Int), f x] := by
  rw [enum_zip, List.getElem?_map, List.getElem?_zipIdx] at h
  cases e : xs[k]? with
  | none => rw [e] at h; simp at h
  | some x =>
    rw [e] at h
    simp at h
    exact ⟨x, rfl, h.symm⟩
theorem enum_len {α : Type} {f : α → D} {xs : List α} : (enumD 0 (xs.map f)).length = xs.length := by rw [enum_zip, List.length_map, List.length_zipIdx]
theorem find_first {α : Type} {g : Nat → Option α} {n k : Nat} {d : α} (hk : k < n) (h : ∀ j, j < k → g j = none) (e : g k = some d) : (List.range n).findSome? g = some d := by
  obtain ⟨m, rfl⟩ : ∃ m, n = k + 1 + m := ⟨n - (k + 1), by omega⟩
  rw [List.range_add, List.range_succ, List.findSome?_append, List.findSome?_append]
  have : (List.range k).findSome? g = none := List.findSome?_eq_none_iff.mpr fun x hx => h x (List.mem_range.mp hx)
  rw [this]
  simp [e]
theorem find_no {α : Type} {g : Nat → Option α} {n : Nat} (h : ∀ j, j < n → g j = none) : (List.range n).findSome? g = none := List.findSome?_eq_none_iff.mpr fun x hx => h x (List.mem_range.mp hx)
theorem fmin_all : ∀ (ns : List Int) (a : Int), ns.foldl min a ≤ a ∧ (∀ x ∈ ns, ns.foldl min a ≤ x) ∧ (ns.foldl min a = a ∨ ns.foldl min a ∈ ns)
  | [], a => ⟨Int.le_refl _, ⟨(fun _ h => by cases h), Or.inl rfl⟩⟩
  | n :: ns, a => by
    obtain ⟨h1, h2, h3⟩ := fmin_all ns (min a n)
    rw [List.foldl_cons]
    refine ⟨by omega, fun x hx => ?_, ?_⟩
    · rcases List.mem_cons.mp hx with rfl | q
      · omega
      · exact h2 x q
    · rcases h3 with q | q
      · rcases (show min a n = a ∨ min a n = n by omega) with z | z
        · left; rw [q, z]
        · right; rw [q, z]; simp
      · right; exact List.mem_cons_of_mem _ q
theorem foldMin_is {ns : List Int} {m : Int} (hm : m ∈ ns) (h : ∀ x ∈ ns, m ≤ x) : foldMin ns = m := by
  cases ns with
  | nil => cases hm
  | cons n ns =>
    show ns.foldl min n = m
    obtain ⟨h1, h2, h3⟩ := fmin_all ns n
    have a : ns.foldl min n ≤ m := by
      rcases List.mem_cons.mp hm with rfl | q
      · exact h1
      · exact h2 m q
    have b : m ≤ ns.foldl min n := by
      rcases h3 with q | q
      · rw [q]; exact h n (by simp)
      · exact h _ (List.mem_cons_of_mem _ q)
    omega
theorem foldMin_le {ns : List Int} {x : Int} (hm : x ∈ ns) : foldMin ns ≤ x := by
  cases ns with
  | nil => cases hm
  | cons n ns =>
    show ns.foldl min n ≤ x
    obtain ⟨h1, h2, h3⟩ := fmin_all ns n
    rcases List.mem_cons.mp hm with rfl | q
    · exact h1
    · exact h2 x q
theorem foldMin_mem {ns : List Int} (h : 0 < ns.length) : foldMin ns ∈ ns := by
  cases ns with
  | nil => simp at h
  | cons n ns =>
    show ns.foldl min n ∈ n :: ns
    rcases (fmin_all ns n).2.2 with q | q
    · rw [q]; simp
    · exact List.mem_cons_of_mem _ q
theorem take_snoc' {α : Type} {l : List α} {k : Nat} {x : α} (h : l[k]? = some x) : l.take (k + 1) = l.take k ++ [x] := by rw [List.take_add_one, h]; rfl
theorem get_D {α : Type} {l : List α} {k : Nat} {a : α} (h : k < l.length) : l[k]? = some (l.getD k a) := by rw [List.getD_eq_getElem?_getD]; simp [h]
theorem mem_D {α : Type} {l : List α} {k : Nat} {a : α} (h : k < l.length) : l.getD k a ∈ l := List.mem_of_getElem? (get_D h)
theorem flat_snoc' {α β : Type} {l : List α} {x : α} {f : α → List β} : (l ++ [x]).flatMap f = l.flatMap f ++ f x := by simp
theorem eqv_encP (u v : Int × Int) : PyData.eqv (encP u) (encP v) = decide (u = v) := by
  show PyData.eqvAll [.int u.1, .int u.2] [.int v.1, .int v.2] = _
  simp only [PyData.eqvAll, PyData.eqv, Bool.and_true]
  by_cases h : u = v
  · subst h; simp
  · rw [decide_eq_false h]
    by_cases h1 : u.1 = v.1
    · have h2 : u.2 ≠ v.2 := fun q => h (Prod.ext h1 q)
      simp [h2]
    · simp [h1]
theorem any_encP (ws : List (Int × Int)) (w : Int × Int) : ((ws.map encP).any fun y => PyData.eqv y (encP w)) = decide (w ∈ ws) := by
  rw [Bool.eq_iff_iff, List.any_eq_true, decide_eq_true_eq]
  constructor
  · rintro ⟨x, hx, e⟩
    obtain ⟨u, hu, rfl⟩ := List.mem_map.mp hx
    rw [eqv_encP, decide_eq_true_eq] at e
    rwa [← e]
  · intro h
    exact ⟨encP w, List.mem_map.mpr ⟨w, h, rfl⟩, by rw [eqv_encP]; simp⟩
theorem eqv_listP : ∀ (xs ys : List (Int × Int)), PyData.eqvAll (xs.map encP) (ys.map encP) = decide (xs = ys)
  | [], [] => by simp [PyData.eqvAll]
  | [], _ :: _ => by simp [PyData.eqvAll]
  | _ :: _, [] => by simp [PyData.eqvAll]
  | x :: xs, y :: ys => by
    rw [List.map_cons, List.map_cons, PyData.eqvAll, eqv_encP, eqv_listP xs ys]
    by_cases h1 : x = y <;> by_cases h2 : xs = ys <;> simp [h1, h2]
theorem eqv_LP (xs ys : List (Int × Int)) : PyData.eqv (.list (xs.map encP)) (.list (ys.map encP)) = decide (xs = ys) := by
  show PyData.eqvAll _ _ = _
  exact eqv_listP xs ys
/-- l.index(x) of data -/
theorem mtd_indexD {K : PySem.W.Frag} {ds : List D} {d z : D} {j : Nat} {Q : D → Prop} (s1 : PySem.SeqAt.shaped (.list ds) = true) (s2 : PySem.SeqAt.shaped d = true) (hz : ds[j]? = some z) (he : PyData.eqv z d = true)
    (hno : ∀ (m : Nat) (z' : D), m < j → ds[m]? = some z' → PyData.eqv z' d = false) (k : Q (.int (j : Nat))) : MtD (rIndexD K) (.list ds) [d] Q := fun F H x vs e r rv Z z' => by
  obtain ⟨v, rfl, rv1⟩ := rv.one
  have r' := r.dp (K := K) e
  obtain ⟨a, xs, rfl, h1, h2⟩ := r.lst_inv
  exact ⟨a, v, d, ds, j, z, rfl, rfl, r', rv1.dp e, s1, s2, hz, he, hno, z' _ _ F H k (Gr.refl e) (.int _)⟩
theorem lay_encP (xs : List (Int × Int)) : PyData.canLayAll0 (xs.map encP) = true := by
  induction xs with
  | nil => simp [PyData.canLayAll0]
  | cons x xs ih => rw [List.map_cons, PyData.canLayAll0, ih]; simp [encP, PyData.canLay0, PyData.canLayAll0]
theorem mtd_indexP {K : PySem.W.Frag} {ws : List (Int × Int)} {w : Int × Int} {Q : D → Prop} (hw : w ∈ ws) (k : Q (.int (ws.idxOf w : Nat))) : MtD (rIndexD K) (.list (ws.map encP)) [encP w] Q := by
  have hl : ws.idxOf w < ws.length := List.idxOf_lt_length_iff.mpr hw
  have d1 : (PyData.list (ws.map encP)).depth ≤ 64 := by
    have h : DpN 3 (PyData.list (ws.map encP)) := dpn_list (dpn_map fun x _ => dpn_tup (dpn_cons dpn_int (dpn_cons dpn_int dpn_nil)))
    exact Nat.le_trans h (by decide)
  have d2 : (encP w).depth ≤ 64 := by
    have h : DpN 2 (encP w) := dpn_tup (dpn_cons dpn_int (dpn_cons dpn_int dpn_nil))
    exact Nat.le_trans h (by decide)
  refine mtd_indexD (z := encP w) (j := ws.idxOf w) ?_ ?_ ?_ ?_ (fun m z' hm hz => ?_) k
  · unfold PySem.SeqAt.shaped
    rw [decide_eq_true d1, Bool.and_true]
    show PyData.canLayAll0 _ = true
    exact lay_encP ws
  · unfold PySem.SeqAt.shaped
    rw [decide_eq_true d2, Bool.and_true]
    simp [encP, PyData.canLay0, PyData.canLayAll0]
  · rw [List.getElem?_map, List.getElem?_eq_getElem hl, List.getElem_idxOf hl]; rfl
  · rw [eqv_encP]; simp
  · rw [List.getElem?_map, List.getElem?_eq_getElem (by omega)] at hz
    cases hz
    rw [eqv_encP, decide_eq_false_iff_not]
    have := List.not_of_lt_findIdx (p := fun x => x == w) hm
    simpa using this
theorem enum_rng {α : Type} {f : α → D} (a : α) (xs : List α) : enumD 0 (xs.map f) = (rngI 0 xs.length).map fun k => .tuple [.int k, f (xs.getD k.toNat a)] := by
  refine List.ext_getElem? fun k => ?_
  rw [enum_zip, List.getElem?_map, List.getElem?_zipIdx, List.getElem?_map]
  by_cases h : k < xs.length
  · rw [rngI_get h, get_D (a := a) h]
    simp
  · rw [List.getElem?_eq_none (by omega), List.getElem?_eq_none (by rw [rngI_len]; omega)]
    rfl
theorem units65 {k : Nat} {A : Around} (r : Room k A) : A.units + 65 < cLine := by have := r.un; omega
end Pu
/-! PuN: a list of lists of ints and None that is changed within: a state (Stt.grd) from a comprehension [list(x) for x in ..], read, changed, frozen. -/
namespace Pu
open PySem L2
def optD : Option Int → D
  | none => .none
  | some i => .int i
def rowD (row : List (Option Int)) : D := .list (row.map optD)
theorem rp_ov (F : Hp) (x : Option Int) : Rp F (ov x) (optD x) := by
  cases x with
  | none => exact .non
  | some i => exact .int i
theorem ov_inv {F : Hp} {v : V} {x : Option Int} (h : Rp F v (optD x)) : v = ov x := by
  cases x with
  | none => exact h.non_inv
  | some i => exact h.int_inv
theorem rpa_ov (F : Hp) : ∀ row : List (Option Int), RpA F (row.map ov) (row.map optD)
  | [] => .nil
  | x :: row => .cons (rp_ov F x) (rpa_ov F row)
theorem ovs_inv {F : Hp} : ∀ {row : List (Option Int)} {vs : List V}, RpA F vs (row.map optD) → vs = row.map ov
  | [], _, h => by cases h; rfl
  | x :: row, _, h => by
    cases h with
    | cons h1 h2 => rw [ov_inv h1, ovs_inv h2]; rfl
theorem GrA.len {H : Hp} : ∀ {qs : List Addr} {rows : List (List (Option Int))}, GrA H qs rows → qs.length = rows.length
  | [], [], _ => rfl
  | q :: qs, r :: rows, h => by rw [List.length_cons, List.length_cons, GrA.len h.2]
  | [], _ :: _, h => h.elim
  | _ :: _, [], h => h.elim
theorem GrA.get {H : Hp} : ∀ {qs : List Addr} {rows : List (List (Option Int))} {i : Nat} {r : List (Option Int)}, GrA H qs rows → rows[i]? = some r → ∃ q, qs[i]? = some q ∧ H q = some (.lst (r.map ov))
  | q :: qs, r :: rows, 0, _, h, e => by
    cases e
    exact ⟨q, rfl, h.1⟩
  | q :: qs, r :: rows, i + 1, r', h, e => by
    have := GrA.get h.2 (show rows[i]? = some r' by simpa using e)
    simpa using this
  | [], [], _, _, _, e => by simp at e
  | [], _ :: _, _, _, h, _ => h.elim
  | _ :: _, [], _, _, h, _ => h.elim
theorem GrA.app {H : Hp} {l : Addr} {r : List (Option Int)} (hl : H l = some (.lst (r.map ov))) : ∀ {qs : List Addr} {rows : List (List (Option Int))}, GrA H qs rows → GrA H (qs ++ [l]) (rows ++ [r])
  | [], [], _ => ⟨hl, trivial⟩
  | q :: qs, s :: rows, h => ⟨h.1, GrA.app hl h.2⟩
  | [], _ :: _, h => h.elim
  | _ :: _, [], h => h.elim
theorem GrA.out {H : Hp} {p : Addr} {o : HO} : ∀ {qs : List Addr} {rows : List (List (Option Int))}, p ∉ qs → GrA H qs rows → GrA (upd H p o) qs rows
  | [], [], _, _ => trivial
  | q :: qs, r :: rows, hn, h => ⟨by rw [upd_ne (fun e => hn (by rw [e]; simp))]; exact h.1, GrA.out (fun m => hn (by simp [m])) h.2⟩
  | [], _ :: _, _, h => h.elim
  | _ :: _, [], _, h => h.elim
theorem GrA.set {H : Hp} {r' : List (Option Int)} : ∀ {qs : List Addr} {rows : List (List (Option Int))} {i : Nat} {q : Addr}, qs.Nodup → GrA H qs rows → qs[i]? = some q → GrA (upd H q (.lst (r'.map ov))) qs (rows.set i r')
  | p :: qs, r :: rows, 0, _, nd, h, e => by
    cases e
    rw [List.nodup_cons] at nd
    exact ⟨upd_same, GrA.out nd.1 h.2⟩
  | p :: qs, r :: rows, i + 1, q, nd, h, e => by
    rw [List.nodup_cons] at nd
    have e : qs[i]? = some q := by simpa using e
    refine ⟨?_, GrA.set nd.2 h.2 e⟩
    rw [upd_ne (fun z => nd.1 (by rw [z]; exact List.mem_of_getElem? e))]
    exact h.1
  | [], [], _, _, _, _, e => by simp at e
  | [], _ :: _, _, _, _, h, _ => h.elim
  | _ :: _, [], _, _, _, h, _ => h.elim
/-- an expression that makes a state -/
def EN (te : TE) (ρ : Pu.Env) (Q : Stt → Pu.Env → Prop) : Prop := ∀ B ad σ F H, WA B ad ρ σ F H → ∀ Z : VK,
  (∀ S s as ρ1 F1 H1 F' H', Q S ρ1 → Post B ad σ ρ F H ρ1 F1 H1 → Gr Non F1 H1 F' H' → StAt H' S s as → (∀ a ∈ as, F' a = none ∧ H1 a = none) → Z (.ref s) H') → te σ H Z
section
variable {ρ : Pu.Env} {P : Po} {te tb tc : TE} {t : TS} {K : PySem.W.Frag}
theorem WA.setVal2 {B : Base} {ad : Nat → List Addr} {ρ : Pu.Env} {σ : St} {F H : Hp} (w : WA B ad ρ σ F H) (i : Nat) {d : D} {v : V} (r : Rp F v d) : WA B (fun k => if k = i then [] else ad k) (ρ.set i (.val d)) (σ.set i (some v)) F H := by
  refine ⟨w.gr, by rw [List.length_set, List.length_set]; exact w.len, fun j s e => ?_, fun j p m => ?_, fun j1 j2 q m1 m2 => ?_, fun j e => ?_, w.pin.to fun S e => by
    rcases get_set e with ⟨_, q⟩ | ⟨hj, e⟩
    · cases q
    · exact ⟨⟨S, e⟩, List.getElem?_set_ne (Ne.symm hj), if_neg hj⟩⟩
  · rcases get_set e with ⟨rfl, rfl⟩ | ⟨hj, e'⟩
    · have hi : j < σ.length := by
        have := (List.getElem?_eq_some_iff.mp e).1
        rw [List.length_set] at this
        rw [w.len]; exact this
      exact ⟨if_pos rfl, v, List.getElem?_set_self hi, r⟩
    · rw [if_neg hj, List.getElem?_set_ne (Ne.symm hj)]
      exact w.sl j s e'
  · by_cases hj : j = i
    · simp [hj] at m
    · simp only [if_neg hj] at m
      exact w.fz j p m
  · by_cases h1 : j1 = i
    · simp [h1] at m1
    · by_cases h2 : j2 = i
      · simp [h2] at m2
      · simp only [if_neg h1] at m1
        simp only [if_neg h2] at m2
        exact w.dj j1 j2 q m1 m2
  · show (if j = i then [] else ad j) = []
    by_cases hj : j = i
    · rw [if_pos hj]
    · rw [if_neg hj]
      exact w.out j (get_set' e)
theorem WA.setOwn2 {B : Base} {ad : Nat → List Addr} {ρ : Pu.Env} {σ : St} {F H : Hp} (w : WA B ad ρ σ F H) (i : Nat) {ds : List D} {p : Addr} {vs : List V} (hF : F p = none) (h0 : B.H0 p = none) (hn : ∀ i, p ∉ ad i) (hp : H p = some (.lst vs)) (r : RpA F vs ds) :
    WA B (fun k => if k = i then (if i < ρ.length then [p] else []) else ad k) (ρ.set i (.own ds)) (σ.set i (some (.ref p))) F H := by
  refine ⟨w.gr, by rw [List.length_set, List.length_set]; exact w.len, fun j s e => ?_, fun j q m => ?_, fun j1 j2 q m1 m2 => ?_, fun j e => ?_, w.pin.to fun S e => by
    rcases get_set e with ⟨_, q⟩ | ⟨hj, e⟩
    · cases q
    · exact ⟨⟨S, e⟩, List.getElem?_set_ne (Ne.symm hj), if_neg hj⟩⟩
  · rcases get_set e with ⟨rfl, rfl⟩ | ⟨hj, e'⟩
    · have hi : j < ρ.length := by
        have := (List.getElem?_eq_some_iff.mp e).1
        rwa [List.length_set] at this
      exact ⟨p, vs, by rw [if_pos rfl, if_pos hi], h0, List.getElem?_set_self (by rw [w.len]; exact hi), hp, r⟩
    · rw [if_neg hj, List.getElem?_set_ne (Ne.symm hj)]
      exact w.sl j s e'
  · by_cases hj : j = i
    · simp only [if_pos hj] at m
      by_cases hi : i < ρ.length
      · simp only [if_pos hi, List.mem_singleton] at m
        subst m
        exact ⟨hF, .inl h0⟩
      · simp [if_neg hi] at m
    · simp only [if_neg hj] at m
      exact w.fz j q m
  · have g : ∀ j, q ∈ (if j = i then (if i < ρ.length then [p] else []) else ad j) → (j = i ∧ q = p) ∨ (j ≠ i ∧ q ∈ ad j) := fun j m => by
      by_cases hj : j = i
      · simp only [if_pos hj] at m
        by_cases hi : i < ρ.length
        · simp only [if_pos hi, List.mem_singleton] at m
          exact .inl ⟨hj, m⟩
        · simp [if_neg hi] at m
      · simp only [if_neg hj] at m
        exact .inr ⟨hj, m⟩
    rcases g j1 m1 with ⟨a1, b1⟩ | ⟨a1, b1⟩ <;> rcases g j2 m2 with ⟨a2, b2⟩ | ⟨a2, b2⟩
    · rw [a1, a2]
    · exact absurd (b1 ▸ b2) (hn j2)
    · exact absurd (b2 ▸ b1) (hn j1)
    · exact w.dj j1 j2 q b1 b2
  · show (if j = i then (if i < ρ.length then [p] else []) else ad j) = []
    have e' := get_set' e
    by_cases hj : j = i
    · subst hj
      rw [if_pos rfl, if_neg (by rw [List.getElem?_eq_none_iff] at e'; omega)]
    · rw [if_neg hj]
      exact w.out j e'
theorem WA.setSt2 {B : Base} {ad : Nat → List Addr} {ρ : Pu.Env} {σ : St} {F H : Hp} {S : Stt} {s : Addr} {as : List Addr} (w : WA B ad ρ σ F H) (i : Nat) (h00 : i ≠ 0) (st : StAt H S s as) (hF : ∀ a ∈ as, F a = none) (nw : ∀ a ∈ as, B.H0 a = none ∧ ∀ j, a ∉ ad j) :
    WA B (fun k => if k = i then (if i < ρ.length then as else []) else ad k) (ρ.set i (.st S)) (σ.set i (some (.ref s))) F H := by
  refine ⟨w.gr, by rw [List.length_set, List.length_set]; exact w.len, fun j sl e => ?_, fun j q m => ?_, fun j1 j2 q m1 m2 => ?_, fun j e => ?_, w.pin.to fun S2 e => by
    rcases get_set e with ⟨e0, _⟩ | ⟨hj, e⟩
    · exact absurd e0.symm h00
    · exact ⟨⟨S2, e⟩, List.getElem?_set_ne (Ne.symm hj), if_neg hj⟩⟩
  · rcases get_set e with ⟨rfl, rfl⟩ | ⟨hj, e'⟩
    · have hi : j < ρ.length := by
        have := (List.getElem?_eq_some_iff.mp e).1
        rwa [List.length_set] at this
      exact ⟨s, List.getElem?_set_self (by rw [w.len]; exact hi), by rw [if_pos rfl, if_pos hi]; exact st⟩
    · rw [if_neg hj, List.getElem?_set_ne (Ne.symm hj)]
      exact w.sl j sl e'
  · by_cases hj : j = i
    · simp only [if_pos hj] at m
      by_cases hi : i < ρ.length
      · simp only [if_pos hi] at m
        exact ⟨hF q m, .inl (nw q m).1⟩
      · simp [if_neg hi] at m
    · simp only [if_neg hj] at m
      exact w.fz j q m
  · have g : ∀ j, q ∈ (if j = i then (if i < ρ.length then as else []) else ad j) → (j = i ∧ q ∈ as) ∨ (j ≠ i ∧ q ∈ ad j) := fun j m => by
      by_cases hj : j = i
      · simp only [if_pos hj] at m
        by_cases hi : i < ρ.length
        · simp only [if_pos hi] at m
          exact .inl ⟨hj, m⟩
        · simp [if_neg hi] at m
      · simp only [if_neg hj] at m
        exact .inr ⟨hj, m⟩
    rcases g j1 m1 with ⟨a1, b1⟩ | ⟨a1, b1⟩ <;> rcases g j2 m2 with ⟨a2, b2⟩ | ⟨a2, b2⟩
    · rw [a1, a2]
    · exact absurd b2 ((nw q b1).2 j2)
    · exact absurd b1 ((nw q b2).2 j1)
    · exact w.dj j1 j2 q b1 b2
  · show (if j = i then (if i < ρ.length then as else []) else ad j) = []
    have e' := get_set' e
    by_cases hj : j = i
    · subst hj
      rw [if_pos rfl, if_neg (by rw [List.getElem?_eq_none_iff] at e'; omega)]
    · rw [if_neg hj]
      exact w.out j e'
theorem sx_asgE {i : Nat} (h00 : i ≠ 0) (h : EN te ρ fun S ρ1 => NX P (ρ1.set i (.st S))) : SX (tAsg te (gName i)) ρ P := fun B σ F H w Dn n r b c => by
  obtain ⟨ad, w⟩ := w
  refine h B ad σ F H w _ fun S s as ρ1 F1 H1 F' H' q p g st fn => ?_
  obtain ⟨ρ2, l, q⟩ := q
  exact n ρ2 _ F' H' q (W.weak ⟨_, (p.wa.grow g).setSt2 i h00 st (fun a m => (fn a m).1) fun a m => (p.wa.newp (fn a m).2).2⟩ l)
theorem wipe_twice (σ : St) (vs : List Nat) : wipe (wipe σ vs) vs = wipe σ vs := by
  apply List.ext_getElem?
  intro j
  rw [wipe_get, wipe_get, wipe_length]
  split
  · rfl
  · first | rfl | rw [wipe_get, if_neg (by assumption)]
/-- [list(x) for x in ..]: the lists that it makes are a state -/
theorem en_grid {r : Nat} {Q : Stt → Pu.Env → Prop} (h : EX te ρ fun d ρ1 => ∃ rows, d = .list (rows.map rowD) ∧ rows.length < 1000000 ∧ r < ρ1.length ∧ Q (.grd rows) ρ1) :
    EN (tLc (iList K te) (gName r) tYes (tCB (rList K) (tCons (tVar r) tNil)) [r]) ρ Q := fun B ad σ F H w Z z => by
  have hi : EI (iList K te) ρ fun ds ρ1 => ∃ rows : List (List (Option Int)), ds = rows.map rowD ∧ rows.length < 1000000 ∧ r < ρ1.length ∧ Q (.grd rows) ρ1 := ei_list (h.imp fun d ρ1 e => by
    obtain ⟨rows, e, k⟩ := e
    exact ⟨_, e, rows, rfl, k⟩)
  refine hi B ad σ F H w _ fun ds ρ1 J F1 H1 q1 p1 it => ?_
  obtain ⟨rows, rfl, hz, hr, q⟩ := q1
  intro Dl hD
  have hrs : r < σ.length := by rw [p1.wa.len]; exact hr
  have nF1 : F1 Dl = none := (p1.wa.newp hD).1
  let Inv := fun (k : Nat) (H' : Hp) => ∃ qs F', Gr Non F1 H1 F' H' ∧ (Dl :: qs).Nodup ∧ (∀ a ∈ Dl :: qs, F' a = none ∧ H1 a = none) ∧ H' Dl = some (.lst (qs.map V.ref)) ∧ GrA H' qs (rows.take k) ∧ qs.length = k
  refine ⟨fun i m H' => m = (rows.map rowD).length - i ∧ i ≤ (rows.map rowD).length ∧ Inv i H', ⟨_, rfl, Nat.zero_le _, [], F1, Gr.heap p1.wa.gr.fh (same_upd hD), by simp, fun a ha => ?_, upd_same, trivial, rfl⟩, ?_⟩
  · have e : a = Dl := by simpa using ha
    rw [e]
    exact ⟨nF1, hD⟩
  rintro i m H' ⟨rfl, hi, qs, F', g, nd, fn, hl, hg, ql⟩
  by_cases hlt : i < (rows.map rowD).length
  · refine .inr ⟨it.go i H' (g.ff.trans g.fh) hlt, fun H2 => Inv (i + 1) H2, fun H2 k => ⟨(rows.map rowD).length - (i + 1), by omega, rfl, hlt, k⟩, fun x H2 y => ?_⟩
    obtain ⟨d, F2, e, gr, rx⟩ := it.yld i H' x H2 F' g.ff g.fh y hlt
    rw [List.getElem?_map] at e
    obtain ⟨row, ex, rfl⟩ : ∃ row, rows[i]? = some row ∧ rowD row = d := by
      cases hx : rows[i]? with
      | none => rw [hx] at e; cases e
      | some a => rw [hx] at e; exact ⟨a, rfl, Option.some.inj e⟩
    obtain ⟨p, xs, rfl, h1, h2⟩ := rx.lst_inv
    have hxs := ovs_inv h2
    subst hxs
    have g2 : Gr Non F1 H1 F2 H2 := g.trans gr (fun _ _ z => z) fun _ _ z => z
    have alive : ∀ a ∈ Dl :: qs, H' a ≠ none := fun a ha => by
      rcases List.mem_cons.mp ha with rfl | ha
      · rw [hl]; intro z; cases z
      · exact hg.mem a ha
    have hl2 : H2 Dl = some (.lst (qs.map V.ref)) := gr.kp _ _ hl id
    have hg2 : GrA H2 qs (rows.take i) := hg.keep fun a _ o e => gr.kp a o e id
    refine ⟨?_, ?_⟩
    · rw [wipe_set (by simp), wipe_twice]
    show tCB (rList K) (tCons (tVar r) tNil) _ H2 _
    refine ⟨_, List.getElem?_set_self (by rw [wipe_length]; exact hrs), p, row.map ov, rfl, .inl (sqL_rd h1 gr.fh), fun l hl0 => ?_⟩
    have ne : l ≠ Dl := fun z => by rw [z, hl2] at hl0; cases hl0
    have lout : ∀ a ∈ Dl :: qs, a ≠ l := fun a ha z => gr.al a (alive a ha) (by rw [z]; exact hl0)
    have F2l : F2 l = none := by
      cases q : F2 l with
      | none => rfl
      | some o => rw [g2.fh l o q] at hl0; cases hl0
    have H1l : H1 l = none := by
      cases q : H1 l with
      | none => rfl
      | some o => exact absurd hl0 (g2.al l (by rw [q]; intro z; cases z))
    have F2D : ∀ a ∈ Dl :: qs, F2 a = none := fun a ha => gr.fr a (alive a ha) (fn a ha).1
    refine ⟨qs.map V.ref, by rw [upd_ne (Ne.symm ne)]; exact hl2, ?_, ?_⟩
    · rw [List.length_map, ql]
      have : i < rows.length := by rw [List.length_map] at hlt; exact hlt
      exact Nat.lt_trans (Nat.lt_trans this hz) (by decide)
    show Inv (i + 1) _
    have nf : ∀ a o, F2 a = some o → a ≠ l ∧ a ≠ Dl := fun a o e => ⟨(fun z => by rw [z, F2l] at e; cases e), (fun z => by rw [z, F2D Dl (by simp)] at e; cases e)⟩
    have n1 : ∀ a, H1 a ≠ none → a ≠ l ∧ a ≠ Dl := fun a e => ⟨fun z => e (by rw [z]; exact H1l), fun z => e (by rw [z]; exact hD)⟩
    refine ⟨qs ++ [l], F2, ⟨g2.ff, fun a o e => ?_, fun a o e m => ?_, fun a e => ?_, g2.fr⟩, ?_, ?_, ?_, ?_, by simp [ql]⟩
    · rw [upd_ne (nf a o e).2, upd_ne (nf a o e).1]
      exact g2.fh a o e
    · have na := n1 a (by rw [e]; intro z; cases z)
      rw [upd_ne na.2, upd_ne na.1]
      exact g2.kp a o e m
    · have na := n1 a e
      rw [upd_ne na.2, upd_ne na.1]
      exact g2.al a e
    · rw [List.nodup_cons] at nd ⊢
      refine ⟨fun m => ?_, ?_⟩
      · rcases List.mem_append.mp m with m | m
        · exact nd.1 m
        · exact ne (List.mem_singleton.mp m).symm
      · refine List.nodup_append.mpr ⟨nd.2, by simp, fun a ha b hb e => ?_⟩
        rw [List.mem_singleton.mp hb] at e
        exact lout a (by simp [ha]) e
    · intro a ha
      rcases List.mem_cons.mp ha with rfl | ha
      · exact ⟨F2D _ (by simp), hD⟩
      · rcases List.mem_append.mp ha with ha | ha
        · exact ⟨F2D a (by simp [ha]), (fn a (by simp [ha])).2⟩
        · rw [List.mem_singleton.mp ha]; exact ⟨F2l, H1l⟩
    · rw [upd_same, List.map_append]; rfl
    · rw [take_snoc' ex]
      refine GrA.out (fun m => ?_) (GrA.app upd_same (GrA.out (fun m => lout l (by simp [m]) rfl) hg2))
      rcases List.mem_append.mp m with m | m
      · exact (List.nodup_cons.mp nd).1 m
      · exact ne (List.mem_singleton.mp m).symm
  · have e : i = rows.length := by rw [List.length_map] at hlt hi; omega
    subst e
    rw [List.take_length] at hg
    exact .inl ⟨it.stop _ H' (g.ff.trans g.fh) (by rw [List.length_map]; exact Nat.le_refl _), z (.grd rows) Dl (Dl :: qs) ρ1 F1 H1 F' H' q p1 g ⟨qs, rfl, nd, hl, hg⟩ fn⟩
/-- x[a][b] of such a state -/
theorem ex_grd {i : Nat} {rows0 : List (List (Option Int))} {Q : D → Pu.Env → Prop} (h : ρ[i]? = some (.st (.grd rows0))) (k : EX tb ρ fun d ρ1 => ∃ a m rows1 r1, d = .int a ∧ ρ1[i]? = some (.st (.grd rows1)) ∧ ixN rows1.length a = some m ∧ rows1[m]? = some r1 ∧
    EX tc ρ1 fun e ρ2 => ∃ b rows r x, e = .int b ∧ ρ2[i]? = some (.st (.grd rows)) ∧ rows[m]? = some r ∧ atI r b = some x ∧ Q (optD x) ρ2) : EX (tOp (rIxA K) (tOp (rIxA K) (tVar i) tb) tc) ρ Q := fun B ad σ F H w Z z => by
  obtain ⟨s, k0, qs0, has0, _, _, _⟩ := w.sl i _ h
  refine ⟨_, k0, k B ad σ F H w _ fun d ρ1 y F1 H1 q1 p1 ry => ?_⟩
  obtain ⟨a, m, rows1, r1, rfl, h1, hm, hr1, q1⟩ := q1
  obtain ⟨s1, k1, qs1, has1, nd1, hs1, hg1⟩ := p1.wa.sl i _ h1
  rw [k0] at k1
  cases k1
  obtain ⟨q, hq, _⟩ := hg1.get hr1
  have hat : atI (qs1.map V.ref) a = some (V.ref q) := by
    unfold atI
    rw [List.length_map, hg1.len, hm]
    show (qs1.map V.ref)[m]? = _
    rw [List.getElem?_map, hq]
    rfl
  refine .inl ⟨s, qs1.map V.ref, a, .ref q, rfl, ry.int_inv, .inl (.inl hs1), hat, ?_⟩
  refine q1 B ad σ F1 H1 p1.wa _ fun e ρ2 u F2 H2 q2 p2 ru => ?_
  obtain ⟨b, rows, r, x, rfl, h2, hr, hx, q2⟩ := q2
  obtain ⟨s2, k2, qs2, has2, nd2, hs2, hg2⟩ := p2.wa.sl i _ h2
  rw [k0] at k2
  cases k2
  have eq : qs2 = qs1 := by
    have := has2.symm.trans has1
    simpa using this
  subst eq
  obtain ⟨q', hq', hH⟩ := hg2.get hr
  rw [hq] at hq'
  cases hq'
  have hx' : atI (r.map ov) b = some (ov x) := by
    unfold atI at hx ⊢
    rw [List.length_map]
    cases e : ixN r.length b with
    | none => rw [e] at hx; cases hx
    | some j =>
      rw [e] at hx
      show (r.map ov)[j]? = _
      rw [List.getElem?_map, show r[j]? = some x from hx]
      rfl
  exact .inl ⟨q, r.map ov, b, ov x, rfl, ru.int_inv, .inl (.inl hH), hx', z _ ρ2 _ F2 H2 q2 (p1.trans p2) (rp_ov F2 x)⟩
theorem ex_lenG {i : Nat} {rows : List (List (Option Int))} {Q : D → Pu.Env → Prop} (h : ρ[i]? = some (.st (.grd rows))) (q : Q (.int (rows.length : Int)) ρ) : EX (tCB (rLen K) (tCons (tVar i) tNil)) ρ Q := fun B ad σ F H w Z z => by
  obtain ⟨s, k0, qs, _, _, hs, hg⟩ := w.sl i _ h
  exact ⟨_, k0, _, rows.length, rfl, .inl ⟨qs.map V.ref, .inl (.inl hs), by rw [List.length_map, hg.len]⟩, z _ ρ _ F H q (Post.refl w) (.int _)⟩
theorem ex_lenG1 {i : Nat} {rows0 : List (List (Option Int))} {Q : D → Pu.Env → Prop} (h : ρ[i]? = some (.st (.grd rows0))) (k : EX tb ρ fun d ρ1 => ∃ a m rows r, d = .int a ∧ ρ1[i]? = some (.st (.grd rows)) ∧ ixN rows.length a = some m ∧ rows[m]? = some r ∧ Q (.int (r.length : Int)) ρ1) :
    EX (tCB (rLen K) (tCons (tOp (rIxA K) (tVar i) tb) tNil)) ρ Q := fun B ad σ F H w Z z => by
  obtain ⟨s, k0, qs0, has0, _, _, _⟩ := w.sl i _ h
  refine ⟨_, k0, k B ad σ F H w _ fun d ρ1 y F1 H1 q1 p1 ry => ?_⟩
  obtain ⟨a, m, rows1, r1, rfl, h1, hm, hr1, q1⟩ := q1
  obtain ⟨s1, k1, qs1, has1, nd1, hs1, hg1⟩ := p1.wa.sl i _ h1
  rw [k0] at k1
  cases k1
  obtain ⟨q, hq, hH⟩ := hg1.get hr1
  have hat : atI (qs1.map V.ref) a = some (V.ref q) := by
    unfold atI
    rw [List.length_map, hg1.len, hm]
    show (qs1.map V.ref)[m]? = _
    rw [List.getElem?_map, hq]
    rfl
  refine .inl ⟨s, qs1.map V.ref, a, .ref q, rfl, ry.int_inv, .inl (.inl hs1), hat, ?_⟩
  exact ⟨_, r1.length, rfl, .inl ⟨r1.map ov, .inl (.inl hH), by rw [List.length_map]⟩, z _ ρ1 _ F1 H1 q1 p1 (.int _)⟩
/-- x[a][b] = e -/
theorem sx_setG {i : Nat} (h : EX te ρ fun d ρ1 => ∃ x rows1, d = optD x ∧ ρ1[i]? = some (.st (.grd rows1)) ∧ EX tb ρ1 fun a' ρ2 => ∃ a m rows2 r2, a' = .int a ∧ ρ2[i]? = some (.st (.grd rows2)) ∧ ixN rows2.length a = some m ∧ rows2[m]? = some r2 ∧
    EX tc ρ2 fun b' ρ3 => ∃ b j rows r, b' = .int b ∧ ρ3[i]? = some (.st (.grd rows)) ∧ rows[m]? = some r ∧ ixN r.length b = some j ∧ NX P (ρ3.set i (.st (.grd (rows.set m (r.set j x)))))) :
    SX (tAsg te (gSub (tOp (rIxA K) (tVar i) tb) tc rSetL)) ρ P := fun B σ F H w Dn n rt bk ct => by
  obtain ⟨ad, w⟩ := w
  refine h B ad σ F H w _ fun d ρ1 v F1 H1 q1 p1 rv => ?_
  obtain ⟨x, rows1, rfl, h1, q1⟩ := q1
  have ev := ov_inv rv
  obtain ⟨s, k0, qs0, has0, _, _, _⟩ := p1.wa.sl i _ h1
  refine ⟨_, k0, q1 B ad σ F1 H1 p1.wa _ fun a' ρ2 y F2 H2 q2 p2 ry => ?_⟩
  obtain ⟨a, m, rows2, r2, rfl, h2, hm, hr2, q2⟩ := q2
  obtain ⟨s1, k1, qs1, has1, nd1, hs1, hg1⟩ := p2.wa.sl i _ h2
  rw [k0] at k1
  cases k1
  obtain ⟨q, hq, _⟩ := hg1.get hr2
  have hat : atI (qs1.map V.ref) a = some (V.ref q) := by
    unfold atI
    rw [List.length_map, hg1.len, hm]
    show (qs1.map V.ref)[m]? = _
    rw [List.getElem?_map, hq]
    rfl
  refine .inl ⟨s, qs1.map V.ref, a, .ref q, rfl, ry.int_inv, .inl (.inl hs1), hat, ?_⟩
  refine q2 B ad σ F2 H2 p2.wa _ fun b' ρ3 u F3 H3 q3 p3 ru => ?_
  obtain ⟨b, j, rows, r, rfl, h3, hr, hj, ρ', l, q3⟩ := q3
  have st3 := p3.wa.sl i _ h3
  obtain ⟨s2, k2, qs2, has2, nd2, hs2, hg2⟩ := st3
  rw [k0] at k2
  cases k2
  have eq : qs2 = qs1 := by
    have := has2.symm.trans has1
    simpa using this
  subst eq
  obtain ⟨q', hq', hH⟩ := hg2.get hr
  rw [hq] at hq'
  cases hq'
  have hqm : q ∈ qs2 := List.mem_of_getElem? hq
  have hqa : q ∈ ad i := by rw [has2]; simp [hqm]
  have hFq : F3 q = none := (p3.wa.fz i q hqa).1
  have hsq : s ≠ q := fun e => (List.nodup_cons.mp nd2).1 (by rw [e]; exact hqm)
  refine ⟨q, r.map ov, b, j, rfl, ru.int_inv, hH, by rw [List.length_map]; exact hj, ?_⟩
  have eset : (r.map ov).set j v = (r.set j x).map ov := by rw [ev, List.map_set]
  rw [eset]
  have g : Gr (· ∈ ad i) F3 H3 F3 (upd H3 q (.lst ((r.set j x).map ov))) := ⟨Same.refl F3, fun a o e => by
      rw [upd_ne (fun z => by rw [z, hFq] at e; cases e)]
      exact p3.wa.gr.fh a o e, fun a o e mm => by
      rw [upd_ne (fun z => mm (by rw [z]; exact hqa))]
      exact e, fun a e => by
      by_cases ha : a = q
      · rw [ha, upd_same]; intro z; cases z
      · rw [upd_ne ha]; exact e, fun _ _ z => z⟩
  refine n ρ' σ F3 _ q3 (W.weak ⟨ad, p3.wa.stp (S' := .grd (rows.set m (r.set j x))) h3 k0 g ⟨qs2, has2, nd2, ?_, ?_⟩ fun a ha => (p3.wa.fz i a ha).1⟩ l)
  · rw [upd_ne hsq]; exact hs2
  · exact GrA.set (List.nodup_cons.mp nd2).2 hg2 hq
/-- the lists are data from now on -/
theorem rpa_grd {F : Hp} : ∀ {qs : List Addr} {rows : List (List (Option Int))}, GrA F qs rows → RpA F (qs.map V.ref) (rows.map rowD)
  | [], [], _ => .nil
  | q :: qs, r :: rows, h => .cons (.lst (.inl h.1) (rpa_ov F r)) (rpa_grd h.2)
  | [], _ :: _, h => h.elim
  | _ :: _, [], h => h.elim
theorem sx_frzG (i : Nat) (h00 : i ≠ 0) {rows : List (List (Option Int))} (h : ρ[i]? = some (.st (.grd rows))) (k : SX t (ρ.set i (.val (.list (rows.map rowD)))) P) : SX t ρ P := fun B σ F H w => by
  obtain ⟨ad, w⟩ := w
  obtain ⟨s, k0, qs, has, nd, hs, hg⟩ := w.sl i _ h
  have hn : ∀ p ∈ ad i, B.H0 p = none := fun p m => by
    rcases (w.fz i p m).2 with q | q
    · exact q
    · exact absurd q.2 h00
  have up : Same F (fun a => if a ∈ ad i then H a else F a) := fun a o e => by
    have : a ∉ ad i := fun m => by rw [(w.fz i a m).1] at e; cases e
    show (if a ∈ ad i then H a else F a) = some o
    rw [if_neg this]; exact e
  have at1 : ∀ a ∈ ad i, (if a ∈ ad i then H a else F a) = H a := fun a m => if_pos m
  refine k B σ (fun a => if a ∈ ad i then H a else F a) H ⟨fun j => if j = i then [] else ad j, ⟨w.gr.ff.trans up, fun a o e => ?_, w.gr.kp, w.gr.al, fun a e z => ?_⟩, by rw [List.length_set]; exact w.len, fun j sl e => ?_, fun j q m => ?_, fun j1 j2 q m1 m2 => ?_, fun j e => ?_, w.pin.to fun S2 e => by
    rcases get_set e with ⟨e0, _⟩ | ⟨hj, e⟩
    · exact absurd e0.symm h00
    · exact ⟨⟨S2, e⟩, rfl, if_neg hj⟩⟩
  · have e : (if a ∈ ad i then H a else F a) = some o := e
    by_cases m : a ∈ ad i
    · rw [at1 a m] at e; exact e
    · skip
      rw [if_neg m] at e; exact w.gr.fh a o e
  · have m : a ∉ ad i := fun m => e (hn a m)
    show (if a ∈ ad i then H a else F a) = none
    rw [if_neg m]
    exact w.gr.fr a e z
  · rcases get_set e with ⟨rfl, rfl⟩ | ⟨hj, e⟩
    · refine ⟨if_pos rfl, .ref s, k0, .lst (xs := qs.map V.ref) (.inl ?_) (rpa_grd (hg.keep fun q hq o e => ?_))⟩
      · exact (at1 s (by rw [has]; simp)).trans hs
      · exact (at1 q (by rw [has]; simp [hq])).trans e
    · rw [if_neg hj]
      have k := w.sl j sl e
      cases sl with
      | emp => exact k
      | val d =>
        obtain ⟨k, v, e, r⟩ := k
        exact ⟨k, v, e, r.up up⟩
      | own es =>
        obtain ⟨q, ws, a1, a2, a3, a4, a5⟩ := k
        exact ⟨q, ws, a1, a2, a3, a4, a5.up up⟩
      | st S2 => exact k
  · by_cases hj : j = i
    · simp only [if_pos hj] at m; cases m
    · simp only [if_neg hj] at m
      have : q ∉ ad i := fun m' => hj (w.dj j i q m m')
      refine ⟨?_, (w.fz j q m).2⟩
      show (if q ∈ ad i then H q else F q) = none
      rw [if_neg this]
      exact (w.fz j q m).1
  · by_cases h1 : j1 = i
    · simp only [if_pos h1] at m1; cases m1
    · by_cases h2 : j2 = i
      · simp only [if_pos h2] at m2; cases m2
      · simp only [if_neg h1] at m1
        simp only [if_neg h2] at m2
        exact w.dj j1 j2 q m1 m2
  · show (if j = i then [] else ad j) = []
    by_cases hj : j = i
    · rw [if_pos hj]
    · rw [if_neg hj]; exact w.out j (get_set' e)
/-- a, b, c = (an own list), (data), (a state): a tuple that nobody keeps -/
theorem sx_parOVN {K : PySem.W.Frag} {a b c : Nat} {te1 te2 te3 : TE} (h00 : c ≠ 0) (h : EO te1 ρ fun ds1 ρ1 => EX te2 ρ1 fun d2 ρ2 => EN te3 ρ2 fun S ρ3 => NX P (((ρ3.set a (.own ds1)).set b (.val d2)).set c (.st S))) :
    SX (tAsg (tTup (tCons te1 (tCons te2 (tCons te3 tNil)))) (gTup K 3 (gCons (gName a) (gCons (gName b) (gCons (gName c) gNil))))) ρ P := fun B σ F H w Dn n r bk ct => by
  obtain ⟨ad, w⟩ := w
  refine h B ad σ F H w _ fun ds1 ρ1 p1 vs1 F1 H1 q1 P1 hF1 hH1 hp1 rv1 => ?_
  refine q1 B ad σ F1 H1 P1.wa _ fun d2 ρ2 v2 F2 H2 q2 P2 rv2 => ?_
  refine q2 B ad σ F2 H2 P2.wa _ fun S s as ρ3 F4 H4 F3 H3 q3 P4 g st fn => ?_
  obtain ⟨ρ', l, q⟩ := q3
  refine ⟨by show 3 ≤ sizeLine; decide, fun T hT => ?_⟩
  have P3 := P4.trans (Post.of P4.wa g)
  have n1 := w.newp hH1
  have nms : ∀ (ρ2 : Pu.Env), ¬ MS ad ρ2 p1 := fun ρ2 ⟨j, S, _, m⟩ => n1.2.2 j m
  have hp2 : H2 p1 = some (.lst vs1) := P2.gr.kp p1 _ hp1 (nms _)
  have hp4 : H4 p1 = some (.lst vs1) := P4.gr.kp p1 _ hp2 (nms _)
  have hp1' : H3 p1 = some (.lst vs1) := P3.gr.kp p1 _ hp2 (nms _)
  have hF1' : F3 p1 = none := P3.gr.fr p1 (by rw [hp2]; intro z; cases z) (P2.gr.fr p1 (by rw [hp1]; intro z; cases z) hF1)
  have nT := P3.wa.newp hT
  have ne1 : p1 ≠ T := fun e => by rw [e, hT] at hp1'; cases hp1'
  have nas : ∀ x ∈ as, x ≠ T := fun x hx e => (st.mem.2 x hx) (by rw [e]; exact hT)
  have nap : ∀ x ∈ as, x ≠ p1 := fun x hx e => by have := (fn x hx).2; rw [e, hp4] at this; cases this
  have w4 := P3.wa.updD (o := .tup [.ref p1, v2, .ref s]) nT.2.1 nT.2.2 nT.1
  have w5 := w4.setOwn2 a hF1' n1.2.1 n1.2.2 (by rw [upd_ne ne1]; exact hp1') (rv1.up (P2.gr.ff.trans P3.gr.ff))
  have w6 := w5.setVal2 b (rv2.up P3.gr.ff)
  have w7 := w6.setSt2 c (S := S) (s := s) (as := as) h00 (st.keep fun x hx o e => by rw [upd_ne (nas x hx)]; exact e) (fun x hx => (fn x hx).1) fun x hx => ⟨(P4.wa.newp (fn x hx).2).2.1, fun i m => by
    by_cases hb : i = b
    · simp only [if_pos hb] at m; cases m
    · simp only [if_neg hb] at m
      by_cases ha : i = a
      · simp only [if_pos ha] at m
        split at m
        · exact nap x hx (List.mem_singleton.mp m)
        · cases m
      · simp only [if_neg ha] at m
        exact (P4.wa.newp (fn x hx).2).2.2 i m⟩
  refine ⟨T, [.ref p1, v2, .ref s], rfl, .inl (.inl upd_same), rfl, _, _, rfl, _, _, rfl, _, _, rfl, rfl, ?_⟩
  exact n ρ' _ F3 _ q (W.weak ⟨_, w7⟩ l)
/-- a, b, c = (an own list), (data), (a state), plain local names -/
theorem sx_par3N {a b c : Nat} {te1 te2 te3 : TE} (h00 : c ≠ 0) (h : EO te1 ρ fun ds1 ρ1 => EX te2 ρ1 fun d2 ρ2 => EN te3 ρ2 fun S ρ3 => NX P (((ρ3.set a (.own ds1)).set b (.val d2)).set c (.st S))) :
    SX (tPar3 a b c (tCons te1 (tCons te2 (tCons te3 tNil)))) ρ P := fun B σ F H w Dn n r bk ct => by
  obtain ⟨ad, w⟩ := w
  refine h B ad σ F H w _ fun ds1 ρ1 p1 vs1 F1 H1 q1 P1 hF1 hH1 hp1 rv1 => ?_
  refine q1 B ad σ F1 H1 P1.wa _ fun d2 ρ2 v2 F2 H2 q2 P2 rv2 => ?_
  refine q2 B ad σ F2 H2 P2.wa _ fun S s as ρ3 F4 H4 F3 H3 q3 P4 g st fn => ?_
  obtain ⟨ρ', l, q⟩ := q3
  have P3 := P4.trans (Post.of P4.wa g)
  have n1 := w.newp hH1
  have nms : ∀ (ρ2 : Pu.Env), ¬ MS ad ρ2 p1 := fun ρ2 ⟨j, S, _, m⟩ => n1.2.2 j m
  have hp2 : H2 p1 = some (.lst vs1) := P2.gr.kp p1 _ hp1 (nms _)
  have hp4 : H4 p1 = some (.lst vs1) := P4.gr.kp p1 _ hp2 (nms _)
  have hp1' : H3 p1 = some (.lst vs1) := P3.gr.kp p1 _ hp2 (nms _)
  have hF1' : F3 p1 = none := P3.gr.fr p1 (by rw [hp2]; intro z; cases z) (P2.gr.fr p1 (by rw [hp1]; intro z; cases z) hF1)
  have nap : ∀ x ∈ as, x ≠ p1 := fun x hx e => by have := (fn x hx).2; rw [e, hp4] at this; cases this
  have w5 := P3.wa.setOwn2 a hF1' n1.2.1 n1.2.2 hp1' (rv1.up (P2.gr.ff.trans P3.gr.ff))
  have w6 := w5.setVal2 b (rv2.up P3.gr.ff)
  have w7 := w6.setSt2 c (S := S) (s := s) (as := as) h00 st (fun x hx => (fn x hx).1) fun x hx => ⟨(P4.wa.newp (fn x hx).2).2.1, fun i m => by
    by_cases hb : i = b
    · simp only [if_pos hb] at m; cases m
    · simp only [if_neg hb] at m
      by_cases ha : i = a
      · simp only [if_pos ha] at m
        split at m
        · exact nap x hx (List.mem_singleton.mp m)
        · cases m
      · simp only [if_neg ha] at m
        exact (P4.wa.newp (fn x hx).2).2.2 i m⟩
  refine ⟨.ref p1, v2, .ref s, rfl, ?_⟩
  exact n ρ' _ F3 _ q (W.weak ⟨_, w7⟩ l)
theorem eo_if {tt : TT} {ta tb : TE} {Q : List D → Pu.Env → Prop} (h : ET tt ρ fun b ρ1 => (b = true → EO ta ρ1 Q) ∧ (b = false → EO tb ρ1 Q)) : EO (tIf tt ta tb) ρ Q := fun B ad σ F H w Z z =>
  h B ad σ F H w _ fun b ρ1 F1 H1 q1 p1 => by
    have up : ∀ p, H1 p = none → H p = none := fun p h => by
      cases q : H p with
      | none => rfl
      | some o => exact absurd h (p1.gr.al p (by rw [q]; intro z; cases z))
    cases b with
    | true =>
      show ta σ H1 Z
      exact q1.1 rfl B ad σ F1 H1 p1.wa Z fun ds ρ' p vs F' H' q pp a b c r => z ds ρ' p vs F' H' q (p1.trans pp) a (up p b) c r
    | false =>
      show tb σ H1 Z
      exact q1.2 rfl B ad σ F1 H1 p1.wa Z fun ds ρ' p vs F' H' q pp a b c r => z ds ρ' p vs F' H' q (p1.trans pp) a (up p b) c r
end
/-- l, l - 1, .., n of them -/
def dnI (l : Int) (n : Nat) : List Int := (List.range n).map fun k : Nat => l - (k : Int)
theorem dnI_len (l : Int) (n : Nat) : (dnI l n).length = n := by simp [dnI]
theorem dnI_get {l : Int} {n k : Nat} (h : k < n) : (dnI l n)[k]? = some (l - (k : Int)) := by simp [dnI, h]
theorem itd_dn {F : Hp} (l : Int) (n : Nat) : ItD (Itc l (-1) n) F ((dnI l n).map .int) where
  go := fun i H _ h => by rw [List.length_map, dnI_len] at h; exact h
  stop := fun i H _ h => by rw [List.length_map, dnI_len] at h; exact h
  yld := fun i H x H' F1 _ e2 y h => by
    rw [List.length_map, dnI_len] at h
    obtain ⟨rfl, rfl⟩ := y
    refine ⟨.int (l - (i : Int)), F1, by rw [List.getElem?_map, dnI_get h]; rfl, Gr.refl e2, ?_⟩
    have e : l + ((i : Nat) : Int) * (-1) = l - (i : Int) := by omega
    rw [e]
    exact .int _
theorem ei_rngD {ρ : Pu.Env} {t : TA} {Q : List D → Pu.Env → Prop} (h : EA t ρ fun ds ρ1 => ∃ l n, ds = [.int l, .int n, .int (-1)] ∧ (-1000000000000 ≤ l ∧ l ≤ 1000000000000 ∧ -1000000000000 ≤ n ∧ n ≤ 1000000000000) ∧ Q ((dnI l (l - n).toNat).map .int) ρ1) : EI (iRng3 t) ρ Q := fun B ad σ F H w R z =>
  h B ad σ F H w _ fun ds ρ1 vs F1 H1 q p r => by
    obtain ⟨l, n, rfl, ⟨hl1, hl2, hn1, hn2⟩, q⟩ := q
    cases r with
    | cons r1 r =>
      cases r with
      | cons r2 r =>
        cases r with
        | cons r3 r =>
          cases r
          exact ⟨l, n, -1, (l - n).toNat, by rw [r1.int_inv, r2.int_inv, r3.int_inv], RgC.neg (by omega) (by omega) (by omega) (by omega), z _ ρ1 _ F1 H1 q p (itd_dn l _)⟩
end Pu
/-! PuU: set(a list of ints), sorted and len of it; all and any of a list of truth values. -/
namespace Pu
open PySem PySem.Spec PyProof.Rows L2
abbrev newSet (w : World) : Obj := { cls := .type "set", dict := none, data := .set #[] 0 (.fresh 0 0 (!w.params.followText "set-order")) }
section
variable {P : Program} {w : World} {A : Around} {E : Value → Shared → Prop} {s : Shared}
set_option maxHeartbeats 8000000 in
theorem call_set_lstI {l : Addr} {items : Array Value} (ns : List Int) {Q : Value → Shared → Prop} (hh : A.handled = none) (hl : s.heap.IsList l items) (hit : IntsAre items.toList ns) (hb : ns.length + 1 < scanBound)
    (h : ∀ (h' : Heap) (tk c : Nat), SetR w h' s.heap.objs.size (fun j => decide (j ∈ ns)) c → c ≤ ns.length → (∀ b o, s.heap.get? b = some o → h'.get? b = some o) → Q (.ref s.heap.objs.size) { s with heap := h', toks := tk }) :
    wpAny (model P w) A (call (.type "set") [.ref l]) Q E s := by
  have hisz : items.size = ns.length := by
    have q := IntsAre.length hit
    rwa [Array.length_toList] at q
  obtain ⟨c, tl, hmro⟩ := F.called_set.mro
  have hmade := F.called_set.made
  have hsub := F.called_set.sub
  refine wpAny_call (codeAny_of_tree ?_)
  show wpAny _ _ (callAny (.type "set") _) _ _ _
  refine wpAny_pure ⟨Code.quiet_builtin _ (by decide +kernel), codeAny_builtin F.entry_type_call ?_⟩
  rw [Around.under_plain (weight_type_call_type "set" [.ref l] []) rfl]
  have h1 := F.called_set.notType
  have h2 := F.called_set.canCreate
  have hct := F.typeCall_set_1 (.ref l)
  repeat (any_goals (first | assumption | wp_step))

  refine codeAny_mono (code_set_led1 (.ref l) (E := E) (Q₁ := fun obj s₁ => obj = .ref s.heap.objs.size ∧ s₁ = { s with heap := s.heap.push (newSet w) }) ⟨rfl, rfl⟩) fun r s₁ hr => ?_
  cases r with
  | error e => exact hr
  | ok fl =>
    cases fl with
    | ret obj =>
      obtain ⟨rfl, rfl⟩ := hr
      have hS : (s.heap.push (newSet w)).get? s.heap.objs.size = some (newSet w) := Heap.get?_push_size _ rfl
      have hT : Shared.TypeIs { s with heap := s.heap.push (newSet w) } (.ref s.heap.objs.size) "set" := ⟨_, hS, rfl⟩
      have hli := F.called_set.init.lookup
      have hbi := F.called_set.init.bind (.ref s.heap.objs.size)
      repeat (any_goals (first | assumption | wp_step))

      refine codeAny_mono (codeAny_call_builtin (R := wants (fun r s₂ => r = .none ∧ ∃ h' tk c, s₂ = { s with heap := h', toks := tk } ∧ SetR w h' s.heap.objs.size (fun j => decide (j ∈ ns)) c ∧ c ≤ ns.length ∧
          (∀ b o, s.heap.get? b = some o → h'.get? b = some o)) E) F.called_set.init.plain F.entry_set_init (check_set_init_1 hT ?_)) fun r₂ s₂ hr₂ => ?_
      · obtain ⟨ol, hol, hcl, nl, hdl⟩ := hl
        obtain ⟨ocls, odict, odata, oslots⟩ := ol
        simp only at hcl hdl
        subst hcl; subst hdl
        have hol' : (s.heap.push (newSet w)).get? l = some { cls := .type "list", dict := odict, data := .seq items nl, slots := oslots } := Heap.get?_push_of_some _ hol
        have hsls := F.sub_list_set
        have hslf := F.sub_list_frozenset
        have hne : (Value.type "list" == Value.type "dict") = false := by decide
        have hl1 : (s.heap.push (newSet w)).IsList l items := ⟨_, hol', rfl, nl, rfl⟩
        unfold Builtin.«set.__init__» noKeywords Builtin.Frozenset.updateFrom
        generalize hPI : pyIter = PI
        wp_walk
        subst hPI

        refine wpAny_pyIter_list hl1 ?_
        refine wpAny_bind (wpAny_runValue ?_)
        have hlS : l < s.heap.objs.size := Heap.lt_size hol
        have hh3 : A.in1.in1.in1.handled = none := by simp [hh]
        have hneI : l ≠ (s.heap.push (newSet w)).objs.size := by
          rw [Heap.size_push]; exact Nat.ne_of_lt (Nat.lt_succ_of_lt hlS)
        have hSf : s.heap.objs.size ∉ [(s.heap.push (newSet w)).objs.size, l] := by
          rw [Heap.size_push]; simp only [List.mem_cons, List.not_mem_nil, or_false, not_or]
          exact ⟨Nat.ne_of_lt (Nat.lt_succ_self _), Nat.ne_of_gt hlS⟩
        have hval : ∀ (i : Nat) (v : Value), items[i]? = some v → ∃ k t, ns[i]? = some k ∧ v = .int k t := fun i v hv => by
          have hi : i < ns.length := by rw [← hisz]; exact (Array.getElem?_eq_some_iff.mp hv).1
          obtain ⟨t, e⟩ := PyProof.Rows.IntsAre.int_at hit i v (by rw [Array.getElem?_toList]; exact hv)
          refine ⟨ns[i], t, List.getElem?_eq_getElem hi, ?_⟩
          rw [e, List.getD_eq_getElem?_getD, List.getElem?_eq_getElem hi] <;> rfl
        refine set_update_ints ((Walks.list hh3 _ l hneI items).toS) s.heap.objs.size hSf ns hisz hb hval (items.size - 0) 0 _ (by omega) (Nat.zero_le _) ⟨⟨_, Heap.get?_push_size _ rfl, rfl, rfl⟩, (hl1.push _)⟩ ⟨0, Nat.le_refl 0, setR_new_at (Heap.get?_push_of_some _ hS)⟩ ?_
        intro s' c' hm hc' hS'
        obtain ⟨h', g2, d', tk', os'⟩ := s'
        have eg : g2 = s.gens := hm.gens
        have ed : d' = s.drawn := hm.drawn
        have eo : os' = s.os := hm.os
        subst eg; subst ed; subst eo
        show wpAny _ _ _ _ _ _
        refine wpAny_pure ?_
        show wpAny _ _ (ret Value.none) _ _ _
        rw [hisz] at hc'
        refine wpAny_pure ⟨rfl, h', tk', c', rfl, hS', hc', fun b o e => ?_⟩
        have hb0 : b < s.heap.objs.size := Heap.lt_size e
        have hb1 : b ≠ s.heap.objs.size := Nat.ne_of_lt hb0
        have hb2 : b ≠ (s.heap.push (newSet w)).objs.size := by
          rw [Heap.size_push]; exact Nat.ne_of_lt (Nat.lt_succ_of_lt hb0)
        exact hm.heap b o (by simp only [List.mem_cons, List.not_mem_nil, or_false, not_or]; exact ⟨hb1, hb2⟩) (Heap.get?_push_of_some _ (Heap.get?_push_of_some _ e))

      · cases r₂ with
        | error e => exact hr₂
        | ok fl₂ =>
          cases fl₂ with
          | ret r =>
            obtain ⟨rfl, h', tk, c', rfl, hS', hc', hk'⟩ := hr₂
            repeat (any_goals (first | assumption | wp_step))
            exact h _ _ _ hS' hc' hk'
          | _ => exact hr₂.elim
    | _ => exact hr.elim
end
theorem few_in : ∀ (m : Nat) {l : List Int} {lo : Int}, l.Nodup → (∀ x ∈ l, lo ≤ x ∧ x < lo + (m : Int)) → l.length ≤ m
  | 0, l, lo, _, h => by
    cases l with
    | nil => exact Nat.le_refl _
    | cons x l => have := h x (by simp); omega
  | m + 1, l, lo, nd, h => by
    have k := few_in m (l := l.erase (lo + (m : Int))) (lo := lo) (nd.erase _) fun x hx => by
      have q := (List.Nodup.mem_erase_iff nd).mp hx
      have := h x q.2
      have := q.1
      omega
    rw [List.length_erase] at k
    split at k <;> omega
theorem setR_few {w : World} {h : Heap} {a : Addr} {ns : List Int} {c : Nat} (R : SetR w h a (fun j => decide (j ∈ ns)) c) (hc : c ≤ ns.length) (hb : ns.length < 64 ∨ ∃ lo : Int, ∀ x ∈ ns, lo ≤ x ∧ x < lo + 63) : c < 64 := by
  rcases hb with hb | ⟨lo, hb⟩
  · omega
  · obtain ⟨o, es, ep, t, _, _, _, _, nd, hm, _, _, hs, _⟩ := R
    have k := few_in 63 (lo := lo) nd fun x hx => by
      have := (hm x).mpr hx
      rw [decide_eq_true_eq] at this
      exact hb x this
    rw [List.length_map, Array.length_toList] at k
    omega
section
variable {X : Cx}
/-- sorted(set(a list of ints)): a new list -/
def tSS (K : PySem.W.Frag) (te : TE) : TE := fun σ H Q => te σ H fun x H1 => ∃ (a : Addr) (ns : List Int), x = .ref a ∧ SqL K H1 a (ns.map V.int) ∧ (ns.length < 4000 ∧ (ns.length < 64 ∨ ∃ lo : Int, ∀ x ∈ ns, lo ≤ x ∧ x < lo + 63)) ∧
  ∀ (us : List Int) (H2 : Hp) (p : Addr), us.Pairwise (· < ·) → (∀ k, k ∈ us ↔ k ∈ ns) → us.length ≤ ns.length → Same H1 H2 → H2 p = none → Q (.ref p) (upd H2 p (.lst (us.map V.int)))
theorem pe_sortSet {a : Expr} {ta : TE} {p p2 q pos : Pos} (hc : X.calm = true) (hg : Gl X "sorted") (hm : X.mg "sorted" = none) (hg2 : Gl X "set") (hm2 : X.mg "set" = none) (ha : PE X a ta)
    (na : starEach [a] X.env = (false, eval a X.env) :: starEach [] X.env := by rfl) : PE X (.Call (.Name "sorted" p) [.Call (.Name "set" p2) [a] [] q] [] pos) (tSS X.K ta) := by
  refine ⟨fun pins s σ H Q I h => ?_⟩
  refine Call_ (ld_blt I hg hm boot_sorted ?_)
  refine PyProof.Rows.callWith_builtin1 (PyProof.Rows.args_cons ?_ rfl) rfl rfl
  refine Call_ (ld_blt I hg2 hm2 PyProof.Rows.boot_set ?_)
  refine PyProof.Rows.callWith_type1 (PyProof.Rows.args_cons (thn (ha.run pins s σ H _ I h) fun v s1 ⟨x, H1, I1, r1, q1⟩ => PyProof.Rows.args_nil ?_) na) na rfl
  obtain ⟨l, ns, rfl, hq, ⟨hl, hfew⟩, q1⟩ := q1
  cases r1
  obtain ⟨its, rv, hil, hzl⟩ := I1.list hq
  have hi : IntsAre its.toArray.toList ns := ints_of_vals rv
  refine call_set_lstI ns (I1.ok.hd hc) hil.isList hi (by unfold scanBound; omega) fun h' tk c R hcn k => PyProof.Rows.args_nil ?_
  have I2 : Inv X pins σ H1 { s1 with heap := h', toks := tk } := I1.kept k
  refine sorted_set R (I2.ok.hd hc) (setR_few R hcn hfew) fun s' p out c2 us k2 g o hp hg hus hs hm hul => ?_
  have hlen : (us.map V.int).length ≤ sizeLine := by rw [List.length_map, hul, sizeLine_eq]; omega
  have hn : H1 p = none := I2.hok.fresh hp
  have J : Inv X pins σ (upd H1 p (.lst (us.map V.int))) { { s1 with heap := h', toks := tk } with heap := s'.heap, gens := s'.gens, drawn := s'.drawn, toks := s'.toks } :=
    I2.call (ch := []) (Un.laid k2 hp hn) (I2.hok.laid k2 hp ⟨hlen, out.toList, c2, vals_of_ints hus, hg⟩) (by rw [g]; exact I2.bare) (fun _ z => nomatch z)
  have e : s' = { { s1 with heap := h', toks := tk } with heap := s'.heap, gens := s'.gens, drawn := s'.drawn, toks := s'.toks } := by
    cases s'
    cases s1
    cases o
    rfl
  rw [e]
  exact ⟨.ref p, _, J, rfl, q1 us H1 p hs (fun k => by rw [hm k, decide_eq_true_eq]) (by omega) (fun _ _ z => z) hn⟩
theorem eo_sortSetB {K : PySem.W.Frag} {ρ : Pu.Env} {te : TE} {Q : List D → Pu.Env → Prop} (h : EX te ρ fun d ρ1 => ∃ ns : List Int, d = .list (ns.map .int) ∧ (ns.length < 4000 ∧ (ns.length < 64 ∨ ∃ lo : Int, ∀ x ∈ ns, lo ≤ x ∧ x < lo + 63)) ∧ ∀ us : List Int, us.Pairwise (· < ·) → (∀ k, k ∈ us ↔ k ∈ ns) → us.length ≤ ns.length → Q (us.map .int) ρ1) : EO (tSS K te) ρ Q := fun B ad σ F H w Z z =>
  h B ad σ F H w _ fun d ρ1 v F1 H1 q1 p1 rv => by
    obtain ⟨ns, rfl, hl, q⟩ := q1
    obtain ⟨a, xs, rfl, h1, h2⟩ := rv.lst_inv
    have e := h2.ints_inv
    subst e
    refine ⟨a, ns, rfl, sqL_rd h1 p1.wa.gr.fh, hl, fun us H2 p hs hm hle sm hp => ?_⟩
    have hH1 : H1 p = none := by
      cases e : H1 p with
      | none => rfl
      | some o => rw [sm p o e] at hp; cases hp
    have hH : H p = none := by
      cases e : H p with
      | none => rfl
      | some o => exact absurd hH1 (p1.gr.al p (by rw [e]; intro z; cases z))
    have g : Same H1 (upd H2 p (.lst (us.map V.int))) := sm.trans (same_upd hp)
    exact z (us.map .int) ρ1 p (us.map V.int) F1 _ (q us hs hm hle) (p1.trans (Post.of p1.wa (Gr.heap p1.wa.gr.fh g))) (p1.wa.newp hH1).1 hH upd_same (RpA.ints us)
theorem eo_sortSet {K : PySem.W.Frag} {ρ : Pu.Env} {te : TE} {Q : List D → Pu.Env → Prop} (h : EX te ρ fun d ρ1 => ∃ ns : List Int, d = .list (ns.map .int) ∧ ns.length < 64 ∧ ∀ us : List Int, us.Pairwise (· < ·) → (∀ k, k ∈ us ↔ k ∈ ns) → us.length ≤ ns.length → Q (us.map .int) ρ1) : EO (tSS K te) ρ Q :=
  eo_sortSetB (h.imp fun d ρ1 q => by
    obtain ⟨ns, e, hl, q⟩ := q
    exact ⟨ns, e, ⟨by omega, .inl hl⟩, q⟩)
/-- all, any of truth values -/
def rAllB (K : PySem.W.Frag) : List V → Hp → VK → Prop := fun vs H Q => ∃ (F : Hp) (a : Addr) (xs : List V) (bs : List Bool), vs = [.ref a] ∧ Same F H ∧ Rd F a (.lst xs) ∧ RpA F xs (bs.map .bool) ∧ Q (.bl (bs.all id)) H
def rAnyB (K : PySem.W.Frag) : List V → Hp → VK → Prop := fun vs H Q => ∃ (F : Hp) (a : Addr) (xs : List V) (bs : List Bool), vs = [.ref a] ∧ Same F H ∧ Rd F a (.lst xs) ∧ RpA F xs (bs.map .bool) ∧ Q (.bl (bs.any id)) H
theorem plain_bools : ∀ bs : List Bool, PyData.plainAll (bs.map PyData.bool) = true
  | [] => rfl
  | b :: bs => by rw [List.map_cons, PyData.plainAll, plain_bools bs]; rfl
theorem cb_all (hc : X.calm = true) : CallR X (.builtin "all") (rAllB X.K) := by
  rintro pins s σ H vs us Q I r ⟨F, a, xs, bs, rfl, e, ha, ra, q⟩
  obtain ⟨its, rv, hl, hzl⟩ := I.list (sqL_rd (K := X.K) ha e)
  obtain ⟨as, rr⟩ := rpa_reads I e ra rv
  rw [Vals.ref1 r]
  refine PySem.W.all_list_data (I.ok.hd hc) hl.isList (by simpa using rr) (plain_bools bs) (fun x hx => by
    obtain ⟨b, _, rfl⟩ := List.mem_map.mp hx
    exact trivial) fun h' tk k => ?_
  refine ⟨.bl (bs.all id), H, I.kept k, ?_, q⟩
  rw [List.all_map]
  rfl
theorem cb_any (hc : X.calm = true) : CallR X (.builtin "any") (rAnyB X.K) := by
  rintro pins s σ H vs us Q I r ⟨F, a, xs, bs, rfl, e, ha, ra, q⟩
  obtain ⟨its, rv, hl, hzl⟩ := I.list (sqL_rd (K := X.K) ha e)
  obtain ⟨as, rr⟩ := rpa_reads I e ra rv
  rw [Vals.ref1 r]
  refine PySem.W.any_list_data (I.ok.hd hc) hl.isList (by simpa using rr) (plain_bools bs) (fun x hx => by
    obtain ⟨b, _, rfl⟩ := List.mem_map.mp hx
    exact trivial) fun h' tk k => ?_
  refine ⟨.bl (bs.any id), H, I.kept k, ?_, q⟩
  rw [List.any_map]
  rfl
theorem cbd_all {K : PySem.W.Frag} {bs : List Bool} {Q : D → Prop} (k : Q (.bool (bs.all id))) : CbD (rAllB K) [.list (bs.map .bool)] Q := fun F H vs e r Z z => by
  obtain ⟨v, rfl, rv⟩ := r.one
  obtain ⟨a, xs, rfl, h1, h2⟩ := rv.lst_inv
  exact ⟨F, a, xs, bs, rfl, e, h1, h2, z _ _ F H k (Gr.refl e) (.bl _)⟩
theorem cbd_any {K : PySem.W.Frag} {bs : List Bool} {Q : D → Prop} (k : Q (.bool (bs.any id))) : CbD (rAnyB K) [.list (bs.map .bool)] Q := fun F H vs e r Z z => by
  obtain ⟨v, rfl, rv⟩ := r.one
  obtain ⟨a, xs, rfl, h1, h2⟩ := rv.lst_inv
  exact ⟨F, a, xs, bs, rfl, e, h1, h2, z _ _ F H k (Gr.refl e) (.bl _)⟩
end
/-- two rising lists with the same members are one -/
theorem ris_eq : ∀ {xs ys : List Int}, xs.Pairwise (· < ·) → ys.Pairwise (· < ·) → (∀ k, k ∈ xs ↔ k ∈ ys) → xs = ys
  | [], [], _, _, _ => rfl
  | [], y :: ys, _, _, h => absurd ((h y).mpr (by simp)) (by simp)
  | x :: xs, [], _, _, h => absurd ((h x).mp (by simp)) (by simp)
  | x :: xs, y :: ys, hx, hy, h => by
    rw [List.pairwise_cons] at hx hy
    have e : x = y := by
      rcases List.mem_cons.mp ((h x).mp (by simp)) with q | q
      · exact q
      · rcases List.mem_cons.mp ((h y).mpr (by simp)) with q2 | q2
        · exact q2.symm
        · have := hx.1 y q2
          have := hy.1 x q
          omega
    subst e
    refine congrArg (x :: ·) (ris_eq hx.2 hy.2 fun k => ?_)
    constructor
    · intro hk
      rcases List.mem_cons.mp ((h k).mp (List.mem_cons_of_mem _ hk)) with q | q
      · have := hx.1 k hk; omega
      · exact q
    · intro hk
      rcases List.mem_cons.mp ((h k).mpr (List.mem_cons_of_mem _ hk)) with q | q
      · have := hy.1 k hk; omega
      · exact q
end Pu
/-! PuV: list(range(..)); (a, b) = a list; [list(x) for x in tuples] as a state. -/
namespace Pu
open PySem L2
def rowT (row : List (Option Int)) : D := .tuple (row.map optD)
section
variable {ρ : Pu.Env} {P : Po} {te ta tb tc : TE} {t : TS} {K : PySem.W.Frag}
/-- list(range(n)), list(range(a, b)) -/
theorem rgV_is (i j : Int) : rgV i j = (rngI i (j - i).toNat).map V.int := by
  unfold rgV rngI
  rw [List.map_map]
  rfl
theorem eo_listRg {te : St → Hp → (Int → Int → Hp → Prop) → Prop} {Q : List D → Pu.Env → Prop} (h : ∀ B ad σ F H, WA B ad ρ σ F H → ∀ Z : Int → Int → Hp → Prop, (∀ i j ρ' F' H', ((-1000000 ≤ i ∧ i ≤ 1000000 ∧ -1000000 ≤ j ∧ j ≤ 1000000) ∧ Q ((rngI i (j - i).toNat).map .int) ρ') → Post B ad σ ρ F H ρ' F' H' → Z i j H') → te σ H Z) : EO (tLstRg te) ρ Q := fun B ad σ F H w Z z =>
  h B ad σ F H w _ fun i j ρ' F' H' q p => by
    obtain ⟨⟨b1, b2, b3, b4⟩, q⟩ := q
    refine ⟨⟨by omega, by omega, by omega, by omega, by omega⟩, fun l hl => ?_⟩
    have hH : H l = none := by
      cases e : H l with
      | none => rfl
      | some o => exact absurd hl (p.gr.al l (by rw [e]; intro z; cases z))
    rw [rgV_is]
    exact z _ ρ' l _ F' _ q (p.trans (Post.of p.wa (Gr.heap p.wa.gr.fh (same_upd hl)))) (p.wa.newp hl).1 hH upd_same (RpA.ints _)
theorem eo_listRg1 {Q : List D → Pu.Env → Prop} (h : EX ta ρ fun d ρ1 => ∃ n, d = .int n ∧ (-1000000 ≤ n ∧ n ≤ 1000000) ∧ Q ((rngI 0 n.toNat).map .int) ρ1) : EO (tLstRg (tRg1 ta)) ρ Q := eo_listRg fun B ad σ F H w Z z =>
  h B ad σ F H w _ fun d ρ1 v F1 H1 q p rv => by
    obtain ⟨n, rfl, ⟨h1, h2⟩, q⟩ := q
    exact ⟨n, rv.int_inv, z 0 n ρ1 F1 H1 ⟨⟨by omega, by omega, h1, h2⟩, by rw [Int.sub_zero]; exact q⟩ p⟩
theorem eo_listRg2 {Q : List D → Pu.Env → Prop} (h : EX ta ρ fun d ρ1 => EX tb ρ1 fun e ρ2 => ∃ i j, d = .int i ∧ e = .int j ∧ (-1000000 ≤ i ∧ i ≤ 1000000 ∧ -1000000 ≤ j ∧ j ≤ 1000000) ∧ Q ((rngI i (j - i).toNat).map .int) ρ2) : EO (tLstRg (tRg2 ta tb)) ρ Q := eo_listRg fun B ad σ F H w Z z =>
  h B ad σ F H w _ fun d ρ1 v F1 H1 q1 p1 rv => q1 B ad σ F1 H1 p1.wa _ fun e ρ2 u F2 H2 q2 p2 ru => by
    obtain ⟨i, j, rfl, rfl, hb, q⟩ := q2
    exact ⟨i, j, rv.int_inv, ru.int_inv, z i j ρ2 F2 H2 ⟨hb, q⟩ (p1.trans p2)⟩
/-- (a, b) = a list -/
theorem sg_unl {J : List Nat} {n : Nat} {gs : TGs} {ds : List D} {Qn : Pu.Env → Prop} (hn : ds.length = n) (h : SGs J gs ds ρ Qn) : SG J (gUnl K n gs) (.list ds) ρ Qn := fun B ad σ F H v w hJ r Z z => by
  obtain ⟨a, xs, rfl, h1, h2⟩ := r.lst_inv
  exact ⟨a, xs, rfl, sqL_rd h1 w.gr.fh, h2.len.trans hn, h B ad σ F H xs w hJ h2 Z z⟩
/-- the same over tuples -/
theorem en_gridT {r : Nat} {Q : Stt → Pu.Env → Prop} (h : EX te ρ fun d ρ1 => ∃ rows, d = .list (rows.map rowT) ∧ rows.length < 1000000 ∧ r < ρ1.length ∧ Q (.grd rows) ρ1) :
    EN (tLc (iList K te) (gName r) tYes (tCB (rList K) (tCons (tVar r) tNil)) [r]) ρ Q := fun B ad σ F H w Z z => by
  have hi : EI (iList K te) ρ fun ds ρ1 => ∃ rows : List (List (Option Int)), ds = rows.map rowT ∧ rows.length < 1000000 ∧ r < ρ1.length ∧ Q (.grd rows) ρ1 := ei_list (h.imp fun d ρ1 e => by
    obtain ⟨rows, e, k⟩ := e
    exact ⟨_, e, rows, rfl, k⟩)
  refine hi B ad σ F H w _ fun ds ρ1 J F1 H1 q1 p1 it => ?_
  obtain ⟨rows, rfl, hz, hr, q⟩ := q1
  intro Dl hD
  have hrs : r < σ.length := by rw [p1.wa.len]; exact hr
  have nF1 : F1 Dl = none := (p1.wa.newp hD).1
  let Inv := fun (k : Nat) (H' : Hp) => ∃ qs F', Gr Non F1 H1 F' H' ∧ (Dl :: qs).Nodup ∧ (∀ a ∈ Dl :: qs, F' a = none ∧ H1 a = none) ∧ H' Dl = some (.lst (qs.map V.ref)) ∧ GrA H' qs (rows.take k) ∧ qs.length = k
  refine ⟨fun i m H' => m = (rows.map rowT).length - i ∧ i ≤ (rows.map rowT).length ∧ Inv i H', ⟨_, rfl, Nat.zero_le _, [], F1, Gr.heap p1.wa.gr.fh (same_upd hD), by simp, fun a ha => ?_, upd_same, trivial, rfl⟩, ?_⟩
  · have e : a = Dl := by simpa using ha
    rw [e]
    exact ⟨nF1, hD⟩
  rintro i m H' ⟨rfl, hi, qs, F', g, nd, fn, hl, hg, ql⟩
  by_cases hlt : i < (rows.map rowT).length
  · refine .inr ⟨it.go i H' (g.ff.trans g.fh) hlt, fun H2 => Inv (i + 1) H2, fun H2 k => ⟨(rows.map rowT).length - (i + 1), by omega, rfl, hlt, k⟩, fun x H2 y => ?_⟩
    obtain ⟨d, F2, e, gr, rx⟩ := it.yld i H' x H2 F' g.ff g.fh y hlt
    rw [List.getElem?_map] at e
    obtain ⟨row, ex, rfl⟩ : ∃ row, rows[i]? = some row ∧ rowT row = d := by
      cases hx : rows[i]? with
      | none => rw [hx] at e; cases e
      | some a => rw [hx] at e; exact ⟨a, rfl, Option.some.inj e⟩
    obtain ⟨p, xs, rfl, h1, h2⟩ := rx.tup_inv
    have hxs := ovs_inv h2
    subst hxs
    have g2 : Gr Non F1 H1 F2 H2 := g.trans gr (fun _ _ z => z) fun _ _ z => z
    have alive : ∀ a ∈ Dl :: qs, H' a ≠ none := fun a ha => by
      rcases List.mem_cons.mp ha with rfl | ha
      · rw [hl]; intro z; cases z
      · exact hg.mem a ha
    have hl2 : H2 Dl = some (.lst (qs.map V.ref)) := gr.kp _ _ hl id
    have hg2 : GrA H2 qs (rows.take i) := hg.keep fun a _ o e => gr.kp a o e id
    refine ⟨?_, ?_⟩
    · rw [wipe_set (by simp), wipe_twice]
    show tCB (rList K) (tCons (tVar r) tNil) _ H2 _
    refine ⟨_, List.getElem?_set_self (by rw [wipe_length]; exact hrs), p, row.map ov, rfl, .inr (sqT_rd h1 gr.fh), fun l hl0 => ?_⟩
    have ne : l ≠ Dl := fun z => by rw [z, hl2] at hl0; cases hl0
    have lout : ∀ a ∈ Dl :: qs, a ≠ l := fun a ha z => gr.al a (alive a ha) (by rw [z]; exact hl0)
    have F2l : F2 l = none := by
      cases q : F2 l with
      | none => rfl
      | some o => rw [g2.fh l o q] at hl0; cases hl0
    have H1l : H1 l = none := by
      cases q : H1 l with
      | none => rfl
      | some o => exact absurd hl0 (g2.al l (by rw [q]; intro z; cases z))
    have F2D : ∀ a ∈ Dl :: qs, F2 a = none := fun a ha => gr.fr a (alive a ha) (fn a ha).1
    refine ⟨qs.map V.ref, by rw [upd_ne (Ne.symm ne)]; exact hl2, ?_, ?_⟩
    · rw [List.length_map, ql]
      have : i < rows.length := by rw [List.length_map] at hlt; exact hlt
      exact Nat.lt_trans (Nat.lt_trans this hz) (by decide)
    show Inv (i + 1) _
    have nf : ∀ a o, F2 a = some o → a ≠ l ∧ a ≠ Dl := fun a o e => ⟨(fun z => by rw [z, F2l] at e; cases e), (fun z => by rw [z, F2D Dl (by simp)] at e; cases e)⟩
    have n1 : ∀ a, H1 a ≠ none → a ≠ l ∧ a ≠ Dl := fun a e => ⟨fun z => e (by rw [z]; exact H1l), fun z => e (by rw [z]; exact hD)⟩
    refine ⟨qs ++ [l], F2, ⟨g2.ff, fun a o e => ?_, fun a o e m => ?_, fun a e => ?_, g2.fr⟩, ?_, ?_, ?_, ?_, by simp [ql]⟩
    · rw [upd_ne (nf a o e).2, upd_ne (nf a o e).1]
      exact g2.fh a o e
    · have na := n1 a (by rw [e]; intro z; cases z)
      rw [upd_ne na.2, upd_ne na.1]
      exact g2.kp a o e m
    · have na := n1 a e
      rw [upd_ne na.2, upd_ne na.1]
      exact g2.al a e
    · rw [List.nodup_cons] at nd ⊢
      refine ⟨fun m => ?_, ?_⟩
      · rcases List.mem_append.mp m with m | m
        · exact nd.1 m
        · exact ne (List.mem_singleton.mp m).symm
      · refine List.nodup_append.mpr ⟨nd.2, by simp, fun a ha b hb e => ?_⟩
        rw [List.mem_singleton.mp hb] at e
        exact lout a (by simp [ha]) e
    · intro a ha
      rcases List.mem_cons.mp ha with rfl | ha
      · exact ⟨F2D _ (by simp), hD⟩
      · rcases List.mem_append.mp ha with ha | ha
        · exact ⟨F2D a (by simp [ha]), (fn a (by simp [ha])).2⟩
        · rw [List.mem_singleton.mp ha]; exact ⟨F2l, H1l⟩
    · rw [upd_same, List.map_append]; rfl
    · rw [take_snoc' ex]
      refine GrA.out (fun m => ?_) (GrA.app upd_same (GrA.out (fun m => lout l (by simp [m]) rfl) hg2))
      rcases List.mem_append.mp m with m | m
      · exact (List.nodup_cons.mp nd).1 m
      · exact ne (List.mem_singleton.mp m).symm
  · have e : i = rows.length := by rw [List.length_map] at hlt hi; omega
    subst e
    rw [List.take_length] at hg
    exact .inl ⟨it.stop _ H' (g.ff.trans g.fh) (by rw [List.length_map]; exact Nat.le_refl _), z (.grd rows) Dl (Dl :: qs) ρ1 F1 H1 F' H' q p1 g ⟨qs, rfl, nd, hl, hg⟩ fn⟩

/-! sorted lists of pairs -/
def leP (a b : Int × Int) : Bool := !ltP b a
theorem sortD_P (xs : List (Int × Int)) : sortD (xs.map encP) = (xs.mergeSort leP).map encP := by
  have e := PySem.W.sort_maps (r := leP) (s := PySem.W.dataLe false id) encP (l := xs) (fun a _ b _ => by
    show (!ltP b a) = (!PySem.W.dataLt (encP b) (encP a))
    rw [dataLt_P])
  exact e.symm
theorem alike_PP (xs : List (Int × Int)) : PySem.W.AllAlike (xs.map encP) := fun x hx y hy => by
  obtain ⟨a, _, rfl⟩ := List.mem_map.mp hx
  obtain ⟨b, _, rfl⟩ := List.mem_map.mp hy
  rfl
theorem sortable_P (xs : List (Int × Int)) : PySem.W.Sortable (xs.map encP) := .inl fun x hx => by
  obtain ⟨a, _, rfl⟩ := List.mem_map.mp hx
  exact ⟨_, _, rfl⟩
theorem deep_P (xs : List (Int × Int)) : PyData.depthAll (xs.map encP) ≤ 60 := depthAll_le (dpn_map fun x _ => dpn_tup (dpn_cons dpn_int (dpn_cons dpn_int dpn_nil)))
theorem cbd_sortP {xs : List (Int × Int)} {Q : D → Prop} (k : Q (.list ((xs.mergeSort leP).map encP))) : CbD (rSrD K) [.list (xs.map encP)] Q := cbd_sortD (alike_PP xs) (sortable_P xs) (deep_P xs) (by rw [sortD_P]; exact k)
theorem leP_trans (a b c : Int × Int) (h1 : leP a b = true) (h2 : leP b c = true) : leP a c = true := by
  simp only [leP, ltP, Bool.not_eq_true', decide_eq_false_iff_not] at *
  omega
theorem leP_total (a b : Int × Int) : (leP a b || leP b a) = true := by
  simp only [leP, ltP, Bool.or_eq_true, Bool.not_eq_true', decide_eq_false_iff_not]
  omega
theorem rng_nodup (n : Nat) : (rngI 0 n).Nodup := by
  unfold rngI
  exact List.pairwise_map.mpr (List.nodup_range.imp fun h e => h (by omega))
/-! one item less, one more -/
theorem getD_setN {α : Type} {l : List α} {i j : Nat} {x a : α} (hi : i < l.length) : (l.set i x).getD j a = if j = i then x else l.getD j a := by
  rw [List.getD_eq_getElem?_getD, List.getD_eq_getElem?_getD]
  by_cases e : j = i
  · rw [if_pos e, e, List.getElem?_set_self hi]; rfl
  · rw [if_neg e, List.getElem?_set_ne (Ne.symm e)]
theorem sum_setI : ∀ {P : List Int} {k : Nat} {x : Int}, k < P.length → (P.set k x).sum = P.sum - P.getD k 0 + x
  | p :: P, 0, x, _ => by simp; omega
  | p :: P, k + 1, x, h => by
    have := sum_setI (P := P) (k := k) (x := x) (by simpa using h)
    simp only [List.set_cons_succ, List.sum_cons, List.getD_cons_succ]
    omega
/-! rows of two as a state -/
def tab2 (n : Nat) (f : Nat → Int × Int) : List (List (Option Int)) := (List.range n).map fun k => [some (f k).1, some (f k).2]
theorem tab2_len (n : Nat) (f : Nat → Int × Int) : (tab2 n f).length = n := by unfold tab2; simp
theorem tab2_at {n : Nat} {f : Nat → Int × Int} {k : Nat} (h : k < n) : (tab2 n f)[k]? = some [some (f k).1, some (f k).2] := by
  unfold tab2
  rw [List.getElem?_map, List.getElem?_range h]; rfl
theorem tab2_set {n : Nat} {f g : Nat → Int × Int} {k : Nat} {r : List (Option Int)} (h : k < n) (hr : r = [some (g k).1, some (g k).2]) (ho : ∀ j, j < n → j ≠ k → f j = g j) : (tab2 n f).set k r = tab2 n g := by
  apply List.ext_getElem?
  intro j
  by_cases hj : j < n
  · by_cases e : j = k
    · subst e
      rw [List.getElem?_set_self (by rw [tab2_len]; exact hj), tab2_at hj, hr]
    · rw [List.getElem?_set_ne (Ne.symm e), tab2_at hj, tab2_at hj, ho j hj e]
  · rw [List.getElem?_eq_none (by rw [List.length_set, tab2_len]; omega), List.getElem?_eq_none (by rw [tab2_len]; omega)]
theorem tab2_congr {n : Nat} {f g : Nat → Int × Int} (h : ∀ j, j < n → f j = g j) : tab2 n f = tab2 n g := by
  unfold tab2
  refine List.map_congr_left fun k hk => ?_
  rw [h k (List.mem_range.mp hk)]
theorem ixN_nat {n k : Nat} (h : k < n) : ixN n (k : Int) = some k := by
  unfold ixN
  rw [if_pos (by omega), if_pos (by omega), Int.toNat_natCast]

/-! an own list lent to what makes a new list of scalars or tuples of these -/
mutual
def flatD : D → Bool
  | .none => true
  | .bool _ => true
  | .int _ => true
  | .str _ => true
  | .tuple ds => flatAll ds
  | _ => false
def flatAll : List D → Bool
  | [] => true
  | d :: ds => flatD d && flatAll ds
end
def cutF (F : Hp) (p : Addr) : Hp := fun q => if q = p then none else F q
mutual
theorem flat_rp {F : Hp} {p : Addr} {ws : List V} (hp : F p = some (.lst ws)) : ∀ (d : D) {v : V}, flatD d = true → Rp F v d → Rp (cutF F p) v d
  | .none, _, _, h => by cases h; exact .non
  | .bool b, _, _, h => by cases h; exact .bl b
  | .int i, _, _, h => by cases h; exact .int i
  | .str x, _, _, h => by cases h; exact .str x
  | .list ds, _, f, _ => by simp [flatD] at f
  | .dict _, _, f, _ => by simp [flatD] at f
  | .tuple ds, _, f, h => by
    cases h with
    | @tup a xs _ h1 h2 =>
      have ne : a ≠ p := fun e => by rw [e, hp] at h1; cases h1
      exact .tup (show cutF F p a = _ by unfold cutF; rw [if_neg ne]; exact h1) (flat_rpa hp ds (by simpa [flatD] using f) h2)
theorem flat_rpa {F : Hp} {p : Addr} {ws : List V} (hp : F p = some (.lst ws)) : ∀ (ds : List D) {vs : List V}, flatAll ds = true → RpA F vs ds → RpA (cutF F p) vs ds
  | [], _, _, h => by cases h; exact .nil
  | d :: ds, _, f, h => by
    cases h with
    | cons h1 h2 =>
      simp only [flatAll, Bool.and_eq_true] at f
      exact .cons (flat_rp hp d f.1 h1) (flat_rpa hp ds f.2 h2)
end
theorem WA.back2 {B : Base} {ad : Nat → List Addr} {σ : St} {F H F' H' : Hp} (w : WA B ad ρ σ F H) {i : Nat} {ds : List D} (h : ρ[i]? = some (.own ds)) {p : Addr} {vs : List V} (hp : ad i = [p]) (hF : F p = none) (hHp : H p = some (.lst vs)) (h0 : B.H0 p = none) {ad1 : Nat → List Addr} {ρ1 : Pu.Env} (e1 : ρ1 = ρ.set i (.val (.list ds))) (ea : ad1 = fun k => if k = i then [] else ad k)
    (P : Post B ad1 σ ρ1 (upd F p (.lst vs)) H ρ1 F' H') : Post B ad σ ρ F H ρ (cutF F' p) H' := by
  subst e1 ea
  have ms : ∀ a, MS (fun k => if k = i then [] else ad k) (ρ.set i (.val (.list ds))) a → MS ad ρ a := fun a ⟨j, S, e, m⟩ => by
    rcases get_set e with ⟨_, q⟩ | ⟨hj, e⟩
    · cases q
    · simp only [if_neg hj] at m
      exact ⟨j, S, e, m⟩
  have ff : Same F (cutF F' p) := fun q o e => by
    have ne : q ≠ p := fun z => by rw [z, hF] at e; cases e
    unfold cutF
    rw [if_neg ne]
    exact P.gr.ff q o (by rw [upd_ne ne]; exact e)
  have fh : Same (cutF F' p) H' := fun q o e => by
    unfold cutF at e
    by_cases ne : q = p
    · rw [if_pos ne] at e; cases e
    · rw [if_neg ne] at e; exact P.gr.fh q o e
  have cutn : ∀ q, F' q = none → cutF F' p q = none := fun q e => by
    unfold cutF
    split
    · rfl
    · exact e
  have frq : ∀ a, H a ≠ none → F a = none → cutF F' p a = none := fun a e z => by
    by_cases ne : a = p
    · unfold cutF; rw [if_pos ne]
    · exact cutn a (P.gr.fr a e (by rw [upd_ne ne]; exact z))
  have nms : ∀ j q, q ∈ ad j → (∀ S, ρ[j]? ≠ some (Slot.st S)) → ¬ MS ad ρ q := fun j q m hj ⟨j', S, e, m'⟩ => by
    have := w.dj j j' q m m'
    subst this
    exact hj S e
  refine ⟨⟨⟨w.gr.ff.trans ff, fh, P.wa.gr.kp, P.wa.gr.al, fun a e z => frq a (w.gr.al a e) (w.gr.fr a e z)⟩, w.len, fun j s e => ?_, fun j q m => ⟨frq q (w.lv m) (w.fz j q m).1, (w.fz j q m).2⟩, w.dj, w.out, w.pin⟩, ⟨ff, fh, fun a o e m => P.gr.kp a o e fun z => m (ms a z), P.gr.al, frq⟩, fun j S e => ⟨S, e⟩⟩
  have k := w.sl j s e
  cases s with
  | emp => exact k
  | val d =>
    obtain ⟨k, v, e, r⟩ := k
    exact ⟨k, v, e, r.up ff⟩
  | own es =>
    obtain ⟨q, ws, k, k0, k1, k2, r⟩ := k
    exact ⟨q, ws, k, k0, k1, P.gr.kp q _ k2 fun z => nms j q (by rw [k]; simp) (fun S z => by rw [e] at z; cases z) (ms q z), r.up ff⟩
  | st S =>
    have hj : j ≠ i := fun z => by subst z; rw [h] at e; cases e
    have k' := P.wa.sl j (.st S) (by rw [List.getElem?_set_ne (Ne.symm hj)]; exact e)
    simp only [if_neg hj] at k'
    exact k'
theorem eo_lend (i : Nat) {ds : List D} {Q : List D → Pu.Env → Prop} (h : ρ[i]? = some (.own ds)) (k : EO te (ρ.set i (.val (.list ds))) fun es ρ' => ρ' = ρ.set i (.val (.list ds)) ∧ flatAll es = true ∧ Q es ρ) : EO te ρ Q := fun B ad σ F H w Z z => by
  obtain ⟨p, vs, k1, k2, k3, k4, k5, k6, w2⟩ := w.lend h
  refine k B _ σ _ H w2 Z fun es ρ' q us F' H' hq P hF hH hl r => ?_
  obtain ⟨rfl, fl, hq⟩ := hq
  have hp : F' p = some (.lst vs) := P.gr.ff p _ upd_same
  exact z es ρ q us (cutF F' p) H' hq (w.back2 h k1 k2 k3 k5 rfl rfl P) (by
    unfold cutF
    split
    · rfl
    · exact hF) hH hl (flat_rpa hp es fl r)
/-! items of rows of two -/
theorem ex_tabA {i n : Nat} {f : Nat → Int × Int} {Q : D → Pu.Env → Prop} (m : Nat) (h : ρ[i]? = some (.st (.grd (tab2 n f)))) (hm : m < n) (k : EX tb ρ fun d ρ1 => d = .int (m : Int) ∧ ρ1 = ρ) (q : Q (.int (f m).1) ρ) : EX (tOp (rIxA K) (tOp (rIxA K) (tVar i) tb) (tC (.int 0))) ρ Q :=
  ex_grd h (k.imp fun d ρ1 ⟨e1, e2⟩ => by
    subst e1 e2
    exact ⟨_, m, _, _, rfl, h, by rw [tab2_len]; exact ixN_nat hm, tab2_at hm, ex_int ⟨_, _, _, _, rfl, h, tab2_at hm, rfl, q⟩⟩)
theorem ex_tabB {i n : Nat} {f : Nat → Int × Int} {Q : D → Pu.Env → Prop} (m : Nat) (h : ρ[i]? = some (.st (.grd (tab2 n f)))) (hm : m < n) (k : EX tb ρ fun d ρ1 => d = .int (m : Int) ∧ ρ1 = ρ) (q : Q (.int (f m).2) ρ) : EX (tOp (rIxA K) (tOp (rIxA K) (tVar i) tb) (tC (.int 1))) ρ Q :=
  ex_grd h (k.imp fun d ρ1 ⟨e1, e2⟩ => by
    subst e1 e2
    exact ⟨_, m, _, _, rfl, h, by rw [tab2_len]; exact ixN_nat hm, tab2_at hm, ex_int ⟨_, _, _, _, rfl, h, tab2_at hm, rfl, q⟩⟩)
theorem sx_tabA {i n : Nat} {f : Nat → Int × Int} (m : Nat) (x : Int) (h : ρ[i]? = some (.st (.grd (tab2 n f)))) (hm : m < n) (e : EX te ρ fun d ρ1 => d = .int x ∧ ρ1 = ρ) (k : EX tb ρ fun d ρ1 => d = .int (m : Int) ∧ ρ1 = ρ) (q : NX P (ρ.set i (.st (.grd (tab2 n fun j => if j = m then (x, (f j).2) else f j))))) :
    SX (tAsg te (gSub (tOp (rIxA K) (tVar i) tb) (tC (.int 0)) rSetL)) ρ P := sx_setG (e.imp fun d ρ1 ⟨e1, e2⟩ => by
  subst e1 e2
  refine ⟨some x, _, rfl, h, k.imp fun d ρ1 ⟨e1, e2⟩ => ?_⟩
  subst e1 e2
  refine ⟨_, m, _, _, rfl, h, by rw [tab2_len]; exact ixN_nat hm, tab2_at hm, ex_int ⟨_, 0, _, _, rfl, h, tab2_at hm, rfl, ?_⟩⟩
  rw [tab2_set (g := fun j => if j = m then (x, (f j).2) else f j) hm (by simp) fun j _ hj => by rw [if_neg hj]]
  exact q)
theorem sx_tabB {i n : Nat} {f : Nat → Int × Int} (m : Nat) (x : Int) (h : ρ[i]? = some (.st (.grd (tab2 n f)))) (hm : m < n) (e : EX te ρ fun d ρ1 => d = .int x ∧ ρ1 = ρ) (k : EX tb ρ fun d ρ1 => d = .int (m : Int) ∧ ρ1 = ρ) (q : NX P (ρ.set i (.st (.grd (tab2 n fun j => if j = m then ((f j).1, x) else f j))))) :
    SX (tAsg te (gSub (tOp (rIxA K) (tVar i) tb) (tC (.int 1)) rSetL)) ρ P := sx_setG (e.imp fun d ρ1 ⟨e1, e2⟩ => by
  subst e1 e2
  refine ⟨some x, _, rfl, h, k.imp fun d ρ1 ⟨e1, e2⟩ => ?_⟩
  subst e1 e2
  refine ⟨_, m, _, _, rfl, h, by rw [tab2_len]; exact ixN_nat hm, tab2_at hm, ex_int ⟨_, 1, _, _, rfl, h, tab2_at hm, rfl, ?_⟩⟩
  rw [tab2_set (g := fun j => if j = m then ((f j).1, x) else f j) hm (by simp) fun j _ hj => by rw [if_neg hj]]
  exact q)
/-! small words -/
theorem last_M {α : Type} {f : α → D} {xs : List α} (a : α) (h : 0 < xs.length) : atI (xs.map f) (-1) = some (f (xs.getD (xs.length - 1) a)) := by
  have e : ixN (xs.map f).length (-1) = some (xs.length - 1) := by
    rw [List.length_map]
    unfold ixN
    rw [if_neg (by omega), if_pos (by omega)]
    congr 1
    omega
  unfold atI
  rw [e]
  show (xs.map f)[xs.length - 1]? = _
  rw [List.getElem?_map, get_D (a := a) (by omega)]
  rfl
theorem opd_int {gs : List Int} {k : Nat} {Q : D → Prop} (h : k < gs.length) (q : Q (.int (gs.getD k 0))) : OpD (rIxA K) (.list (gs.map .int)) (.int (k : Int)) Q := opd_ixM (f := PyData.int) 0 (by omega) (by omega) (by rw [Int.toNat_natCast]; exact q)
theorem cut_n {α : Type} (f : α → D) (xs : List α) (n : Nat) : cutD (xs.map f) none (some (n : Int)) = (xs.take n).map f := by
  unfold cutD
  simp only [HT.sIx]
  rw [if_neg (by omega), List.length_map, List.map_take]
  show List.take (min ((n : Int)).toNat xs.length - 0) (List.map f xs) = _
  rw [Nat.sub_zero, Int.toNat_natCast]
  by_cases h : n ≤ xs.length
  · rw [Nat.min_eq_left h]
  · rw [Nat.min_eq_right (by omega), List.take_of_length_le (by rw [List.length_map]; exact Nat.le_refl _), List.take_of_length_le (by rw [List.length_map]; omega)]
theorem cut_drop {α : Type} (f : α → D) (xs : List α) (n : Nat) : cutD (xs.map f) (some (n : Int)) none = (xs.drop n).map f := by
  unfold cutD
  rw [List.length_map, List.map_drop]
  simp only [HT.sIx]
  rw [if_neg (by omega), Int.toNat_natCast]
  rcases Nat.lt_or_ge xs.length n with q | q
  · rw [Nat.min_eq_right (by omega), Nat.sub_self, List.take_zero, List.drop_of_length_le (by rw [List.length_map]; omega)]
  · rw [Nat.min_eq_left q]
    exact List.take_of_length_le (by rw [List.length_drop, List.length_map]; omega)
theorem zip_enc : ∀ (ls hs : List Int), List.zipWith (fun d f => PyData.tuple [d, f]) (ls.map PyData.int) (hs.map PyData.int) = (ls.zip hs).map encP
  | [], _ => by simp
  | _ :: _, [] => by simp
  | a :: ls, b :: hs => by
    simp only [List.map_cons, List.zipWith_cons_cons, List.zip_cons_cons, zip_enc ls hs]
    rfl
theorem opd_neB {a b : Bool} {Q : D → Prop} (k : Q (.bool (!decide (a = b)))) : OpD (rNeP K) (.bool a) (.bool b) Q := opd_neP (min_l (by simp [PyData.depth])) (by
  have e : PyData.eqv (.bool a) (.bool b) = decide (a = b) := by cases a <;> cases b <;> rfl
  rw [e]; exact k)
theorem dec_lt (a b : Nat) : decide ((a : Int) < (b : Int)) = decide (a < b) := by
  by_cases h : a < b
  · rw [decide_eq_true h, decide_eq_true (by omega)]
  · rw [decide_eq_false h, decide_eq_false (by omega)]
theorem dec_0 (a : Nat) : decide ((a : Int) = 0) = decide (a = 0) := by
  by_cases h : a = 0
  · rw [decide_eq_true h, decide_eq_true (by omega)]
  · rw [decide_eq_false h, decide_eq_false (by omega)]
theorem dec_p (a : Nat) : decide (0 < (a : Int)) = decide (0 < a) := by
  by_cases h : 0 < a
  · rw [decide_eq_true h, decide_eq_true (by omega)]
  · rw [decide_eq_false h, decide_eq_false (by omega)]
theorem SX.into {t : TS} {X : Pu.Env → Prop} (h : SX t ρ { nx := X, rt := fun _ _ => False }) (k : ∀ ρ', X ρ' → P.nx ρ') : SX t ρ P := fun B σ F H w Dn n r b c =>
  h B σ F H w Dn (fun ρ' σ' F' H' q w' => n ρ' σ' F' H' (k ρ' q) w') (fun _ _ _ _ _ _ q _ _ => q.elim) (fun _ _ _ _ q _ => q.elim) (fun _ _ _ _ q _ => q.elim)
/-- a comprehension over data, no filter -/
theorem filt_all {α β : Type} (xs : List α) (g : α → β) : (xs.filter fun _ => true).map g = xs.map g := by rw [List.filter_eq_self.mpr (fun _ _ => rfl)]
end
end Pu
/-! PuW: data >= data; triples of whole numbers, sorted -/
namespace Pu
open PySem L2
section
variable {X : Cx} {K : PySem.W.Frag} {d1 d2 : D} {Q : D → Prop}
def rGeD (K : PySem.W.Frag) : R2 := fun x y H Q => ∃ d e, Dp K H x d ∧ Dp K H y e ∧ PySem.W.alike d e = true ∧ d ≠ .none ∧ min d.depth e.depth ≤ 60 ∧ Q (.bl (!PySem.W.dataLt d e)) H
theorem op_geD (hu : X.A.units + 64 < cLine) : OpR X (compareOp .GtE) (rGeD X.K) := by
  rintro pins s σ H x y v u Q I rx ry ⟨d, e, hd, he, pd, pe, hz, q⟩
  obtain ⟨as, r1⟩ := Dp.reads I d x v hd rx
  obtain ⟨bs, r2⟩ := Dp.reads I e y u he ry
  exact PySem.W.ge_data r1 r2 pd pe (by omega) ⟨.bl _, H, I, rfl, q⟩
theorem opd_geD (al : PySem.W.alike d1 d2 = true) (hn : d1 ≠ .none) (h : min d1.depth d2.depth ≤ 60) (k : Q (.bool (!PySem.W.dataLt d1 d2))) : OpD (rGeD K) d1 d2 Q := fun F H x y e rx ry Z z => ⟨d1, d2, rx.dp e, ry.dp e, al, hn, h, z _ _ F H k (Gr.refl e) (.bl _)⟩
theorem opd_geP {p q : Int × Int} (k : Q (.bool (!ltP p q))) : OpD (rGeD K) (encP p) (encP q) Q := opd_geD rfl (by unfold encP; simp) (min_l (by simp [encP, PyData.depth, PyData.depthAll])) (by rw [dataLt_P]; exact k)
abbrev Rw := Int × Int × Int
def encR (r : Rw) : D := .tuple [.int r.1, .int r.2.1, .int r.2.2]
def ltR (a b : Rw) : Bool := decide (a.1 < b.1 ∨ a.1 = b.1 ∧ (a.2.1 < b.2.1 ∨ a.2.1 = b.2.1 ∧ a.2.2 < b.2.2))
theorem dataLt_R (a b : Rw) : PySem.W.dataLt (encR a) (encR b) = ltR a b := by
  unfold encR ltR
  rw [PySem.W.dataLt_tuple, PySem.W.dataLt_cons rfl, PySem.W.dataLt_cons rfl, PySem.W.dataLt_cons rfl]
  have e : PyProof.Rows.lexLt PyProof.Rows.itemOrd (PySem.W.keyToksAll []) (PySem.W.keyToksAll []) = false := PyProof.Rows.lex_irrefl _
  rw [e]
  simp only [PyData.eqv, PySem.W.dataLt_int, beq_iff_eq]
  by_cases h : a.1 = b.1 <;> by_cases h2 : a.2.1 = b.2.1 <;> by_cases h3 : a.2.2 = b.2.2 <;> simp [h, h2, h3]
def leR (a b : Rw) : Bool := !ltR b a
theorem sortD_R (xs : List Rw) : sortD (xs.map encR) = (xs.mergeSort leR).map encR := by
  have e := PySem.W.sort_maps (r := leR) (s := PySem.W.dataLe false id) encR (l := xs) (fun a _ b _ => by
    show (!ltR b a) = (!PySem.W.dataLt (encR b) (encR a))
    rw [dataLt_R])
  exact e.symm
theorem alike_RR (xs : List Rw) : PySem.W.AllAlike (xs.map encR) := fun x hx y hy => by
  obtain ⟨a, _, rfl⟩ := List.mem_map.mp hx
  obtain ⟨b, _, rfl⟩ := List.mem_map.mp hy
  rfl
theorem sortable_R (xs : List Rw) : PySem.W.Sortable (xs.map encR) := .inl fun x hx => by
  obtain ⟨a, _, rfl⟩ := List.mem_map.mp hx
  exact ⟨_, _, rfl⟩
theorem deep_R (xs : List Rw) : PyData.depthAll (xs.map encR) ≤ 60 := depthAll_le (dpn_map fun x _ => dpn_tup (dpn_cons dpn_int (dpn_cons dpn_int (dpn_cons dpn_int dpn_nil))))
theorem cbd_sortR {xs : List Rw} {Q : D → Prop} (k : Q (.list ((xs.mergeSort leR).map encR))) : CbD (rSrD K) [.list (xs.map encR)] Q := cbd_sortD (alike_RR xs) (sortable_R xs) (deep_R xs) (by rw [sortD_R]; exact k)
theorem leR_trans (a b c : Rw) (h1 : leR a b = true) (h2 : leR b c = true) : leR a c = true := by
  unfold leR ltR at *
  simp only [Bool.not_eq_true', decide_eq_false_iff_not] at *
  omega
theorem leR_total (a b : Rw) : (leR a b || leR b a) = true := by
  unfold leR ltR
  simp only [Bool.or_eq_true, Bool.not_eq_true', decide_eq_false_iff_not]
  omega
/-! a if c else b, as a test; range of three -/
def tIfT (t ta tb : TT) : TT := fun σ H Q => t σ H fun c H1 => if c = true then ta σ H1 Q else tb σ H1 Q
theorem pt_ifExp {a b c : Expr} {pos : Pos} {tA tB tC : TT} (hc : PT X c tA) (ha : PT X a tB) (hb : PT X b tC) : PT X (.IfExp c a b pos) (tIfT tA tB tC) := by
  refine ⟨fun pins s σ H Q I h => ?_⟩
  refine PyProof.Rows.isTrue_IfExp (L2.thn (hc.run pins s σ H _ I h) fun d s1 ⟨H1, I1, q1⟩ => ?_)
  cases d with
  | true => exact ha.run pins s1 σ H1 Q I1 q1
  | false => exact hb.run pins s1 σ H1 Q I1 q1
theorem et_ifT {ρ : Pu.Env} {tt tu tv : TT} {Q : Bool → Pu.Env → Prop} (h : ET tt ρ fun b ρ1 => (b = true → ET tu ρ1 Q) ∧ (b = false → ET tv ρ1 Q)) : ET (tIfT tt tu tv) ρ Q := fun B ad σ F H w Z z =>
  h B ad σ F H w _ fun b ρ1 F1 H1 q1 p1 => by
    cases b with
    | true =>
      show tu σ H1 Z
      exact q1.1 rfl B ad σ F1 H1 p1.wa Z fun b ρ' F' H' q p => z b ρ' F' H' q (p1.trans p)
    | false =>
      show tv σ H1 Z
      exact q1.2 rfl B ad σ F1 H1 p1.wa Z fun b ρ' F' H' q p => z b ρ' F' H' q (p1.trans p)
def stpI (l c : Int) (n : Nat) : List Int := (List.range n).map fun k : Nat => l + (k : Int) * c
theorem stpI_len (l c : Int) (n : Nat) : (stpI l c n).length = n := by simp [stpI]
theorem stpI_get {l c : Int} {n k : Nat} (h : k < n) : (stpI l c n)[k]? = some (l + (k : Int) * c) := by simp [stpI, h]
theorem itd_stp {F : Hp} (l c : Int) (n : Nat) : ItD (Itc l c n) F ((stpI l c n).map .int) where
  go := fun i H _ h => by rw [List.length_map, stpI_len] at h; exact h
  stop := fun i H _ h => by rw [List.length_map, stpI_len] at h; exact h
  yld := fun i H x H' F1 _ e2 y h => by
    rw [List.length_map, stpI_len] at h
    obtain ⟨rfl, rfl⟩ := y
    exact ⟨.int (l + (i : Int) * c), F1, by rw [List.getElem?_map, stpI_get h]; rfl, Gr.refl e2, .int _⟩
theorem ei_rng3 {ρ : Pu.Env} {t : TA} {Q : List D → Pu.Env → Prop} (h : EA t ρ fun ds ρ1 => ∃ l n c m, ds = [.int l, .int n, .int c] ∧ RgC l n c m ∧ Q ((stpI l c m).map .int) ρ1) : EI (iRng3 t) ρ Q := fun B ad σ F H w R z =>
  h B ad σ F H w _ fun ds ρ1 vs F1 H1 q p r => by
    obtain ⟨l, n, c, m, rfl, rg, q⟩ := q
    cases r with
    | cons r1 r =>
      cases r with
      | cons r2 r =>
        cases r with
        | cons r3 r =>
          cases r
          exact ⟨l, n, c, m, by rw [r1.int_inv, r2.int_inv, r3.int_inv], rg, z _ ρ1 _ F1 H1 q p (itd_stp l c m)⟩
end
end Pu
/-! PuX: xs.remove(n), xs an own list of ints -/
namespace Pu
open PySem L2
section
variable {ρ : Pu.Env} {te : TE} {K : PySem.W.Frag} {P : Po}
theorem erase_find : ∀ (ns : List Int) (x : Int), x ∈ ns → ∃ j : Nat, ns[j]? = some x ∧ (∀ m : Nat, m < j → ns[m]? ≠ some x) ∧ ns.eraseIdx j = ns.erase x
  | n :: ns, x, h => by
    by_cases c : n = x
    · subst c
      exact ⟨0, rfl, fun m hm => absurd hm (Nat.not_lt_zero _), by simp⟩
    · obtain ⟨j, h1, h2, h3⟩ := erase_find ns x ((List.mem_cons.mp h).resolve_left fun e => c e.symm)
      refine ⟨j + 1, by simpa using h1, fun m hm => ?_, ?_⟩
      · cases m with
        | zero => simpa using c
        | succ m => simpa using h2 m (by omega)
      · rw [List.eraseIdx_cons_succ, h3, List.erase_cons_tail (by simpa using c)]
/-- xs.remove(n), xs an own list of ints -/
theorem sx_rem {i : Nat} {es : List D} (h : ρ[i]? = some (.own es)) (k : EX te ρ fun d ρ1 => ∃ (ns : List Int) (x : Int), ρ1[i]? = some (.own (ns.map .int)) ∧ d = .int x ∧ x ∈ ns ∧ NX P (ρ1.set i (.own ((ns.erase x).map .int)))) : SX (tDrop (tBM K "list" rRemI (tVar i) (tCons te tNil))) ρ P := fun B σ F H w Dn n r b c => by
  obtain ⟨ad, w⟩ := w
  obtain ⟨p0, vs0, _, _, k1, k0, _⟩ := w.sl i _ h
  refine ⟨_, k1, .inl ⟨rfl, _, .inl (.inl k0)⟩, k B ad σ F H w _ fun d ρ1 v F1 H1 q1 p1 r1 => ?_⟩
  obtain ⟨ns, x, h1, rfl, hx, ρ', l, q⟩ := q1
  obtain ⟨p, vs, _, _, k2, k3, rr⟩ := p1.wa.sl i _ h1
  have e := k1.symm.trans k2
  cases e
  have ev := rr.ints_inv
  subst ev
  have ex := r1.int_inv
  subst ex
  obtain ⟨j, j1, j2, j3⟩ := erase_find ns x hx
  refine ⟨_, ns, x, j, rfl, rfl, k3, j1, j2, ?_⟩
  rw [j3]
  exact n ρ' σ F1 _ q ((p1.wa.mut h1 k2 (RpA.ints _)).weak l)
end
end Pu
/-! readings of the defs of law_k43_whole_gaps: printed by gen.py -/
namespace Law_k43
open PySem L2 Pu

/-- rules_of: slots windows 0, gaps 1, found 2, at 3, first 4, last 5, one 6, other 7, least 8; own: found -/
abbrev N_rules_of : List Str := ["windows", "gaps", "found", "at", "first", "last", "one", "other", "least"]
def T_rules_of (K : PySem.W.Frag) : TS :=
    (tSeq (tAsg (tLst tNil) (gName 2))
    (tSeq (tFor (iEnum K (tCons (tVar 0) tNil)) (gTup K 2 (gCons (gName 3) (gCons (gTup K 2 (gCons (gName 4) (gCons (gName 5) gNil))) gNil)))
      (tDrop (tBM K "list" rExtR (tVar 2) (tCons (tLst (tCons (tTup (tCons (tC (.int 0)) (tCons (tOp (rPlus K) (tVar 3) (tC (.int 1))) (tCons (tVar 4) tNil)))) (tCons (tTup (tCons (tOp (rPlus K) (tVar 3) (tC (.int 1))) (tCons (tC (.int 0)) (tCons (tOp (rI0 fun i j => .int (i - j)) (tC (.int 0)) (tVar 5)) tNil)))) tNil))) tNil))))
    (tRet (tOp (rPlus K) (tVar 2) (tLc (iList K (tVar 1)) (gTup K 3 (gCons (gName 6) (gCons (gName 7) (gCons (gName 8) gNil)))) tYes (tTup (tCons (tOp (rPlus K) (tVar 6) (tC (.int 1))) (tCons (tOp (rPlus K) (tVar 7) (tC (.int 1))) (tCons (tVar 8) tNil)))) [6, 7, 8])))))
/-- longest_from: slots count 0, rules 1, start 2, far 3, came 4, turn 5, changed 6, number 7, one 8, other 9, least 10; own: came, far -/
abbrev N_longest_from : List Str := ["count", "rules", "start", "far", "came", "turn", "changed", "number", "one", "other", "least"]
def T_longest_from (K : PySem.W.Frag) : TS :=
    (tSeq (tAsg (tOp (rRepR) (tLst (tCons (tC .non) tNil)) (tVar 0)) (gName 3))
    (tSeq (tAsg (tC (.int 0)) (gSub (tVar 3) (tVar 2) rSetL))
    (tSeq (tAsg (tOp (rRepR) (tLst (tCons (tC .non) tNil)) (tVar 0)) (gName 4))
    (tSeq (tFor (iRng1 (tCons (tOp (rPlus K) (tVar 0) (tC (.int 1))) tNil)) (gName 5)
      (tSeq (tAsg (tC .non) (gName 6))
    (tSeq (tFor (iEnum K (tCons (tVar 1) tNil)) (gTup K 2 (gCons (gName 7) (gCons (gTup K 3 (gCons (gName 8) (gCons (gName 9) (gCons (gName 10) gNil)))) gNil)))
      (tIfS (tAnd (tTest (tOp (rIsnt) (tOp (rIxA K) (tVar 3) (tVar 8)) (tC .non))) (tOr (tTest (tOp (rIs) (tOp (rIxA K) (tVar 3) (tVar 9)) (tC .non))) (tTest (tOp (rI0 fun i j => .bl (decide (j < i))) (tOp (rPlus K) (tOp (rIxA K) (tVar 3) (tVar 8)) (tVar 10)) (tOp (rIxA K) (tVar 3) (tVar 9))))))
      (tSeq (tAsg (tOp (rPlus K) (tOp (rIxA K) (tVar 3) (tVar 8)) (tVar 10)) (gSub (tVar 3) (tVar 9) rSetL))
    (tSeq (tAsg (tVar 7) (gSub (tVar 4) (tVar 9) rSetL))
    (tAsg (tVar 9) (gName 6))))
      tNext))
    (tIfS (tTest (tOp (rIs) (tVar 6) (tC .non)))
      (tRet (tTup (tCons (tVar 3) (tCons (tVar 4) (tCons (tC .non) tNil)))))
      tNext))))
    (tRet (tTup (tCons (tVar 3) (tCons (tVar 4) (tCons (tVar 6) tNil)))))))))
/-- ring_at: slots rules 0, came 1, cue 2, turn 3, found 4, here 5 -/
abbrev N_ring_at : List Str := ["rules", "came", "cue", "turn", "found", "here"]
def T_ring_at (K : PySem.W.Frag) : TS :=
    (tSeq (tFor (iRng1 (tCons (tCB (Pu.rLen K) (tCons (tVar 1) tNil)) tNil)) (gName 3)
      (tAsg (tOp (rIxA K) (tOp (rIxA K) (tVar 0) (tOp (rIxA K) (tVar 1) (tVar 2))) (tC (.int 0))) (gName 2)))
    (tSeq (tAsg (tLst (tCons (tOp (rIxA K) (tVar 1) (tVar 2)) tNil)) (gName 4))
    (tSeq (tAsg (tOp (rIxA K) (tOp (rIxA K) (tVar 0) (tOp (rIxA K) (tVar 1) (tVar 2))) (tC (.int 0))) (gName 5))
    (tSeq (tWhile (tTest (tOp (rNeP K) (tVar 5) (tVar 2)))
      (tSeq (tAsg (tOp (rPlus K) (tLst (tCons (tOp (rIxA K) (tVar 1) (tVar 5)) tNil)) (tVar 4)) (gName 4))
    (tAsg (tOp (rIxA K) (tOp (rIxA K) (tVar 0) (tOp (rIxA K) (tVar 1) (tVar 5))) (tC (.int 0))) (gName 5))))
    (tRet (tVar 4))))))
/-- chain_to: slots rules 0, came 1, start 2, cue 3, found 4 -/
abbrev N_chain_to : List Str := ["rules", "came", "start", "cue", "found"]
def T_chain_to (K : PySem.W.Frag) : TS :=
    (tSeq (tAsg (tLst tNil) (gName 4))
    (tSeq (tWhile (tTest (tOp (rNeP K) (tVar 3) (tVar 2)))
      (tSeq (tAsg (tOp (rPlus K) (tLst (tCons (tOp (rIxA K) (tVar 1) (tVar 3)) tNil)) (tVar 4)) (gName 4))
    (tAsg (tOp (rIxA K) (tOp (rIxA K) (tVar 0) (tOp (rIxA K) (tVar 1) (tVar 3))) (tC (.int 0))) (gName 3))))
    (tRet (tVar 4))))
/-- earliest: slots windows 0, gaps 1, rules 2, far 3, came 4, bad 5, cue 6 -/
abbrev N_earliest : List Str := ["windows", "gaps", "rules", "far", "came", "bad", "cue"]
def T_earliest (K : PySem.W.Frag) (R_rules_of : List D → (D → Prop) → Prop) (R_longest_from : List D → (D → Prop) → Prop) (R_ring_at : List D → (D → Prop) → Prop) (R_chain_to : List D → (D → Prop) → Prop) : TS :=
    (tSeq (tAsg (tCall (spP R_rules_of) [] E0 (tCons (tVar 0) (tCons (tVar 1) tNil))) (gName 2))
    (tSeq (tAsg (tCall (spP R_longest_from) [] E0 (tCons (tOp (rPlus K) (tCB (Pu.rLen K) (tCons (tVar 0) tNil)) (tC (.int 1))) (tCons (tVar 2) (tCons (tC (.int 0)) tNil)))) (gTup K 3 (gCons (gName 3) (gCons (gName 4) (gCons (gName 5) gNil)))))
    (tSeq (tIfS (tTest (tOp (rIsnt) (tVar 5) (tC .non)))
      (tRet (tTup (tCons (tC (.str "ring")) (tCons (tCall (spP R_ring_at) [] E0 (tCons (tVar 2) (tCons (tVar 4) (tCons (tVar 5) tNil)))) tNil))))
      tNext)
    (tRet (tTup (tCons (tC (.str "times")) (tCons (tSl (rSl K) (tVar 3) (tPart (tC (.int 1))) tNoPart) (tCons (tLc (iRng2 (tCons (tC (.int 1)) (tCons (tCB (Pu.rLen K) (tCons (tVar 3) tNil)) tNil))) (gName 6) tYes (tCall (spP R_chain_to) [] E0 (tCons (tVar 2) (tCons (tVar 4) (tCons (tC (.int 0)) (tCons (tVar 6) tNil))))) [6]) tNil))))))))
/-- chain_fault: slots rules 0, chain 1, start 2, end 3, here 4, number 5 -/
abbrev N_chain_fault : List Str := ["rules", "chain", "start", "end", "here", "number"]
def T_chain_fault (K : PySem.W.Frag) : TS :=
    (tSeq (tAsg (tVar 2) (gName 4))
    (tSeq (tFor (iList K (tVar 1)) (gName 5)
      (tSeq (tIfS (tOr (tNot (tTest (tChain (rI0 fun i j => .bl (decide (i ≤ j))) (rI0 fun i j => .bl (decide (i < j))) (tC (.int 0)) (tVar 5) (tCB (Pu.rLen K) (tCons (tVar 0) tNil))))) (tTest (tOp (rNeP K) (tOp (rIxA K) (tOp (rIxA K) (tVar 0) (tVar 5)) (tC (.int 0))) (tVar 4))))
      (tRet (tC (.bl true)))
      tNext)
    (tAsg (tOp (rIxA K) (tOp (rIxA K) (tVar 0) (tVar 5)) (tC (.int 1))) (gName 4))))
    (tRet (tOp (rNeP K) (tVar 4) (tVar 3)))))
/-- earliest_fault: slots windows 0, gaps 1, told 2, rules 3, ring 4, number 5, times 6, one 7, other 8, least 9, cue 10, chain 11 -/
abbrev N_earliest_fault : List Str := ["windows", "gaps", "told", "rules", "ring", "number", "times", "one", "other", "least", "cue", "chain"]
def T_earliest_fault (K : PySem.W.Frag) (R_rules_of : List D → (D → Prop) → Prop) (R_chain_fault : List D → (D → Prop) → Prop) : TS :=
    (tSeq (tAsg (tCall (spP R_rules_of) [] E0 (tCons (tVar 0) (tCons (tVar 1) tNil))) (gName 3))
    (tSeq (tIfS (tTest (tOp (rEqP K) (tOp (rIxA K) (tVar 2) (tC (.int 0))) (tC (.str "ring"))))
      (tSeq (tAsg (tOp (rIxA K) (tVar 2) (tC (.int 1))) (gName 4))
    (tSeq (tIfS (tOr (tTest (tOp (rEqP K) (tCB (Pu.rLen K) (tCons (tVar 4) tNil)) (tC (.int 0)))) (tNot (tTest (tChain (rI0 fun i j => .bl (decide (i ≤ j))) (rI0 fun i j => .bl (decide (i < j))) (tC (.int 0)) (tOp (rIxA K) (tVar 4) (tC (.int 0))) (tCB (Pu.rLen K) (tCons (tVar 3) tNil))))))
      (tRet (tTup (tCons (tC (.str "ring")) tNil)))
      tNext)
    (tSeq (tIfS (tB (tCall (spP R_chain_fault) [] E0 (tCons (tVar 3) (tCons (tVar 4) (tCons (tOp (rIxA K) (tOp (rIxA K) (tVar 3) (tOp (rIxA K) (tVar 4) (tC (.int 0)))) (tC (.int 0))) (tCons (tOp (rIxA K) (tOp (rIxA K) (tVar 3) (tOp (rIxA K) (tVar 4) (tC (.int 0)))) (tC (.int 0))) tNil))))))
      (tRet (tTup (tCons (tC (.str "ring")) tNil)))
      tNext)
    (tRet (tIf (tTest (tOp (rI0 fun i j => .bl (decide (j < i))) (tCB (rSum K) (tCons (tLc (iList K (tVar 4)) (gName 5) tYes (tOp (rIxA K) (tOp (rIxA K) (tVar 3) (tVar 5)) (tC (.int 2))) [5]) tNil)) (tC (.int 0)))) (tC .non) (tTup (tCons (tC (.str "length")) tNil)))))))
      tNext)
    (tSeq (tAsg (tOp (rPlus K) (tLst (tCons (tC (.int 0)) tNil)) (tCB (rList K) (tCons (tOp (rIxA K) (tVar 2) (tC (.int 1))) tNil))) (gName 6))
    (tSeq (tIfS (tOr (tTest (tOp (rNeP K) (tCB (Pu.rLen K) (tCons (tVar 6) tNil)) (tOp (rPlus K) (tCB (Pu.rLen K) (tCons (tVar 0) tNil)) (tC (.int 1))))) (tTest (tOp (rNeP K) (tCB (Pu.rLen K) (tCons (tOp (rIxA K) (tVar 2) (tC (.int 2))) tNil)) (tCB (Pu.rLen K) (tCons (tVar 0) tNil)))))
      (tRet (tTup (tCons (tC (.str "times")) tNil)))
      tNext)
    (tSeq (tFor (iEnum K (tCons (tVar 3) tNil)) (gTup K 2 (gCons (gName 5) (gCons (gTup K 3 (gCons (gName 7) (gCons (gName 8) (gCons (gName 9) gNil)))) gNil)))
      (tIfS (tTest (tOp (rI0 fun i j => .bl (decide (i < j))) (tOp (rI0 fun i j => .int (i - j)) (tOp (rIxA K) (tVar 6) (tVar 8)) (tOp (rIxA K) (tVar 6) (tVar 7))) (tVar 9)))
      (tRet (tTup (tCons (tC (.str "rule")) (tCons (tVar 5) tNil))))
      tNext))
    (tSeq (tFor (iEnum K (tCons (tOp (rIxA K) (tVar 2) (tC (.int 2))) tNil)) (gTup K 2 (gCons (gName 10) (gCons (gName 11) gNil)))
      (tIfS (tOr (tB (tCall (spP R_chain_fault) [] E0 (tCons (tVar 3) (tCons (tVar 11) (tCons (tC (.int 0)) (tCons (tOp (rPlus K) (tVar 10) (tC (.int 1))) tNil)))))) (tTest (tOp (rNeP K) (tCB (rSum K) (tCons (tLc (iList K (tVar 11)) (gName 5) tYes (tOp (rIxA K) (tOp (rIxA K) (tVar 3) (tVar 5)) (tC (.int 2))) [5]) tNil)) (tOp (rIxA K) (tVar 6) (tOp (rPlus K) (tVar 10) (tC (.int 1)))))))
      (tRet (tTup (tCons (tC (.str "chain")) (tCons (tVar 10) tNil))))
      tNext))
    (tRet (tC .non))))))))
/-- latest: slots windows 0, gaps 1, rules 2, other 3, one 4, least 5, far 6, came 7, bad 8 -/
abbrev N_latest : List Str := ["windows", "gaps", "rules", "other", "one", "least", "far", "came", "bad"]
def T_latest (K : PySem.W.Frag) (R_longest_from : List D → (D → Prop) → Prop) (R_rules_of : List D → (D → Prop) → Prop) : TS :=
    (tSeq (tAsg (tLc (iList K (tCall (spP R_rules_of) [] E0 (tCons (tVar 0) (tCons (tVar 1) tNil)))) (gTup K 3 (gCons (gName 4) (gCons (gName 3) (gCons (gName 5) gNil)))) tYes (tTup (tCons (tVar 3) (tCons (tVar 4) (tCons (tVar 5) tNil)))) [4, 3, 5]) (gName 2))
    (tSeq (tAsg (tCall (spP R_longest_from) [] E0 (tCons (tOp (rPlus K) (tCB (Pu.rLen K) (tCons (tVar 0) tNil)) (tC (.int 1))) (tCons (tVar 2) (tCons (tC (.int 0)) tNil)))) (gTup K 3 (gCons (gName 6) (gCons (gName 7) (gCons (gName 8) gNil)))))
    (tRet (tIf (tTest (tOp (rIsnt) (tVar 8) (tC .non))) (tC .non) (tLc (iList K (tSl (rSl K) (tVar 6) (tPart (tC (.int 1))) tNoPart)) (gName 4) tYes (tOp (rI0 fun i j => .int (i - j)) (tC (.int 0)) (tVar 4)) [4])))))
/-- fixed_cues: slots windows 0, gaps 1, low 2, high 3, at 4 -/
abbrev N_fixed_cues : List Str := ["windows", "gaps", "low", "high", "at"]
def T_fixed_cues (K : PySem.W.Frag) (R_earliest : List D → (D → Prop) → Prop) (R_latest : List D → (D → Prop) → Prop) : TS :=
    (tSeq (tAsg (tTup (tCons (tCall (spP R_earliest) [] E0 (tCons (tVar 0) (tCons (tVar 1) tNil))) (tCons (tCall (spP R_latest) [] E0 (tCons (tVar 0) (tCons (tVar 1) tNil))) tNil))) (gTup K 2 (gCons (gName 2) (gCons (gName 3) gNil))))
    (tSeq (tIfS (tTest (tOp (rIs) (tVar 3) (tC .non)))
      (tRet (tC .non))
      tNext)
    (tRet (tLc (iRng1 (tCons (tCB (Pu.rLen K) (tCons (tVar 0) tNil)) tNil)) (gName 4) (tTest (tOp (rEqP K) (tOp (rIxA K) (tOp (rIxA K) (tVar 2) (tC (.int 1))) (tVar 4)) (tOp (rIxA K) (tVar 3) (tVar 4)))) (tVar 4) [4]))))
/-- needless_gaps: slots windows 0, gaps 1, due 2, found 3, at 4, rest 5; own: found -/
abbrev N_needless_gaps : List Str := ["windows", "gaps", "due", "found", "at", "rest"]
def T_needless_gaps (K : PySem.W.Frag) (R_latest : List D → (D → Prop) → Prop) (R_earliest : List D → (D → Prop) → Prop) : TS :=
    (tSeq (tAsg (tTup (tCons (tOp (rIxA K) (tCall (spP R_earliest) [] E0 (tCons (tVar 0) (tCons (tVar 1) tNil))) (tC (.int 1))) (tCons (tCall (spP R_latest) [] E0 (tCons (tVar 0) (tCons (tVar 1) tNil))) tNil))) (gName 2))
    (tSeq (tAsg (tLst tNil) (gName 3))
    (tSeq (tFor (iRng1 (tCons (tCB (Pu.rLen K) (tCons (tVar 1) tNil)) tNil)) (gName 4)
      (tSeq (tAsg (tOp (rPlus K) (tSl (rSl K) (tVar 1) tNoPart (tPart (tVar 4))) (tSl (rSl K) (tVar 1) (tPart (tOp (rPlus K) (tVar 4) (tC (.int 1)))) tNoPart)) (gName 5))
    (tIfS (tAnd (tTest (tOp (rIsnt) (tOp (rIxA K) (tVar 2) (tC (.int 1))) (tC .non))) (tTest (tOp (rEqP K) (tTup (tCons (tOp (rIxA K) (tCall (spP R_earliest) [] E0 (tCons (tVar 0) (tCons (tVar 5) tNil))) (tC (.int 1))) (tCons (tCall (spP R_latest) [] E0 (tCons (tVar 0) (tCons (tVar 5) tNil))) tNil))) (tVar 2))))
      (tDrop (tBM K "list" rAppend (tVar 3) (tCons (tVar 4) tNil)))
      tNext)))
    (tRet (tVar 3)))))
/-- _law_draw: slots state 0, script 1, size 2, cell 3, mixed 4, digit 5; own: state -/
abbrev N_l_draw : List Str := ["state", "script", "size", "cell", "mixed", "digit"]
def T_l_draw (K : PySem.W.Frag) : TS :=
    (tSeq (tIfS (tTest (tOp (rEqP K) (tOp (rIxA K) (tVar 0) (tC (.int 1))) (tC (.int 0))))
      (tSeq (tAsg (tC (.int 0)) (gName 3))
    (tSeq (tIfS (tTest (tOp (rI0 fun i j => .bl (decide (j < i))) (tCB (Pu.rLen K) (tCons (tVar 1) tNil)) (tC (.int 0))))
      (tAsg (tOp (rIxA K) (tVar 1) (tOp (rI (fun _ j => 0 < j) fun i j => .int (i % j)) (tOp (rIxA K) (tVar 0) (tC (.int 0))) (tCB (Pu.rLen K) (tCons (tVar 1) tNil)))) (gName 3))
      tNext)
    (tSeq (tIfS (tTest (tOp (rI0 fun i j => .bl (decide (i < j))) (tVar 3) (tC (.int 0))))
      (tAsg (tOp (rI0 fun i j => .int (i - j)) (tC (.int 1)) (tOp (rI CMul fun i j => .int (i * j)) (tC (.int 2)) (tVar 3))) (gName 3))
      tNext)
    (tSeq (tAsg (tOp (rI (fun _ j => 0 < j) fun i j => .int (i % j)) (tCB (rInt) (tCons (tOp (rI CMul fun i j => .int (i * j)) (tOp (rPlus K) (tOp (rPlus K) (tVar 3) (tOp (rI CMul fun i j => .int (i * j)) (tOp (rIxA K) (tVar 0) (tC (.int 0))) (tC (.int 7919)))) (tC (.int 1))) (tC (.int 48271))) tNil)) (tC (.int 2147483647))) (gName 4))
    (tSeq (tAsg (tOp (rI (fun _ j => 0 < j) fun i j => .int (i % j)) (tCB (rInt) (tCons (tOp (rPlus K) (tOp (rI CMul fun i j => .int (i * j)) (tVar 4) (tC (.int 69621))) (tOp (rI CMul fun i j => .int (i * j)) (tOp (rIxA K) (tVar 0) (tC (.int 0))) (tC (.int 104729)))) tNil)) (tC (.int 4294967291))) (gSub (tVar 0) (tC (.int 1)) rSetL))
    (tSeq (tIfS (tAnd (tTest (tOp (rI0 fun i j => .bl (decide (j ≤ i))) (tVar 3) (tOp (rI CPow fun i j => .int (i ^ j.toNat)) (tC (.int 10)) (tC (.int 18))))) (tTest (tOp (rI0 fun i j => .bl (decide (i < j))) (tOp (rIxA K) (tVar 0) (tC (.int 0))) (tCB (Pu.rLen K) (tCons (tVar 1) tNil)))))
      (tAsg (tVar 3) (gSub (tVar 0) (tC (.int 1)) rSetL))
      tNext)
    (tAsg (tOp (rPlus K) (tOp (rIxA K) (tVar 0) (tC (.int 0))) (tC (.int 1))) (gSub (tVar 0) (tC (.int 0)) rSetL))))))))
      tNext)
    (tSeq (tAsg (tOp (rI (fun _ j => 0 < j) fun i j => .int (i % j)) (tCB (rInt) (tCons (tOp (rIxA K) (tVar 0) (tC (.int 1))) tNil)) (tVar 2)) (gName 5))
    (tSeq (tAsg (tOp (rI CDiv fun i j => .int (i / j)) (tOp (rIxA K) (tVar 0) (tC (.int 1))) (tVar 2)) (gSub (tVar 0) (tC (.int 1)) rSetL))
    (tRet (tVar 5)))))
/-- _law_pick: slots state 0, script 1, items 2 -/
abbrev N_l_pick : List Str := ["state", "script", "items"]
def T_l_pick (K : PySem.W.Frag) (R_l_draw : Stt → List D → (D → Stt → Prop) → Prop) : TS :=
    (tRet (tOp (rIxA K) (tVar 2) (tCall (spS R_l_draw) [] E0 (tCons (tVar 0) (tCons (tVar 1) (tCons (tCB (Pu.rLen K) (tCons (tVar 2) tNil)) tNil))))))
/-- _law_rules: slots windows 0, gaps 1, found 2, k 3, one 4, other 5, least 6 -/
abbrev N_l_rules : List Str := ["windows", "gaps", "found", "k", "one", "other", "least"]
def T_l_rules (K : PySem.W.Frag) : TS :=
    (tSeq (tAsg (tLst tNil) (gName 2))
    (tSeq (tFor (iRng1 (tCons (tCB (Pu.rLen K) (tCons (tVar 0) tNil)) tNil)) (gName 3)
      (tAsg (tOp (rPlus K) (tVar 2) (tLst (tCons (tTup (tCons (tC (.int 0)) (tCons (tOp (rPlus K) (tVar 3) (tC (.int 1))) (tCons (tOp (rIxA K) (tOp (rIxA K) (tVar 0) (tVar 3)) (tC (.int 0))) tNil)))) (tCons (tTup (tCons (tOp (rPlus K) (tVar 3) (tC (.int 1))) (tCons (tC (.int 0)) (tCons (tOp (rI0 fun i j => .int (i - j)) (tC (.int 0)) (tOp (rIxA K) (tOp (rIxA K) (tVar 0) (tVar 3)) (tC (.int 1)))) tNil)))) tNil)))) (gName 2)))
    (tRet (tOp (rPlus K) (tVar 2) (tLc (iList K (tVar 1)) (gTup K 3 (gCons (gName 4) (gCons (gName 5) (gCons (gName 6) gNil)))) tYes (tTup (tCons (tOp (rPlus K) (tVar 4) (tC (.int 1))) (tCons (tOp (rPlus K) (tVar 5) (tC (.int 1))) (tCons (tVar 6) tNil)))) [4, 5, 6])))))
/-- _law_all: slots windows 0, gaps 1, rows 2, first 3, last 4, more 5, row 6, time 7, found 8, gap 9; own: found -/
abbrev N_l_all : List Str := ["windows", "gaps", "rows", "first", "last", "more", "row", "time", "found", "gap"]
def T_l_all (K : PySem.W.Frag) : TS :=
    (tSeq (tAsg (tLst (tCons (tLst (tCons (tC (.int 0)) tNil)) tNil)) (gName 2))
    (tSeq (tFor (iList K (tVar 0)) (gTup K 2 (gCons (gName 3) (gCons (gName 4) gNil)))
      (tSeq (tAsg (tLst tNil) (gName 5))
    (tSeq (tFor (iList K (tVar 2)) (gName 6)
      (tAsg (tOp (rPlus K) (tVar 5) (tLc (iRng2 (tCons (tVar 3) (tCons (tOp (rPlus K) (tVar 4) (tC (.int 1))) tNil))) (gName 7) tYes (tOp (rPlus K) (tVar 6) (tLst (tCons (tVar 7) tNil))) [7])) (gName 5)))
    (tAsg (tVar 5) (gName 2)))))
    (tSeq (tAsg (tLst tNil) (gName 8))
    (tSeq (tFor (iList K (tVar 2)) (gName 6)
      (tIfS (tTest (tOp (rEqP K) (tCB (Pu.rLen K) (tCons (tLc (iList K (tVar 1)) (gName 9) (tTest (tOp (rI0 fun i j => .bl (decide (i < j))) (tOp (rI0 fun i j => .int (i - j)) (tOp (rIxA K) (tVar 6) (tOp (rPlus K) (tOp (rIxA K) (tVar 9) (tC (.int 1))) (tC (.int 1)))) (tOp (rIxA K) (tVar 6) (tOp (rPlus K) (tOp (rIxA K) (tVar 9) (tC (.int 0))) (tC (.int 1))))) (tOp (rIxA K) (tVar 9) (tC (.int 2))))) (tVar 9) [9]) tNil)) (tC (.int 0))))
      (tDrop (tBM K "list" rAppend (tVar 8) (tCons (tSl (rSl K) (tVar 6) (tPart (tC (.int 1))) tNoPart) tNil)))
      tNext))
    (tRet (tVar 8))))))
/-- _law_leads: slots rules 0, chain 1, start 2, end 3, here 4, number 5 -/
abbrev N_l_leads : List Str := ["rules", "chain", "start", "end", "here", "number"]
def T_l_leads (K : PySem.W.Frag) : TS :=
    (tSeq (tAsg (tVar 2) (gName 4))
    (tSeq (tFor (iList K (tVar 1)) (gName 5)
      (tSeq (tIfS (tOr (tNot (tTest (tChain (rI0 fun i j => .bl (decide (i ≤ j))) (rI0 fun i j => .bl (decide (i < j))) (tC (.int 0)) (tVar 5) (tCB (Pu.rLen K) (tCons (tVar 0) tNil))))) (tTest (tOp (rNeP K) (tOp (rIxA K) (tOp (rIxA K) (tVar 0) (tVar 5)) (tC (.int 0))) (tVar 4))))
      (tRet (tC (.bl false)))
      tNext)
    (tAsg (tOp (rIxA K) (tOp (rIxA K) (tVar 0) (tVar 5)) (tC (.int 1))) (gName 4))))
    (tRet (tOp (rEqP K) (tVar 4) (tVar 3)))))
/-- _law_fault: slots windows 0, gaps 1, told 2, rules 3, ring 4, number 5, word 6, times 7, chains 8, every 9, k 10 -/
abbrev N_l_fault : List Str := ["windows", "gaps", "told", "rules", "ring", "number", "word", "times", "chains", "every", "k"]
def T_l_fault (K : PySem.W.Frag) (R_l_rules : List D → (D → Prop) → Prop) (R_l_leads : List D → (D → Prop) → Prop) : TS :=
    (tSeq (tAsg (tCall (spP R_l_rules) [] E0 (tCons (tVar 0) (tCons (tVar 1) tNil))) (gName 3))
    (tSeq (tIfS (tTest (tOp (rEqP K) (tOp (rIxA K) (tVar 2) (tC (.int 0))) (tC (.str "ring"))))
      (tSeq (tAsg (tOp (rIxA K) (tVar 2) (tC (.int 1))) (gName 4))
    (tSeq (tIfS (tOr (tTest (tOp (rEqP K) (tVar 4) (tLst tNil))) (tOr (tNot (tTest (tChain (rI0 fun i j => .bl (decide (i ≤ j))) (rI0 fun i j => .bl (decide (i < j))) (tC (.int 0)) (tOp (rIxA K) (tVar 4) (tC (.int 0))) (tCB (Pu.rLen K) (tCons (tVar 3) tNil))))) (tNot (tB (tCall (spP R_l_leads) [] E0 (tCons (tVar 3) (tCons (tVar 4) (tCons (tOp (rIxA K) (tOp (rIxA K) (tVar 3) (tOp (rIxA K) (tVar 4) (tC (.int 0)))) (tC (.int 0))) (tCons (tOp (rIxA K) (tOp (rIxA K) (tVar 3) (tOp (rIxA K) (tVar 4) (tC (.int 0)))) (tC (.int 0))) tNil)))))))))
      (tRet (tTup (tCons (tC (.str "ring")) tNil)))
      tNext)
    (tRet (tOp (rIxA K) (tLst (tCons (tTup (tCons (tC (.str "length")) tNil)) (tCons (tC .non) tNil))) (tCB (rInt) (tCons (tOp (rI0 fun i j => .bl (decide (j < i))) (tCB (rSum K) (tCons (tLc (iList K (tVar 4)) (gName 5) tYes (tOp (rIxA K) (tOp (rIxA K) (tVar 3) (tVar 5)) (tC (.int 2))) [5]) tNil)) (tC (.int 0))) tNil))))))
      tNext)
    (tSeq (tAsg (tVar 2) (gTup K 3 (gCons (gName 6) (gCons (gName 7) (gCons (gName 8) gNil)))))
    (tSeq (tIfS (tOr (tTest (tOp (rNeP K) (tCB (Pu.rLen K) (tCons (tVar 7) tNil)) (tCB (Pu.rLen K) (tCons (tVar 0) tNil)))) (tTest (tOp (rNeP K) (tCB (Pu.rLen K) (tCons (tVar 8) tNil)) (tCB (Pu.rLen K) (tCons (tVar 0) tNil)))))
      (tRet (tTup (tCons (tC (.str "times")) tNil)))
      tNext)
    (tSeq (tAsg (tOp (rPlus K) (tLst (tCons (tC (.int 0)) tNil)) (tCB (rList K) (tCons (tVar 7) tNil))) (gName 9))
    (tSeq (tFor (iRng1 (tCons (tCB (Pu.rLen K) (tCons (tVar 3) tNil)) tNil)) (gName 10)
      (tIfS (tTest (tOp (rI0 fun i j => .bl (decide (i < j))) (tOp (rI0 fun i j => .int (i - j)) (tOp (rIxA K) (tVar 9) (tOp (rIxA K) (tOp (rIxA K) (tVar 3) (tVar 10)) (tC (.int 1)))) (tOp (rIxA K) (tVar 9) (tOp (rIxA K) (tOp (rIxA K) (tVar 3) (tVar 10)) (tC (.int 0))))) (tOp (rIxA K) (tOp (rIxA K) (tVar 3) (tVar 10)) (tC (.int 2)))))
      (tRet (tTup (tCons (tC (.str "rule")) (tCons (tVar 10) tNil))))
      tNext))
    (tSeq (tFor (iRng1 (tCons (tCB (Pu.rLen K) (tCons (tVar 8) tNil)) tNil)) (gName 10)
      (tIfS (tOr (tNot (tB (tCall (spP R_l_leads) [] E0 (tCons (tVar 3) (tCons (tOp (rIxA K) (tVar 8) (tVar 10)) (tCons (tC (.int 0)) (tCons (tOp (rPlus K) (tVar 10) (tC (.int 1))) tNil))))))) (tTest (tOp (rNeP K) (tCB (rSum K) (tCons (tLc (iList K (tOp (rIxA K) (tVar 8) (tVar 10))) (gName 5) tYes (tOp (rIxA K) (tOp (rIxA K) (tVar 3) (tVar 5)) (tC (.int 2))) [5]) tNil)) (tOp (rIxA K) (tVar 7) (tVar 10)))))
      (tRet (tTup (tCons (tC (.str "chain")) (tCons (tVar 10) tNil))))
      tNext))
    (tRet (tC .non)))))))))
/-- _law_bent: slots state 0, script 1, row 2, size 3, found 4, at 5; own: found -/
abbrev N_l_bent : List Str := ["state", "script", "row", "size", "found", "at"]
def T_l_bent (K : PySem.W.Frag) (R_l_draw : Stt → List D → (D → Stt → Prop) → Prop) : TS :=
    (tSeq (tAsg (tCB (rList K) (tCons (tVar 2) tNil)) (gName 4))
    (tSeq (tIfS (tTest (tOp (rEqP K) (tVar 4) (tLst tNil)))
      (tRet (tLst (tCons (tCall (spS R_l_draw) [] E0 (tCons (tVar 0) (tCons (tVar 1) (tCons (tVar 3) tNil)))) tNil)))
      tNext)
    (tSeq (tAsg (tCall (spS R_l_draw) [] E0 (tCons (tVar 0) (tCons (tVar 1) (tCons (tCB (Pu.rLen K) (tCons (tVar 4) tNil)) tNil)))) (gName 5))
    (tSeq (tIfS (tTest (tOp (rEqP K) (tCall (spS R_l_draw) [] E0 (tCons (tVar 0) (tCons (tVar 1) (tCons (tC (.int 3)) tNil)))) (tC (.int 0))))
      (tRet (tOp (rPlus K) (tSl (rSl K) (tVar 4) tNoPart (tPart (tVar 5))) (tSl (rSl K) (tVar 4) (tPart (tOp (rPlus K) (tVar 5) (tC (.int 1)))) tNoPart)))
      tNext)
    (tSeq (tAsg (tOp (rI0 fun i j => .int (i - j)) (tOp (rPlus K) (tOp (rIxA K) (tVar 4) (tVar 5)) (tC (.int 1))) (tOp (rI CMul fun i j => .int (i * j)) (tC (.int 2)) (tCall (spS R_l_draw) [] E0 (tCons (tVar 0) (tCons (tVar 1) (tCons (tC (.int 2)) tNil)))))) (gSub (tVar 4) (tVar 5) rSetL))
    (tRet (tVar 4)))))))
/-- _law_ends: slots every 0, lows 1, row 2, k 3 -/
abbrev N_l_ends : List Str := ["every", "lows", "row", "k"]
def T_l_ends (K : PySem.W.Frag) : TS :=
    (tSeq (tIfS (tTest (tOp (rEqP K) (tVar 0) (tLst tNil)))
      (tRet (tC .non))
      tNext)
    (tSeq (tAsg (tLc (iRng1 (tCons (tCB (Pu.rLen K) (tCons (tOp (rIxA K) (tVar 0) (tC (.int 0))) tNil)) tNil)) (gName 3) tYes (tCB (rMnD K) (tCons (tLc (iList K (tVar 0)) (gName 2) tYes (tOp (rIxA K) (tVar 2) (tVar 3)) [2]) tNil)) [3]) (gName 1))
    (tRet (tLst (tCons (tVar 1) (tCons (tLc (iRng1 (tCons (tCB (Pu.rLen K) (tCons (tOp (rIxA K) (tVar 0) (tC (.int 0))) tNil)) tNil)) (gName 3) tYes (tCB (rMxD K) (tCons (tLc (iList K (tVar 0)) (gName 2) tYes (tOp (rIxA K) (tVar 2) (tVar 3)) [2]) tNil)) [3]) tNil))))))
/-- law: slots script 0, state 1, windows 2, _ 3, first 4, gaps 5, one 6, other 7, kept 8, rules 9, every 10, ends 11, told 12, fixed 13, needless 14, k 15, bents 16, at 17, bent 18; own: bents, gaps, windows -/
abbrev N_law : List Str := ["script", "state", "windows", "_", "first", "gaps", "one", "other", "kept", "rules", "every", "ends", "told", "fixed", "needless", "k", "bents", "at", "bent"]
def T_law (K : PySem.W.Frag) (R_l_rules : List D → (D → Prop) → Prop) (R_l_all : List D → (D → Prop) → Prop) (R_l_ends : List D → (D → Prop) → Prop) (R_earliest : List D → (D → Prop) → Prop) (R_l_draw : Stt → List D → (D → Stt → Prop) → Prop) (R_rules_of : List D → (D → Prop) → Prop) (R_l_fault : List D → (D → Prop) → Prop) (R_earliest_fault : List D → (D → Prop) → Prop) (R_needless_gaps : List D → (D → Prop) → Prop) (R_latest : List D → (D → Prop) → Prop) (R_fixed_cues : List D → (D → Prop) → Prop) (R_l_bent : Stt → List D → (D → Stt → Prop) → Prop) : TS :=
    (tSeq (tAsg (tLst (tCons (tC (.int 0)) (tCons (tC (.int 0)) tNil))) (gName 1))
    (tSeq (tAsg (tLst tNil) (gName 2))
    (tSeq (tFor (iRng1 (tCons (tCall (spS R_l_draw) [] E0 (tCons (tVar 1) (tCons (tVar 0) (tCons (tC (.int 5)) tNil)))) tNil)) (gName 3)
      (tSeq (tAsg (tCall (spS R_l_draw) [] E0 (tCons (tVar 1) (tCons (tVar 0) (tCons (tC (.int 6)) tNil)))) (gName 4))
    (tDrop (tBM K "list" rAppend (tVar 2) (tCons (tTup (tCons (tVar 4) (tCons (tOp (rPlus K) (tVar 4) (tCall (spS R_l_draw) [] E0 (tCons (tVar 1) (tCons (tVar 0) (tCons (tC (.int 6)) tNil))))) tNil))) tNil)))))
    (tSeq (tAsg (tLst tNil) (gName 5))
    (tSeq (tFor (iRng1 (tCons (tOp (rI CMul fun i j => .int (i * j)) (tCall (spS R_l_draw) [] E0 (tCons (tVar 1) (tCons (tVar 0) (tCons (tC (.int 6)) tNil)))) (tCB (rInt) (tCons (tOp (rNeP K) (tVar 2) (tLst tNil)) tNil))) tNil)) (gName 3)
      (tSeq (tAsg (tCall (spS R_l_draw) [] E0 (tCons (tVar 1) (tCons (tVar 0) (tCons (tCB (Pu.rLen K) (tCons (tVar 2) tNil)) tNil)))) (gName 6))
    (tSeq (tAsg (tCall (spS R_l_draw) [] E0 (tCons (tVar 1) (tCons (tVar 0) (tCons (tCB (Pu.rLen K) (tCons (tVar 2) tNil)) tNil)))) (gName 7))
    (tDrop (tBM K "list" rAppend (tVar 5) (tCons (tTup (tCons (tVar 6) (tCons (tVar 7) (tCons (tOp (rI0 fun i j => .int (i - j)) (tCall (spS R_l_draw) [] E0 (tCons (tVar 1) (tCons (tVar 0) (tCons (tC (.int 8)) tNil)))) (tOp (rI CMul fun i j => .int (i * j)) (tC (.int 4)) (tCB (rInt) (tCons (tOp (rI0 fun i j => .bl (decide (j ≤ i))) (tVar 6) (tVar 7)) tNil)))) tNil)))) tNil))))))
    (tSeq (tAsg (tCB (rRepr K) (tCons (tLst (tCons (tVar 2) (tCons (tVar 5) tNil))) tNil)) (gName 8))
    (tSeq (tAsg (tCall (spP R_l_rules) [] E0 (tCons (tVar 2) (tCons (tVar 5) tNil))) (gName 9))
    (tSeq (tAsg (tCall (spP R_l_all) [] E0 (tCons (tVar 2) (tCons (tVar 5) tNil))) (gName 10))
    (tSeq (tAsg (tCall (spP R_l_ends) [] E0 (tCons (tVar 10) tNil)) (gName 11))
    (tSeq (tAsg (tCall (spP R_earliest) [] E0 (tCons (tVar 2) (tCons (tVar 5) tNil))) (gName 12))
    (tSeq (tIfS (tOr (tTest (tOp (rNeP K) (tCall (spP R_rules_of) [] E0 (tCons (tVar 2) (tCons (tVar 5) tNil))) (tVar 9))) (tTest (tOp (rNeP K) (tOp (rIxA K) (tVar 12) (tC (.int 0))) (tOp (rIxA K) (tLst (tCons (tC (.str "times")) (tCons (tC (.str "ring")) tNil))) (tCB (rInt) (tCons (tOp (rIs) (tVar 11) (tC .non)) tNil))))))
      (tRet (tC (.bl false)))
      tNext)
    (tSeq (tIfS (tOr (tTest (tOp (rIsnt) (tCall (spP R_l_fault) [] E0 (tCons (tVar 2) (tCons (tVar 5) (tCons (tVar 12) tNil)))) (tC .non))) (tTest (tOp (rIsnt) (tCall (spP R_earliest_fault) [] E0 (tCons (tVar 2) (tCons (tVar 5) (tCons (tVar 12) tNil)))) (tC .non))))
      (tRet (tC (.bl false)))
      tNext)
    (tSeq (tIfS (tAnd (tTest (tOp (rIsnt) (tVar 11) (tC .non))) (tOr (tTest (tOp (rNeP K) (tOp (rIxA K) (tVar 12) (tC (.int 1))) (tOp (rIxA K) (tVar 11) (tC (.int 0))))) (tTest (tOp (rNeP K) (tCall (spP R_latest) [] E0 (tCons (tVar 2) (tCons (tVar 5) tNil))) (tOp (rIxA K) (tVar 11) (tC (.int 1)))))))
      (tRet (tC (.bl false)))
      tNext)
    (tSeq (tAsg (tC .non) (gName 13))
    (tSeq (tAsg (tLst tNil) (gName 14))
    (tSeq (tIfS (tTest (tOp (rIsnt) (tVar 11) (tC .non)))
      (tSeq (tAsg (tLc (iRng1 (tCons (tCB (Pu.rLen K) (tCons (tVar 2) tNil)) tNil)) (gName 15) (tTest (tOp (rEqP K) (tOp (rIxA K) (tOp (rIxA K) (tVar 11) (tC (.int 0))) (tVar 15)) (tOp (rIxA K) (tOp (rIxA K) (tVar 11) (tC (.int 1))) (tVar 15)))) (tVar 15) [15]) (gName 13))
    (tAsg (tLc (iRng1 (tCons (tCB (Pu.rLen K) (tCons (tVar 5) tNil)) tNil)) (gName 15) (tTest (tOp (rEqP K) (tCall (spP R_l_ends) [] E0 (tCons (tCall (spP R_l_all) [] E0 (tCons (tVar 2) (tCons (tOp (rPlus K) (tSl (rSl K) (tVar 5) tNoPart (tPart (tVar 15))) (tSl (rSl K) (tVar 5) (tPart (tOp (rPlus K) (tVar 15) (tC (.int 1)))) tNoPart)) tNil))) tNil)) (tVar 11))) (tVar 15) [15]) (gName 14)))
      tNext)
    (tSeq (tIfS (tOr (tTest (tOp (rNeP K) (tCB (rRepr K) (tCons (tCall (spP R_fixed_cues) [] E0 (tCons (tVar 2) (tCons (tVar 5) tNil))) tNil)) (tCB (rRepr K) (tCons (tVar 13) tNil)))) (tOr (tTest (tOp (rNeP K) (tCall (spP R_needless_gaps) [] E0 (tCons (tVar 2) (tCons (tVar 5) tNil))) (tVar 14))) (tTest (tOp (rNeP K) (tOp (rIs) (tCall (spP R_latest) [] E0 (tCons (tVar 2) (tCons (tVar 5) tNil))) (tC .non)) (tOp (rIs) (tVar 11) (tC .non))))))
      (tRet (tC (.bl false)))
      tNext)
    (tSeq (tIfS (tTest (tOp (rEqP K) (tOp (rIxA K) (tVar 12) (tC (.int 0))) (tC (.str "ring"))))
      (tAsg (tLst (tCons (tTup (tCons (tC (.str "ring")) (tCons (tCall (spS R_l_bent) [] E0 (tCons (tVar 1) (tCons (tVar 0) (tCons (tOp (rIxA K) (tVar 12) (tC (.int 1))) (tCons (tOp (rPlus K) (tCB (Pu.rLen K) (tCons (tVar 9) tNil)) (tC (.int 1))) tNil))))) tNil))) (tCons (tTup (tCons (tC (.str "ring")) (tCons (tLst tNil) tNil))) (tCons (tTup (tCons (tC (.str "ring")) (tCons (tOp (rPlus K) (tOp (rIxA K) (tVar 12) (tC (.int 1))) (tOp (rIxA K) (tVar 12) (tC (.int 1)))) tNil))) (tCons (tTup (tCons (tC (.str "times")) (tCons (tOp (rRepR) (tLst (tCons (tC (.int 0)) tNil)) (tCB (Pu.rLen K) (tCons (tVar 2) tNil))) (tCons (tOp (rRepR) (tLst (tCons (tLst tNil) tNil)) (tCB (Pu.rLen K) (tCons (tVar 2) tNil))) tNil)))) tNil))))) (gName 16))
      (tSeq (tAsg (tLst (tCons (tTup (tCons (tC (.str "times")) (tCons (tCall (spS R_l_bent) [] E0 (tCons (tVar 1) (tCons (tVar 0) (tCons (tOp (rIxA K) (tVar 12) (tC (.int 1))) (tCons (tC (.int 9)) tNil))))) (tCons (tOp (rIxA K) (tVar 12) (tC (.int 2))) tNil)))) (tCons (tTup (tCons (tC (.str "times")) (tCons (tOp (rIxA K) (tVar 12) (tC (.int 1))) (tCons (tSl (rSl K) (tOp (rIxA K) (tVar 12) (tC (.int 2))) (tPart (tC (.int 1))) tNoPart) tNil)))) (tCons (tTup (tCons (tC (.str "ring")) (tCons (tLst (tCons (tC (.int 0)) (tCons (tC (.int 1)) tNil))) tNil))) (tCons (tTup (tCons (tC (.str "ring")) (tCons (tLst (tCons (tC (.int 9999)) tNil)) tNil))) tNil))))) (gName 16))
    (tIfS (tTest (tOp (rNeP K) (tOp (rIxA K) (tVar 12) (tC (.int 2))) (tLst tNil)))
      (tSeq (tAsg (tCall (spS R_l_draw) [] E0 (tCons (tVar 1) (tCons (tVar 0) (tCons (tCB (Pu.rLen K) (tCons (tOp (rIxA K) (tVar 12) (tC (.int 2))) tNil)) tNil)))) (gName 17))
    (tDrop (tBM K "list" rAppend (tVar 16) (tCons (tTup (tCons (tC (.str "times")) (tCons (tOp (rIxA K) (tVar 12) (tC (.int 1))) (tCons (tOp (rPlus K) (tOp (rPlus K) (tSl (rSl K) (tOp (rIxA K) (tVar 12) (tC (.int 2))) tNoPart (tPart (tVar 17))) (tLst (tCons (tCall (spS R_l_bent) [] E0 (tCons (tVar 1) (tCons (tVar 0) (tCons (tOp (rIxA K) (tOp (rIxA K) (tVar 12) (tC (.int 2))) (tVar 17)) (tCons (tCB (Pu.rLen K) (tCons (tVar 9) tNil)) tNil))))) tNil))) (tSl (rSl K) (tOp (rIxA K) (tVar 12) (tC (.int 2))) (tPart (tOp (rPlus K) (tVar 17) (tC (.int 1)))) tNoPart)) tNil)))) tNil))))
      tNext)))
    (tSeq (tFor (iList K (tVar 16)) (gName 18)
      (tIfS (tTest (tOp (rNeP K) (tCB (rRepr K) (tCons (tCall (spP R_earliest_fault) [] E0 (tCons (tVar 2) (tCons (tVar 5) (tCons (tVar 18) tNil)))) tNil)) (tCB (rRepr K) (tCons (tCall (spP R_l_fault) [] E0 (tCons (tVar 2) (tCons (tVar 5) (tCons (tVar 18) tNil)))) tNil))))
      (tRet (tC (.bl false)))
      tNext))
    (tRet (tOp (rEqP K) (tCB (rRepr K) (tCons (tLst (tCons (tVar 2) (tCons (tVar 5) tNil))) tNil)) (tVar 8))))))))))))))))))))))
end Law_k43
/-! k43: cues with windows and gaps -/
namespace Law_k43
open Pu
/-! ### longest chains of rules -/
def sA (r : Rw) : Nat := r.1.toNat
def sB (r : Rw) : Nat := r.2.1.toNat
def sW (r : Rw) : Int := r.2.2
def rl (R : List Rw) (i : Nat) : Rw := R.getD i (0, 0, 0)
def fr (s : List (Option Int)) (x : Nat) : Option Int := s.getD x none
structure Bs where
  far : List (Option Int)
  came : List (Option Int)
  ch : Option Int
def moreB (o : Option Int) (v : Int) : Bool := match o with
  | none => true
  | some b => decide (b < v)
def upd1 (R : List Rw) (s : Bs) (i : Nat) : Bs := match fr s.far (sA (rl R i)) with
  | none => s
  | some fa => if moreB (fr s.far (sB (rl R i))) (fa + sW (rl R i)) = true then ⟨s.far.set (sB (rl R i)) (some (fa + sW (rl R i))), s.came.set (sB (rl R i)) (some (i : Int)), some (rl R i).2.1⟩ else s
def passK (R : List Rw) (s : Bs) (k : Nat) : Bs := (List.range k).foldl (upd1 R) s
theorem pass_succ (R : List Rw) (s : Bs) (k : Nat) : passK R s (k + 1) = upd1 R (passK R s k) k := by
  unfold passK
  rw [List.range_succ, List.foldl_append]
  rfl
def runN (R : List Rw) : Nat → List (Option Int) → List (Option Int) → Option Int → Bs
  | 0, far, came, ch => ⟨far, came, ch⟩
  | k + 1, far, came, _ => match (passK R ⟨far, came, none⟩ R.length).ch with
    | none => passK R ⟨far, came, none⟩ R.length
    | some c => runN R k (passK R ⟨far, came, none⟩ R.length).far (passK R ⟨far, came, none⟩ R.length).came (some c)
def sat (R : List Rw) (far : List (Option Int)) (i : Nat) : Prop := ∀ fa, fr far (sA (rl R i)) = some fa → ∃ fb, fr far (sB (rl R i)) = some fb ∧ fa + sW (rl R i) ≤ fb
def Feas (R : List Rw) (T : Nat → Int) : Prop := ∀ i, i < R.length → sW (rl R i) ≤ T (sB (rl R i)) - T (sA (rl R i))
def RulesOk (R : List Rw) (N : Nat) : Prop := ∀ r ∈ R, 0 ≤ r.1 ∧ r.1 < N ∧ 0 ≤ r.2.1 ∧ r.2.1 < N
theorem rl_ok {R : List Rw} {N : Nat} (h : RulesOk R N) {i : Nat} (hi : i < R.length) : sA (rl R i) < N ∧ sB (rl R i) < N ∧ (rl R i).2.1 = (sB (rl R i) : Int) ∧ (rl R i).1 = (sA (rl R i) : Int) := by
  have m : rl R i ∈ R := by
    unfold rl
    rw [List.getD_eq_getElem?_getD, List.getElem?_eq_getElem hi]
    exact List.getElem_mem hi
  have := h _ m
  unfold sA sB
  omega
theorem fr_set {s : List (Option Int)} {x y : Nat} {v : Option Int} (hx : x < s.length) : fr (s.set x v) y = if y = x then v else fr s y := by
  unfold fr
  rw [List.getD_eq_getElem?_getD, List.getD_eq_getElem?_getD]
  by_cases h : y = x
  · subst h
    rw [if_pos rfl, List.getElem?_set_self hx]
    rfl
  · rw [if_neg h, List.getElem?_set_ne (fun e => h e.symm)]
structure BI (R : List Rw) (N : Nat) (far came : List (Option Int)) (T p : Nat) (g τ : Nat → Nat) (clk : Nat) : Prop where
  l1 : far.length = N
  l2 : came.length = N
  e : ∀ x, x < N → ∀ i : Int, fr came x = some i → 0 ≤ i ∧ i.toNat < R.length ∧ sB (rl R i.toNat) = x ∧ ∃ fa fx, fr far (sA (rl R i.toNat)) = some fa ∧ fr far x = some fx ∧ fx ≤ fa + sW (rl R i.toNat) ∧ (τ x ≤ τ (sA (rl R i.toNat)) → fx < fa + sW (rl R i.toNat)) ∧ g x ≤ g (sA (rl R i.toNat)) + 1
  n : ∀ x, x < N → fr came x = none → g x = 0 ∧ (fr far x ≠ none → x = 0)
  tk : ∀ x, τ x < clk
  ck : clk ≤ (T - 1) * R.length + p + 1
  s0 : ∃ v, fr far 0 = some v ∧ 0 ≤ v
  pot : ∀ V : Nat → Int, Feas R V → ∀ x v, fr far x = some v → v ≤ V x - V 0
  st1 : ∀ i, i < p → i < R.length → g (sA (rl R i)) < T → sat R far i
  st2 : ∀ i, p ≤ i → i < R.length → g (sA (rl R i)) + 1 < T → sat R far i
  gT : ∀ x, g x ≤ T
theorem bi_step {R : List Rw} {N : Nat} (ok : RulesOk R N) {s : Bs} {T p : Nat} {g τ : Nat → Nat} {clk : Nat} (I : BI R N s.far s.came T p g τ clk) (hp : p < R.length) : ∃ g' τ' clk', BI R N (upd1 R s p).far (upd1 R s p).came T (p + 1) g' τ' clk' ∧ (((upd1 R s p).ch = s.ch ∧ upd1 R s p = s) ∨ ∃ x : Nat, x < N ∧ (upd1 R s p).ch = some (x : Int) ∧ g' x = T) ∧ (∀ x, g x = T → g' x = T) := by
  obtain ⟨hA, hB, eB, eA⟩ := rl_ok ok hp
  have done : sat R s.far p → ∃ g' τ' clk', BI R N s.far s.came T (p + 1) g' τ' clk' ∧ ((s.ch = s.ch ∧ s = s) ∨ ∃ x : Nat, x < N ∧ s.ch = some (x : Int) ∧ g' x = T) ∧ (∀ x, g x = T → g' x = T) := fun hs =>
    ⟨g, τ, clk, ⟨I.l1, I.l2, I.e, I.n, I.tk, by have := I.ck; omega, I.s0, I.pot, fun i hi hl hg => by
      rcases (show i < p ∨ i = p by omega) with q | q
      · exact I.st1 i q hl hg
      · rw [q]; exact hs, fun i hi hl hg => I.st2 i (by omega) hl hg, I.gT⟩, .inl ⟨rfl, rfl⟩, fun x h => h⟩
  unfold upd1
  cases hfa : fr s.far (sA (rl R p)) with
  | none => exact done fun fa h => by rw [hfa] at h; cases h
  | some fa =>
    simp only
    by_cases hm : moreB (fr s.far (sB (rl R p))) (fa + sW (rl R p)) = true
    · rw [if_pos hm]
      generalize hb : sB (rl R p) = b at hB eB hm ⊢
      generalize ha : sA (rl R p) = a at hA eA hfa ⊢
      generalize hw : sW (rl R p) = w at hm ⊢
      have hfb : ∀ fb, fr s.far b = some fb → fb < fa + w := fun fb h => by rw [h] at hm; exact of_decide_eq_true hm
      have nsat : ¬ sat R s.far p := fun h => by
        obtain ⟨fb, h1, h2⟩ := h fa (by rw [ha]; exact hfa)
        rw [hb] at h1
        rw [hw] at h2
        have := hfb fb h1
        omega
      have hga : T ≤ g a + 1 := by
        by_cases c : g a + 1 < T
        · exact absurd (I.st2 p (Nat.le_refl _) hp (by rw [ha]; exact c)) nsat
        · omega
      have lf : b < s.far.length := by rw [I.l1]; exact hB
      have lc : b < s.came.length := by rw [I.l2]; exact hB
      have F : ∀ y, fr (s.far.set b (some (fa + w))) y = if y = b then some (fa + w) else fr s.far y := fun y => fr_set lf
      have C : ∀ y, fr (s.came.set b (some (p : Int))) y = if y = b then some (p : Int) else fr s.came y := fun y => fr_set lc
      have up : ∀ i, sA (rl R i) ≠ b → sat R s.far i → sat R (s.far.set b (some (fa + w))) i := fun i hi h fa' q => by
        rw [F, if_neg hi] at q
        obtain ⟨fb, h1, h2⟩ := h fa' q
        rw [F]
        by_cases c : sB (rl R i) = b
        · rw [if_pos c]
          rw [c] at h1
          have := hfb fb h1
          exact ⟨_, rfl, by omega⟩
        · rw [if_neg c]; exact ⟨fb, h1, h2⟩
      refine ⟨fun y => if y = b then T else g y, fun y => if y = b then clk else τ y, clk + 1, ⟨by simp [I.l1], by simp [I.l2], ?_, ?_, ?_, by have := I.ck; omega, ?_, ?_, ?_, ?_, ?_⟩, .inr ⟨b, hB, by rw [← eB], by simp⟩, fun x h => by show (if x = b then T else g x) = T; rw [h]; exact ite_self _⟩
      · intro x hx i hi
        rw [C] at hi
        by_cases cx : x = b
        · rw [if_pos cx] at hi
          cases hi
          rw [cx]
          refine ⟨by omega, by omega, by simpa using hb, ?_⟩
          rw [Int.toNat_natCast, ha, hw, F, F, if_pos rfl]
          by_cases cab : a = b
          · rw [cab, if_pos rfl]
            have := hfb fa (by rw [← cab]; exact hfa)
            exact ⟨_, _, rfl, rfl, by omega, fun _ => by omega, by omega⟩
          · rw [if_neg cab]
            refine ⟨fa, _, hfa, rfl, by omega, fun q => ?_, ?_⟩
            · have q : (if b = b then clk else τ b) ≤ (if a = b then clk else τ a) := q
              rw [if_pos rfl, if_neg cab] at q
              have := I.tk a
              omega
            · show (if b = b then T else g b) ≤ (if a = b then T else g a) + 1
              rw [if_pos rfl, if_neg cab]
              exact hga
        · rw [if_neg cx] at hi
          obtain ⟨h1, h2, h3, fa', fx, h4, h5, h6, h7, h8⟩ := I.e x hx i hi
          refine ⟨h1, h2, h3, ?_⟩
          rw [F, F, if_neg cx]
          simp only [if_neg cx]
          by_cases c : sA (rl R i.toNat) = b
          · rw [if_pos c, if_pos c]
            rw [c] at h4 h8
            have := hfb fa' h4
            have := I.gT b
            exact ⟨_, fx, rfl, h5, by omega, fun _ => by omega, by simp [c]; omega⟩
          · rw [if_neg c, if_neg c]
            exact ⟨fa', fx, h4, h5, h6, h7, by simp [c]; exact h8⟩
      · intro x hx hi
        rw [C] at hi
        by_cases cx : x = b
        · rw [if_pos cx] at hi; cases hi
        · rw [if_neg cx] at hi
          rw [F, if_neg cx]
          simp only [if_neg cx]
          exact I.n x hx hi
      · intro x
        have := I.tk x
        show (if x = b then clk else τ x) < clk + 1
        split <;> omega
      · obtain ⟨v, v1, v2⟩ := I.s0
        rw [F]
        by_cases c : (0 : Nat) = b
        · rw [if_pos c]
          rw [c] at v1
          have := hfb v v1
          exact ⟨_, rfl, by omega⟩
        · rw [if_neg c]; exact ⟨v, v1, v2⟩
      · intro V hV x v hv
        rw [F] at hv
        by_cases c : x = b
        · rw [if_pos c] at hv
          cases hv
          have h1 := I.pot V hV a fa hfa
          have h2 := hV p hp
          rw [ha, hb, hw] at h2
          rw [c]
          omega
        · rw [if_neg c] at hv
          exact I.pot V hV x v hv
      · intro i hi hl hg
        have ni : sA (rl R i) ≠ b := fun e => by simp [e] at hg
        rw [if_neg ni] at hg
        rcases (show i < p ∨ i = p by omega) with q | q
        · exact up i ni (I.st1 i q hl hg)
        · subst q
          intro fa' h
          rw [ha] at ni
          rw [F, ha, if_neg ni, hfa] at h
          cases h
          rw [F, hb, if_pos rfl, hw]
          exact ⟨_, rfl, Int.le_refl _⟩
      · intro i hi hl hg
        have ni : sA (rl R i) ≠ b := fun e => by simp [e] at hg; omega
        rw [if_neg ni] at hg
        exact up i ni (I.st2 i (by omega) hl hg)
      · intro x
        show (if x = b then T else g x) ≤ T
        split
        · exact Nat.le_refl _
        · exact I.gT x
    · rw [if_neg hm]
      refine done fun fa' h => ?_
      rw [hfa] at h
      cases h
      unfold moreB at hm
      cases hb : fr s.far (sB (rl R p)) with
      | none => rw [hb] at hm; exact absurd rfl hm
      | some fb =>
        rw [hb] at hm
        simp only [decide_eq_true_eq] at hm
        exact ⟨fb, rfl, by omega⟩
theorem bi_pass {R : List Rw} {N : Nat} (ok : RulesOk R N) {s : Bs} (hs : s.ch = none) {T : Nat} {g τ : Nat → Nat} {clk : Nat} (I : BI R N s.far s.came T 0 g τ clk) : ∀ k, k ≤ R.length → ∃ g' τ' clk', BI R N (passK R s k).far (passK R s k).came T k g' τ' clk' ∧ ((passK R s k = s) ∨ ∃ x : Nat, x < N ∧ (passK R s k).ch = some (x : Int) ∧ g' x = T)
  | 0, _ => ⟨g, τ, clk, I, .inl rfl⟩
  | k + 1, hk => by
    obtain ⟨g1, τ1, c1, I1, h1⟩ := bi_pass ok hs I k (by omega)
    obtain ⟨g2, τ2, c2, I2, h2, h3⟩ := bi_step ok I1 (by omega)
    rw [pass_succ]
    refine ⟨g2, τ2, c2, I2, ?_⟩
    rcases h2 with ⟨_, e⟩ | h2
    · rw [e]
      rcases h1 with h1 | ⟨x, x1, x2, x3⟩
      · exact .inl h1
      · exact .inr ⟨x, x1, x2, h3 x x3⟩
    · exact .inr h2
/-- behind a turn that changed nothing -/
structure Conv (R : List Rw) (N : Nat) (far came : List (Option Int)) (τ : Nat → Nat) : Prop where
  l1 : far.length = N
  l2 : came.length = N
  e : ∀ x, x < N → ∀ i : Int, fr came x = some i → 0 ≤ i ∧ i.toNat < R.length ∧ sB (rl R i.toNat) = x ∧ ∃ fa fx, fr far (sA (rl R i.toNat)) = some fa ∧ fr far x = some fx ∧ fx = fa + sW (rl R i.toNat) ∧ τ (sA (rl R i.toNat)) < τ x
  n : ∀ x, x < N → fr came x = none → fr far x ≠ none → x = 0
  tk : ∀ x, τ x < 1000
  s0 : ∃ v, fr far 0 = some v ∧ 0 ≤ v
  pot : ∀ V : Nat → Int, Feas R V → ∀ x v, fr far x = some v → v ≤ V x - V 0
  st : ∀ i, i < R.length → sat R far i
/-- behind all turns, each of which changed something -/
structure Ringy (R : List Rw) (N : Nat) (far came : List (Option Int)) (c : Nat) (g τ : Nat → Nat) : Prop where
  l2 : came.length = N
  cN : c < N
  e : ∀ x, x < N → ∀ i : Int, fr came x = some i → 0 ≤ i ∧ i.toNat < R.length ∧ sB (rl R i.toNat) = x ∧ ∃ fa fx, fr far (sA (rl R i.toNat)) = some fa ∧ fr far x = some fx ∧ fx ≤ fa + sW (rl R i.toNat) ∧ (τ x ≤ τ (sA (rl R i.toNat)) → fx < fa + sW (rl R i.toNat)) ∧ g x ≤ g (sA (rl R i.toNat)) + 1
  n : ∀ x, x < N → fr came x = none → g x = 0
  gc : N + 1 ≤ g c
theorem run_all {R : List Rw} {N : Nat} (ok : RulesOk R N) (hN : N ≤ 10) (hR : R.length ≤ 50) : ∀ (k : Nat) (far came : List (Option Int)) (ch : Option Int) (g τ : Nat → Nat) (clk T : Nat), T + k = N + 1 → BI R N far came (T + 1) 0 g τ clk → (k = 0 → ∃ x : Nat, x < N ∧ ch = some (x : Int) ∧ g x = T) →
    ((runN R k far came ch).ch = none ∧ ∃ τ', Conv R N (runN R k far came ch).far (runN R k far came ch).came τ') ∨ (∃ (x : Nat) (g' τ' : Nat → Nat), (runN R k far came ch).ch = some (x : Int) ∧ Ringy R N (runN R k far came ch).far (runN R k far came ch).came x g' τ')
  | 0, far, came, ch, g, τ, clk, T, hT, I, hc => by
    obtain ⟨x, x1, x2, x3⟩ := hc rfl
    right
    exact ⟨x, g, τ, x2, I.l2, x1, I.e, fun y hy h => (I.n y hy h).1, by omega⟩
  | k + 1, far, came, ch, g, τ, clk, T, hT, I, hc => by
    obtain ⟨g1, τ1, c1, I1, h1⟩ := bi_pass (s := ⟨far, came, none⟩) ok rfl I R.length (Nat.le_refl _)
    unfold runN
    cases hch : (passK R ⟨far, came, none⟩ R.length).ch with
    | none =>
      left
      refine ⟨hch, τ1, ?_⟩
      have e1 : passK R ⟨far, came, none⟩ R.length = ⟨far, came, none⟩ := by
        rcases h1 with h1 | ⟨x, _, x2, _⟩
        · exact h1
        · rw [hch] at x2; cases x2
      have st : ∀ i, i < R.length → sat R (passK R ⟨far, came, none⟩ R.length).far i := by
        -- nothing changed in this whole turn
        intro i hi
        have key : ∀ j, j ≤ R.length → passK R ⟨far, came, none⟩ j = ⟨far, came, none⟩ := by
          intro j hj
          have up : ∀ m, j ≤ m → m ≤ R.length → (passK R ⟨far, came, none⟩ m).ch = none → (passK R ⟨far, came, none⟩ j).ch = none := by
            intro m
            induction m with
            | zero => intro h1 _ h2; rw [show j = 0 by omega]; exact h2
            | succ m ih =>
              intro h1 hm h2
              rcases (show j = m + 1 ∨ j ≤ m by omega) with q | q
              · rw [q]; exact h2
              · refine ih q (by omega) ?_
                rw [pass_succ] at h2
                unfold upd1 at h2
                split at h2
                · exact h2
                · split at h2
                  · cases h2
                  · exact h2
          obtain ⟨g2, τ2, c2, _, h3⟩ := bi_pass (s := ⟨far, came, none⟩) ok rfl I j hj
          rcases h3 with h3 | ⟨x, _, x2, _⟩
          · exact h3
          · rw [up R.length hj (Nat.le_refl _) hch] at x2; cases x2
        have e2 := key (i + 1) (by omega)
        rw [pass_succ, key i (by omega)] at e2
        rw [e1]
        intro fa hfa
        unfold upd1 at e2
        simp only at hfa
        simp only [hfa] at e2
        by_cases hm : moreB (fr far (sB (rl R i))) (fa + sW (rl R i)) = true
        · rw [if_pos hm] at e2
          have := congrArg Bs.ch e2
          cases this
        · unfold moreB at hm
          cases hb : fr far (sB (rl R i)) with
          | none => rw [hb] at hm; exact absurd rfl hm
          | some fb =>
            rw [hb] at hm
            simp only [decide_eq_true_eq] at hm
            exact ⟨fb, rfl, by omega⟩
      refine ⟨I1.l1, I1.l2, fun x hx i hi => ?_, fun x hx h => (I1.n x hx h).2, fun x => ?_, I1.s0, I1.pot, st⟩
      · obtain ⟨q1, q2, q3, fa, fx, q4, q5, q6, q7, _⟩ := I1.e x hx i hi
        obtain ⟨fb, w1, w2⟩ := st i.toNat q2 fa q4
        rw [q3, q5] at w1
        cases w1
        refine ⟨q1, q2, q3, fa, fx, q4, q5, by omega, ?_⟩
        by_cases c : τ1 x ≤ τ1 (sA (rl R i.toNat))
        · have := q7 c; omega
        · omega
      · have := I1.tk x
        have := I1.ck
        have h9 : (T + 1 - 1) * R.length ≤ 11 * 50 := Nat.mul_le_mul (by omega) hR
        omega
    | some c =>
      simp only
      obtain ⟨x, x1, x2, x3⟩ : ∃ x : Nat, x < N ∧ (passK R ⟨far, came, none⟩ R.length).ch = some (x : Int) ∧ g1 x = T + 1 := by
        rcases h1 with h1 | h1
        · rw [h1] at hch; cases hch
        · exact h1
      rw [hch] at x2
      refine run_all ok hN hR k _ _ (some c) g1 τ1 c1 (T + 1) (by omega) ⟨I1.l1, I1.l2, I1.e, I1.n, I1.tk, ?_, I1.s0, I1.pot, fun i hi => by omega, fun i _ hl hg => I1.st1 i hl hl (by omega), fun y => by have := I1.gT y; omega⟩ fun _ => ⟨x, x1, x2, x3⟩
      have := I1.ck
      rw [show T + 1 + 1 - 1 = (T + 1 - 1) + 1 by omega, Nat.add_mul]
      omega
def far0 (N : Nat) : List (Option Int) := (List.replicate N none).set 0 (some 0)
def came0 (N : Nat) : List (Option Int) := List.replicate N none
theorem fr_none (N x : Nat) : fr (List.replicate N none) x = none := by
  unfold fr
  rw [List.getD_eq_getElem?_getD, List.getElem?_replicate]
  split <;> rfl
def runR (R : List Rw) (N : Nat) : Bs := runN R (N + 1) (far0 N) (came0 N) none
theorem run_told {R : List Rw} {N : Nat} (ok : RulesOk R N) (h1 : 1 ≤ N) (hN : N ≤ 10) (hR : R.length ≤ 50) :
    ((runR R N).ch = none ∧ ∃ τ', Conv R N (runR R N).far (runR R N).came τ') ∨ (∃ (x : Nat) (g' τ' : Nat → Nat), (runR R N).ch = some (x : Int) ∧ Ringy R N (runR R N).far (runR R N).came x g' τ') := by
  refine run_all ok hN hR (N + 1) _ _ _ (fun _ => 0) (fun _ => 0) 1 0 (by omega) ?_ (fun h => by omega)
  have F : ∀ x, fr (far0 N) x = if x = 0 then some 0 else none := fun x => by
    unfold far0
    rw [fr_set (by rw [List.length_replicate]; omega), fr_none]
  refine ⟨by simp [far0], by simp [came0], fun x _ i h => ?_, fun x _ _ => ⟨rfl, fun h => ?_⟩, fun _ => by omega, by omega, ⟨0, by rw [F]; rfl, by omega⟩, fun V _ x v h => ?_, fun i h => by omega, fun i _ _ h => by omega, fun _ => by omega⟩
  · unfold came0 at h; rw [fr_none] at h; cases h
  · rw [F] at h
    by_cases c : x = 0
    · exact c
    · rw [if_neg c] at h; exact absurd rfl h
  · rw [F] at h
    by_cases c : x = 0
    · rw [if_pos c] at h; cases h; rw [c]; omega
    · rw [if_neg c] at h; cases h
/-! ### chains -/
def cA (came : List (Option Int)) (x : Nat) : Int := (fr came x).getD 0
def prv (R : List Rw) (came : List (Option Int)) (x : Nat) : Nat := sA (rl R (cA came x).toNat)
def Fv (far : List (Option Int)) (x : Nat) : Int := (fr far x).getD 0
def leadN (R : List Rw) : List Int → Int → Option Int
  | [], h => some h
  | i :: is, h => if ((0 ≤ i ∧ i < R.length) ∧ (rl R i.toNat).1 = h) then leadN R is (rl R i.toNat).2.1 else none
def sumW (R : List Rw) (is : List Int) : Int := (is.map fun i => sW (rl R i.toNat)).sum
def chainN (R : List Rw) (came : List (Option Int)) : Nat → Nat → List Int → List Int
  | 0, _, acc => acc
  | f + 1, x, acc => if x = 0 then acc else chainN R came f (prv R came x) (cA came x :: acc)
section
variable {R : List Rw} {N : Nat} {far came : List (Option Int)} {τ : Nat → Nat}
def Tot (N : Nat) (far : List (Option Int)) : Prop := ∀ x, x < N → ∃ v, fr far x = some v
theorem conv_feas (ok : RulesOk R N) (cv : Conv R N far came τ) (tot : Tot N far) : Feas R (Fv far) := fun i hi => by
  obtain ⟨hA, hB, _⟩ := rl_ok ok hi
  obtain ⟨fa, ha⟩ := tot _ hA
  obtain ⟨fb, hb, le⟩ := cv.st i hi fa ha
  unfold Fv
  rw [ha, hb]
  show sW (rl R i) ≤ fb - fa
  omega
theorem conv_least (ok : RulesOk R N) (cv : Conv R N far came τ) (tot : Tot N far) {V : Nat → Int} (hV : Feas R V) {x : Nat} (hx : x < N) : Fv far x ≤ V x - V 0 := by
  obtain ⟨v, hv⟩ := tot x hx
  have := cv.pot V hV x v hv
  unfold Fv
  rw [hv]
  exact this
theorem conv_zero (ok : RulesOk R N) (h1 : 1 ≤ N) (cv : Conv R N far came τ) (tot : Tot N far) : Fv far 0 = 0 := by
  have a := conv_least ok cv tot (conv_feas ok cv tot) (x := 0) (by omega)
  obtain ⟨v, hv, nn⟩ := cv.s0
  have e : Fv far 0 = v := by unfold Fv; rw [hv]; rfl
  omega
theorem conv_step (ok : RulesOk R N) (cv : Conv R N far came τ) (tot : Tot N far) {x : Nat} (hx : x < N) (h0 : x ≠ 0) : ∃ i : Int, fr came x = some i ∧ cA came x = i ∧ (0 ≤ i ∧ i < R.length) ∧ prv R came x < N ∧ (rl R i.toNat).1 = (prv R came x : Int) ∧ (rl R i.toNat).2.1 = (x : Int) ∧ Fv far x = Fv far (prv R came x) + sW (rl R i.toNat) ∧ τ (prv R came x) < τ x := by
  cases hc : fr came x with
  | none =>
    obtain ⟨v, hv⟩ := tot x hx
    exact absurd (cv.n x hx hc (by rw [hv]; intro z; cases z)) h0
  | some i =>
    have ec : cA came x = i := by unfold cA; rw [hc]; rfl
    obtain ⟨q1, q2, q3, fa, fx, q4, q5, q6, q7⟩ := cv.e x hx i hc
    obtain ⟨hA, hB, eB, eA⟩ := rl_ok ok q2
    have ep : prv R came x = sA (rl R i.toNat) := by unfold prv; rw [ec]
    rw [ep]
    refine ⟨i, rfl, ec, ⟨q1, by omega⟩, hA, eA, by rw [eB, q3], ?_, q7⟩
    unfold Fv
    rw [q4, q5]
    exact q6
theorem chain_ok (ok : RulesOk R N) (h1 : 1 ≤ N) (cv : Conv R N far came τ) (tot : Tot N far) : ∀ (f x : Nat) (acc : List Int), x < N → τ x < f → leadN R (chainN R came f x acc) 0 = leadN R acc (x : Int) ∧ sumW R (chainN R came f x acc) = Fv far x + sumW R acc ∧ (chainN R came f x acc).length ≤ f + acc.length
  | 0, x, acc, _, h => absurd h (Nat.not_lt_zero _)
  | f + 1, x, acc, hx, h => by
    unfold chainN
    by_cases c : x = 0
    · rw [if_pos c, c, conv_zero ok h1 cv tot]
      exact ⟨rfl, by omega, by omega⟩
    · rw [if_neg c]
      obtain ⟨i, _, ec, ⟨i1, i2⟩, pN, eA, eB, eF, eT⟩ := conv_step ok cv tot hx c
      obtain ⟨a1, a2, a3⟩ := chain_ok ok h1 cv tot f (prv R came x) (cA came x :: acc) pN (by omega)
      rw [a1, a2]
      refine ⟨?_, ?_, by rw [List.length_cons] at a3; omega⟩
      · rw [ec]
        conv => lhs; unfold leadN
        rw [if_pos ⟨⟨i1, i2⟩, eA⟩, eB]
      · unfold sumW
        rw [List.map_cons, List.sum_cons, ec]
        omega
end
/-! ### rings -/
def walkN (R : List Rw) (came : List (Option Int)) : Nat → Nat → Nat
  | 0, x => x
  | k + 1, x => prv R came (walkN R came k x)
theorem walk_add (R : List Rw) (came : List (Option Int)) (x : Nat) : ∀ i j, walkN R came (i + j) x = walkN R came i (walkN R came j x)
  | 0, j => by rw [Nat.zero_add]; rfl
  | i + 1, j => by
    rw [show i + 1 + j = (i + j) + 1 by omega]
    show prv R came (walkN R came (i + j) x) = prv R came (walkN R came i (walkN R came j x))
    rw [walk_add R came x i j]
def ringN (R : List Rw) (came : List (Option Int)) (y : Nat) : Nat → Nat → List Int → List Int
  | 0, _, acc => acc
  | f + 1, h, acc => if h = y then acc else ringN R came y f (prv R came h) (cA came h :: acc)
def ringF (R : List Rw) (came : List (Option Int)) (N c : Nat) : List Int := ringN R came (walkN R came N c) 30 (prv R came (walkN R came N c)) [cA came (walkN R came N c)]
section
variable {R : List Rw} {N : Nat} {far came : List (Option Int)} {c : Nat} {g τ : Nat → Nat}
theorem ringy_step (ok : RulesOk R N) (r : Ringy R N far came c g τ) {x : Nat} (hx : x < N) (hc : fr came x ≠ none) : ∃ i : Int, fr came x = some i ∧ cA came x = i ∧ (0 ≤ i ∧ i < R.length) ∧ prv R came x < N ∧ (rl R i.toNat).1 = (prv R came x : Int) ∧ (rl R i.toNat).2.1 = (x : Int) ∧ Fv far x ≤ Fv far (prv R came x) + sW (rl R i.toNat) ∧ (τ x ≤ τ (prv R came x) → Fv far x < Fv far (prv R came x) + sW (rl R i.toNat)) ∧ g x ≤ g (prv R came x) + 1 := by
  cases hc : fr came x with
  | none => exact absurd hc ‹_›
  | some i =>
    have ec : cA came x = i := by unfold cA; rw [hc]; rfl
    obtain ⟨q1, q2, q3, fa, fx, q4, q5, q6, q7, q8⟩ := r.e x hx i hc
    obtain ⟨hA, hB, eB, eA⟩ := rl_ok ok q2
    have ep : prv R came x = sA (rl R i.toNat) := by unfold prv; rw [ec]
    rw [ep]
    unfold Fv
    rw [q4, q5]
    exact ⟨i, rfl, ec, ⟨q1, by omega⟩, hA, eA, by rw [eB, q3], q6, q7, q8⟩
theorem ringy_walk (ok : RulesOk R N) (r : Ringy R N far came c g τ) : ∀ k, k ≤ N → walkN R came k c < N ∧ N + 1 ≤ g (walkN R came k c) + k
  | 0, _ => ⟨r.cN, r.gc⟩
  | k + 1, hk => by
    obtain ⟨w1, w2⟩ := ringy_walk ok r k (by omega)
    have al : fr came (walkN R came k c) ≠ none := fun h => by have := r.n _ w1 h; omega
    obtain ⟨i, _, _, _, p1, _, _, _, _, p2⟩ := ringy_step ok r w1 al
    exact ⟨p1, by show N + 1 ≤ g (prv R came (walkN R came k c)) + (k + 1); omega⟩
theorem ringy_alive (ok : RulesOk R N) (r : Ringy R N far came c g τ) {k : Nat} (hk : k ≤ N) : fr came (walkN R came k c) ≠ none := fun h => by
  obtain ⟨w1, w2⟩ := ringy_walk ok r k hk
  have := r.n _ w1 h
  omega
theorem nodup_le' : ∀ (xs ys : List Nat), xs.Nodup → (∀ x ∈ xs, x ∈ ys) → xs.length ≤ ys.length
  | [], _, _, _ => by simp
  | x :: xs, ys, nd, h => by
    have hx := h x (by simp)
    have nx := List.nodup_cons.mp nd
    have := nodup_le' xs (ys.erase x) nx.2 fun y hy => (List.mem_erase_of_ne (fun e => nx.1 (by rw [← e]; exact hy))).mpr (h y (by simp [hy]))
    rw [List.length_erase_of_mem hx] at this
    have := List.length_pos_of_mem hx
    rw [List.length_cons]
    omega
theorem pigeon (f : Nat → Nat) (N : Nat) (h : ∀ k, k ≤ N → f k < N) : ∃ i j, i < j ∧ j ≤ N ∧ f i = f j := by
  apply Classical.byContradiction
  intro hn
  have nd : ((List.range (N + 1)).map f).Nodup := by
    refine List.pairwise_map.mpr ((List.pairwise_lt_range (n := N + 1)).imp_of_mem ?_)
    intro a b ha hb hlt e
    exact hn ⟨a, b, hlt, by have := List.mem_range.mp hb; omega, e⟩
  have := nodup_le' _ (List.range N) nd fun x hx => by
    obtain ⟨k, hk, rfl⟩ := List.mem_map.mp hx
    exact List.mem_range.mpr (h k (by have := List.mem_range.mp hk; omega))
  simp at this
  omega
/-- the ring's own turns -/
theorem ring_per (ok : RulesOk R N) (r : Ringy R N far came c g τ) : ∃ d, 1 ≤ d ∧ d ≤ N ∧ walkN R came d (walkN R came N c) = walkN R came N c ∧ ∀ k, walkN R came k (walkN R came N c) < N ∧ fr came (walkN R came k (walkN R came N c)) ≠ none := by
  obtain ⟨i, j, hij, hj, e⟩ := pigeon (fun k => walkN R came k c) N fun k hk => (ringy_walk ok r k hk).1
  have per : ∀ m, i ≤ m → walkN R came (m + (j - i)) c = walkN R came m c := fun m hm => by
    have e1 : m + (j - i) = (m - i) + j := by omega
    have e2 : m = (m - i) + i := by omega
    rw [e1, walk_add]
    conv => rhs; rw [e2, walk_add]
    show walkN R came (m - i) (walkN R came j c) = walkN R came (m - i) (walkN R came i c)
    rw [show walkN R came i c = walkN R came j c from e]
  refine ⟨j - i, by omega, by omega, ?_, fun k => ?_⟩
  · rw [← walk_add, Nat.add_comm]
    exact per N (by omega)
  · rw [← walk_add]
    have key : ∀ m, i ≤ m → ∃ m', m' ≤ N ∧ walkN R came m c = walkN R came m' c := by
      intro m
      induction m using Nat.strongRecOn with
      | ind m ih =>
        intro hm
        by_cases q : m ≤ N
        · exact ⟨m, q, rfl⟩
        · obtain ⟨m', h1, h2⟩ := ih (m - (j - i)) (by omega) (by omega)
          refine ⟨m', h1, ?_⟩
          rw [← h2, ← per (m - (j - i)) (by omega), Nat.sub_add_cancel (by omega)]
    obtain ⟨m', h1, h2⟩ := key (k + N) (by omega)
    rw [h2]
    exact ⟨(ringy_walk ok r m' h1).1, ringy_alive ok r h1⟩
theorem ring_go (ok : RulesOk R N) (r : Ringy R N far came c g τ) {y : Nat} : ∀ (f h : Nat) (acc : List Int), (∀ k, walkN R came k h < N ∧ fr came (walkN R came k h) ≠ none) → (∃ m, m < f ∧ walkN R came m h = y) → acc ≠ [] → Fv far y ≤ Fv far h + sumW R acc → (τ y ≤ τ h → Fv far y < Fv far h + sumW R acc) →
    leadN R (ringN R came y f h acc) (y : Int) = leadN R acc (h : Int) ∧ 0 < sumW R (ringN R came y f h acc) ∧ (ringN R came y f h acc).length ≤ f + acc.length ∧ ringN R came y f h acc ≠ []
  | 0, h, acc, _, ⟨m, hm, _⟩, _, _, _ => absurd hm (Nat.not_lt_zero _)
  | f + 1, h, acc, al, ⟨m, hm, em⟩, hne, s1, s2 => by
    unfold ringN
    by_cases q : h = y
    · rw [if_pos q]
      rw [q] at s2 ⊢
      have := s2 (Nat.le_refl _)
      exact ⟨rfl, by omega, by omega, hne⟩
    · rw [if_neg q]
      obtain ⟨a1, a2⟩ := al 0
      obtain ⟨i, _, ec, ⟨i1, i2⟩, pN, eA, eB, eF, eT, _⟩ := ringy_step ok r a1 a2
      have eh : walkN R came 0 h = h := rfl
      rw [eh] at eA eB eF eT ec pN
      have es : sumW R (cA came h :: acc) = sW (rl R i.toNat) + sumW R acc := by unfold sumW; rw [List.map_cons, List.sum_cons, ec]
      have wk : ∀ k, walkN R came k (prv R came h) = walkN R came (k + 1) h := fun k => (walk_add R came h k 1).symm
      obtain ⟨b1, b2, b3, b4⟩ := ring_go ok r (y := y) f (prv R came h) (cA came h :: acc) (fun k => by rw [wk]; exact al (k + 1)) (by
        cases m with
        | zero => exact absurd em q
        | succ m => exact ⟨m, by omega, by rw [wk]; exact em⟩) (by simp) (by rw [es]; omega) (fun ht => by
        rw [es]
        by_cases c2 : τ h ≤ τ (prv R came h)
        · have := eT c2; omega
        · have := s2 (by omega); omega)
      refine ⟨?_, b2, by rw [List.length_cons] at b3; omega, b4⟩
      rw [b1, ec]
      conv => lhs; unfold leadN
      rw [if_pos ⟨⟨i1, i2⟩, eA⟩, eB]
theorem ring_ok (ok : RulesOk R N) (hN : N ≤ 10) (r : Ringy R N far came c g τ) : ∃ y : Nat, leadN R (ringF R came N c) (y : Int) = some (y : Int) ∧ 0 < sumW R (ringF R came N c) ∧ (ringF R came N c).length ≤ 31 ∧ ringF R came N c ≠ [] := by
  obtain ⟨d, d1, d2, d3, al⟩ := ring_per ok r
  refine ⟨walkN R came N c, ?_⟩
  unfold ringF
  obtain ⟨a1, a2⟩ := al 0
  obtain ⟨i, _, ec, ⟨i1, i2⟩, pN, eA, eB, eF, eT, _⟩ := ringy_step ok r a1 a2
  generalize hy : walkN R came N c = y at *
  have eh : walkN R came 0 y = y := rfl
  rw [eh] at eA eB eF eT ec pN
  have es : sumW R [cA came y] = sW (rl R i.toNat) := by unfold sumW; simp [ec]
  have wk : ∀ k, walkN R came k (prv R came y) = walkN R came (k + 1) y := fun k => (walk_add R came y k 1).symm
  obtain ⟨b1, b2, b3, b4⟩ := ring_go ok r (y := y) 30 (prv R came y) [cA came y] (fun k => by rw [wk]; exact al (k + 1)) ⟨d - 1, by omega, by rw [wk, Nat.sub_add_cancel d1]; exact d3⟩ (by simp) (by rw [es]; exact eF) (fun ht => by rw [es]; exact eT ht)
  refine ⟨?_, b2, b3, b4⟩
  rw [b1, ec]
  unfold leadN
  rw [if_pos ⟨⟨i1, i2⟩, eA⟩, eB]
  rfl
/-- a ring with a sum above 0 bars all times -/
theorem lead_sum {V : Nat → Int} (ok : RulesOk R N) (hV : Feas R V) : ∀ (is : List Int) (h e : Int), leadN R is h = some e → 0 ≤ h → sumW R is ≤ V e.toNat - V h.toNat
  | [], h, e, q, _ => by
    cases q
    show (0 : Int) ≤ _
    omega
  | i :: is, h, e, q, h0 => by
    unfold leadN at q
    split at q
    · rename_i hc
      obtain ⟨⟨i1, i2⟩, eA⟩ := hc
      have il : i.toNat < R.length := by omega
      obtain ⟨hA, hB, eB, eA'⟩ := rl_ok ok il
      have ih := lead_sum ok hV is _ e q (by omega)
      have f := hV i.toNat il
      unfold sumW at ih ⊢
      rw [List.map_cons, List.sum_cons]
      rw [← eA]
      unfold sA sB at f
      omega
    · cases q
theorem ring_bars (ok : RulesOk R N) (hN : N ≤ 10) (r : Ringy R N far came c g τ) (V : Nat → Int) : ¬ Feas R V := fun hV => by
  obtain ⟨y, y1, y2, _⟩ := ring_ok ok hN r
  have := lead_sum ok hV _ _ _ y1 (by omega)
  omega
end
abbrev Pr := Int × Int
/-! ### rules of windows and gaps -/
def wn (ws : List Pr) (k : Nat) : Pr := ws.getD k (0, 0)
def winR (ws : List Pr) (k : Nat) : List Rw := (List.range k).flatMap fun j : Nat => [(0, (j : Int) + 1, (wn ws j).1), ((j : Int) + 1, 0, 0 - (wn ws j).2)]
theorem win_succ (ws : List Pr) (k : Nat) : winR ws (k + 1) = winR ws k ++ [(0, (k : Int) + 1, (wn ws k).1), ((k : Int) + 1, 0, 0 - (wn ws k).2)] := by
  unfold winR
  rw [List.range_succ, List.flatMap_append]
  simp
def rulesF (ws : List Pr) (gs : List Rw) : List Rw := winR ws ws.length ++ gs.map fun g => (g.1 + 1, g.2.1 + 1, g.2.2)
def revR (R : List Rw) : List Rw := R.map fun r => (r.2.1, r.1, r.2.2)
/-- windows and gaps as the law draws them -/
structure Sc (ws : List Pr) (gs : List Rw) : Prop where
  n4 : ws.length ≤ 4
  g5 : gs.length ≤ 5
  w : ∀ p ∈ ws, 0 ≤ p.1 ∧ p.1 ≤ p.2 ∧ p.1 ≤ 5 ∧ p.2 ≤ 10
  g : ∀ r ∈ gs, 0 ≤ r.1 ∧ r.1 < ws.length ∧ 0 ≤ r.2.1 ∧ r.2.1 < ws.length ∧ -10 ≤ r.2.2 ∧ r.2.2 ≤ 10
theorem win_len (ws : List Pr) : ∀ k, (winR ws k).length = 2 * k
  | 0 => rfl
  | k + 1 => by rw [win_succ, List.length_append, win_len ws k]; simp; omega
theorem win_mem {ws : List Pr} {k : Nat} {r : Rw} : r ∈ winR ws k ↔ ∃ j, j < k ∧ (r = (0, (j : Int) + 1, (wn ws j).1) ∨ r = ((j : Int) + 1, 0, 0 - (wn ws j).2)) := by
  unfold winR
  rw [List.mem_flatMap]
  constructor
  · rintro ⟨j, hj, h⟩
    exact ⟨j, List.mem_range.mp hj, by simpa using h⟩
  · rintro ⟨j, hj, h⟩
    exact ⟨j, List.mem_range.mpr hj, by simpa using h⟩
theorem rules_len {ws : List Pr} {gs : List Rw} (h : Sc ws gs) : (rulesF ws gs).length ≤ 13 := by
  unfold rulesF
  rw [List.length_append, win_len, List.length_map]
  have := h.n4
  have := h.g5
  omega
theorem rules_mem {ws : List Pr} {gs : List Rw} {r : Rw} : r ∈ rulesF ws gs ↔ (∃ j, j < ws.length ∧ (r = (0, (j : Int) + 1, (wn ws j).1) ∨ r = ((j : Int) + 1, 0, 0 - (wn ws j).2))) ∨ ∃ g ∈ gs, r = (g.1 + 1, g.2.1 + 1, g.2.2) := by
  unfold rulesF
  rw [List.mem_append, win_mem, List.mem_map]
  constructor
  · rintro (h | ⟨g, hg, rfl⟩)
    · exact .inl h
    · exact .inr ⟨g, hg, rfl⟩
  · rintro (h | ⟨g, hg, rfl⟩)
    · exact .inl h
    · exact .inr ⟨g, hg, rfl⟩
theorem rules_ok {ws : List Pr} {gs : List Rw} (h : Sc ws gs) : RulesOk (rulesF ws gs) (ws.length + 1) := fun r hr => by
  rcases rules_mem.mp hr with ⟨j, hj, rfl | rfl⟩ | ⟨g, hg, rfl⟩
  · simp only; omega
  · simp only; omega
  · have := h.g g hg; simp only; omega
theorem rev_ok {R : List Rw} {N : Nat} (h : RulesOk R N) : RulesOk (revR R) N := fun r hr => by
  obtain ⟨q, hq, rfl⟩ := List.mem_map.mp hr
  have := h q hq
  simp only; omega
theorem feas_iff {R : List Rw} {V : Nat → Int} : Feas R V ↔ ∀ r ∈ R, sW r ≤ V (sB r) - V (sA r) := by
  unfold Feas rl
  constructor
  · intro h r hr
    obtain ⟨i, hi⟩ := List.getElem?_of_mem hr
    have := h i (List.getElem?_eq_some_iff.mp hi).1
    rw [List.getD_eq_getElem?_getD, hi] at this
    exact this
  · intro h i hi
    refine h _ ?_
    rw [List.getD_eq_getElem?_getD, List.getElem?_eq_getElem hi]
    exact List.getElem_mem hi
theorem feas_rev {R : List Rw} {V : Nat → Int} : Feas (revR R) V ↔ Feas R fun x => - V x := by
  rw [feas_iff, feas_iff]
  unfold revR
  constructor
  · intro h r hr
    have := h _ (List.mem_map.mpr ⟨r, hr, rfl⟩)
    unfold sW sA sB at *
    simp only at this ⊢
    omega
  · intro h r hr
    obtain ⟨q, hq, rfl⟩ := List.mem_map.mp hr
    have := h q hq
    unfold sW sA sB at *
    simp only at this ⊢
    omega
theorem tot_of {R : List Rw} {N : Nat} {far came : List (Option Int)} {τ : Nat → Nat} (cv : Conv R N far came τ) (h : ∀ k : Nat, 1 ≤ k → k < N → ∃ r ∈ R, r.1 = 0 ∧ r.2.1 = (k : Int)) : Tot N far := fun x hx => by
  obtain ⟨v, hv, _⟩ := cv.s0
  by_cases c : x = 0
  · rw [c]; exact ⟨v, hv⟩
  · obtain ⟨r, hr, e1, e2⟩ := h x (by omega) hx
    obtain ⟨i, hi⟩ := List.getElem?_of_mem hr
    have hl := (List.getElem?_eq_some_iff.mp hi).1
    have er : rl R i = r := by unfold rl; rw [List.getD_eq_getElem?_getD, hi]; rfl
    obtain ⟨fb, h1, _⟩ := cv.st i hl v (by rw [er]; unfold sA; rw [e1]; exact hv)
    rw [er] at h1
    unfold sB at h1
    rw [e2, Int.toNat_natCast] at h1
    exact ⟨fb, h1⟩
theorem rules_tot {ws : List Pr} {gs : List Rw} : ∀ k : Nat, 1 ≤ k → k < ws.length + 1 → ∃ r ∈ rulesF ws gs, r.1 = 0 ∧ r.2.1 = (k : Int) := fun k h1 h2 =>
  ⟨_, rules_mem.mpr (.inl ⟨k - 1, by omega, .inl rfl⟩), rfl, by show ((k - 1 : Nat) : Int) + 1 = k; omega⟩
theorem rev_tot {ws : List Pr} {gs : List Rw} : ∀ k : Nat, 1 ≤ k → k < ws.length + 1 → ∃ r ∈ revR (rulesF ws gs), r.1 = 0 ∧ r.2.1 = (k : Int) := fun k h1 h2 =>
  ⟨_, List.mem_map.mpr ⟨_, rules_mem.mpr (.inl ⟨k - 1, by omega, .inr rfl⟩), rfl⟩, rfl, by show ((k - 1 : Nat) : Int) + 1 = k; omega⟩
/-! ### all times -/
def tm (ts : List Int) (k : Nat) : Int := ts.getD k 0
def rowsK (ws : List Pr) : Nat → List (List Int)
  | 0 => [[0]]
  | k + 1 => (rowsK ws k).flatMap fun row => (rngI (wn ws k).1 ((wn ws k).2 + 1 - (wn ws k).1).toNat).map fun t => row ++ [t]
def gapB (row : List Int) (g : Rw) : Bool := decide (row.getD (g.2.1 + 1).toNat 0 - row.getD (g.1 + 1).toNat 0 < g.2.2)
def okG (gs : List Rw) (row : List Int) : Bool := decide ((gs.filter (gapB row)).length = 0)
def everyF (ws : List Pr) (gs : List Rw) : List (List Int) := ((rowsK ws ws.length).filter (okG gs)).map List.tail
def Fits (ws : List Pr) (gs : List Rw) (ts : List Int) : Prop := ts.length = ws.length ∧ (∀ k, k < ws.length → (wn ws k).1 ≤ tm ts k ∧ tm ts k ≤ (wn ws k).2) ∧ ∀ g ∈ gs, g.2.2 ≤ tm ts g.2.1.toNat - tm ts g.1.toNat
theorem tm_app {ts : List Int} {t : Int} {j : Nat} : tm (ts ++ [t]) j = if j < ts.length then tm ts j else if j = ts.length then t else 0 := by
  unfold tm
  simp only [List.getD_eq_getElem?_getD]
  by_cases h : j < ts.length
  · rw [if_pos h, List.getElem?_append_left h]
  · rw [if_neg h, List.getElem?_append_right (by omega)]
    by_cases e : j = ts.length
    · rw [if_pos e, e]; simp
    · rw [if_neg e, List.getElem?_eq_none (by simp; omega)]; rfl
theorem rows_mem {ws : List Pr} : ∀ (k : Nat) (row : List Int), row ∈ rowsK ws k ↔ ∃ ts : List Int, row = 0 :: ts ∧ ts.length = k ∧ ∀ j, j < k → (wn ws j).1 ≤ tm ts j ∧ tm ts j ≤ (wn ws j).2
  | 0, row => by
    constructor
    · intro h
      have : row = [0] := by simpa [rowsK] using h
      exact ⟨[], this, rfl, fun j hj => by omega⟩
    · rintro ⟨ts, rfl, h, _⟩
      rw [List.length_eq_zero_iff.mp h]
      simp [rowsK]
  | k + 1, row => by
    unfold rowsK
    rw [List.mem_flatMap]
    constructor
    · rintro ⟨r, hr, h⟩
      obtain ⟨t, ht, rfl⟩ := List.mem_map.mp h
      obtain ⟨ts, rfl, l, b⟩ := (rows_mem k r).mp hr
      have ht := rngI_mem.mp ht
      refine ⟨ts ++ [t], by simp, by simp [l], fun j hj => ?_⟩
      rw [tm_app]
      by_cases c : j < ts.length
      · rw [if_pos c]; exact b j (by omega)
      · rw [if_neg c, if_pos (by omega)]
        have : j = k := by omega
        subst this
        omega
    · rintro ⟨ts, rfl, l, b⟩
      have e : ts = ts.dropLast ++ [ts.getLast (fun e => by rw [e] at l; simp at l)] := (List.dropLast_concat_getLast _).symm
      generalize ts.getLast (fun e => by rw [e] at l; simp at l) = t at e
      have l2 : ts.dropLast.length = k := by simp [l]
      generalize ts.dropLast = us at e l2
      subst e
      refine ⟨0 :: us, (rows_mem k _).mpr ⟨us, rfl, l2, fun j hj => ?_⟩, List.mem_map.mpr ⟨t, rngI_mem.mpr ?_, by simp⟩⟩
      · have := b j (by omega)
        rw [tm_app, if_pos (by omega)] at this
        exact this
      · have := b k (by omega)
        rw [tm_app, if_neg (by omega), if_pos (by omega)] at this
        omega
theorem okG_iff {gs : List Rw} {ts : List Int} (h : ∀ g ∈ gs, 0 ≤ g.1 ∧ 0 ≤ g.2.1) : okG gs (0 :: ts) = true ↔ ∀ g ∈ gs, g.2.2 ≤ tm ts g.2.1.toNat - tm ts g.1.toNat := by
  unfold okG
  rw [decide_eq_true_eq, List.length_eq_zero_iff, List.filter_eq_nil_iff]
  have key : ∀ g ∈ gs, (¬ gapB (0 :: ts) g = true) ↔ g.2.2 ≤ tm ts g.2.1.toNat - tm ts g.1.toNat := fun g hg => by
    obtain ⟨a, b⟩ := h g hg
    unfold gapB tm
    rw [show (g.2.1 + 1).toNat = g.2.1.toNat + 1 by omega, show (g.1 + 1).toNat = g.1.toNat + 1 by omega, List.getD_cons_succ, List.getD_cons_succ, decide_eq_true_eq]
    omega
  exact ⟨fun q g hg => (key g hg).mp (q g hg), fun q g hg => (key g hg).mpr (q g hg)⟩
theorem every_mem {ws : List Pr} {gs : List Rw} (h : ∀ g ∈ gs, 0 ≤ g.1 ∧ 0 ≤ g.2.1) {ts : List Int} : ts ∈ everyF ws gs ↔ Fits ws gs ts := by
  unfold everyF
  rw [List.mem_map]
  constructor
  · rintro ⟨row, hr, rfl⟩
    obtain ⟨r1, r2⟩ := List.mem_filter.mp hr
    obtain ⟨us, rfl, l, b⟩ := (rows_mem _ _).mp r1
    exact ⟨l, b, (okG_iff h).mp r2⟩
  · rintro ⟨l, b, g⟩
    exact ⟨0 :: ts, List.mem_filter.mpr ⟨(rows_mem _ _).mpr ⟨ts, rfl, l, b⟩, (okG_iff h).mpr g⟩, rfl⟩
def potF (ts : List Int) (x : Nat) : Int := if x = 0 then 0 else tm ts (x - 1)
theorem fits_feas {ws : List Pr} {gs : List Rw} (h : Sc ws gs) {ts : List Int} (hf : Fits ws gs ts) : Feas (rulesF ws gs) (potF ts) := by
  rw [feas_iff]
  intro r hr
  obtain ⟨_, f2, f3⟩ := hf
  rcases rules_mem.mp hr with ⟨j, hj, rfl | rfl⟩ | ⟨g, hg, rfl⟩
  · have := (f2 j hj).1
    show (wn ws j).1 ≤ potF ts ((j : Int) + 1).toNat - potF ts 0
    rw [show ((j : Int) + 1).toNat = j + 1 by omega]
    show _ ≤ tm ts j - 0
    omega
  · have := (f2 j hj).2
    show 0 - (wn ws j).2 ≤ potF ts 0 - potF ts ((j : Int) + 1).toNat
    rw [show ((j : Int) + 1).toNat = j + 1 by omega]
    show _ ≤ 0 - tm ts j
    omega
  · have := f3 g hg
    have b := h.g g hg
    show g.2.2 ≤ potF ts (g.2.1 + 1).toNat - potF ts (g.1 + 1).toNat
    rw [show (g.2.1 + 1).toNat = g.2.1.toNat + 1 by omega, show (g.1 + 1).toNat = g.1.toNat + 1 by omega]
    exact this
def lst (n : Nat) (V : Nat → Int) : List Int := (List.range n).map fun k => V (k + 1)
theorem tm_lst {n k : Nat} {V : Nat → Int} (hk : k < n) : tm (lst n V) k = V (k + 1) := by
  unfold tm lst
  rw [List.getD_eq_getElem?_getD, List.getElem?_map, List.getElem?_range hk]
  rfl
theorem feas_fits {ws : List Pr} {gs : List Rw} (h : Sc ws gs) {V : Nat → Int} (hV : Feas (rulesF ws gs) V) (h0 : V 0 = 0) : Fits ws gs (lst ws.length V) := by
  rw [feas_iff] at hV
  refine ⟨by simp [lst], fun k hk => ?_, fun g hg => ?_⟩
  · rw [tm_lst hk]
    have a := hV _ (rules_mem.mpr (.inl ⟨k, hk, .inl rfl⟩))
    have b := hV _ (rules_mem.mpr (.inl ⟨k, hk, .inr rfl⟩))
    have a : (wn ws k).1 ≤ V ((k : Int) + 1).toNat - V 0 := a
    have b : 0 - (wn ws k).2 ≤ V 0 - V ((k : Int) + 1).toNat := b
    rw [show ((k : Int) + 1).toNat = k + 1 by omega] at a b
    omega
  · have b := h.g g hg
    have a : g.2.2 ≤ V (g.2.1 + 1).toNat - V (g.1 + 1).toNat := hV _ (rules_mem.mpr (.inr ⟨g, hg, rfl⟩))
    rw [tm_lst (by omega), tm_lst (by omega)]
    rw [show (g.2.1 + 1).toNat = g.2.1.toNat + 1 by omega, show (g.1 + 1).toNat = g.1.toNat + 1 by omega] at a
    exact a
/-! ### what is told -/
inductive Told where
  | ring (xs : List Int)
  | times (ts : List Int) (cs : List (List Int))
def earF (ws : List Pr) (gs : List Rw) : Told := match (runR (rulesF ws gs) (ws.length + 1)).ch with
  | some c => .ring (ringF (rulesF ws gs) (runR (rulesF ws gs) (ws.length + 1)).came (ws.length + 1) c.toNat)
  | none => .times (lst ws.length (Fv (runR (rulesF ws gs) (ws.length + 1)).far)) ((List.range ws.length).map fun k => chainN (rulesF ws gs) (runR (rulesF ws gs) (ws.length + 1)).came 1000 (k + 1) [])
def latF (ws : List Pr) (gs : List Rw) : Option (List Int) := match (runR (revR (rulesF ws gs)) (ws.length + 1)).ch with
  | some _ => none
  | none => some (lst ws.length fun x => 0 - Fv (runR (revR (rulesF ws gs)) (ws.length + 1)).far x)
def lowsF (ws : List Pr) (gs : List Rw) : List Int := (List.range ws.length).map fun k => foldMin ((everyF ws gs).map fun ts => tm ts k)
def highsF (ws : List Pr) (gs : List Rw) : List Int := (List.range ws.length).map fun k => foldMax ((everyF ws gs).map fun ts => tm ts k)
def leadOk (R : List Rw) (is : List Int) (a b : Int) : Bool := decide (leadN R is a = some b)
/-- all there is to know of what earliest tells -/
theorem ear_cases {ws : List Pr} {gs : List Rw} (h : Sc ws gs) :
    (∃ xs c, earF ws gs = .ring xs ∧ (runR (rulesF ws gs) (ws.length + 1)).ch = some c ∧ everyF ws gs = [] ∧ (∃ y : Nat, leadN (rulesF ws gs) xs (y : Int) = some (y : Int) ∧ 0 < sumW (rulesF ws gs) xs ∧ xs.length ≤ 31 ∧ xs ≠ [])) ∨
    (∃ ts cs, earF ws gs = .times ts cs ∧ (runR (rulesF ws gs) (ws.length + 1)).ch = none ∧ ts ∈ everyF ws gs ∧ (∀ us ∈ everyF ws gs, ∀ k, k < ws.length → tm ts k ≤ tm us k) ∧ ts.length = ws.length ∧ cs.length = ws.length ∧ Feas (rulesF ws gs) (potF ts) ∧
      ∀ k, k < ws.length → leadN (rulesF ws gs) (cs.getD k []) 0 = some ((k : Int) + 1) ∧ sumW (rulesF ws gs) (cs.getD k []) = tm ts k ∧ (cs.getD k []).length ≤ 1000) := by
  have hg : ∀ g ∈ gs, 0 ≤ g.1 ∧ 0 ≤ g.2.1 := fun g q => by have := h.g g q; omega
  have ok := rules_ok h
  have n4 := h.n4
  have rlen := rules_len h
  rcases run_told ok (by omega) (by omega) (by omega) with ⟨hc, τ, cv⟩ | ⟨x, g, τ, hc, r⟩
  · right
    have tot := tot_of cv rules_tot
    have fe := conv_feas ok cv tot
    have z := conv_zero ok (by omega) cv tot
    have ft := feas_fits h fe z
    refine ⟨_, _, by unfold earF; rw [hc], hc, (every_mem hg).mpr ft, fun us hu k hk => ?_, by simp [lst], by simp, fits_feas h ft, fun k hk => ?_⟩
    · have fu := (every_mem hg).mp hu
      have := conv_least ok cv tot (fits_feas h fu) (x := k + 1) (by omega)
      rw [tm_lst hk]
      have e : potF us (k + 1) = tm us k := rfl
      have e0 : potF us 0 = 0 := rfl
      omega
    · rw [tm_lst hk]
      obtain ⟨c1, c2, c3⟩ := chain_ok ok (by omega) cv tot 1000 (k + 1) [] (by omega) (cv.tk _)
      have e : ((List.range ws.length).map fun k => chainN (rulesF ws gs) (runR (rulesF ws gs) (ws.length + 1)).came 1000 (k + 1) []).getD k [] = chainN (rulesF ws gs) (runR (rulesF ws gs) (ws.length + 1)).came 1000 (k + 1) [] := by
        rw [List.getD_eq_getElem?_getD, List.getElem?_map, List.getElem?_range hk]; rfl
      rw [e, c1, c2]
      refine ⟨?_, ?_, by simpa using c3⟩
      · show some (((k + 1 : Nat)) : Int) = _
        congr 1
      · show _ + (0 : Int) = _
        omega
  · left
    refine ⟨_, (x : Int), by unfold earF; rw [hc], hc, ?_, ?_⟩
    · cases e : everyF ws gs with
      | nil => rfl
      | cons ts l =>
        have : ts ∈ everyF ws gs := by rw [e]; simp
        exact absurd (fits_feas h ((every_mem hg).mp this)) (ring_bars ok (by omega) r _)
    · rw [Int.toNat_natCast]
      exact ring_ok ok (by omega) r
theorem lat_cases {ws : List Pr} {gs : List Rw} (h : Sc ws gs) :
    (∃ c, latF ws gs = none ∧ (runR (revR (rulesF ws gs)) (ws.length + 1)).ch = some c ∧ everyF ws gs = []) ∨
    (∃ ts, latF ws gs = some ts ∧ (runR (revR (rulesF ws gs)) (ws.length + 1)).ch = none ∧ Tot (ws.length + 1) (runR (revR (rulesF ws gs)) (ws.length + 1)).far ∧ ts ∈ everyF ws gs ∧ (∀ us ∈ everyF ws gs, ∀ k, k < ws.length → tm us k ≤ tm ts k) ∧ ts.length = ws.length) := by
  have hg : ∀ g ∈ gs, 0 ≤ g.1 ∧ 0 ≤ g.2.1 := fun g q => by have := h.g g q; omega
  have ok := rev_ok (rules_ok h)
  have n4 := h.n4
  have rlen := rules_len h
  have rl2 : (revR (rulesF ws gs)).length = (rulesF ws gs).length := by unfold revR; rw [List.length_map]
  rcases run_told ok (by omega) (by omega) (by omega) with ⟨hc, τ, cv⟩ | ⟨x, g, τ, hc, r⟩
  · right
    have tot := tot_of cv rev_tot
    have fe := conv_feas ok cv tot
    have z := conv_zero ok (by omega) cv tot
    have fe2 : Feas (rulesF ws gs) fun x => 0 - Fv (runR (revR (rulesF ws gs)) (ws.length + 1)).far x := by
      have := feas_rev.mp fe
      have e : (fun x => - Fv (runR (revR (rulesF ws gs)) (ws.length + 1)).far x) = fun x => 0 - Fv (runR (revR (rulesF ws gs)) (ws.length + 1)).far x := by funext x; omega
      rw [← e]; exact this
    have ft := feas_fits h fe2 (by simp only [z]; rfl)
    refine ⟨_, by unfold latF; rw [hc], hc, tot, (every_mem hg).mpr ft, fun us hu k hk => ?_, by simp [lst]⟩
    have fu := fits_feas h ((every_mem hg).mp hu)
    have fv : Feas (revR (rulesF ws gs)) fun x => - potF us x := feas_rev.mpr (by
      have e : (fun x => - - potF us x) = potF us := by funext x; omega
      rw [e]; exact fu)
    have := conv_least ok cv tot fv (x := k + 1) (by omega)
    rw [tm_lst hk]
    have e : potF us (k + 1) = tm us k := rfl
    have e0 : potF us 0 = 0 := rfl
    omega
  · left
    refine ⟨_, by unfold latF; rw [hc], hc, ?_⟩
    cases e : everyF ws gs with
    | nil => rfl
    | cons ts l =>
      have : ts ∈ everyF ws gs := by rw [e]; simp
      have fu := fits_feas h ((every_mem hg).mp this)
      have fv : Feas (revR (rulesF ws gs)) fun x => - potF ts x := feas_rev.mpr (by
        have e : (fun x => - - potF ts x) = potF ts := by funext x; omega
        rw [e]; exact fu)
      exact absurd fv (ring_bars ok (by omega) r _)
theorem fmn_ge : ∀ (l : List Int) (a : Int), l.foldl min a ≤ a ∧ ∀ x ∈ l, l.foldl min a ≤ x
  | [], a => ⟨Int.le_refl _, fun x hx => by cases hx⟩
  | b :: l, a => by
    have h := fmn_ge l (min a b)
    simp only [List.foldl_cons]
    refine ⟨by have := h.1; omega, fun x hx => ?_⟩
    rcases List.mem_cons.mp hx with rfl | hx
    · have := h.1; omega
    · exact h.2 x hx
theorem fmn_in : ∀ (l : List Int) (a : Int), l.foldl min a ∈ a :: l
  | [], a => by simp
  | b :: l, a => by
    have h := fmn_in l (min a b)
    simp only [List.foldl_cons]
    rcases List.mem_cons.mp h with h | h
    · rw [h]
      by_cases q : a ≤ b
      · rw [Int.min_eq_left q]; simp
      · rw [Int.min_eq_right (by omega)]; simp
    · simp [h]
theorem fmx_ge : ∀ (l : List Int) (a : Int), a ≤ l.foldl max a ∧ ∀ x ∈ l, x ≤ l.foldl max a
  | [], a => ⟨Int.le_refl _, fun x hx => by cases hx⟩
  | b :: l, a => by
    have h := fmx_ge l (max a b)
    simp only [List.foldl_cons]
    refine ⟨by have := h.1; omega, fun x hx => ?_⟩
    rcases List.mem_cons.mp hx with rfl | hx
    · have := h.1; omega
    · exact h.2 x hx
theorem fmx_in : ∀ (l : List Int) (a : Int), l.foldl max a ∈ a :: l
  | [], a => by simp
  | b :: l, a => by
    have h := fmx_in l (max a b)
    simp only [List.foldl_cons]
    rcases List.mem_cons.mp h with h | h
    · rw [h]
      by_cases q : a ≤ b
      · rw [Int.max_eq_right q]; simp
      · rw [Int.max_eq_left (by omega)]; simp
    · simp [h]
theorem foldMin_is {ns : List Int} {m : Int} (hm : m ∈ ns) (h : ∀ x ∈ ns, m ≤ x) : foldMin ns = m := by
  cases ns with
  | nil => cases hm
  | cons n ns =>
    have e : foldMin (n :: ns) = ns.foldl min n := rfl
    rw [e]
    have h1 := h _ (fmn_in ns n)
    have h2 : ns.foldl min n ≤ m := by
      rcases List.mem_cons.mp hm with rfl | hm
      · exact (fmn_ge ns _).1
      · exact (fmn_ge ns n).2 m hm
    omega
theorem foldMax_is {ns : List Int} {m : Int} (hm : m ∈ ns) (h : ∀ x ∈ ns, x ≤ m) : foldMax ns = m := by
  cases ns with
  | nil => cases hm
  | cons n ns =>
    have e : foldMax (n :: ns) = ns.foldl max n := rfl
    rw [e]
    have h1 := h _ (fmx_in ns n)
    have h2 : m ≤ ns.foldl max n := by
      rcases List.mem_cons.mp hm with rfl | hm
      · exact (fmx_ge ns _).1
      · exact (fmx_ge ns n).2 m hm
    omega
theorem eq_lst {n : Nat} {ts : List Int} (h : ts.length = n) (f : Nat → Int) (e : ∀ k, k < n → f k = tm ts k) : (List.range n).map f = ts := by
  refine List.ext_getElem (by simp [h]) fun i h1 h2 => ?_
  have := e i (by rw [← h]; exact h2)
  rw [List.getElem_map, List.getElem_range, this]
  unfold tm
  rw [List.getD_eq_getElem?_getD, List.getElem?_eq_getElem h2]
  rfl
theorem lows_is {ws : List Pr} {gs : List Rw} {ts : List Int} (h1 : ts ∈ everyF ws gs) (h2 : ∀ us ∈ everyF ws gs, ∀ k, k < ws.length → tm ts k ≤ tm us k) (h3 : ts.length = ws.length) : lowsF ws gs = ts :=
  eq_lst h3 _ fun k hk => foldMin_is (List.mem_map.mpr ⟨ts, h1, rfl⟩) fun x hx => by
    obtain ⟨us, hu, rfl⟩ := List.mem_map.mp hx
    exact h2 us hu k hk
theorem highs_is {ws : List Pr} {gs : List Rw} {ts : List Int} (h1 : ts ∈ everyF ws gs) (h2 : ∀ us ∈ everyF ws gs, ∀ k, k < ws.length → tm us k ≤ tm ts k) (h3 : ts.length = ws.length) : highsF ws gs = ts :=
  eq_lst h3 _ fun k hk => foldMax_is (List.mem_map.mpr ⟨ts, h1, rfl⟩) fun x hx => by
    obtain ⟨us, hu, rfl⟩ := List.mem_map.mp hx
    exact h2 us hu k hk
theorem sc_rest {ws : List Pr} {gs : List Rw} (h : Sc ws gs) (k : Nat) : Sc ws (gs.take k ++ gs.drop (k + 1)) := by
  have sub : ∀ g ∈ gs.take k ++ gs.drop (k + 1), g ∈ gs := fun g hg => by
    rcases List.mem_append.mp hg with q | q
    · exact List.mem_of_mem_take q
    · exact List.mem_of_mem_drop q
  refine ⟨h.n4, ?_, h.w, fun r hr => h.g r (sub r hr)⟩
  have := h.g5
  rw [List.length_append, List.length_take, List.length_drop]
  omega
theorem every_rest {ws : List Pr} {gs : List Rw} (h : Sc ws gs) (k : Nat) {ts : List Int} (ht : ts ∈ everyF ws gs) : ts ∈ everyF ws (gs.take k ++ gs.drop (k + 1)) := by
  have hg : ∀ g ∈ gs, 0 ≤ g.1 ∧ 0 ≤ g.2.1 := fun g q => by have := h.g g q; omega
  have sub : ∀ g ∈ gs.take k ++ gs.drop (k + 1), g ∈ gs := fun g hg => by
    rcases List.mem_append.mp hg with q | q
    · exact List.mem_of_mem_take q
    · exact List.mem_of_mem_drop q
  obtain ⟨a, b, c⟩ := (every_mem hg).mp ht
  exact (every_mem fun g q => hg g (sub g q)).mpr ⟨a, b, fun g q => c g (sub g q)⟩
end Law_k43
namespace Law_k43
open PySem L2 Pu
local macro_rules | `(tactic| walk_at "e") => `(tactic| first
  | ((with_reducible refine nx_seq ?_); (try dsimp only [List.set_cons_succ, List.set_cons_zero]))
  | ((with_reducible refine ex_vr ?_); dsimp only [VQ, List.set_cons_succ, List.set_cons_zero, List.getElem?_cons_zero, List.getElem?_cons_succ]; (fail_if_success (with_reducible show False)))
  | (with_reducible refine sx_seq ?_)
  | (with_reducible refine sx_if ?_)
  | (with_reducible refine sx_next ?_)
  | (with_reducible refine sx_ret ?_)
  | ((fail_if_success (with_reducible refine sx_asgO (eo_lst ?_))); (with_reducible refine sx_asg ?_))
  | (with_reducible refine ex_int ?_)
  | (with_reducible refine ex_str ?_)
  | (with_reducible refine ex_bl ?_)
  | (with_reducible refine ex_non ?_)
  | (with_reducible refine ex_op ?_)
  | (with_reducible refine ex_un ?_)
  | (with_reducible refine ex_chain ?_)
  | (with_reducible refine ex_call ?_)
  | (with_reducible refine ex_isT ?_)
  | (with_reducible refine ex_cb ?_)
  | (with_reducible refine ex_sl ?_)
  | (with_reducible refine ex_tup ?_)
  | (with_reducible refine ex_if ?_)
  | (with_reducible refine ex_of (eo_lst ?_))
  | (with_reducible refine ex_notV ?_)
  | (with_reducible refine ea_nil ?_)
  | (with_reducible refine ea_cons ?_)
  | (with_reducible refine ep_no ?_)
  | (with_reducible refine ep_some ?_)
  | (with_reducible refine et_test ?_)
  | (with_reducible refine et_B ?_)
  | (with_reducible refine et_ch3 ?_)
  | (with_reducible refine et_and ?_)
  | (with_reducible refine et_or ?_)
  | (with_reducible refine et_not ?_)
  | (with_reducible refine et_yes ?_)
  | (with_reducible refine et_truL ?_)
  | (with_reducible refine opd_plusI ?_)
  | (with_reducible refine opd_I0 ?_)
  | (with_reducible refine opd_B0 ?_)
  | (with_reducible refine opd_eqI ?_)
  | (with_reducible refine opd_neI ?_)
  | (with_reducible refine opd_eqS ?_)
  | (with_reducible refine opd_neS ?_)
  | (with_reducible refine opd_is ?_)
  | (with_reducible refine opd_isnt ?_)
  | (with_reducible refine opd_ixT rfl ?_)
  | (with_reducible refine opd_ixL rfl ?_)
  | (with_reducible refine und_neg ?_)
  | (with_reducible refine cbd_lenL ?_)
  | (with_reducible refine cbd_lenT ?_)
  | (with_reducible refine cbd_min2 ?_)
  | (with_reducible refine cbd_max2 ?_)
  | (with_reducible refine cbd_abs ?_)
  | (with_reducible refine cbd_int ?_)
  | (with_reducible refine cbd_tupL ?_)
  | (with_reducible refine cbd_listL ?_)
  | (with_reducible refine cbd_listT ?_)
  | (with_reducible refine cbd_sum ?_)
  | (with_reducible refine sld_T ?_)
  | (with_reducible refine sld_L ?_)
  | (with_reducible refine ex_revL ?_)
  | (with_reducible refine ex_bmL ?_)
  | (with_reducible refine ex_andV ?_)
  | (with_reducible refine ei_list ?_)
  | (with_reducible refine ei_rng1 ?_)
  | (with_reducible refine ei_rng2 ?_)
  | (with_reducible refine ei_enum ?_)
  | (with_reducible refine ei_enumT ?_)
  | (with_reducible refine ei_zip ?_)
  | (with_reducible refine sx_par ?_)
  | (with_reducible refine Exists.intro _ (And.intro rfl ?_))
  | (with_reducible refine Exists.intro _ (Exists.intro _ (And.intro rfl ?_)))
  | ((with_reducible show EX (tCall (spS _) [] _ (tCons (tVar _) _)) _ _); refine ex_callS rfl ?_)
  | ((with_reducible refine And.intro (show (_ : Nat) ≤ 100000 from ?_) ?_); (focus (simp; done)))
  | ((with_reducible refine opd_I ?_ ?_); focus (first | omega | (show CDiv _ _; exact ⟨by omega, by omega⟩) | (show CMul _ _; first | exact Or.inl ⟨by omega, by omega⟩ | exact Or.inr ⟨by omega, by omega⟩))))
local macro_rules | `(tactic| walk_at "es") => `(tactic| repeat walk_at "e")
local macro_rules | `(tactic| walk_at "w") => `(tactic| try dsimp only [wipeE, List.foldl_cons, List.foldl_nil, List.set_cons_succ, List.set_cons_zero])
local macro_rules | `(tactic| walk_at "le") => `(tactic| repeat' first | exact LeE.nil | (refine LeE.eq rfl ?_) | (refine LeE.emp ?_) | (refine LeE.eq ?_ ?_))
local macro_rules | `(tactic| walk_at "no") => `(tactic| ((refine And.intro (fun hb => absurd hb ?_) (fun _ => ?_)); (focus (first | (exact Bool.false_ne_true) | (simp; done) | (simp; omega) | (simp only [decide_eq_true_eq]; omega)))))
local macro_rules | `(tactic| walk_at "yes") => `(tactic| ((refine And.intro (fun _ => ?_) (fun hb => absurd hb ?_)); (rotate_left); (focus (first | (exact Bool.noConfusion) | (simp; done) | (simp; omega) | (simp only [decide_eq_false_iff_not]; omega)))))
local macro_rules | `(tactic| walk_at "ei") => `(tactic| repeat ((fail_if_success (with_reducible show SX (tSeq (tIfS _ _ _) _) _ _)); (fail_if_success (with_reducible show SX (tIfS _ _ _) _ _)); (fail_if_success (with_reducible show SX (tSeq (tAsg (tIf _ _ _) _) _) _ _)); walk_at "e"))
local macro_rules | `(tactic| walk_at "tv") => `(tactic| repeat' first | walk_at "e" | ((with_reducible show (_ = true → _) ∧ (_ = false → _)); refine And.intro (fun _ => ?_) (fun _ => ?_)))
def intsD (xs : List Int) : D := .list (xs.map .int)
def encO : Option Int → D
  | none => .none
  | some i => .int i
theorem filt_all {α : Type} (xs : List α) : (xs.filter fun _ => true) = xs := List.filter_eq_self.mpr fun _ _ => rfl
/-! ### rules of windows and gaps: the program's and the law's -/
def R_rules : List D → (D → Prop) → Prop := fun ds Z => ∃ (ws : List Pr) (gs : List Rw), ds = [.list (ws.map encP), .list (gs.map encR)] ∧ ws.length ≤ 1000 ∧ gs.length ≤ 1000 ∧ Z (.list ((rulesF ws gs).map encR))
theorem wn_at {ws : List Pr} {k : Nat} {p : Pr} (h : ws[k]? = some p) : wn ws k = p := by unfold wn; rw [List.getD_eq_getElem?_getD, h]; rfl
theorem sx_rules_of (K : PySem.W.Frag) (ds : List D) (Z : D → Prop) (h : R_rules ds Z) : SX (T_rules_of K) (startE N_rules_of ds) { nx := fun _ => Z .none, rt := fun d _ => Z d } := by
  obtain ⟨ws, gs, rfl, hw, hg, z⟩ := h
  show SX (T_rules_of K) [.val (.list (ws.map encP)), .val (.list (gs.map encR)), .emp, .emp, .emp, .emp, .emp, .emp, .emp] _
  unfold T_rules_of
  refine sx_seq (sx_asgO (eo_lst ?_))
  walk_at "es"
  walk_at "w"
  refine sx_for (J := [3, 4, 5]) (ei_enum ?_)
  walk_at "es"
  refine ⟨fun i ρ' => ρ' = [.val (.list (ws.map encP)), .val (.list (gs.map encR)), .own ((winR ws i).map encR), .emp, .emp, .emp, .emp, .emp, .emp], rfl, ?_, ?_⟩
  · rintro i dd ρ' hd0 rfl
    obtain ⟨p, hp, rfl⟩ := enum_at hd0
    have hi := (List.getElem?_eq_some_iff.mp hp).1
    have wl := win_len ws i
    refine sg_tup rfl (sgs_cons (sg_name (by simp) (sgs_cons (sg_tup rfl (sgs_cons (sg_name (by simp) (sgs_cons (sg_name (by simp) (sgs_nil (sgs_nil ?_)))))))))) 
    walk_at "w"
    refine sx_ext rfl ?_
    walk_at "es"
    refine ⟨_, _, rfl, rfl, by rw [List.length_map]; simp; omega, ?_⟩
    walk_at "w"
    refine ⟨_, ?_, rfl⟩
    rw [win_succ, List.map_append, wn_at hp]
    walk_at "le"
  rintro ρ' rfl
  rw [enum_len]
  have wl := win_len ws ws.length
  refine nx_seq (sx_freeze 2 rfl ?_)
  walk_at "w"
  walk_at "es"
  refine ex_of (eo_lcP (α := Rw) (fun _ => true) (fun g => encR (g.1 + 1, g.2.1 + 1, g.2.2)) (ei_list ?_))
  walk_at "es"
  refine ⟨by omega, fun i hi => by simp at hi; rcases hi with rfl | rfl | rfl <;> rfl, fun g hg => ?_, ?_⟩
  · refine sg_tup rfl (sgs_cons (sg_name (by simp) (sgs_cons (sg_name (by simp) (sgs_cons (sg_name (by simp) (sgs_nil ⟨rfl, ?_⟩)))))))
    walk_at "w"
    refine et_yes ⟨rfl, rfl, fun _ => ?_⟩
    walk_at "es"
    exact ⟨rfl, rfl⟩
  rw [filt_all]
  refine opd_plusL (by rw [List.length_map, List.length_map]; omega) ?_
  unfold rulesF at z
  rw [List.map_append, List.map_map] at z
  exact z
theorem sx_l_rules (K : PySem.W.Frag) (ds : List D) (Z : D → Prop) (h : R_rules ds Z) : SX (T_l_rules K) (startE N_l_rules ds) { nx := fun _ => Z .none, rt := fun d _ => Z d } := by
  obtain ⟨ws, gs, rfl, hw, hg, z⟩ := h
  show SX (T_l_rules K) [.val (.list (ws.map encP)), .val (.list (gs.map encR)), .emp, .emp, .emp, .emp, .emp] _
  unfold T_l_rules
  refine sx_seq (sx_asg (ex_of (eo_lst ?_)))
  walk_at "es"
  walk_at "w"
  refine sx_for (J := [3]) (ei_rng1 ?_)
  walk_at "es"
  rw [List.length_map, Int.toNat_natCast]
  refine ⟨by omega, fun i ρ' => ρ' = [.val (.list (ws.map encP)), .val (.list (gs.map encR)), .val (.list ((winR ws i).map encR)), .emp, .emp, .emp, .emp], rfl, ?_, ?_⟩
  · rintro i dd ρ' hd0 rfl
    obtain ⟨hi, rfl⟩ := rng_at hd0
    rw [Int.zero_add]
    have wl := win_len ws i
    have ak : atI (ws.map encP) (i : Int) = some (encP (wn ws i)) := by rw [atI_map (0, 0) (by omega) (by omega), Int.toNat_natCast]; rfl
    refine sg_name (by simp) ?_
    walk_at "w"
    walk_at "es"
    refine opd_ixL ak ?_
    walk_at "es"
    refine opd_ixT (d := .int (wn ws i).1) rfl ?_
    walk_at "es"
    refine opd_ixL ak ?_
    walk_at "es"
    refine opd_ixT (d := .int (wn ws i).2) rfl ?_
    walk_at "es"
    refine opd_plusL (by rw [List.length_map]; simp; omega) ?_
    walk_at "es"
    refine ⟨_, ?_, rfl⟩
    rw [win_succ, List.map_append]
    walk_at "le"
  rintro ρ' rfl
  rw [rng_size]
  have wl := win_len ws ws.length
  walk_at "es"
  refine ex_of (eo_lcP (α := Rw) (fun _ => true) (fun g => encR (g.1 + 1, g.2.1 + 1, g.2.2)) (ei_list ?_))
  walk_at "es"
  refine ⟨by omega, fun i hi => by simp at hi; rcases hi with rfl | rfl | rfl <;> rfl, fun g hg => ?_, ?_⟩
  · refine sg_tup rfl (sgs_cons (sg_name (by simp) (sgs_cons (sg_name (by simp) (sgs_cons (sg_name (by simp) (sgs_nil ⟨rfl, ?_⟩)))))))
    walk_at "w"
    refine et_yes ⟨rfl, rfl, fun _ => ?_⟩
    walk_at "es"
    exact ⟨rfl, rfl⟩
  rw [filt_all]
  refine opd_plusL (by rw [List.length_map, List.length_map]; omega) ?_
  unfold rulesF at z
  rw [List.map_append, List.map_map] at z
  exact z
/-! ### longest_from -/
def upB (R : List Rw) (s : Bs) (i : Nat) : Bool := match fr s.far (sA (rl R i)) with
  | none => false
  | some fa => moreB (fr s.far (sB (rl R i))) (fa + sW (rl R i))
theorem upd_eq (R : List Rw) (s : Bs) (i : Nat) : upd1 R s i = if upB R s i = true then ⟨s.far.set (sB (rl R i)) (some (Fv s.far (sA (rl R i)) + sW (rl R i))), s.came.set (sB (rl R i)) (some (i : Int)), some (rl R i).2.1⟩ else s := by
  unfold upd1 upB Fv
  cases fr s.far (sA (rl R i)) <;> rfl
theorem upd_len (R : List Rw) (s : Bs) (i : Nat) : (upd1 R s i).far.length = s.far.length ∧ (upd1 R s i).came.length = s.came.length := by
  rw [upd_eq]
  split <;> simp
theorem pass_len (R : List Rw) (s : Bs) : ∀ k, (passK R s k).far.length = s.far.length ∧ (passK R s k).came.length = s.came.length
  | 0 => ⟨rfl, rfl⟩
  | k + 1 => by
    rw [pass_succ]
    have a := upd_len R (passK R s k) k
    have b := pass_len R s k
    omega
def resD (s : Bs) : D := .tuple [.list (s.far.map encO), .list (s.came.map encO), encO s.ch]
def R_long : List D → (D → Prop) → Prop := fun ds Z => ∃ (R : List Rw) (N : Nat), ds = [.int (N : Int), .list (R.map encR), .int 0] ∧ RulesOk R N ∧ 1 ≤ N ∧ N ≤ 10 ∧ R.length ≤ 50 ∧ Z (resD (runR R N))
theorem isN_O (o : Option Int) : isN (encO o) = o.isNone := by cases o <;> rfl
theorem sx_longest_from (K : PySem.W.Frag) (ds : List D) (Z : D → Prop) (h : R_long ds Z) : SX (T_longest_from K) (startE N_longest_from ds) { nx := fun _ => Z .none, rt := fun d _ => Z d } := by
  obtain ⟨R, N, rfl, ok, n1, n10, hR, z⟩ := h
  show SX (T_longest_from K) [.val (.int (N : Int)), .val (.list (R.map encR)), .val (.int 0), .emp, .emp, .emp, .emp, .emp, .emp, .emp, .emp] _
  unfold T_longest_from
  have e0 : (List.replicate ((N : Int)).toNat [PyData.none]).flatten = (List.replicate N (none : Option Int)).map encO := by
    rw [Int.toNat_natCast, List.map_replicate]
    induction N with
    | zero => rfl
    | succ m ih =>
      rw [List.replicate_succ, List.replicate_succ, List.flatten_cons]
      have : ∀ m : Nat, (List.replicate m [PyData.none]).flatten = List.replicate m PyData.none := fun m => by
        induction m with
        | zero => rfl
        | succ m ih => rw [List.replicate_succ, List.replicate_succ, List.flatten_cons, ih]; rfl
      rw [this]
      rfl
  refine sx_seq (sx_asgO (eo_op (ex_of (eo_lst ?_))))
  walk_at "es"
  refine opo_rep (by omega) (by simp; omega) ?_
  rw [e0]
  refine nx_seq ?_
  walk_at "w"
  refine sx_seq (sx_setO (es := (List.replicate N (none : Option Int)).map encO) ?_)
  walk_at "es"
  refine ⟨rfl, ?_⟩
  walk_at "es"
  refine ⟨_, _, 0, rfl, rfl, ixN_nat (k := 0) (by rw [List.length_map, List.length_replicate]; exact Nat.lt_of_lt_of_le Nat.zero_lt_one n1), ?_⟩
  rw [show ((List.replicate N (none : Option Int)).map encO).set 0 (.int 0) = (far0 N).map encO by unfold far0; rw [List.map_set]; rfl]
  refine nx_seq ?_
  walk_at "w"
  refine sx_seq (sx_asgO (eo_op (ex_of (eo_lst ?_))))
  walk_at "es"
  refine opo_rep (by omega) (by simp; omega) ?_
  rw [e0, show List.replicate N (none : Option Int) = came0 N from rfl]
  refine nx_seq ?_
  walk_at "w"
  refine sx_seq (sx_for (J := [5]) (ei_rng1 ?_))
  walk_at "es"
  rw [show ((N : Int) + 1).toNat = N + 1 by omega]
  refine ⟨by omega, fun k ρ' => ∃ (far came : List (Option Int)) (ch : Option Int) (s6 : Slot), far.length = N ∧ came.length = N ∧ runN R (N + 1 - k) far came ch = runR R N ∧ (0 < k → s6 = .val (encO ch)) ∧ ρ' = [.val (.int (N : Int)), .val (.list (R.map encR)), .val (.int 0), .own (far.map encO), .own (came.map encO), .emp, s6, .emp, .emp, .emp, .emp], ⟨far0 N, came0 N, none, .emp, by simp [far0], by simp [came0], rfl, fun h => by omega, rfl⟩, ?_, ?_⟩
  · rintro k dd ρ' hd0 ⟨far, came, ch, s6, l1, l2, hrun, _, rfl⟩
    obtain ⟨hk, rfl⟩ := rng_at hd0
    rw [show N + 1 - k = (N - k) + 1 by omega] at hrun
    unfold runN at hrun
    refine sg_name (by simp) ?_
    walk_at "w"
    refine sx_weak (ρ' := [.val (.int (N : Int)), .val (.list (R.map encR)), .val (.int 0), .own (far.map encO), .own (came.map encO), .emp, .emp, .emp, .emp, .emp, .emp]) (by walk_at "le") ?_
    walk_at "es"
    refine sx_for (J := [7, 8, 9, 10]) (ei_enum ?_)
    walk_at "es"
    refine ⟨fun p ρ' => ρ' = [.val (.int (N : Int)), .val (.list (R.map encR)), .val (.int 0), .own ((passK R ⟨far, came, none⟩ p).far.map encO), .own ((passK R ⟨far, came, none⟩ p).came.map encO), .emp, .val (encO (passK R ⟨far, came, none⟩ p).ch), .emp, .emp, .emp, .emp], rfl, ?_, ?_⟩
    · rintro p dd ρ' hd0 rfl
      obtain ⟨r, hr, rfl⟩ := enum_at hd0
      have hp := (List.getElem?_eq_some_iff.mp hr).1
      have er : rl R p = r := by unfold rl; rw [List.getD_eq_getElem?_getD, hr]; rfl
      obtain ⟨hA, hB, eB, eA⟩ := rl_ok ok hp
      have pl := pass_len R ⟨far, came, none⟩ p
      have ps := pass_succ R ⟨far, came, none⟩ p
      rw [upd_eq] at ps
      unfold upB at ps
      generalize passK R ⟨far, came, none⟩ p = s at pl ps ⊢
      rw [er] at hA hB eB eA ps
      have fl : s.far.length = N := by rw [pl.1]; exact l1
      have cl : s.came.length = N := by rw [pl.2]; exact l2
      have iA : atI (s.far.map encO) r.1 = some (encO (fr s.far (sA r))) := by rw [eA, atI_map none (by omega) (by omega), Int.toNat_natCast]; rfl
      have iB : atI (s.far.map encO) r.2.1 = some (encO (fr s.far (sB r))) := by rw [eB, atI_map none (by omega) (by omega), Int.toNat_natCast]; rfl
      refine sg_tup rfl (sgs_cons (sg_name (by simp) (sgs_cons (sg_tup rfl (sgs_cons (sg_name (by simp) (sgs_cons (sg_name (by simp) (sgs_cons (sg_name (by simp) (sgs_nil (sgs_nil ?_)))))))))))) 
      walk_at "w"
      refine sx_if (et_val (match fr s.far (sA r) with | none => false | some fa => moreB (fr s.far (sB r)) (fa + sW r)) ?_ ?_)
      · refine et_and (et_test (ex_op (ex_ixO rfl ?_)))
        walk_at "es"
        refine ⟨_, _, _, rfl, rfl, iA, ?_⟩
        walk_at "es"
        rw [isN_O]
        cases hfa : fr s.far (sA r) with
        | none => exact ⟨fun q => absurd q (by decide), fun _ => ⟨rfl, rfl⟩⟩
        | some fa =>
          refine ⟨fun _ => ?_, (fun q => by cases q)⟩
          refine et_or (et_test (ex_op (ex_ixO rfl ?_)))
          walk_at "es"
          refine ⟨_, _, _, rfl, rfl, iB, ?_⟩
          walk_at "es"
          rw [isN_O]
          cases hfb : fr s.far (sB r) with
          | none => exact ⟨fun _ => ⟨rfl, rfl⟩, fun q => absurd q (by decide)⟩
          | some fb =>
            refine ⟨(fun q => by cases q), fun _ => ?_⟩
            refine et_test (ex_op (ex_op (ex_ixO rfl ?_)))
            walk_at "es"
            refine ⟨_, _, _, rfl, rfl, iA, ?_⟩
            rw [hfa]
            unfold encO
            walk_at "e"
            walk_at "e"
            refine ex_ixO rfl ?_
            walk_at "es"
            refine ⟨_, _, _, rfl, rfl, iB, ?_⟩
            rw [hfb]
            unfold encO
            walk_at "es"
            exact ⟨rfl, rfl⟩
      refine ⟨fun hq => ?_, fun hq => ?_⟩
      · rw [if_pos hq] at ps
        obtain ⟨fa, hfa⟩ : ∃ fa, fr s.far (sA r) = some fa := by
          cases h : fr s.far (sA r) with
          | none => rw [h] at hq; cases hq
          | some fa => exact ⟨fa, rfl⟩
        have ev : Fv s.far (sA r) = fa := by unfold Fv; rw [hfa]; rfl
        rw [ev] at ps
        refine sx_seq (sx_setO (es := s.far.map encO) (ex_op (ex_ixO rfl ?_)))
        walk_at "es"
        refine ⟨_, _, _, rfl, rfl, iA, ?_⟩
        rw [hfa]
        unfold encO
        walk_at "es"
        refine ⟨rfl, ?_⟩
        walk_at "es"
        refine ⟨_, _, sB r, rfl, rfl, by rw [eB]; exact ixN_nat (by rw [List.length_map]; omega), ?_⟩
        refine nx_seq ?_
        walk_at "w"
        refine sx_seq (sx_setO (es := s.came.map encO) ?_)
        walk_at "es"
        refine ⟨rfl, ?_⟩
        walk_at "es"
        refine ⟨_, _, sB r, rfl, rfl, by rw [eB]; exact ixN_nat (by rw [List.length_map]; omega), ?_⟩
        refine nx_seq ?_
        walk_at "w"
        walk_at "es"
        refine ⟨_, ?_, rfl⟩
        rw [ps]
        simp only [List.map_set]
        walk_at "le"
      · rw [if_neg (by rw [hq]; decide)] at ps
        refine sx_next ⟨_, ?_, rfl⟩
        rw [ps]
        walk_at "le"
    rintro ρ' rfl
    rw [enum_len]
    have pl := pass_len R ⟨far, came, none⟩ R.length
    refine nx_seq ?_
    refine sx_if ?_
    walk_at "es"
    rw [isN_O]
    revert hrun
    cases hch : (passK R ⟨far, came, none⟩ R.length).ch with
    | none =>
      intro hrun
      have hrun : passK R ⟨far, came, none⟩ R.length = runR R N := hrun
      refine ⟨fun _ => ?_, fun q => absurd q (by decide)⟩
      refine sx_freeze 3 rfl (sx_freeze 4 rfl ?_)
      walk_at "w"
      walk_at "es"
      unfold resD at z
      rw [← hrun, hch] at z
      exact z
    | some c =>
      intro hrun
      have hrun : runN R (N - k) (passK R ⟨far, came, none⟩ R.length).far (passK R ⟨far, came, none⟩ R.length).came (some c) = runR R N := hrun
      refine ⟨fun q => absurd (show false = true from q) Bool.false_ne_true, fun _ => ?_⟩
      refine sx_next ⟨_, ?_, (passK R ⟨far, came, none⟩ R.length).far, (passK R ⟨far, came, none⟩ R.length).came, some c, .val (encO (some c)), by rw [pl.1]; exact l1, by rw [pl.2]; exact l2, by rw [show N + 1 - (k + 1) = N - k by omega]; exact hrun, fun _ => rfl, rfl⟩
      walk_at "le"
  rintro ρ' ⟨far, came, ch, s6, l1, l2, hrun, h6, rfl⟩
  rw [rng_size] at hrun h6
  rw [Nat.sub_self] at hrun
  have hrun : (⟨far, came, ch⟩ : Bs) = runR R N := hrun
  rw [h6 (by omega)]
  refine nx_seq (sx_freeze 3 rfl (sx_freeze 4 rfl ?_))
  walk_at "w"
  walk_at "es"
  unfold resD at z
  rw [← hrun] at z
  exact z
end Law_k43
namespace Law_k43
open PySem L2 Pu
local macro_rules | `(tactic| walk_at "e") => `(tactic| first
  | ((with_reducible refine nx_seq ?_); (try dsimp only [List.set_cons_succ, List.set_cons_zero]))
  | ((with_reducible refine ex_vr ?_); dsimp only [VQ, List.set_cons_succ, List.set_cons_zero, List.getElem?_cons_zero, List.getElem?_cons_succ]; (fail_if_success (with_reducible show False)))
  | (with_reducible refine sx_seq ?_)
  | (with_reducible refine sx_if ?_)
  | (with_reducible refine sx_next ?_)
  | (with_reducible refine sx_ret ?_)
  | ((fail_if_success (with_reducible refine sx_asgO (eo_lst ?_))); (with_reducible refine sx_asg ?_))
  | (with_reducible refine ex_int ?_)
  | (with_reducible refine ex_str ?_)
  | (with_reducible refine ex_bl ?_)
  | (with_reducible refine ex_non ?_)
  | (with_reducible refine ex_op ?_)
  | (with_reducible refine ex_un ?_)
  | (with_reducible refine ex_chain ?_)
  | (with_reducible refine ex_call ?_)
  | (with_reducible refine ex_isT ?_)
  | (with_reducible refine ex_cb ?_)
  | (with_reducible refine ex_sl ?_)
  | (with_reducible refine ex_tup ?_)
  | (with_reducible refine ex_if ?_)
  | (with_reducible refine ex_of (eo_lst ?_))
  | (with_reducible refine ex_notV ?_)
  | (with_reducible refine ea_nil ?_)
  | (with_reducible refine ea_cons ?_)
  | (with_reducible refine ep_no ?_)
  | (with_reducible refine ep_some ?_)
  | (with_reducible refine et_test ?_)
  | (with_reducible refine et_B ?_)
  | (with_reducible refine et_ch3 ?_)
  | (with_reducible refine et_and ?_)
  | (with_reducible refine et_or ?_)
  | (with_reducible refine et_not ?_)
  | (with_reducible refine et_yes ?_)
  | (with_reducible refine et_truL ?_)
  | (with_reducible refine opd_plusI ?_)
  | (with_reducible refine opd_I0 ?_)
  | (with_reducible refine opd_B0 ?_)
  | (with_reducible refine opd_eqI ?_)
  | (with_reducible refine opd_neI ?_)
  | (with_reducible refine opd_eqS ?_)
  | (with_reducible refine opd_neS ?_)
  | (with_reducible refine opd_is ?_)
  | (with_reducible refine opd_isnt ?_)
  | (with_reducible refine opd_ixT rfl ?_)
  | (with_reducible refine opd_ixL rfl ?_)
  | (with_reducible refine und_neg ?_)
  | (with_reducible refine cbd_lenL ?_)
  | (with_reducible refine cbd_lenT ?_)
  | (with_reducible refine cbd_min2 ?_)
  | (with_reducible refine cbd_max2 ?_)
  | (with_reducible refine cbd_abs ?_)
  | (with_reducible refine cbd_int ?_)
  | (with_reducible refine cbd_tupL ?_)
  | (with_reducible refine cbd_listL ?_)
  | (with_reducible refine cbd_listT ?_)
  | (with_reducible refine cbd_sum ?_)
  | (with_reducible refine sld_T ?_)
  | (with_reducible refine sld_L ?_)
  | (with_reducible refine ex_revL ?_)
  | (with_reducible refine ex_bmL ?_)
  | (with_reducible refine ex_andV ?_)
  | (with_reducible refine ei_list ?_)
  | (with_reducible refine ei_rng1 ?_)
  | (with_reducible refine ei_rng2 ?_)
  | (with_reducible refine ei_enum ?_)
  | (with_reducible refine ei_enumT ?_)
  | (with_reducible refine ei_zip ?_)
  | (with_reducible refine sx_par ?_)
  | (with_reducible refine Exists.intro _ (And.intro rfl ?_))
  | (with_reducible refine Exists.intro _ (Exists.intro _ (And.intro rfl ?_)))
  | ((with_reducible show EX (tCall (spS _) [] _ (tCons (tVar _) _)) _ _); refine ex_callS rfl ?_)
  | ((with_reducible refine And.intro (show (_ : Nat) ≤ 100000 from ?_) ?_); (focus (simp; done)))
  | ((with_reducible refine opd_I ?_ ?_); focus (first | omega | (show CDiv _ _; exact ⟨by omega, by omega⟩) | (show CMul _ _; first | exact Or.inl ⟨by omega, by omega⟩ | exact Or.inr ⟨by omega, by omega⟩))))
local macro_rules | `(tactic| walk_at "es") => `(tactic| repeat walk_at "e")
local macro_rules | `(tactic| walk_at "w") => `(tactic| try dsimp only [wipeE, List.foldl_cons, List.foldl_nil, List.set_cons_succ, List.set_cons_zero])
local macro_rules | `(tactic| walk_at "le") => `(tactic| repeat' first | exact LeE.nil | (refine LeE.eq rfl ?_) | (refine LeE.emp ?_) | (refine LeE.eq ?_ ?_))
local macro_rules | `(tactic| walk_at "no") => `(tactic| ((refine And.intro (fun hb => absurd hb ?_) (fun _ => ?_)); (focus (first | (exact Bool.false_ne_true) | (simp; done) | (simp; omega) | (simp only [decide_eq_true_eq]; omega)))))
local macro_rules | `(tactic| walk_at "yes") => `(tactic| ((refine And.intro (fun _ => ?_) (fun hb => absurd hb ?_)); (rotate_left); (focus (first | (exact Bool.noConfusion) | (simp; done) | (simp; omega) | (simp only [decide_eq_false_iff_not]; omega)))))
local macro_rules | `(tactic| walk_at "ei") => `(tactic| repeat ((fail_if_success (with_reducible show SX (tSeq (tIfS _ _ _) _) _ _)); (fail_if_success (with_reducible show SX (tIfS _ _ _) _ _)); (fail_if_success (with_reducible show SX (tSeq (tAsg (tIf _ _ _) _) _) _ _)); walk_at "e"))
local macro_rules | `(tactic| walk_at "tv") => `(tactic| repeat' first | walk_at "e" | ((with_reducible show (_ = true → _) ∧ (_ = false → _)); refine And.intro (fun _ => ?_) (fun _ => ?_)))
/-! ### rings and chains -/
theorem rl_at {R : List Rw} {i : Int} (h0 : 0 ≤ i) (h1 : i < R.length) : atI (R.map encR) i = some (encR (rl R i.toNat)) := atI_map (0, 0, 0) h0 h1
theorem came_at {came : List (Option Int)} {x : Nat} {i : Int} (hx : x < came.length) (h : fr came x = some i) : atI (came.map encO) (x : Int) = some (.int i) := by
  rw [atI_map none (by omega) (by omega), Int.toNat_natCast, show came.getD x none = some i from h]
  rfl
def R_ringat : List D → (D → Prop) → Prop := fun ds Z => ∃ (R : List Rw) (N : Nat) (far came : List (Option Int)) (c : Nat) (g τ : Nat → Nat), ds = [.list (R.map encR), .list (came.map encO), .int (c : Int)] ∧ RulesOk R N ∧ N ≤ 10 ∧ Ringy R N far came c g τ ∧ Z (intsD (ringF R came N c))
theorem sx_ring_at (K : PySem.W.Frag) (ds : List D) (Z : D → Prop) (h : R_ringat ds Z) : SX (T_ring_at K) (startE N_ring_at ds) { nx := fun _ => Z .none, rt := fun d _ => Z d } := by
  obtain ⟨R, N, far, came, c, g, τ, rfl, ok, n10, rg, z⟩ := h
  show SX (T_ring_at K) [.val (.list (R.map encR)), .val (.list (came.map encO)), .val (.int (c : Int)), .emp, .emp, .emp] _
  unfold T_ring_at
  have l2 := rg.l2
  refine sx_seq (sx_for (J := [3]) (ei_rng1 ?_))
  walk_at "es"
  rw [List.length_map, Int.toNat_natCast, l2]
  refine ⟨by omega, fun k ρ' => ρ' = [.val (.list (R.map encR)), .val (.list (came.map encO)), .val (.int (walkN R came k c : Int)), .emp, .emp, .emp], rfl, ?_, ?_⟩
  · rintro k dd ρ' hd0 rfl
    obtain ⟨hk, rfl⟩ := rng_at hd0
    obtain ⟨w1, _⟩ := ringy_walk ok rg k (by omega)
    obtain ⟨i, hi, ec, ⟨i1, i2⟩, pN, eA, _⟩ := ringy_step ok rg w1 (ringy_alive ok rg (by omega))
    refine sg_name (by simp) ?_
    walk_at "w"
    walk_at "es"
    refine opd_ixL (came_at (by omega) hi) ?_
    refine opd_ixL (rl_at i1 i2) ?_
    walk_at "es"
    refine opd_ixT (d := .int (rl R i.toNat).1) rfl ?_
    rw [eA]
    exact ⟨_, by walk_at "le", rfl⟩
  rintro ρ' rfl
  rw [rng_size]
  obtain ⟨d, d1, d2, d3, al⟩ := ring_per ok rg
  unfold ringF at z
  generalize walkN R came N c = y at d3 al z ⊢
  obtain ⟨a1, a2⟩ := al 0
  obtain ⟨i, hi, ec, ⟨i1, i2⟩, pN, eA, _⟩ := ringy_step ok rg a1 a2
  have eh : walkN R came 0 y = y := rfl
  rw [eh] at a1 hi ec pN eA
  have wk : ∀ h k, walkN R came k (prv R came h) = walkN R came (k + 1) h := fun h k => (walk_add R came h k 1).symm
  refine nx_seq ?_
  refine sx_seq (sx_asg (ex_of (eo_lst ?_)))
  walk_at "es"
  refine opd_ixL (came_at (by omega) hi) ?_
  walk_at "es"
  refine opd_ixL (came_at (by omega) hi) ?_
  refine opd_ixL (rl_at i1 i2) ?_
  walk_at "es"
  refine opd_ixT (d := .int (rl R i.toNat).1) rfl ?_
  rw [eA]
  rw [ec] at z
  refine nx_seq ?_
  walk_at "w"
  refine sx_seq (sx_while (fun f ρ' => ∃ (h : Nat) (acc : List Int), ringN R came y f h acc = ringN R came y 30 (prv R came y) [i] ∧ (∀ k, walkN R came k h < N ∧ fr came (walkN R came k h) ≠ none) ∧ (∃ m, m < f ∧ walkN R came m h = y) ∧ acc.length + f ≤ 31 ∧ ρ' = [.val (.list (R.map encR)), .val (.list (came.map encO)), .val (.int (y : Int)), .emp, .val (intsD acc), .val (.int (h : Int))]) 30 ⟨prv R came y, [i], rfl, fun k => by rw [wk]; exact al (k + 1), ⟨d - 1, by omega, by rw [wk, Nat.sub_add_cancel d1]; exact d3⟩, by simp, rfl⟩ ?_)
  rintro f ρ' ⟨h, acc, hr, hal, ⟨m, hm, em⟩, hl, rfl⟩
  walk_at "es"
  refine ⟨fun hq => ?_, fun hq => ?_⟩
  · have hq : h ≠ y := fun e => by rw [e] at hq; simp at hq
    obtain ⟨b1, b2⟩ := hal 0
    obtain ⟨j, hj, ecj, ⟨j1, j2⟩, pNj, eAj, _⟩ := ringy_step ok rg b1 b2
    have eh : walkN R came 0 h = h := rfl
    rw [eh] at b1 hj ecj pNj eAj
    unfold intsD
    walk_at "es"
    refine opd_ixL (came_at (by omega) hj) ?_
    walk_at "es"
    refine opd_plusL (by rw [List.length_map]; simp; omega) ?_
    walk_at "es"
    refine opd_ixL (came_at (by omega) hj) ?_
    refine opd_ixL (rl_at j1 j2) ?_
    walk_at "es"
    refine opd_ixT (d := .int (rl R j.toNat).1) rfl ?_
    rw [eAj]
    cases f with
    | zero => omega
    | succ f =>
      cases m with
      | zero => exact absurd em hq
      | succ m =>
        unfold ringN at hr
        rw [if_neg hq, ecj] at hr
        refine ⟨_, ?_, f, by omega, prv R came h, j :: acc, hr, fun k => by rw [wk]; exact hal (k + 1), ⟨m, by omega, by rw [wk]; exact em⟩, by rw [List.length_cons]; omega, rfl⟩
        rw [List.map_cons]
        walk_at "le"
  · have hq : h = y := by have : (h : Int) = y := by simpa using hq
                          omega
    cases f with
    | zero => omega
    | succ f =>
      unfold ringN at hr
      rw [if_pos hq] at hr
      refine nx_seq ?_
      walk_at "es"
      rw [hr]
      exact z
def R_chain : List D → (D → Prop) → Prop := fun ds Z => ∃ (R : List Rw) (N : Nat) (far came : List (Option Int)) (τ : Nat → Nat) (x : Nat), ds = [.list (R.map encR), .list (came.map encO), .int 0, .int (x : Int)] ∧ RulesOk R N ∧ Conv R N far came τ ∧ Tot N far ∧ x < N ∧ Z (intsD (chainN R came 1000 x []))
theorem sx_chain_to (K : PySem.W.Frag) (ds : List D) (Z : D → Prop) (h : R_chain ds Z) : SX (T_chain_to K) (startE N_chain_to ds) { nx := fun _ => Z .none, rt := fun d _ => Z d } := by
  obtain ⟨R, N, far, came, τ, x, rfl, ok, cv, tot, hx, z⟩ := h
  show SX (T_chain_to K) [.val (.list (R.map encR)), .val (.list (came.map encO)), .val (.int 0), .val (.int (x : Int)), .emp] _
  unfold T_chain_to
  have l2 := cv.l2
  refine sx_seq (sx_asg (ex_of (eo_lst ?_)))
  walk_at "es"
  walk_at "w"
  refine sx_while (fun f ρ' => ∃ (h : Nat) (acc : List Int), chainN R came f h acc = chainN R came 1000 x [] ∧ h < N ∧ τ h < f ∧ acc.length + f ≤ 1000 ∧ ρ' = [.val (.list (R.map encR)), .val (.list (came.map encO)), .val (.int 0), .val (.int (h : Int)), .val (intsD acc)]) 1000 ⟨x, [], rfl, hx, cv.tk x, by simp, rfl⟩ ?_
  rintro f ρ' ⟨h, acc, hr, hh, ht, hl, rfl⟩
  walk_at "es"
  refine ⟨fun hq => ?_, fun hq => ?_⟩
  · have hq : h ≠ 0 := fun e => by rw [e] at hq; simp at hq
    obtain ⟨j, hj, ecj, ⟨j1, j2⟩, pNj, eAj, _, _, tj⟩ := conv_step ok cv tot hh hq
    unfold intsD
    walk_at "es"
    refine opd_ixL (came_at (by omega) hj) ?_
    walk_at "es"
    refine opd_plusL (by rw [List.length_map]; simp; omega) ?_
    walk_at "es"
    refine opd_ixL (came_at (by omega) hj) ?_
    refine opd_ixL (rl_at j1 j2) ?_
    walk_at "es"
    refine opd_ixT (d := .int (rl R j.toNat).1) rfl ?_
    rw [eAj]
    cases f with
    | zero => omega
    | succ f =>
      unfold chainN at hr
      rw [if_neg hq, ecj] at hr
      refine ⟨_, ?_, f, by omega, prv R came h, j :: acc, hr, pNj, by omega, by rw [List.length_cons]; omega, rfl⟩
      rw [List.map_cons]
      walk_at "le"
  · have hq : h = 0 := by have : (h : Int) = 0 := by simpa using hq
                          omega
    cases f with
    | zero => omega
    | succ f =>
      unfold chainN at hr
      rw [if_pos hq] at hr
      refine nx_seq ?_
      walk_at "es"
      rw [hr]
      exact z
/-! ### earliest, latest -/
def chainsD (cs : List (List Int)) : D := .list (cs.map intsD)
def encT : Told → D
  | .ring xs => .tuple [.str (Str.ofString "ring"), intsD xs]
  | .times ts cs => .tuple [.str (Str.ofString "times"), intsD ts, chainsD cs]
def optL : Option (List Int) → D
  | none => .none
  | some ts => intsD ts
theorem far_tail {far : List (Option Int)} {n : Nat} (hl : far.length = n + 1) (tot : Tot (n + 1) far) (f : Nat → Int) (hf : ∀ k, k < n → f (k + 1) = Fv far (k + 1)) : (far.drop 1).map encO = (lst n f).map .int := by
  refine List.ext_getElem (by simp [lst, hl]) fun i h1 h2 => ?_
  rw [List.length_map, List.length_drop, hl] at h1
  have hi : i < n := by omega
  have e3 : ((lst n f).map PyData.int)[i]'h2 = .int (f (i + 1)) := by simp [lst]
  rw [e3, List.getElem_map, List.getElem_drop, hf i hi]
  obtain ⟨v, hv⟩ := tot (i + 1) (by omega)
  have e : far[1 + i]'(by omega) = some v := by
    unfold fr at hv
    rw [List.getD_eq_getElem?_getD, show i + 1 = 1 + i by omega, List.getElem?_eq_getElem (show 1 + i < far.length by omega)] at hv
    exact hv
  rw [e]
  unfold Fv
  rw [hv]
  rfl
def R_ear : List D → (D → Prop) → Prop := fun ds Z => ∃ (ws : List Pr) (gs : List Rw), ds = [.list (ws.map encP), .list (gs.map encR)] ∧ Sc ws gs ∧ Z (encT (earF ws gs))
theorem sx_earliest (K : PySem.W.Frag) (ds : List D) (Z : D → Prop) (h : R_ear ds Z) : SX (T_earliest K R_rules R_long R_ringat R_chain) (startE N_earliest ds) { nx := fun _ => Z .none, rt := fun d _ => Z d } := by
  obtain ⟨ws, gs, rfl, sc, z⟩ := h
  show SX (T_earliest K R_rules R_long R_ringat R_chain) [.val (.list (ws.map encP)), .val (.list (gs.map encR)), .emp, .emp, .emp, .emp, .emp] _
  unfold T_earliest
  have ok := rules_ok sc
  have n4 := sc.n4
  have g5 := sc.g5
  have rlen := rules_len sc
  refine sx_seq (sx_asg (ex_call ?_))
  walk_at "es"
  refine ⟨ws, gs, rfl, by omega, by omega, ?_⟩
  refine nx_seq ?_
  walk_at "w"
  refine sx_seq (sx_asgT (J := [3, 4, 5]) ?_)
  walk_at "es"
  refine ⟨rulesF ws gs, ws.length + 1, by rw [List.length_map]; rfl, ok, by omega, by omega, by omega, ?_⟩
  unfold resD
  refine sg_tup rfl (sgs_cons (sg_name (by simp) (sgs_cons (sg_name (by simp) (sgs_cons (sg_name (by simp) (sgs_nil ?_)))))))
  walk_at "w"
  refine nx_seq ?_
  unfold earF at z
  rcases run_told ok (by omega) (by omega) (by omega) with ⟨hc, τ, cv⟩ | ⟨x, g, τ, hc, r⟩
  · rw [hc] at z ⊢
    have tot := tot_of cv rules_tot
    have l1 := cv.l1
    refine sx_seq (sx_if (et_val false ?_ ?_))
    · walk_at "es"
      exact ⟨rfl, rfl⟩
    walk_at "no"
    walk_at "es"
    rw [show cutD ((runR (rulesF ws gs) (ws.length + 1)).far.map encO) (some 1) none = ((runR (rulesF ws gs) (ws.length + 1)).far.drop 1).map encO from cut_drop encO _ 1, far_tail l1 tot _ fun k _ => rfl]
    walk_at "es"
    refine ex_of (eo_lcP (α := Int) (fun _ => true) (fun k => intsD (chainN (rulesF ws gs) (runR (rulesF ws gs) (ws.length + 1)).came 1000 k.toNat [])) (ei_rng2 ?_))
    walk_at "es"
    rw [List.length_map, l1, show (((ws.length + 1 : Nat) : Int) - 1).toNat = ws.length by omega]
    refine ⟨⟨by omega, by omega, by omega, by omega⟩, rngI 1 ws.length, _, rfl, by rw [rngI_len]; omega, fun i hi => by simp at hi; subst hi; rfl, fun x hx => sg_name (by simp) ⟨rfl, ?_⟩, ?_⟩
    · have hx := rngI_mem.mp hx
      obtain ⟨k, rfl⟩ : ∃ k : Nat, x = (k : Int) := ⟨x.toNat, by omega⟩
      rw [Int.toNat_natCast]
      walk_at "w"
      refine et_yes ⟨rfl, rfl, fun _ => ?_⟩
      walk_at "es"
      refine ⟨_, _, _, _, τ, k, rfl, ok, cv, tot, by omega, ?_⟩
      exact ⟨rfl, rfl⟩
    rw [filt_all]
    walk_at "es"
    have e : (rngI 1 ws.length).map (fun k => intsD (chainN (rulesF ws gs) (runR (rulesF ws gs) (ws.length + 1)).came 1000 k.toNat [])) = ((List.range ws.length).map fun k => chainN (rulesF ws gs) (runR (rulesF ws gs) (ws.length + 1)).came 1000 (k + 1) []).map intsD := by
      unfold rngI
      rw [List.map_map, List.map_map]
      refine List.map_congr_left fun k _ => ?_
      simp only [Function.comp]
      rw [show (1 + (k : Int)).toNat = k + 1 by omega]
    rw [e]
    exact z
  · rw [hc] at z ⊢
    refine sx_seq (sx_if (et_val true ?_ ?_))
    · walk_at "es"
      exact ⟨rfl, rfl⟩
    walk_at "yes"
    have z : Z (encT (.ring (ringF (rulesF ws gs) (runR (rulesF ws gs) (ws.length + 1)).came (ws.length + 1) ((x : Int)).toNat))) := z
    rw [Int.toNat_natCast] at z
    unfold encO
    walk_at "es"
    refine ⟨_, _, _, _, x, g, τ, rfl, ok, by omega, r, ?_⟩
    walk_at "es"
    exact z
def R_lat : List D → (D → Prop) → Prop := fun ds Z => ∃ (ws : List Pr) (gs : List Rw), ds = [.list (ws.map encP), .list (gs.map encR)] ∧ Sc ws gs ∧ Z (optL (latF ws gs))
theorem sx_latest (K : PySem.W.Frag) (ds : List D) (Z : D → Prop) (h : R_lat ds Z) : SX (T_latest K R_long R_rules) (startE N_latest ds) { nx := fun _ => Z .none, rt := fun d _ => Z d } := by
  obtain ⟨ws, gs, rfl, sc, z⟩ := h
  show SX (T_latest K R_long R_rules) [.val (.list (ws.map encP)), .val (.list (gs.map encR)), .emp, .emp, .emp, .emp, .emp, .emp, .emp] _
  unfold T_latest
  have ok := rev_ok (rules_ok sc)
  have n4 := sc.n4
  have g5 := sc.g5
  have rlen := rules_len sc
  have rl2 : (revR (rulesF ws gs)).length = (rulesF ws gs).length := by unfold revR; rw [List.length_map]
  refine sx_seq (sx_asg (ex_of (eo_lcP (α := Rw) (fun _ => true) (fun r => encR (r.2.1, r.1, r.2.2)) (ei_list ?_))))
  walk_at "es"
  refine ⟨ws, gs, rfl, by omega, by omega, ?_⟩
  walk_at "es"
  refine ⟨by omega, fun i hi => by simp at hi; rcases hi with rfl | rfl | rfl <;> rfl, fun g hg => ?_, ?_⟩
  · refine sg_tup rfl (sgs_cons (sg_name (by simp) (sgs_cons (sg_name (by simp) (sgs_cons (sg_name (by simp) (sgs_nil ⟨rfl, ?_⟩)))))))
    walk_at "w"
    refine et_yes ⟨rfl, rfl, fun _ => ?_⟩
    walk_at "es"
    exact ⟨rfl, rfl⟩
  rw [filt_all, show (rulesF ws gs).map (fun r => encR (r.2.1, r.1, r.2.2)) = (revR (rulesF ws gs)).map encR by unfold revR; rw [List.map_map]; rfl]
  refine nx_seq ?_
  walk_at "w"
  refine sx_seq (sx_asgT (J := [6, 7, 8]) ?_)
  walk_at "es"
  refine ⟨revR (rulesF ws gs), ws.length + 1, by rw [List.length_map]; rfl, ok, by omega, by omega, by omega, ?_⟩
  unfold resD
  refine sg_tup rfl (sgs_cons (sg_name (by simp) (sgs_cons (sg_name (by simp) (sgs_cons (sg_name (by simp) (sgs_nil ?_)))))))
  walk_at "w"
  refine nx_seq ?_
  unfold latF at z
  rcases lat_cases sc with ⟨c, _, hc, _⟩ | ⟨ts, _, hc, tot, _⟩
  · rw [hc] at z ⊢
    walk_at "es"
    refine ⟨fun _ => ?_, (fun q => by cases q)⟩
    walk_at "es"
    exact z
  · rw [hc] at z ⊢
    have l1 : (runR (revR (rulesF ws gs)) (ws.length + 1)).far.length = ws.length + 1 := by
      rcases run_told ok (by omega) (by omega) (by omega) with ⟨_, τ, cv⟩ | ⟨x, g, τ, hc2, r⟩
      · exact cv.l1
      · rw [hc] at hc2; cases hc2
    walk_at "es"
    refine ⟨(fun q => by cases q), fun _ => ?_⟩
    refine ex_of (eo_lcP (α := Int) (fun _ => true) (fun x => .int (0 - x)) (ei_list ?_))
    walk_at "es"
    rw [show cutD ((runR (revR (rulesF ws gs)) (ws.length + 1)).far.map encO) (some 1) none = ((runR (revR (rulesF ws gs)) (ws.length + 1)).far.drop 1).map encO from cut_drop encO _ 1, far_tail l1 tot _ fun k _ => rfl]
    refine ⟨_, PyData.int, rfl, by simp [lst]; omega, fun i hi => by simp at hi; subst hi; rfl, fun x hx => sg_name (by simp) ⟨rfl, ?_⟩, ?_⟩
    · walk_at "w"
      refine et_yes ⟨rfl, rfl, fun _ => ?_⟩
      walk_at "es"
      exact ⟨rfl, rfl⟩
    rw [filt_all]
    have e : (lst ws.length (Fv (runR (revR (rulesF ws gs)) (ws.length + 1)).far)).map (fun x => PyData.int (0 - x)) = (lst ws.length fun x => 0 - Fv (runR (revR (rulesF ws gs)) (ws.length + 1)).far x).map .int := by
      unfold lst
      rw [List.map_map, List.map_map]
      rfl
    rw [e]
    exact z
end Law_k43
namespace Law_k43
open PySem L2 Pu
local macro_rules | `(tactic| walk_at "e") => `(tactic| first
  | ((with_reducible refine nx_seq ?_); (try dsimp only [List.set_cons_succ, List.set_cons_zero]))
  | ((with_reducible refine ex_vr ?_); dsimp only [VQ, List.set_cons_succ, List.set_cons_zero, List.getElem?_cons_zero, List.getElem?_cons_succ]; (fail_if_success (with_reducible show False)))
  | (with_reducible refine sx_seq ?_)
  | (with_reducible refine sx_if ?_)
  | (with_reducible refine sx_next ?_)
  | (with_reducible refine sx_ret ?_)
  | ((fail_if_success (with_reducible refine sx_asgO (eo_lst ?_))); (with_reducible refine sx_asg ?_))
  | (with_reducible refine ex_int ?_)
  | (with_reducible refine ex_str ?_)
  | (with_reducible refine ex_bl ?_)
  | (with_reducible refine ex_non ?_)
  | (with_reducible refine ex_op ?_)
  | (with_reducible refine ex_un ?_)
  | (with_reducible refine ex_chain ?_)
  | (with_reducible refine ex_call ?_)
  | (with_reducible refine ex_isT ?_)
  | (with_reducible refine ex_cb ?_)
  | (with_reducible refine ex_sl ?_)
  | (with_reducible refine ex_tup ?_)
  | (with_reducible refine ex_if ?_)
  | (with_reducible refine ex_of (eo_lst ?_))
  | (with_reducible refine ex_notV ?_)
  | (with_reducible refine ea_nil ?_)
  | (with_reducible refine ea_cons ?_)
  | (with_reducible refine ep_no ?_)
  | (with_reducible refine ep_some ?_)
  | (with_reducible refine et_test ?_)
  | (with_reducible refine et_B ?_)
  | (with_reducible refine et_ch3 ?_)
  | (with_reducible refine et_and ?_)
  | (with_reducible refine et_or ?_)
  | (with_reducible refine et_not ?_)
  | (with_reducible refine et_yes ?_)
  | (with_reducible refine et_truL ?_)
  | (with_reducible refine opd_plusI ?_)
  | (with_reducible refine opd_I0 ?_)
  | (with_reducible refine opd_B0 ?_)
  | (with_reducible refine opd_eqI ?_)
  | (with_reducible refine opd_neI ?_)
  | (with_reducible refine opd_eqS ?_)
  | (with_reducible refine opd_neS ?_)
  | (with_reducible refine opd_is ?_)
  | (with_reducible refine opd_isnt ?_)
  | (with_reducible refine opd_ixT rfl ?_)
  | (with_reducible refine opd_ixL rfl ?_)
  | (with_reducible refine und_neg ?_)
  | (with_reducible refine cbd_lenL ?_)
  | (with_reducible refine cbd_lenT ?_)
  | (with_reducible refine cbd_min2 ?_)
  | (with_reducible refine cbd_max2 ?_)
  | (with_reducible refine cbd_abs ?_)
  | (with_reducible refine cbd_int ?_)
  | (with_reducible refine cbd_tupL ?_)
  | (with_reducible refine cbd_listL ?_)
  | (with_reducible refine cbd_listT ?_)
  | (with_reducible refine cbd_sum ?_)
  | (with_reducible refine sld_T ?_)
  | (with_reducible refine sld_L ?_)
  | (with_reducible refine ex_revL ?_)
  | (with_reducible refine ex_bmL ?_)
  | (with_reducible refine ex_andV ?_)
  | (with_reducible refine ei_list ?_)
  | (with_reducible refine ei_rng1 ?_)
  | (with_reducible refine ei_rng2 ?_)
  | (with_reducible refine ei_enum ?_)
  | (with_reducible refine ei_enumT ?_)
  | (with_reducible refine ei_zip ?_)
  | (with_reducible refine sx_par ?_)
  | (with_reducible refine Exists.intro _ (And.intro rfl ?_))
  | (with_reducible refine Exists.intro _ (Exists.intro _ (And.intro rfl ?_)))
  | ((with_reducible show EX (tCall (spS _) [] _ (tCons (tVar _) _)) _ _); refine ex_callS rfl ?_)
  | ((with_reducible refine And.intro (show (_ : Nat) ≤ 100000 from ?_) ?_); (focus (simp; done)))
  | ((with_reducible refine opd_I ?_ ?_); focus (first | omega | (show CDiv _ _; exact ⟨by omega, by omega⟩) | (show CMul _ _; first | exact Or.inl ⟨by omega, by omega⟩ | exact Or.inr ⟨by omega, by omega⟩))))
local macro_rules | `(tactic| walk_at "es") => `(tactic| repeat walk_at "e")
local macro_rules | `(tactic| walk_at "w") => `(tactic| try dsimp only [wipeE, List.foldl_cons, List.foldl_nil, List.set_cons_succ, List.set_cons_zero])
local macro_rules | `(tactic| walk_at "le") => `(tactic| repeat' first | exact LeE.nil | (refine LeE.eq rfl ?_) | (refine LeE.emp ?_) | (refine LeE.eq ?_ ?_))
local macro_rules | `(tactic| walk_at "no") => `(tactic| ((refine And.intro (fun hb => absurd hb ?_) (fun _ => ?_)); (focus (first | (exact Bool.false_ne_true) | (simp; done) | (simp; omega) | (simp only [decide_eq_true_eq]; omega)))))
local macro_rules | `(tactic| walk_at "yes") => `(tactic| ((refine And.intro (fun _ => ?_) (fun hb => absurd hb ?_)); (rotate_left); (focus (first | (exact Bool.noConfusion) | (simp; done) | (simp; omega) | (simp only [decide_eq_false_iff_not]; omega)))))
local macro_rules | `(tactic| walk_at "ei") => `(tactic| repeat ((fail_if_success (with_reducible show SX (tSeq (tIfS _ _ _) _) _ _)); (fail_if_success (with_reducible show SX (tIfS _ _ _) _ _)); (fail_if_success (with_reducible show SX (tSeq (tAsg (tIf _ _ _) _) _) _ _)); walk_at "e"))
local macro_rules | `(tactic| walk_at "tv") => `(tactic| repeat' first | walk_at "e" | ((with_reducible show (_ = true → _) ∧ (_ = false → _)); refine And.intro (fun _ => ?_) (fun _ => ?_)))
/-! ### does a chain lead from a cue to another one -/
def stepB (R : List Rw) (i h : Int) : Bool := (decide (0 ≤ i) && decide (i < R.length)) && decide ((rl R i.toNat).1 = h)
theorem lead_cons (R : List Rw) (i : Int) (is : List Int) (h : Int) : leadN R (i :: is) h = if stepB R i h = true then leadN R is (rl R i.toNat).2.1 else none := by
  unfold stepB
  conv => lhs; unfold leadN
  by_cases c : (0 ≤ i ∧ i < R.length) ∧ (rl R i.toNat).1 = h
  · rw [if_pos c, if_pos (by simp [c])]
  · rw [if_neg c, if_neg (by simpa [and_assoc] using c)]
theorem lead_rng {R : List Rw} : ∀ {is : List Int} {h e : Int}, leadN R is h = some e → ∀ i ∈ is, 0 ≤ i ∧ i < R.length
  | [], _, _, _, i, hi => by cases hi
  | j :: is, h, e, q, i, hi => by
    rw [lead_cons] at q
    split at q
    · rename_i hs
      unfold stepB at hs
      simp only [Bool.and_eq_true, decide_eq_true_eq] at hs
      rcases List.mem_cons.mp hi with rfl | hi
      · exact hs.1
      · exact lead_rng q i hi
    · cases q
theorem lead_rng' {R : List Rw} {is : List Int} {a b : Int} (h : leadOk R is a b = true) : ∀ i ∈ is, 0 ≤ i ∧ i < R.length := lead_rng (of_decide_eq_true h)
def R_leads : List D → (D → Prop) → Prop := fun ds Z => ∃ (R : List Rw) (is : List Int) (a b : Int), ds = [.list (R.map encR), intsD is, .int a, .int b] ∧ Z (.bool (leadOk R is a b))
def R_cf : List D → (D → Prop) → Prop := fun ds Z => ∃ (R : List Rw) (is : List Int) (a b : Int), ds = [.list (R.map encR), intsD is, .int a, .int b] ∧ Z (.bool (!leadOk R is a b))
theorem drop_hd {α : Type} {xs : List α} {k : Nat} {x : α} (h : xs[k]? = some x) : xs.drop k = x :: xs.drop (k + 1) := by
  obtain ⟨h1, h2⟩ := List.getElem?_eq_some_iff.mp h
  rw [List.drop_eq_getElem_cons h1, h2]
theorem sx_chain_fault (K : PySem.W.Frag) (ds : List D) (Z : D → Prop) (h : R_cf ds Z) : SX (T_chain_fault K) (startE N_chain_fault ds) { nx := fun _ => Z .none, rt := fun d _ => Z d } := by
  obtain ⟨R, is, a, b, rfl, z⟩ := h
  show SX (T_chain_fault K) [.val (.list (R.map encR)), .val (.list (is.map .int)), .val (.int a), .val (.int b), .emp, .emp] _
  unfold T_chain_fault
  walk_at "es"
  refine sx_for (J := [5]) (ei_list ?_)
  walk_at "es"
  refine ⟨fun k ρ' => ∃ h, leadN R is a = leadN R (is.drop k) h ∧ ρ' = [.val (.list (R.map encR)), .val (.list (is.map .int)), .val (.int a), .val (.int b), .val (.int h), .emp], ⟨a, rfl, rfl⟩, ?_, ?_⟩
  · rintro k dd ρ' hd0 ⟨h, hl, rfl⟩
    obtain ⟨i, hi, rfl⟩ := map_at hd0
    rw [drop_hd hi, lead_cons] at hl
    refine sg_name (by simp) ?_
    walk_at "w"
    refine sx_seq (sx_if (et_val (!stepB R i h) ?_ ?_))
    · unfold stepB
      walk_at "es"
      refine ⟨fun h1 => ?_, fun h1 => ?_⟩
      · walk_at "es"
        rw [List.length_map]
        refine ⟨fun h2 => ?_, fun h2 => ?_⟩
        · exact ⟨by cases h3 : decide (i < (R.length : Int)) <;> simp_all, rfl⟩
        · have h1 := of_decide_eq_true h1
          have h3 : i < (R.length : Int) := by simpa using h2
          rw [decide_eq_true h1, decide_eq_true h3]
          walk_at "es"
          refine opd_ixL (rl_at h1 h3) ?_
          walk_at "es"
          refine opd_ixT (d := .int (rl R i.toNat).1) rfl ?_
          walk_at "es"
          exact ⟨by simp, rfl⟩
      · exact ⟨_, rfl, fun _ => ⟨by rw [h1]; rfl, rfl⟩, (fun q => by cases q)⟩
    refine ⟨fun hq => ?_, fun hq => ?_⟩
    · have hq : stepB R i h = false := by simpa using hq
      rw [if_neg (by rw [hq]; decide)] at hl
      have e : leadOk R is a b = false := by unfold leadOk; rw [hl]; rfl
      rw [e] at z
      walk_at "es"
      exact z
    · have hq : stepB R i h = true := by simpa using hq
      rw [if_pos hq] at hl
      unfold stepB at hq
      simp only [Bool.and_eq_true, decide_eq_true_eq] at hq
      refine sx_next (nx_seq ?_)
      walk_at "es"
      refine opd_ixL (rl_at hq.1.1 hq.1.2) ?_
      walk_at "es"
      refine opd_ixT (d := .int (rl R i.toNat).2.1) rfl ?_
      exact ⟨_, by walk_at "le", _, hl, rfl⟩
  rintro ρ' ⟨h, hl, rfl⟩
  rw [List.length_map, List.drop_length] at hl
  have hl : leadN R is a = some h := hl
  have e : leadOk R is a b = decide (h = b) := by
    unfold leadOk
    rw [hl]
    by_cases c : h = b
    · rw [c]; simp
    · rw [decide_eq_false c]; simp [c]
  rw [e] at z
  walk_at "es"
  exact z
theorem sx_l_leads (K : PySem.W.Frag) (ds : List D) (Z : D → Prop) (h : R_leads ds Z) : SX (T_l_leads K) (startE N_l_leads ds) { nx := fun _ => Z .none, rt := fun d _ => Z d } := by
  obtain ⟨R, is, a, b, rfl, z⟩ := h
  show SX (T_l_leads K) [.val (.list (R.map encR)), .val (.list (is.map .int)), .val (.int a), .val (.int b), .emp, .emp] _
  unfold T_l_leads
  walk_at "es"
  refine sx_for (J := [5]) (ei_list ?_)
  walk_at "es"
  refine ⟨fun k ρ' => ∃ h, leadN R is a = leadN R (is.drop k) h ∧ ρ' = [.val (.list (R.map encR)), .val (.list (is.map .int)), .val (.int a), .val (.int b), .val (.int h), .emp], ⟨a, rfl, rfl⟩, ?_, ?_⟩
  · rintro k dd ρ' hd0 ⟨h, hl, rfl⟩
    obtain ⟨i, hi, rfl⟩ := map_at hd0
    rw [drop_hd hi, lead_cons] at hl
    refine sg_name (by simp) ?_
    walk_at "w"
    refine sx_seq (sx_if (et_val (!stepB R i h) ?_ ?_))
    · unfold stepB
      walk_at "es"
      refine ⟨fun h1 => ?_, fun h1 => ?_⟩
      · walk_at "es"
        rw [List.length_map]
        refine ⟨fun h2 => ?_, fun h2 => ?_⟩
        · exact ⟨by cases h3 : decide (i < (R.length : Int)) <;> simp_all, rfl⟩
        · have h1 := of_decide_eq_true h1
          have h3 : i < (R.length : Int) := by simpa using h2
          rw [decide_eq_true h1, decide_eq_true h3]
          walk_at "es"
          refine opd_ixL (rl_at h1 h3) ?_
          walk_at "es"
          refine opd_ixT (d := .int (rl R i.toNat).1) rfl ?_
          walk_at "es"
          exact ⟨by simp, rfl⟩
      · exact ⟨_, rfl, fun _ => ⟨by rw [h1]; rfl, rfl⟩, (fun q => by cases q)⟩
    refine ⟨fun hq => ?_, fun hq => ?_⟩
    · have hq : stepB R i h = false := by simpa using hq
      rw [if_neg (by rw [hq]; decide)] at hl
      have e : leadOk R is a b = false := by unfold leadOk; rw [hl]; rfl
      rw [e] at z
      walk_at "es"
      exact z
    · have hq : stepB R i h = true := by simpa using hq
      rw [if_pos hq] at hl
      unfold stepB at hq
      simp only [Bool.and_eq_true, decide_eq_true_eq] at hq
      refine sx_next (nx_seq ?_)
      walk_at "es"
      refine opd_ixL (rl_at hq.1.1 hq.1.2) ?_
      walk_at "es"
      refine opd_ixT (d := .int (rl R i.toNat).2.1) rfl ?_
      exact ⟨_, by walk_at "le", _, hl, rfl⟩
  rintro ρ' ⟨h, hl, rfl⟩
  rw [List.length_map, List.drop_length] at hl
  have hl : leadN R is a = some h := hl
  have e : leadOk R is a b = decide (h = b) := by
    unfold leadOk
    rw [hl]
    by_cases c : h = b
    · rw [c]; simp
    · rw [decide_eq_false c]; simp [c]
  rw [e] at z
  walk_at "es"
  exact z
end Law_k43
namespace Law_k43
open PySem L2 Pu
local macro_rules | `(tactic| walk_at "e") => `(tactic| first
  | ((with_reducible refine nx_seq ?_); (try dsimp only [List.set_cons_succ, List.set_cons_zero]))
  | ((with_reducible refine ex_vr ?_); dsimp only [VQ, List.set_cons_succ, List.set_cons_zero, List.getElem?_cons_zero, List.getElem?_cons_succ]; (fail_if_success (with_reducible show False)))
  | (with_reducible refine sx_seq ?_)
  | (with_reducible refine sx_if ?_)
  | (with_reducible refine sx_next ?_)
  | (with_reducible refine sx_ret ?_)
  | ((fail_if_success (with_reducible refine sx_asgO (eo_lst ?_))); (with_reducible refine sx_asg ?_))
  | (with_reducible refine ex_int ?_)
  | (with_reducible refine ex_str ?_)
  | (with_reducible refine ex_bl ?_)
  | (with_reducible refine ex_non ?_)
  | (with_reducible refine ex_op ?_)
  | (with_reducible refine ex_un ?_)
  | (with_reducible refine ex_chain ?_)
  | (with_reducible refine ex_call ?_)
  | (with_reducible refine ex_isT ?_)
  | (with_reducible refine ex_cb ?_)
  | (with_reducible refine ex_sl ?_)
  | (with_reducible refine ex_tup ?_)
  | (with_reducible refine ex_if ?_)
  | (with_reducible refine ex_of (eo_lst ?_))
  | (with_reducible refine ex_notV ?_)
  | (with_reducible refine ea_nil ?_)
  | (with_reducible refine ea_cons ?_)
  | (with_reducible refine ep_no ?_)
  | (with_reducible refine ep_some ?_)
  | (with_reducible refine et_test ?_)
  | (with_reducible refine et_B ?_)
  | (with_reducible refine et_ch3 ?_)
  | (with_reducible refine et_and ?_)
  | (with_reducible refine et_or ?_)
  | (with_reducible refine et_not ?_)
  | (with_reducible refine et_yes ?_)
  | (with_reducible refine et_truL ?_)
  | (with_reducible refine opd_plusI ?_)
  | (with_reducible refine opd_I0 ?_)
  | (with_reducible refine opd_B0 ?_)
  | (with_reducible refine opd_eqI ?_)
  | (with_reducible refine opd_neI ?_)
  | (with_reducible refine opd_eqS ?_)
  | (with_reducible refine opd_neS ?_)
  | (with_reducible refine opd_is ?_)
  | (with_reducible refine opd_isnt ?_)
  | (with_reducible refine opd_ixT rfl ?_)
  | (with_reducible refine opd_ixL rfl ?_)
  | (with_reducible refine und_neg ?_)
  | (with_reducible refine cbd_lenL ?_)
  | (with_reducible refine cbd_lenT ?_)
  | (with_reducible refine cbd_min2 ?_)
  | (with_reducible refine cbd_max2 ?_)
  | (with_reducible refine cbd_abs ?_)
  | (with_reducible refine cbd_int ?_)
  | (with_reducible refine cbd_tupL ?_)
  | (with_reducible refine cbd_listL ?_)
  | (with_reducible refine cbd_listT ?_)
  | (with_reducible refine cbd_sum ?_)
  | (with_reducible refine sld_T ?_)
  | (with_reducible refine sld_L ?_)
  | (with_reducible refine ex_revL ?_)
  | (with_reducible refine ex_bmL ?_)
  | (with_reducible refine ex_andV ?_)
  | (with_reducible refine ei_list ?_)
  | (with_reducible refine ei_rng1 ?_)
  | (with_reducible refine ei_rng2 ?_)
  | (with_reducible refine ei_enum ?_)
  | (with_reducible refine ei_enumT ?_)
  | (with_reducible refine ei_zip ?_)
  | (with_reducible refine sx_par ?_)
  | (with_reducible refine Exists.intro _ (And.intro rfl ?_))
  | (with_reducible refine Exists.intro _ (Exists.intro _ (And.intro rfl ?_)))
  | ((with_reducible show EX (tCall (spS _) [] _ (tCons (tVar _) _)) _ _); refine ex_callS rfl ?_)
  | ((with_reducible refine And.intro (show (_ : Nat) ≤ 100000 from ?_) ?_); (focus (simp; done)))
  | ((with_reducible refine opd_I ?_ ?_); focus (first | omega | (show CDiv _ _; exact ⟨by omega, by omega⟩) | (show CMul _ _; first | exact Or.inl ⟨by omega, by omega⟩ | exact Or.inr ⟨by omega, by omega⟩))))
local macro_rules | `(tactic| walk_at "es") => `(tactic| repeat walk_at "e")
local macro_rules | `(tactic| walk_at "w") => `(tactic| try dsimp only [wipeE, List.foldl_cons, List.foldl_nil, List.set_cons_succ, List.set_cons_zero])
local macro_rules | `(tactic| walk_at "le") => `(tactic| repeat' first | exact LeE.nil | (refine LeE.eq rfl ?_) | (refine LeE.emp ?_) | (refine LeE.eq ?_ ?_))
local macro_rules | `(tactic| walk_at "no") => `(tactic| ((refine And.intro (fun hb => absurd hb ?_) (fun _ => ?_)); (focus (first | (exact Bool.false_ne_true) | (simp; done) | (simp; omega) | (simp only [decide_eq_true_eq]; omega)))))
local macro_rules | `(tactic| walk_at "yes") => `(tactic| ((refine And.intro (fun _ => ?_) (fun hb => absurd hb ?_)); (rotate_left); (focus (first | (exact Bool.noConfusion) | (simp; done) | (simp; omega) | (simp only [decide_eq_false_iff_not]; omega)))))
local macro_rules | `(tactic| walk_at "ei") => `(tactic| repeat ((fail_if_success (with_reducible show SX (tSeq (tIfS _ _ _) _) _ _)); (fail_if_success (with_reducible show SX (tIfS _ _ _) _ _)); (fail_if_success (with_reducible show SX (tSeq (tAsg (tIf _ _ _) _) _) _ _)); walk_at "e"))
local macro_rules | `(tactic| walk_at "tv") => `(tactic| repeat' first | walk_at "e" | ((with_reducible show (_ = true → _) ∧ (_ = false → _)); refine And.intro (fun _ => ?_) (fun _ => ?_)))
/-! ### the judges -/
def evA (ts : List Int) (x : Nat) : Int := (0 :: ts).getD x 0
def ringB (R : List Rw) (xs : List Int) : Bool := match xs with
  | [] => false
  | i :: _ => (decide (0 ≤ i) && decide (i < R.length)) && leadOk R xs (rl R i.toNat).1 (rl R i.toNat).1
def ruleB (R : List Rw) (ts : List Int) (k : Nat) : Bool := decide (evA ts (sB (rl R k)) - evA ts (sA (rl R k)) < sW (rl R k))
def ruleO (R : List Rw) (ts : List Int) (k : Nat) : Option D := if ruleB R ts k = true then some (.tuple [.str (Str.ofString "rule"), .int (k : Int)]) else none
def chB (R : List Rw) (ts : List Int) (cs : List (List Int)) (k : Nat) : Bool := !leadOk R (cs.getD k []) 0 ((k : Int) + 1) || !decide (sumW R (cs.getD k []) = tm ts k)
def chO (R : List Rw) (ts : List Int) (cs : List (List Int)) (k : Nat) : Option D := if chB R ts cs k = true then some (.tuple [.str (Str.ofString "chain"), .int (k : Int)]) else none
def ringFD (R : List Rw) (xs : List Int) : D := if ringB R xs = true then (if 0 < sumW R xs then .none else .tuple [.str (Str.ofString "length")]) else .tuple [.str (Str.ofString "ring")]
def timesFD (R : List Rw) (n : Nat) (ts : List Int) (cs : List (List Int)) : D := if ts.length = n ∧ cs.length = n then
      (match (List.range R.length).findSome? (ruleO R ts) with
      | some d => d
      | none => match (List.range n).findSome? (chO R ts cs) with
        | some d => d
        | none => .none)
    else .tuple [.str (Str.ofString "times")]
def faultD (R : List Rw) (n : Nat) : Told → D
  | .ring xs => ringFD R xs
  | .times ts cs => timesFD R n ts cs
def Small : Told → Prop
  | .ring xs => xs.length ≤ 5000
  | .times ts cs => ts.length ≤ 5000 ∧ cs.length ≤ 5000 ∧ ∀ c ∈ cs, c.length ≤ 5000
def R_fault : List D → (D → Prop) → Prop := fun ds Z => ∃ (ws : List Pr) (gs : List Rw) (t : Told), ds = [.list (ws.map encP), .list (gs.map encR), encT t] ∧ Sc ws gs ∧ Small t ∧ Z (faultD (rulesF ws gs) ws.length t)
theorem sums (R : List Rw) (xs : List Int) : ((xs.filter fun _ => true).map fun i => PyData.int (sW (rl R i.toNat))) = (xs.map fun i => sW (rl R i.toNat)).map .int := by rw [filt_all, List.map_map]; rfl
theorem ev_at {ts : List Int} {n x : Nat} (hl : ts.length = n) (hx : x < n + 1) : atI ((0 :: ts).map PyData.int) (x : Int) = some (.int (evA ts x)) := by
  rw [atI_map 0 (by omega) (by rw [List.length_cons, hl]; omega), Int.toNat_natCast]
  rfl
theorem sx_earliest_fault (K : PySem.W.Frag) (ds : List D) (Z : D → Prop) (h : R_fault ds Z) : SX (T_earliest_fault K R_rules R_cf) (startE N_earliest_fault ds) { nx := fun _ => Z .none, rt := fun d _ => Z d } := by
  obtain ⟨ws, gs, t, rfl, sc, sm, z⟩ := h
  show SX (T_earliest_fault K R_rules R_cf) [.val (.list (ws.map encP)), .val (.list (gs.map encR)), .val (encT t), .emp, .emp, .emp, .emp, .emp, .emp, .emp, .emp, .emp] _
  unfold T_earliest_fault
  have ok := rules_ok sc
  have n4 := sc.n4
  have g5 := sc.g5
  have rlen := rules_len sc
  refine sx_seq (sx_asg (ex_call ?_))
  walk_at "es"
  refine ⟨ws, gs, rfl, by omega, by omega, ?_⟩
  generalize rulesF ws gs = R at ok rlen z ⊢
  refine nx_seq ?_
  walk_at "w"
  cases t with
  | ring xs =>
    have sm : xs.length ≤ 5000 := sm
    unfold encT intsD
    refine sx_seq (sx_if (et_val true ?_ ?_))
    · walk_at "es"
      exact ⟨by simp, rfl⟩
    walk_at "yes"
    walk_at "ei"
    have z : Z (ringFD R xs) := z
    unfold ringFD at z
    cases xs with
    | nil =>
      refine sx_seq (sx_if (et_val true ?_ ?_))
      · walk_at "es"
        exact ⟨fun _ => ⟨rfl, rfl⟩, (fun q => by simp at q)⟩
      walk_at "yes"
      walk_at "es"
      exact z
    | cons i xs =>
      have ei : atI ((i :: xs).map PyData.int) 0 = some (.int i) := atI_map (f := PyData.int) 0 (by omega) (by simp)
      refine sx_seq (sx_if (et_val (!(decide (0 ≤ i) && decide (i < R.length))) ?_ ?_))
      · walk_at "es"
        refine ⟨(fun q => by simp at q; omega), fun _ => ?_⟩
        walk_at "es"
        refine opd_ixL ei ?_
        walk_at "es"
        refine ⟨fun h1 => ?_, fun h1 => ?_⟩
        · rw [h1]
          walk_at "es"
          rw [List.length_map]
          exact ⟨by simp, rfl⟩
        · rw [h1]; exact ⟨_, rfl, rfl, rfl⟩
      refine ⟨fun hq => ?_, fun hq => ?_⟩
      · have hq : (decide (0 ≤ i) && decide (i < (R.length : Int))) = false := by rw [Bool.not_eq_true'] at hq; exact hq
        have e : ringB R (i :: xs) = false := by
          show ((decide (0 ≤ i) && decide (i < (R.length : Int))) && _) = false
          rw [hq]; rfl
        rw [if_neg (by rw [e]; decide)] at z
        walk_at "es"
        exact z
      · have hq : (decide (0 ≤ i) && decide (i < (R.length : Int))) = true := by simpa using hq
        have hr : 0 ≤ i ∧ i < (R.length : Int) := by simpa using hq
        have e : ringB R (i :: xs) = leadOk R (i :: xs) (rl R i.toNat).1 (rl R i.toNat).1 := by
          show ((decide (0 ≤ i) && decide (i < (R.length : Int))) && _) = _
          rw [hq]; rfl
        rw [e] at z
        refine sx_next (nx_seq ?_)
        refine sx_seq (sx_if ?_)
        walk_at "es"
        refine opd_ixL ei ?_
        refine opd_ixL (rl_at hr.1 hr.2) ?_
        walk_at "es"
        refine opd_ixT (d := .int (rl R i.toNat).1) rfl ?_
        walk_at "es"
        refine opd_ixL ei ?_
        refine opd_ixL (rl_at hr.1 hr.2) ?_
        walk_at "es"
        refine opd_ixT (d := .int (rl R i.toNat).1) rfl ?_
        walk_at "es"
        refine ⟨R, i :: xs, _, _, rfl, ?_⟩
        walk_at "es"
        refine ⟨fun hq2 => ?_, fun hq2 => ?_⟩
        · have hq2 : leadOk R (i :: xs) (rl R i.toNat).1 (rl R i.toNat).1 = false := by simpa using hq2
          rw [if_neg (by rw [hq2]; decide)] at z
          walk_at "es"
          exact z
        · have hq2 : leadOk R (i :: xs) (rl R i.toNat).1 (rl R i.toNat).1 = true := by simpa using hq2
          rw [if_pos hq2] at z
          have rg := lead_rng' hq2
          refine sx_next (nx_seq ?_)
          walk_at "es"
          refine ex_of (eo_lcP (α := Int) (fun _ => true) (fun i => .int (sW (rl R i.toNat))) (ei_list ?_))
          walk_at "es"
          refine ⟨by omega, fun i hi => by simp at hi; subst hi; rfl, fun j hj => sg_name (by simp) ⟨rfl, ?_⟩, ?_⟩
          · have hj := rg j hj
            walk_at "w"
            refine et_yes ⟨rfl, rfl, fun _ => ?_⟩
            walk_at "es"
            refine opd_ixL (rl_at hj.1 hj.2) ?_
            walk_at "es"
            refine opd_ixT (d := .int (rl R j.toNat).2.2) rfl ?_
            exact ⟨rfl, rfl⟩
          rw [sums]
          walk_at "es"
          have es : ((i :: xs).map fun i => sW (rl R i.toNat)).sum = sumW R (i :: xs) := rfl
          rw [es]
          refine ⟨fun h => ?_, fun h => ?_⟩
          · rw [if_pos (of_decide_eq_true h)] at z
            walk_at "es"
            exact z
          · rw [if_neg (of_decide_eq_false h)] at z
            walk_at "es"
            exact z
  | times ts cs =>
    obtain ⟨sm1, sm2, sm3⟩ := sm
    unfold encT intsD
    refine sx_seq (sx_if (et_val false ?_ ?_))
    · walk_at "es"
      exact ⟨by simp; decide, rfl⟩
    walk_at "no"
    refine sx_next (nx_seq ?_)
    have z : Z (timesFD R ws.length ts cs) := z
    unfold timesFD at z
    refine sx_seq (sx_asg (ex_op (ex_of (eo_lst ?_))))
    walk_at "es"
    refine opd_plusL (by rw [List.length_map]; simp; omega) ?_
    rw [show [PyData.int 0] ++ ts.map .int = (0 :: ts).map .int from rfl]
    refine nx_seq ?_
    walk_at "w"
    refine sx_seq (sx_if (et_val (!decide (ts.length = ws.length ∧ cs.length = ws.length)) ?_ ?_))
    · walk_at "es"
      rw [List.length_map, List.length_map, List.length_cons]
      refine ⟨fun hq => ?_, fun hq => ?_⟩
      · have hq : ¬ ((ts.length + 1 : Nat) : Int) = (ws.length : Int) + 1 := by simpa using hq
        exact ⟨by rw [decide_eq_false (by omega)]; rfl, rfl⟩
      · have hq : ((ts.length + 1 : Nat) : Int) = (ws.length : Int) + 1 := by simpa using hq
        unfold chainsD
        walk_at "es"
        rw [List.length_map, List.length_map]
        refine ⟨?_, rfl⟩
        by_cases c : cs.length = ws.length
        · rw [decide_eq_true (by omega), decide_eq_true ⟨by omega, c⟩]
        · rw [decide_eq_false (by omega), decide_eq_false (by omega)]
    refine ⟨fun hq => ?_, fun hq => ?_⟩
    · have hq : ¬ (ts.length = ws.length ∧ cs.length = ws.length) := fun h => by rw [decide_eq_true h] at hq; cases hq
      rw [if_neg hq] at z
      walk_at "es"
      exact z
    have hq : ts.length = ws.length ∧ cs.length = ws.length := by simpa using hq
    rw [if_pos hq] at z
    obtain ⟨tl, cl⟩ := hq
    refine sx_next (nx_seq ?_)
    generalize hn : ws.length = n at ok n4 tl cl z
    refine sx_seq (sx_for (J := [5, 7, 8, 9]) (ei_enum ?_))
    walk_at "es"
    refine ⟨fun k ρ' => (∀ j, j < k → ruleO R ts j = none) ∧ ρ' = [.val (.list (ws.map encP)), .val (.list (gs.map encR)), .val (.tuple [.str (Str.ofString "times"), .list (ts.map .int), chainsD cs]), .val (.list (R.map encR)), .emp, .emp, .val (.list ((0 :: ts).map .int)), .emp, .emp, .emp, .emp, .emp], ⟨fun j hj => by omega, rfl⟩, ?_, ?_⟩
    · rintro k dd ρ' hd0 ⟨hno, rfl⟩
      obtain ⟨r, hr, rfl⟩ := enum_at hd0
      have hk := (List.getElem?_eq_some_iff.mp hr).1
      have er : rl R k = r := by unfold rl; rw [List.getD_eq_getElem?_getD, hr]; rfl
      obtain ⟨hA, hB, eB, eA⟩ := rl_ok ok hk
      have eb : ruleB R ts k = decide (evA ts (sB r) - evA ts (sA r) < r.2.2) := by unfold ruleB; rw [er]; rfl
      rw [er] at hA hB eB eA
      refine sg_tup rfl (sgs_cons (sg_name (by simp) (sgs_cons (sg_tup rfl (sgs_cons (sg_name (by simp) (sgs_cons (sg_name (by simp) (sgs_cons (sg_name (by simp) (sgs_nil (sgs_nil ?_)))))))))))) 
      walk_at "w"
      rw [eB, eA]
      refine sx_if ?_
      walk_at "es"
      refine opd_ixL (ev_at tl hB) ?_
      walk_at "es"
      refine opd_ixL (ev_at tl hA) ?_
      walk_at "es"
      rw [← eb]
      refine ⟨fun hb => ?_, fun hb => ?_⟩
      · have e1 : ruleO R ts k = some (.tuple [.str (Str.ofString "rule"), .int (k : Int)]) := by unfold ruleO; rw [if_pos hb]
        rw [Pu.find_first hk hno e1] at z
        walk_at "es"
        exact z
      · refine sx_next ⟨_, by walk_at "le", fun j hj => ?_, rfl⟩
        rcases (show j < k ∨ j = k by omega) with q | q
        · exact hno j q
        · rw [q]; unfold ruleO; rw [if_neg (by rw [hb]; decide)]
    rintro ρ' ⟨hno, rfl⟩
    rw [enum_len] at hno
    rw [Pu.find_no hno] at z
    refine nx_seq ?_
    unfold chainsD
    refine sx_seq (sx_for (J := [10, 11]) (ei_enum ?_))
    walk_at "es"
    refine ⟨fun k ρ' => (∀ j, j < k → chO R ts cs j = none) ∧ ρ' = [.val (.list (ws.map encP)), .val (.list (gs.map encR)), .val (.tuple [.str (Str.ofString "times"), .list (ts.map .int), .list (cs.map intsD)]), .val (.list (R.map encR)), .emp, .emp, .val (.list ((0 :: ts).map .int)), .emp, .emp, .emp, .emp, .emp], ⟨fun j hj => by omega, rfl⟩, ?_, ?_⟩
    · rintro k dd ρ' hd0 ⟨hno2, rfl⟩
      obtain ⟨c, hc, rfl⟩ := enum_at hd0
      have hk := (List.getElem?_eq_some_iff.mp hc).1
      have ec : cs.getD k [] = c := by rw [List.getD_eq_getElem?_getD, hc]; rfl
      have cl5 := sm3 c (List.mem_of_getElem? hc)
      have eb : chB R ts cs k = (!leadOk R c 0 ((k : Int) + 1) || !decide (sumW R c = evA ts (k + 1))) := by unfold chB; rw [ec]; rfl
      unfold intsD
      refine sg_tup rfl (sgs_cons (sg_name (by simp) (sgs_cons (sg_name (by simp) (sgs_nil ?_)))))
      walk_at "w"
      refine sx_if (et_val (chB R ts cs k) ?_ ?_)
      · rw [eb]
        walk_at "es"
        refine ⟨R, c, 0, (k : Int) + 1, rfl, ?_⟩
        walk_at "es"
        refine ⟨fun h1 => ?_, fun h1 => ?_⟩
        · rw [h1]; exact ⟨rfl, rfl⟩
        · rw [h1, Bool.false_or]
          have h1 : leadOk R c 0 ((k : Int) + 1) = true := by simpa using h1
          have rg := lead_rng' h1
          walk_at "es"
          refine ex_of (eo_lcP (α := Int) (fun _ => true) (fun i => .int (sW (rl R i.toNat))) (ei_list ?_))
          walk_at "es"
          refine ⟨by omega, fun i hi => by simp at hi; subst hi; rfl, fun j hj => sg_name (by simp) ⟨rfl, ?_⟩, ?_⟩
          · have hj := rg j hj
            walk_at "w"
            refine et_yes ⟨rfl, rfl, fun _ => ?_⟩
            walk_at "es"
            refine opd_ixL (rl_at hj.1 hj.2) ?_
            walk_at "es"
            refine opd_ixT (d := .int (rl R j.toNat).2.2) rfl ?_
            exact ⟨rfl, rfl⟩
          rw [sums]
          walk_at "es"
          rw [show ((k : Int) + 1) = ((k + 1 : Nat) : Int) by omega]
          refine opd_ixL (ev_at tl (by omega)) ?_
          walk_at "es"
          exact ⟨rfl, rfl⟩
      refine ⟨fun hb => ?_, fun hb => ?_⟩
      · have e1 : chO R ts cs k = some (.tuple [.str (Str.ofString "chain"), .int (k : Int)]) := by unfold chO; rw [if_pos hb]
        rw [Pu.find_first (by omega) hno2 e1] at z
        walk_at "es"
        exact z
      · refine sx_next ⟨_, by walk_at "le", fun j hj => ?_, rfl⟩
        rcases (show j < k ∨ j = k by omega) with q | q
        · exact hno2 j q
        · rw [q]; unfold chO; rw [if_neg (by rw [hb]; decide)]
    rintro ρ' ⟨hno2, rfl⟩
    rw [enum_len, cl] at hno2
    rw [Pu.find_no hno2] at z
    refine nx_seq ?_
    walk_at "es"
    exact z
end Law_k43
namespace Law_k43
open PySem L2 Pu
local macro_rules | `(tactic| walk_at "e") => `(tactic| first
  | ((with_reducible refine nx_seq ?_); (try dsimp only [List.set_cons_succ, List.set_cons_zero]))
  | ((with_reducible refine ex_vr ?_); dsimp only [VQ, List.set_cons_succ, List.set_cons_zero, List.getElem?_cons_zero, List.getElem?_cons_succ]; (fail_if_success (with_reducible show False)))
  | (with_reducible refine sx_seq ?_)
  | (with_reducible refine sx_if ?_)
  | (with_reducible refine sx_next ?_)
  | (with_reducible refine sx_ret ?_)
  | ((fail_if_success (with_reducible refine sx_asgO (eo_lst ?_))); (with_reducible refine sx_asg ?_))
  | (with_reducible refine ex_int ?_)
  | (with_reducible refine ex_str ?_)
  | (with_reducible refine ex_bl ?_)
  | (with_reducible refine ex_non ?_)
  | (with_reducible refine ex_op ?_)
  | (with_reducible refine ex_un ?_)
  | (with_reducible refine ex_chain ?_)
  | (with_reducible refine ex_call ?_)
  | (with_reducible refine ex_isT ?_)
  | (with_reducible refine ex_cb ?_)
  | (with_reducible refine ex_sl ?_)
  | (with_reducible refine ex_tup ?_)
  | (with_reducible refine ex_if ?_)
  | (with_reducible refine ex_of (eo_lst ?_))
  | (with_reducible refine ex_notV ?_)
  | (with_reducible refine ea_nil ?_)
  | (with_reducible refine ea_cons ?_)
  | (with_reducible refine ep_no ?_)
  | (with_reducible refine ep_some ?_)
  | (with_reducible refine et_test ?_)
  | (with_reducible refine et_B ?_)
  | (with_reducible refine et_ch3 ?_)
  | (with_reducible refine et_and ?_)
  | (with_reducible refine et_or ?_)
  | (with_reducible refine et_not ?_)
  | (with_reducible refine et_yes ?_)
  | (with_reducible refine et_truL ?_)
  | (with_reducible refine opd_plusI ?_)
  | (with_reducible refine opd_I0 ?_)
  | (with_reducible refine opd_B0 ?_)
  | (with_reducible refine opd_eqI ?_)
  | (with_reducible refine opd_neI ?_)
  | (with_reducible refine opd_eqS ?_)
  | (with_reducible refine opd_neS ?_)
  | (with_reducible refine opd_is ?_)
  | (with_reducible refine opd_isnt ?_)
  | (with_reducible refine opd_ixT rfl ?_)
  | (with_reducible refine opd_ixL rfl ?_)
  | (with_reducible refine und_neg ?_)
  | (with_reducible refine cbd_lenL ?_)
  | (with_reducible refine cbd_lenT ?_)
  | (with_reducible refine cbd_min2 ?_)
  | (with_reducible refine cbd_max2 ?_)
  | (with_reducible refine cbd_abs ?_)
  | (with_reducible refine cbd_int ?_)
  | (with_reducible refine cbd_tupL ?_)
  | (with_reducible refine cbd_listL ?_)
  | (with_reducible refine cbd_listT ?_)
  | (with_reducible refine cbd_sum ?_)
  | (with_reducible refine sld_T ?_)
  | (with_reducible refine sld_L ?_)
  | (with_reducible refine ex_revL ?_)
  | (with_reducible refine ex_bmL ?_)
  | (with_reducible refine ex_andV ?_)
  | (with_reducible refine ei_list ?_)
  | (with_reducible refine ei_rng1 ?_)
  | (with_reducible refine ei_rng2 ?_)
  | (with_reducible refine ei_enum ?_)
  | (with_reducible refine ei_enumT ?_)
  | (with_reducible refine ei_zip ?_)
  | (with_reducible refine sx_par ?_)
  | (with_reducible refine Exists.intro _ (And.intro rfl ?_))
  | (with_reducible refine Exists.intro _ (Exists.intro _ (And.intro rfl ?_)))
  | ((with_reducible show EX (tCall (spS _) [] _ (tCons (tVar _) _)) _ _); refine ex_callS rfl ?_)
  | ((with_reducible refine And.intro (show (_ : Nat) ≤ 100000 from ?_) ?_); (focus (simp; done)))
  | ((with_reducible refine opd_I ?_ ?_); focus (first | omega | (show CDiv _ _; exact ⟨by omega, by omega⟩) | (show CMul _ _; first | exact Or.inl ⟨by omega, by omega⟩ | exact Or.inr ⟨by omega, by omega⟩))))
local macro_rules | `(tactic| walk_at "es") => `(tactic| repeat walk_at "e")
local macro_rules | `(tactic| walk_at "w") => `(tactic| try dsimp only [wipeE, List.foldl_cons, List.foldl_nil, List.set_cons_succ, List.set_cons_zero])
local macro_rules | `(tactic| walk_at "le") => `(tactic| repeat' first | exact LeE.nil | (refine LeE.eq rfl ?_) | (refine LeE.emp ?_) | (refine LeE.eq ?_ ?_))
local macro_rules | `(tactic| walk_at "no") => `(tactic| ((refine And.intro (fun hb => absurd hb ?_) (fun _ => ?_)); (focus (first | (exact Bool.false_ne_true) | (simp; done) | (simp; omega) | (simp only [decide_eq_true_eq]; omega)))))
local macro_rules | `(tactic| walk_at "yes") => `(tactic| ((refine And.intro (fun _ => ?_) (fun hb => absurd hb ?_)); (rotate_left); (focus (first | (exact Bool.noConfusion) | (simp; done) | (simp; omega) | (simp only [decide_eq_false_iff_not]; omega)))))
local macro_rules | `(tactic| walk_at "ei") => `(tactic| repeat ((fail_if_success (with_reducible show SX (tSeq (tIfS _ _ _) _) _ _)); (fail_if_success (with_reducible show SX (tIfS _ _ _) _ _)); (fail_if_success (with_reducible show SX (tSeq (tAsg (tIf _ _ _) _) _) _ _)); walk_at "e"))
local macro_rules | `(tactic| walk_at "tv") => `(tactic| repeat' first | walk_at "e" | ((with_reducible show (_ = true → _) ∧ (_ = false → _)); refine And.intro (fun _ => ?_) (fun _ => ?_)))
theorem eqv_nilL (xs : List D) : PyData.eqv (.list xs) (.list []) = xs.isEmpty := by cases xs <;> simp [PyData.eqv, PyData.eqvAll]
theorem sx_l_fault (K : PySem.W.Frag) (ds : List D) (Z : D → Prop) (h : R_fault ds Z) : SX (T_l_fault K R_rules R_leads) (startE N_l_fault ds) { nx := fun _ => Z .none, rt := fun d _ => Z d } := by
  obtain ⟨ws, gs, t, rfl, sc, sm, z⟩ := h
  show SX (T_l_fault K R_rules R_leads) [.val (.list (ws.map encP)), .val (.list (gs.map encR)), .val (encT t), .emp, .emp, .emp, .emp, .emp, .emp, .emp, .emp] _
  unfold T_l_fault
  have ok := rules_ok sc
  have n4 := sc.n4
  have g5 := sc.g5
  have rlen := rules_len sc
  refine sx_seq (sx_asg (ex_call ?_))
  walk_at "es"
  refine ⟨ws, gs, rfl, by omega, by omega, ?_⟩
  generalize rulesF ws gs = R at ok rlen z ⊢
  refine nx_seq ?_
  walk_at "w"
  cases t with
  | ring xs =>
    have sm : xs.length ≤ 5000 := sm
    unfold encT intsD
    refine sx_seq (sx_if (et_val true ?_ ?_))
    · walk_at "es"
      exact ⟨by simp, rfl⟩
    walk_at "yes"
    walk_at "ei"
    have z : Z (ringFD R xs) := z
    unfold ringFD at z
    cases xs with
    | nil =>
      refine sx_seq (sx_if (et_val true ?_ ?_))
      · walk_at "es"
        refine opd_eqP (Nat.le_trans (Nat.min_le_right _ _) (by decide)) ?_
        exact ⟨_, rfl, fun _ => ⟨rfl, rfl⟩, (fun q => by cases q)⟩
      walk_at "yes"
      walk_at "es"
      exact z
    | cons i xs =>
      have ei : atI ((i :: xs).map PyData.int) 0 = some (.int i) := atI_map (f := PyData.int) 0 (by omega) (by simp)
      have e : ringB R (i :: xs) = ((decide (0 ≤ i) && decide (i < (R.length : Int))) && leadOk R (i :: xs) (rl R i.toNat).1 (rl R i.toNat).1) := rfl
      refine sx_seq (sx_if (et_val (!ringB R (i :: xs)) ?_ ?_))
      · rw [e]
        walk_at "es"
        refine opd_eqP (Nat.le_trans (Nat.min_le_right _ _) (by decide)) ?_
        rw [eqv_nilL, List.isEmpty_map]
        refine ⟨_, rfl, (fun q => by cases q), fun _ => ?_⟩
        walk_at "es"
        refine opd_ixL ei ?_
        walk_at "es"
        refine ⟨fun h1 => ?_, fun h1 => ?_⟩
        · rw [h1, Bool.true_and]
          walk_at "es"
          rw [List.length_map]
          refine ⟨fun h2 => ?_, fun h2 => ?_⟩
          · have h2 : decide (i < (R.length : Int)) = false := by rw [Bool.not_eq_true'] at h2; exact h2
            rw [h2]
            exact ⟨rfl, rfl⟩
          · have h2 : decide (i < (R.length : Int)) = true := by rw [Bool.not_eq_false'] at h2; exact h2
            rw [h2, Bool.true_and]
            have h1 := of_decide_eq_true h1
            have h2 := of_decide_eq_true h2
            walk_at "es"
            refine opd_ixL ei ?_
            refine opd_ixL (rl_at h1 h2) ?_
            walk_at "es"
            refine opd_ixT (d := .int (rl R i.toNat).1) rfl ?_
            walk_at "es"
            refine opd_ixL ei ?_
            refine opd_ixL (rl_at h1 h2) ?_
            walk_at "es"
            refine opd_ixT (d := .int (rl R i.toNat).1) rfl ?_
            walk_at "es"
            refine ⟨R, i :: xs, _, _, rfl, ?_⟩
            walk_at "es"
            exact ⟨rfl, rfl⟩
        · rw [h1]; exact ⟨_, rfl, fun _ => ⟨rfl, rfl⟩, (fun q => by cases q)⟩
      refine ⟨fun hq => ?_, fun hq => ?_⟩
      · have hq : ringB R (i :: xs) = false := by rw [Bool.not_eq_true'] at hq; exact hq
        rw [if_neg (by rw [hq]; decide)] at z
        walk_at "es"
        exact z
      · have hq : ringB R (i :: xs) = true := by rw [Bool.not_eq_false'] at hq; exact hq
        rw [if_pos hq] at z
        rw [e, Bool.and_eq_true] at hq
        have rg := lead_rng' hq.2
        refine sx_next (nx_seq ?_)
        walk_at "es"
        refine ex_of (eo_lcP (α := Int) (fun _ => true) (fun i => .int (sW (rl R i.toNat))) (ei_list ?_))
        walk_at "es"
        refine ⟨by omega, fun i hi => by simp at hi; subst hi; rfl, fun j hj => sg_name (by simp) ⟨rfl, ?_⟩, ?_⟩
        · have hj := rg j hj
          walk_at "w"
          refine et_yes ⟨rfl, rfl, fun _ => ?_⟩
          walk_at "es"
          refine opd_ixL (rl_at hj.1 hj.2) ?_
          walk_at "es"
          refine opd_ixT (d := .int (rl R j.toNat).2.2) rfl ?_
          exact ⟨rfl, rfl⟩
        rw [sums]
        walk_at "es"
        have es : ((i :: xs).map fun i => sW (rl R i.toNat)).sum = sumW R (i :: xs) := rfl
        rw [es]
        refine cbd_intB ?_
        by_cases h : 0 < sumW R (i :: xs)
        · rw [if_pos h] at z
          rw [decide_eq_true h]
          exact opd_ixL (d := .none) rfl z
        · rw [if_neg h] at z
          rw [decide_eq_false h]
          exact opd_ixL (d := .tuple [.str (Str.ofString "length")]) rfl z
  | times ts cs =>
    obtain ⟨sm1, sm2, sm3⟩ := sm
    unfold encT intsD
    refine sx_seq (sx_if (et_val false ?_ ?_))
    · walk_at "es"
      exact ⟨by simp; decide, rfl⟩
    walk_at "no"
    refine sx_next (nx_seq ?_)
    have z : Z (timesFD R ws.length ts cs) := z
    unfold timesFD at z
    refine sx_seq (sx_asgT (J := [6, 7, 8]) ?_)
    walk_at "es"
    refine sg_tup rfl (sgs_cons (sg_name (by simp) (sgs_cons (sg_name (by simp) (sgs_cons (sg_name (by simp) (sgs_nil ?_)))))))
    walk_at "w"
    refine nx_seq ?_
    unfold chainsD
    refine sx_seq (sx_if (et_val (!decide (ts.length = ws.length ∧ cs.length = ws.length)) ?_ ?_))
    · walk_at "es"
      rw [List.length_map, List.length_map]
      refine ⟨fun hq => ?_, fun hq => ?_⟩
      · have hq : ¬ ((ts.length : Nat) : Int) = (ws.length : Int) := by simpa using hq
        exact ⟨by rw [decide_eq_false (by omega)]; rfl, rfl⟩
      · have hq : ((ts.length : Nat) : Int) = (ws.length : Int) := by simpa using hq
        walk_at "es"
        rw [List.length_map, List.length_map]
        refine ⟨?_, rfl⟩
        by_cases c : cs.length = ws.length
        · rw [decide_eq_true (by omega), decide_eq_true ⟨by omega, c⟩]
        · rw [decide_eq_false (by omega), decide_eq_false (by omega)]
    refine ⟨fun hq => ?_, fun hq => ?_⟩
    · have hq : ¬ (ts.length = ws.length ∧ cs.length = ws.length) := fun h => by rw [decide_eq_true h] at hq; cases hq
      rw [if_neg hq] at z
      walk_at "es"
      exact z
    have hq : ts.length = ws.length ∧ cs.length = ws.length := by simpa using hq
    rw [if_pos hq] at z
    obtain ⟨tl, cl⟩ := hq
    refine sx_next (nx_seq ?_)
    refine sx_seq (sx_asg (ex_op (ex_of (eo_lst ?_))))
    walk_at "es"
    refine opd_plusL (by rw [List.length_map]; simp; omega) ?_
    rw [show [PyData.int 0] ++ ts.map .int = (0 :: ts).map .int from rfl]
    refine nx_seq ?_
    walk_at "w"
    generalize hn : ws.length = n at ok n4 tl cl z
    refine sx_seq (sx_for (J := [10]) (ei_rng1 ?_))
    walk_at "es"
    rw [List.length_map, Int.toNat_natCast]
    refine ⟨by omega, fun k ρ' => (∀ j, j < k → ruleO R ts j = none) ∧ ρ' = [.val (.list (ws.map encP)), .val (.list (gs.map encR)), .val (.tuple [.str (Str.ofString "times"), .list (ts.map .int), .list (cs.map intsD)]), .val (.list (R.map encR)), .emp, .emp, .val (.str (Str.ofString "times")), .val (.list (ts.map .int)), .val (.list (cs.map intsD)), .val (.list ((0 :: ts).map .int)), .emp], ⟨fun j hj => by omega, rfl⟩, ?_, ?_⟩
    · rintro k dd ρ' hd0 ⟨hno, rfl⟩
      obtain ⟨hk, rfl⟩ := rng_at hd0
      rw [Int.zero_add]
      obtain ⟨hA, hB, eB, eA⟩ := rl_ok ok hk
      have ak : atI (R.map encR) (k : Int) = some (encR (rl R k)) := by rw [rl_at (by omega) (by omega), Int.toNat_natCast]
      have eb : ruleB R ts k = decide (evA ts (sB (rl R k)) - evA ts (sA (rl R k)) < (rl R k).2.2) := rfl
      refine sg_name (by simp) ?_
      walk_at "w"
      refine sx_if ?_
      walk_at "es"
      refine opd_ixL ak ?_
      walk_at "es"
      refine opd_ixT (d := .int (rl R k).2.1) rfl ?_
      rw [eB]
      refine opd_ixL (ev_at tl hB) ?_
      walk_at "es"
      refine opd_ixL ak ?_
      walk_at "es"
      refine opd_ixT (d := .int (rl R k).1) rfl ?_
      rw [eA]
      refine opd_ixL (ev_at tl hA) ?_
      walk_at "es"
      refine opd_ixL ak ?_
      walk_at "es"
      refine opd_ixT (d := .int (rl R k).2.2) rfl ?_
      walk_at "es"
      rw [← eb]
      refine ⟨fun hb => ?_, fun hb => ?_⟩
      · have e1 : ruleO R ts k = some (.tuple [.str (Str.ofString "rule"), .int (k : Int)]) := by unfold ruleO; rw [if_pos hb]
        rw [Pu.find_first hk hno e1] at z
        walk_at "es"
        exact z
      · refine sx_next ⟨_, by walk_at "le", fun j hj => ?_, rfl⟩
        rcases (show j < k ∨ j = k by omega) with q | q
        · exact hno j q
        · rw [q]; unfold ruleO; rw [if_neg (by rw [hb]; decide)]
    rintro ρ' ⟨hno, rfl⟩
    rw [rng_size] at hno
    rw [Pu.find_no hno] at z
    refine nx_seq ?_
    refine sx_seq (sx_for (J := [10]) (ei_rng1 ?_))
    walk_at "es"
    rw [List.length_map, Int.toNat_natCast]
    refine ⟨by omega, fun k ρ' => (∀ j, j < k → chO R ts cs j = none) ∧ ρ' = [.val (.list (ws.map encP)), .val (.list (gs.map encR)), .val (.tuple [.str (Str.ofString "times"), .list (ts.map .int), .list (cs.map intsD)]), .val (.list (R.map encR)), .emp, .emp, .val (.str (Str.ofString "times")), .val (.list (ts.map .int)), .val (.list (cs.map intsD)), .val (.list ((0 :: ts).map .int)), .emp], ⟨fun j hj => by omega, rfl⟩, ?_, ?_⟩
    · rintro k dd ρ' hd0 ⟨hno2, rfl⟩
      obtain ⟨hk, rfl⟩ := rng_at hd0
      rw [Int.zero_add]
      have ac : atI (cs.map intsD) (k : Int) = some (intsD (cs.getD k [])) := by rw [atI_map [] (by omega) (by omega), Int.toNat_natCast]
      have cl5 : (cs.getD k []).length ≤ 5000 := sm3 _ (by rw [List.getD_eq_getElem?_getD, List.getElem?_eq_getElem hk]; exact List.getElem_mem hk)
      have eb : chB R ts cs k = (!leadOk R (cs.getD k []) 0 ((k : Int) + 1) || !decide (sumW R (cs.getD k []) = ts.getD k 0)) := rfl
      generalize cs.getD k [] = c at ac cl5 eb
      refine sg_name (by simp) ?_
      walk_at "w"
      refine sx_if (et_val (chB R ts cs k) ?_ ?_)
      · rw [eb]
        walk_at "es"
        refine opd_ixL ac ?_
        walk_at "es"
        refine ⟨R, c, 0, (k : Int) + 1, rfl, ?_⟩
        walk_at "es"
        refine ⟨fun h1 => ?_, fun h1 => ?_⟩
        · rw [h1]; exact ⟨rfl, rfl⟩
        · rw [h1, Bool.false_or]
          have h1 : leadOk R c 0 ((k : Int) + 1) = true := by simpa using h1
          have rg := lead_rng' h1
          walk_at "es"
          refine ex_of (eo_lcP (α := Int) (fun _ => true) (fun i => .int (sW (rl R i.toNat))) (ei_list ?_))
          walk_at "es"
          refine opd_ixL ac ?_
          unfold intsD
          walk_at "es"
          refine ⟨by omega, fun i hi => by simp at hi; subst hi; rfl, fun j hj => sg_name (by simp) ⟨rfl, ?_⟩, ?_⟩
          · have hj := rg j hj
            walk_at "w"
            refine et_yes ⟨rfl, rfl, fun _ => ?_⟩
            walk_at "es"
            refine opd_ixL (rl_at hj.1 hj.2) ?_
            walk_at "es"
            refine opd_ixT (d := .int (rl R j.toNat).2.2) rfl ?_
            exact ⟨rfl, rfl⟩
          rw [sums]
          walk_at "es"
          refine opd_int (by omega) ?_
          walk_at "es"
          exact ⟨rfl, rfl⟩
      refine ⟨fun hb => ?_, fun hb => ?_⟩
      · have e1 : chO R ts cs k = some (.tuple [.str (Str.ofString "chain"), .int (k : Int)]) := by unfold chO; rw [if_pos hb]
        rw [Pu.find_first (by omega) hno2 e1] at z
        walk_at "es"
        exact z
      · refine sx_next ⟨_, by walk_at "le", fun j hj => ?_, rfl⟩
        rcases (show j < k ∨ j = k by omega) with q | q
        · exact hno2 j q
        · rw [q]; unfold chO; rw [if_neg (by rw [hb]; decide)]
    rintro ρ' ⟨hno2, rfl⟩
    rw [rng_size, cl] at hno2
    rw [Pu.find_no hno2] at z
    refine nx_seq ?_
    walk_at "es"
    exact z
end Law_k43
namespace Law_k43
open PySem L2 Pu
local macro_rules | `(tactic| walk_at "e") => `(tactic| first
  | ((with_reducible refine nx_seq ?_); (try dsimp only [List.set_cons_succ, List.set_cons_zero]))
  | ((with_reducible refine ex_vr ?_); dsimp only [VQ, List.set_cons_succ, List.set_cons_zero, List.getElem?_cons_zero, List.getElem?_cons_succ]; (fail_if_success (with_reducible show False)))
  | (with_reducible refine sx_seq ?_)
  | (with_reducible refine sx_if ?_)
  | (with_reducible refine sx_next ?_)
  | (with_reducible refine sx_ret ?_)
  | ((fail_if_success (with_reducible refine sx_asgO (eo_lst ?_))); (with_reducible refine sx_asg ?_))
  | (with_reducible refine ex_int ?_)
  | (with_reducible refine ex_str ?_)
  | (with_reducible refine ex_bl ?_)
  | (with_reducible refine ex_non ?_)
  | (with_reducible refine ex_op ?_)
  | (with_reducible refine ex_un ?_)
  | (with_reducible refine ex_chain ?_)
  | (with_reducible refine ex_call ?_)
  | (with_reducible refine ex_isT ?_)
  | (with_reducible refine ex_cb ?_)
  | (with_reducible refine ex_sl ?_)
  | (with_reducible refine ex_tup ?_)
  | (with_reducible refine ex_if ?_)
  | (with_reducible refine ex_of (eo_lst ?_))
  | (with_reducible refine ex_notV ?_)
  | (with_reducible refine ea_nil ?_)
  | (with_reducible refine ea_cons ?_)
  | (with_reducible refine ep_no ?_)
  | (with_reducible refine ep_some ?_)
  | (with_reducible refine et_test ?_)
  | (with_reducible refine et_B ?_)
  | (with_reducible refine et_ch3 ?_)
  | (with_reducible refine et_and ?_)
  | (with_reducible refine et_or ?_)
  | (with_reducible refine et_not ?_)
  | (with_reducible refine et_yes ?_)
  | (with_reducible refine et_truL ?_)
  | (with_reducible refine opd_plusI ?_)
  | (with_reducible refine opd_I0 ?_)
  | (with_reducible refine opd_B0 ?_)
  | (with_reducible refine opd_eqI ?_)
  | (with_reducible refine opd_neI ?_)
  | (with_reducible refine opd_eqS ?_)
  | (with_reducible refine opd_neS ?_)
  | (with_reducible refine opd_is ?_)
  | (with_reducible refine opd_isnt ?_)
  | (with_reducible refine opd_ixT rfl ?_)
  | (with_reducible refine opd_ixL rfl ?_)
  | (with_reducible refine und_neg ?_)
  | (with_reducible refine cbd_lenL ?_)
  | (with_reducible refine cbd_lenT ?_)
  | (with_reducible refine cbd_min2 ?_)
  | (with_reducible refine cbd_max2 ?_)
  | (with_reducible refine cbd_abs ?_)
  | (with_reducible refine cbd_int ?_)
  | (with_reducible refine cbd_tupL ?_)
  | (with_reducible refine cbd_listL ?_)
  | (with_reducible refine cbd_listT ?_)
  | (with_reducible refine cbd_sum ?_)
  | (with_reducible refine sld_T ?_)
  | (with_reducible refine sld_L ?_)
  | (with_reducible refine ex_revL ?_)
  | (with_reducible refine ex_bmL ?_)
  | (with_reducible refine ex_andV ?_)
  | (with_reducible refine ei_list ?_)
  | (with_reducible refine ei_rng1 ?_)
  | (with_reducible refine ei_rng2 ?_)
  | (with_reducible refine ei_enum ?_)
  | (with_reducible refine ei_enumT ?_)
  | (with_reducible refine ei_zip ?_)
  | (with_reducible refine sx_par ?_)
  | (with_reducible refine Exists.intro _ (And.intro rfl ?_))
  | (with_reducible refine Exists.intro _ (Exists.intro _ (And.intro rfl ?_)))
  | ((with_reducible show EX (tCall (spS _) [] _ (tCons (tVar _) _)) _ _); refine ex_callS rfl ?_)
  | ((with_reducible refine And.intro (show (_ : Nat) ≤ 100000 from ?_) ?_); (focus (simp; done)))
  | ((with_reducible refine opd_I ?_ ?_); focus (first | omega | (show CDiv _ _; exact ⟨by omega, by omega⟩) | (show CMul _ _; first | exact Or.inl ⟨by omega, by omega⟩ | exact Or.inr ⟨by omega, by omega⟩))))
local macro_rules | `(tactic| walk_at "es") => `(tactic| repeat walk_at "e")
local macro_rules | `(tactic| walk_at "w") => `(tactic| try dsimp only [wipeE, List.foldl_cons, List.foldl_nil, List.set_cons_succ, List.set_cons_zero])
local macro_rules | `(tactic| walk_at "le") => `(tactic| repeat' first | exact LeE.nil | (refine LeE.eq rfl ?_) | (refine LeE.emp ?_) | (refine LeE.eq ?_ ?_))
local macro_rules | `(tactic| walk_at "no") => `(tactic| ((refine And.intro (fun hb => absurd hb ?_) (fun _ => ?_)); (focus (first | (exact Bool.false_ne_true) | (simp; done) | (simp; omega) | (simp only [decide_eq_true_eq]; omega)))))
local macro_rules | `(tactic| walk_at "yes") => `(tactic| ((refine And.intro (fun _ => ?_) (fun hb => absurd hb ?_)); (rotate_left); (focus (first | (exact Bool.noConfusion) | (simp; done) | (simp; omega) | (simp only [decide_eq_false_iff_not]; omega)))))
local macro_rules | `(tactic| walk_at "ei") => `(tactic| repeat ((fail_if_success (with_reducible show SX (tSeq (tIfS _ _ _) _) _ _)); (fail_if_success (with_reducible show SX (tIfS _ _ _) _ _)); (fail_if_success (with_reducible show SX (tSeq (tAsg (tIf _ _ _) _) _) _ _)); walk_at "e"))
local macro_rules | `(tactic| walk_at "tv") => `(tactic| repeat' first | walk_at "e" | ((with_reducible show (_ = true → _) ∧ (_ = false → _)); refine And.intro (fun _ => ?_) (fun _ => ?_)))
theorem eqv_intsL : ∀ (xs ys : List Int), PyData.eqvAll (xs.map PyData.int) (ys.map PyData.int) = decide (xs = ys)
  | [], [] => rfl
  | [], _ :: _ => rfl
  | _ :: _, [] => rfl
  | x :: xs, y :: ys => by
    rw [List.map_cons, List.map_cons, PyData.eqvAll, eqv_intsL xs ys]
    have e : PyData.eqv (.int x) (.int y) = decide (x = y) := by
      simp only [PyData.eqv]
      by_cases h : x = y <;> simp [h]
    rw [e]
    by_cases h1 : x = y <;> by_cases h2 : xs = ys <;> simp [h1, h2]
theorem ints_deep (xs : List Int) : (PyData.list (xs.map PyData.int)).depth ≤ 60 := by
  have h : DpN 2 (PyData.list (xs.map PyData.int)) := dpn_list (dpn_map fun x _ => dpn_int)
  exact Nat.le_trans h (by decide)
theorem opd_neL {K : PySem.W.Frag} {xs ys : List Int} {Q : D → Prop} (k : Q (.bool (!decide (xs = ys)))) : OpD (rNeP K) (.list (xs.map .int)) (.list (ys.map .int)) Q := opd_neP (min_l (ints_deep xs)) (by
  have e : PyData.eqv (.list (xs.map PyData.int)) (.list (ys.map PyData.int)) = decide (xs = ys) := eqv_intsL xs ys
  rw [e]; exact k)
theorem eqv_ints (xs ys : List Int) : PyData.eqv (intsD xs) (intsD ys) = decide (xs = ys) := eqv_intsL xs ys
theorem eqv_optL (a b : Option (List Int)) : PyData.eqv (optL a) (optL b) = decide (a = b) := by
  cases a with
  | none =>
    cases b with
    | none => rfl
    | some y => rfl
  | some x =>
    cases b with
    | none => rfl
    | some y =>
      show PyData.eqv (intsD x) (intsD y) = _
      rw [eqv_ints]
      by_cases h : x = y <;> simp [h]
theorem eqv_pair (a c : List Int) (b d : Option (List Int)) : PyData.eqv (.tuple [intsD a, optL b]) (.tuple [intsD c, optL d]) = (decide (a = c) && decide (b = d)) := by
  have e : PyData.eqv (.tuple [intsD a, optL b]) (.tuple [intsD c, optL d]) = (PyData.eqv (intsD a) (intsD c) && (PyData.eqv (optL b) (optL d) && true)) := by simp only [PyData.eqv, PyData.eqvAll]
  rw [e, eqv_ints, eqv_optL, Bool.and_true]
theorem eqv_two (a b c d : List Int) : PyData.eqv (.list [intsD a, intsD b]) (.list [intsD c, intsD d]) = (decide (a = c) && decide (b = d)) := by
  have e : PyData.eqv (.list [intsD a, intsD b]) (.list [intsD c, intsD d]) = (PyData.eqv (intsD a) (intsD c) && (PyData.eqv (intsD b) (intsD d) && true)) := by simp only [PyData.eqv, PyData.eqvAll]
  rw [e, eqv_ints, eqv_ints, Bool.and_true]
/-! ### fixed cues, needless gaps -/
def earTs (ws : List Pr) (gs : List Rw) : List Int := match earF ws gs with
  | .ring xs => xs
  | .times ts _ => ts
theorem ear_one (ws : List Pr) (gs : List Rw) : ∃ w : Str, ∃ more : List D, encT (earF ws gs) = .tuple (.str w :: intsD (earTs ws gs) :: more) := by
  unfold earTs
  cases earF ws gs with
  | ring xs => exact ⟨_, [], rfl⟩
  | times ts cs => exact ⟨_, [chainsD cs], rfl⟩
def fixL (ts hs : List Int) (n : Nat) : List Nat := (List.range n).filter fun k => decide (tm ts k = tm hs k)
def nI (K : List Nat) : List Int := K.map fun k : Nat => (k : Int)
def fixF (ws : List Pr) (gs : List Rw) : Option (List Int) := (latF ws gs).map fun hs => nI (fixL (earTs ws gs) hs ws.length)
def R_fixed : List D → (D → Prop) → Prop := fun ds Z => ∃ (ws : List Pr) (gs : List Rw), ds = [.list (ws.map encP), .list (gs.map encR)] ∧ Sc ws gs ∧ Z (optL (fixF ws gs))
theorem rng_nI (f : Nat → Bool) (n : Nat) : (((rngI 0 n).filter fun k => f k.toNat).map fun k => PyData.int k) = (nI ((List.range n).filter f)).map .int := by
  unfold nI rngI
  rw [List.filter_map, List.map_map, List.map_map]
  refine (List.map_congr_left fun k _ => ?_).trans (congrArg _ (List.filter_congr fun k _ => ?_))
  · simp only [Function.comp, Int.zero_add]
  · simp only [Function.comp, Int.zero_add, Int.toNat_natCast]
theorem ear_lat {ws : List Pr} {gs : List Rw} (h : Sc ws gs) {hs : List Int} (hl : latF ws gs = some hs) : hs.length = ws.length ∧ (earTs ws gs).length = ws.length ∧ (∃ cs, earF ws gs = .times (earTs ws gs) cs) ∧ earTs ws gs = lowsF ws gs ∧ hs = highsF ws gs ∧ everyF ws gs ≠ [] := by
  rcases lat_cases h with ⟨c, e, _⟩ | ⟨ts, e, _, _, m1, m2, m3⟩
  · rw [hl] at e; cases e
  · rw [hl] at e
    cases e
    have ne : everyF ws gs ≠ [] := fun q => by rw [q] at m1; cases m1
    rcases ear_cases h with ⟨xs, c, _, _, q, _⟩ | ⟨us, cs, e1, _, u1, u2, u3, _⟩
    · exact absurd q ne
    · have e2 : earTs ws gs = us := by unfold earTs; rw [e1]
      rw [e2]
      exact ⟨m3, u3, ⟨cs, e1⟩, (lows_is u1 u2 u3).symm, (highs_is m1 m2 m3).symm, ne⟩
theorem sx_fixed_cues (K : PySem.W.Frag) (ds : List D) (Z : D → Prop) (h : R_fixed ds Z) : SX (T_fixed_cues K R_ear R_lat) (startE N_fixed_cues ds) { nx := fun _ => Z .none, rt := fun d _ => Z d } := by
  obtain ⟨ws, gs, rfl, sc, z⟩ := h
  show SX (T_fixed_cues K R_ear R_lat) [.val (.list (ws.map encP)), .val (.list (gs.map encR)), .emp, .emp, .emp] _
  unfold T_fixed_cues
  refine sx_seq (sx_asgT (J := [2, 3]) (ex_tup ?_))
  walk_at "es"
  refine ⟨ws, gs, rfl, sc, ?_⟩
  walk_at "es"
  refine ⟨ws, gs, rfl, sc, ?_⟩
  walk_at "es"
  refine sg_tup rfl (sgs_cons (sg_name (by simp) (sgs_cons (sg_name (by simp) (sgs_nil ?_)))))
  walk_at "w"
  refine nx_seq ?_
  unfold fixF at z
  cases hl : latF ws gs with
  | none =>
    rw [hl] at z
    refine sx_seq (sx_if (et_val true ?_ ?_))
    · walk_at "es"
      exact ⟨rfl, rfl⟩
    walk_at "yes"
    walk_at "es"
    exact z
  | some hs =>
    rw [hl] at z
    obtain ⟨l1, l2, ⟨cs, e1⟩, _⟩ := ear_lat sc hl
    rw [e1]
    generalize earTs ws gs = ts at l2 z
    unfold encT optL intsD
    refine sx_seq (sx_if (et_val false ?_ ?_))
    · walk_at "es"
      exact ⟨rfl, rfl⟩
    walk_at "no"
    refine sx_next (nx_seq ?_)
    refine sx_ret (ex_of (eo_lcP (α := Int) (fun k => decide (tm ts k.toNat = tm hs k.toNat)) (fun k => .int k) (ei_rng1 ?_)))
    walk_at "es"
    rw [List.length_map, Int.toNat_natCast]
    have n4 := sc.n4
    refine ⟨by omega, rngI 0 ws.length, _, rfl, by rw [rngI_len]; omega, fun i hi => by simp at hi; subst hi; rfl, fun x hx => sg_name (by simp) ⟨rfl, ?_⟩, ?_⟩
    · have hx := rngI_mem.mp hx
      obtain ⟨k, rfl⟩ : ∃ k : Nat, x = (k : Int) := ⟨x.toNat, by omega⟩
      rw [Int.toNat_natCast]
      walk_at "w"
      walk_at "es"
      refine opd_int (by omega) ?_
      walk_at "es"
      refine opd_int (by omega) ?_
      walk_at "es"
      refine ⟨rfl, rfl, fun _ => ?_⟩
      walk_at "es"
      exact ⟨rfl, rfl⟩
    rw [rng_nI fun k => decide (tm ts k = tm hs k)]
    exact z
def rest (gs : List Rw) (k : Nat) : List Rw := gs.take k ++ gs.drop (k + 1)
def neB (ws : List Pr) (gs : List Rw) (k : Nat) : Bool := (latF ws gs).isSome && (decide (earTs ws (rest gs k) = earTs ws gs) && decide (latF ws (rest gs k) = latF ws gs))
def neF (ws : List Pr) (gs : List Rw) (n : Nat) : List Int := nI ((List.range n).filter (neB ws gs))
theorem ne_snoc (ws : List Pr) (gs : List Rw) (n : Nat) : neF ws gs (n + 1) = if neB ws gs n = true then neF ws gs n ++ [(n : Int)] else neF ws gs n := by
  unfold neF nI
  rw [List.range_succ, List.filter_append, List.map_append]
  by_cases h : neB ws gs n = true
  · rw [if_pos h]; simp [h]
  · rw [if_neg h]; simp [h]
def R_need : List D → (D → Prop) → Prop := fun ds Z => ∃ (ws : List Pr) (gs : List Rw), ds = [.list (ws.map encP), .list (gs.map encR)] ∧ Sc ws gs ∧ Z (intsD (neF ws gs gs.length))
theorem rest_cut (gs : List Rw) (k : Nat) : cutD (gs.map encR) none (some (k : Int)) ++ cutD (gs.map encR) (some ((k : Int) + 1)) none = (rest gs k).map encR := by
  rw [cut_n, show ((k : Int) + 1) = ((k + 1 : Nat) : Int) by omega, cut_drop, rest, List.map_append]
theorem ne_len (ws : List Pr) (gs : List Rw) (n : Nat) : (neF ws gs n).length ≤ n := by
  unfold neF nI
  rw [List.length_map]
  have := List.length_filter_le (neB ws gs) (List.range n)
  rw [List.length_range] at this
  exact this
theorem pair_deep (a : List Int) (b : Option (List Int)) : (PyData.tuple [intsD a, optL b]).depth ≤ 60 := by
  have hb : DpN 2 (optL b) := by
    cases b with
    | none => exact dpn_non
    | some x => exact dpn_list (dpn_map fun x _ => dpn_int)
  have h : DpN 3 (PyData.tuple [intsD a, optL b]) := dpn_tup (dpn_cons (dpn_list (dpn_map fun x _ => dpn_int)) (dpn_cons hb dpn_nil))
  exact Nat.le_trans h (by decide)
theorem isN_L (o : Option (List Int)) : isN (optL o) = o.isNone := by cases o <;> rfl
theorem at_one (a b : D) (m : List D) : atI (a :: b :: m) 1 = some b := by
  have h := atI_in (xs := a :: b :: m) (k := 1) (by omega) (by simp only [List.length_cons]; omega)
  rw [h]
  rfl
theorem sx_needless_gaps (K : PySem.W.Frag) (ds : List D) (Z : D → Prop) (h : R_need ds Z) : SX (T_needless_gaps K R_lat R_ear) (startE N_needless_gaps ds) { nx := fun _ => Z .none, rt := fun d _ => Z d } := by
  obtain ⟨ws, gs, rfl, sc, z⟩ := h
  show SX (T_needless_gaps K R_lat R_ear) [.val (.list (ws.map encP)), .val (.list (gs.map encR)), .emp, .emp, .emp, .emp] _
  unfold T_needless_gaps
  obtain ⟨w0, m0, e0⟩ := ear_one ws gs
  refine sx_seq (sx_asg ?_)
  walk_at "es"
  refine ⟨ws, gs, rfl, sc, ?_⟩
  rw [e0]
  walk_at "es"
  refine opd_ixT (at_one _ _ _) ?_
  walk_at "es"
  refine ⟨ws, gs, rfl, sc, ?_⟩
  walk_at "es"
  refine sx_asgO (eo_lst ?_)
  walk_at "es"
  walk_at "w"
  refine sx_for (J := [4]) (ei_rng1 ?_)
  walk_at "es"
  rw [List.length_map, Int.toNat_natCast]
  have g5 := sc.g5
  refine ⟨by omega, fun k ρ' => ρ' = [.val (.list (ws.map encP)), .val (.list (gs.map encR)), .val (.tuple [intsD (earTs ws gs), optL (latF ws gs)]), .own ((neF ws gs k).map .int), .emp, .emp], rfl, ?_, ?_⟩
  · rintro k dd ρ' hd0 rfl
    obtain ⟨hk, rfl⟩ := rng_at hd0
    rw [Int.zero_add]
    have sr := sc_rest sc k
    have er : gs.take k ++ gs.drop (k + 1) = rest gs k := rfl
    rw [er] at sr
    have nl := ne_len ws gs k
    have sn := ne_snoc ws gs k
    obtain ⟨w1, m1, e1⟩ := ear_one ws (rest gs k)
    refine sg_name (by simp) ?_
    walk_at "w"
    walk_at "es"
    refine opd_plusL (by have := cut_n encR gs k; rw [this, show ((k : Int) + 1) = ((k + 1 : Nat) : Int) by omega, cut_drop]; simp only [List.length_map, List.length_take, List.length_drop]; omega) ?_
    rw [rest_cut]
    refine nx_seq ?_
    walk_at "w"
    refine sx_if (et_val (neB ws gs k) ?_ ?_)
    · unfold neB
      walk_at "es"
      rw [isN_L]
      cases hl : latF ws gs with
      | none => exact ⟨(fun q => by cases q), fun _ => ⟨rfl, rfl⟩⟩
      | some hs =>
        refine ⟨fun _ => ?_, (fun q => by cases q)⟩
        walk_at "es"
        refine ⟨ws, rest gs k, rfl, sr, ?_⟩
        rw [e1]
        walk_at "es"
        refine opd_ixT (at_one _ _ _) ?_
        walk_at "es"
        refine ⟨ws, rest gs k, rfl, sr, ?_⟩
        walk_at "es"
        refine opd_eqP (min_l (pair_deep _ _)) ?_
        rw [eqv_pair]
        exact ⟨_, rfl, rfl, rfl⟩
    refine ⟨fun hb => ?_, fun hb => ?_⟩
    · rw [if_pos hb] at sn
      refine sx_app rfl ?_
      walk_at "es"
      refine ⟨by rw [List.length_map]; omega, ?_⟩
      walk_at "w"
      refine ⟨_, ?_, rfl⟩
      rw [sn, List.map_append]
      walk_at "le"
    · rw [if_neg (by rw [hb]; decide)] at sn
      refine sx_next ⟨_, ?_, rfl⟩
      rw [sn]
      walk_at "le"
  rintro ρ' rfl
  rw [rng_size]
  refine nx_seq (sx_freeze 3 rfl ?_)
  walk_at "es"
  exact z
end Law_k43
namespace Law_k43
open PySem L2 Pu
local macro_rules | `(tactic| walk_at "e") => `(tactic| first
  | ((with_reducible refine nx_seq ?_); (try dsimp only [List.set_cons_succ, List.set_cons_zero]))
  | ((with_reducible refine ex_vr ?_); dsimp only [VQ, List.set_cons_succ, List.set_cons_zero, List.getElem?_cons_zero, List.getElem?_cons_succ]; (fail_if_success (with_reducible show False)))
  | (with_reducible refine sx_seq ?_)
  | (with_reducible refine sx_if ?_)
  | (with_reducible refine sx_next ?_)
  | (with_reducible refine sx_ret ?_)
  | ((fail_if_success (with_reducible refine sx_asgO (eo_lst ?_))); (with_reducible refine sx_asg ?_))
  | (with_reducible refine ex_int ?_)
  | (with_reducible refine ex_str ?_)
  | (with_reducible refine ex_bl ?_)
  | (with_reducible refine ex_non ?_)
  | (with_reducible refine ex_op ?_)
  | (with_reducible refine ex_un ?_)
  | (with_reducible refine ex_chain ?_)
  | (with_reducible refine ex_call ?_)
  | (with_reducible refine ex_isT ?_)
  | (with_reducible refine ex_cb ?_)
  | (with_reducible refine ex_sl ?_)
  | (with_reducible refine ex_tup ?_)
  | (with_reducible refine ex_if ?_)
  | (with_reducible refine ex_of (eo_lst ?_))
  | (with_reducible refine ex_notV ?_)
  | (with_reducible refine ea_nil ?_)
  | (with_reducible refine ea_cons ?_)
  | (with_reducible refine ep_no ?_)
  | (with_reducible refine ep_some ?_)
  | (with_reducible refine et_test ?_)
  | (with_reducible refine et_B ?_)
  | (with_reducible refine et_ch3 ?_)
  | (with_reducible refine et_and ?_)
  | (with_reducible refine et_or ?_)
  | (with_reducible refine et_not ?_)
  | (with_reducible refine et_yes ?_)
  | (with_reducible refine et_truL ?_)
  | (with_reducible refine opd_plusI ?_)
  | (with_reducible refine opd_I0 ?_)
  | (with_reducible refine opd_B0 ?_)
  | (with_reducible refine opd_eqI ?_)
  | (with_reducible refine opd_neI ?_)
  | (with_reducible refine opd_eqS ?_)
  | (with_reducible refine opd_neS ?_)
  | (with_reducible refine opd_is ?_)
  | (with_reducible refine opd_isnt ?_)
  | (with_reducible refine opd_ixT rfl ?_)
  | (with_reducible refine opd_ixL rfl ?_)
  | (with_reducible refine und_neg ?_)
  | (with_reducible refine cbd_lenL ?_)
  | (with_reducible refine cbd_lenT ?_)
  | (with_reducible refine cbd_min2 ?_)
  | (with_reducible refine cbd_max2 ?_)
  | (with_reducible refine cbd_abs ?_)
  | (with_reducible refine cbd_int ?_)
  | (with_reducible refine cbd_tupL ?_)
  | (with_reducible refine cbd_listL ?_)
  | (with_reducible refine cbd_listT ?_)
  | (with_reducible refine cbd_sum ?_)
  | (with_reducible refine sld_T ?_)
  | (with_reducible refine sld_L ?_)
  | (with_reducible refine ex_revL ?_)
  | (with_reducible refine ex_bmL ?_)
  | (with_reducible refine ex_andV ?_)
  | (with_reducible refine ei_list ?_)
  | (with_reducible refine ei_rng1 ?_)
  | (with_reducible refine ei_rng2 ?_)
  | (with_reducible refine ei_enum ?_)
  | (with_reducible refine ei_enumT ?_)
  | (with_reducible refine ei_zip ?_)
  | (with_reducible refine sx_par ?_)
  | (with_reducible refine Exists.intro _ (And.intro rfl ?_))
  | (with_reducible refine Exists.intro _ (Exists.intro _ (And.intro rfl ?_)))
  | ((with_reducible show EX (tCall (spS _) [] _ (tCons (tVar _) _)) _ _); refine ex_callS rfl ?_)
  | ((with_reducible refine And.intro (show (_ : Nat) ≤ 100000 from ?_) ?_); (focus (simp; done)))
  | ((with_reducible refine opd_I ?_ ?_); focus (first | omega | (show CDiv _ _; exact ⟨by omega, by omega⟩) | (show CMul _ _; first | exact Or.inl ⟨by omega, by omega⟩ | exact Or.inr ⟨by omega, by omega⟩))))
local macro_rules | `(tactic| walk_at "es") => `(tactic| repeat walk_at "e")
local macro_rules | `(tactic| walk_at "w") => `(tactic| try dsimp only [wipeE, List.foldl_cons, List.foldl_nil, List.set_cons_succ, List.set_cons_zero])
local macro_rules | `(tactic| walk_at "le") => `(tactic| repeat' first | exact LeE.nil | (refine LeE.eq rfl ?_) | (refine LeE.emp ?_) | (refine LeE.eq ?_ ?_))
local macro_rules | `(tactic| walk_at "no") => `(tactic| ((refine And.intro (fun hb => absurd hb ?_) (fun _ => ?_)); (focus (first | (exact Bool.false_ne_true) | (simp; done) | (simp; omega) | (simp only [decide_eq_true_eq]; omega)))))
local macro_rules | `(tactic| walk_at "yes") => `(tactic| ((refine And.intro (fun _ => ?_) (fun hb => absurd hb ?_)); (rotate_left); (focus (first | (exact Bool.noConfusion) | (simp; done) | (simp; omega) | (simp only [decide_eq_false_iff_not]; omega)))))
local macro_rules | `(tactic| walk_at "ei") => `(tactic| repeat ((fail_if_success (with_reducible show SX (tSeq (tIfS _ _ _) _) _ _)); (fail_if_success (with_reducible show SX (tIfS _ _ _) _ _)); (fail_if_success (with_reducible show SX (tSeq (tAsg (tIf _ _ _) _) _) _ _)); walk_at "e"))
local macro_rules | `(tactic| walk_at "tv") => `(tactic| repeat' first | walk_at "e" | ((with_reducible show (_ = true → _) ∧ (_ = false → _)); refine And.intro (fun _ => ?_) (fun _ => ?_)))
/-! ### all times, by the law -/
theorem rows_len {ws : List Pr} (h : ∀ p ∈ ws, 0 ≤ p.1 ∧ p.1 ≤ p.2 ∧ p.1 ≤ 5 ∧ p.2 ≤ 10) : ∀ k, k ≤ ws.length → (rowsK ws k).length ≤ 11 ^ k
  | 0, _ => by simp [rowsK]
  | k + 1, hk => by
    have ih := rows_len h k (by omega)
    have hp : wn ws k ∈ ws := by
      unfold wn
      rw [List.getD_eq_getElem?_getD, List.getElem?_eq_getElem (show k < ws.length by omega)]
      exact List.getElem_mem _
    have b := h _ hp
    unfold rowsK
    rw [List.length_flatMap]
    have key : ∀ l : List (List Int), (l.map fun row => ((rngI (wn ws k).1 ((wn ws k).2 + 1 - (wn ws k).1).toNat).map fun t => row ++ [t]).length).sum ≤ 11 * l.length := by
      intro l
      induction l with
      | nil => simp
      | cons row l ih2 =>
        rw [List.map_cons, List.sum_cons, List.length_cons, List.length_map, rngI_len]
        omega
    have := key (rowsK ws k)
    rw [Nat.pow_succ]
    omega
theorem rows_small {ws : List Pr} {gs : List Rw} (h : Sc ws gs) {k : Nat} (hk : k ≤ ws.length) : (rowsK ws k).length ≤ 14641 := by
  have n4 := h.n4
  refine Nat.le_trans (rows_len h.w k hk) ?_
  exact Nat.le_trans (Nat.pow_le_pow_right (by decide) (show k ≤ 4 by omega)) (by decide)
theorem every_len {ws : List Pr} {gs : List Rw} (h : Sc ws gs) : (everyF ws gs).length ≤ 14641 := by
  unfold everyF
  rw [List.length_map]
  exact Nat.le_trans (List.length_filter_le _ _) (rows_small h (Nat.le_refl _))
def extR (ws : List Pr) (k : Nat) (row : List Int) : List (List Int) := (rngI (wn ws k).1 ((wn ws k).2 + 1 - (wn ws k).1).toNat).map fun t => row ++ [t]
theorem take_snoc' {α : Type} {xs : List α} {k : Nat} {x : α} (h : xs[k]? = some x) : xs.take (k + 1) = xs.take k ++ [x] := by
  rw [List.take_add_one, h]; rfl
theorem part_len {ws : List Pr} {k j : Nat} : (((rowsK ws k).take j).flatMap (extR ws k)).length ≤ (rowsK ws (k + 1)).length := by
  show _ ≤ ((rowsK ws k).flatMap (extR ws k)).length
  conv => rhs; rw [← List.take_append_drop j (rowsK ws k), List.flatMap_append, List.length_append]
  omega
def R_all : List D → (D → Prop) → Prop := fun ds Z => ∃ (ws : List Pr) (gs : List Rw), ds = [.list (ws.map encP), .list (gs.map encR)] ∧ Sc ws gs ∧ Z (.list ((everyF ws gs).map intsD))
theorem sx_l_all (K : PySem.W.Frag) (ds : List D) (Z : D → Prop) (h : R_all ds Z) : SX (T_l_all K) (startE N_l_all ds) { nx := fun _ => Z .none, rt := fun d _ => Z d } := by
  obtain ⟨ws, gs, rfl, sc, z⟩ := h
  show SX (T_l_all K) [.val (.list (ws.map encP)), .val (.list (gs.map encR)), .emp, .emp, .emp, .emp, .emp, .emp, .emp, .emp] _
  unfold T_l_all
  have n4 := sc.n4
  have g5 := sc.g5
  refine sx_seq (sx_asg (ex_of (eo_lst ?_)))
  walk_at "es"
  walk_at "w"
  refine sx_for (J := [3, 4]) (ei_list ?_)
  walk_at "es"
  refine ⟨fun k ρ' => ρ' = [.val (.list (ws.map encP)), .val (.list (gs.map encR)), .val (.list ((rowsK ws k).map intsD)), .emp, .emp, .emp, .emp, .emp, .emp, .emp], rfl, ?_, ?_⟩
  · rintro k dd ρ' hd0 rfl
    obtain ⟨p, hp, rfl⟩ := map_at hd0
    have hk := (List.getElem?_eq_some_iff.mp hp).1
    have ep := wn_at hp
    have bp := sc.w p (List.mem_of_getElem? hp)
    have sm := rows_small sc (k := k) (by omega)
    have sm2 := rows_small sc (k := k + 1) (by omega)
    refine sg_tup rfl (sgs_cons (sg_name (by simp) (sgs_cons (sg_name (by simp) (sgs_nil ?_)))))
    walk_at "w"
    refine sx_seq (sx_asg (ex_of (eo_lst ?_)))
    walk_at "es"
    refine sx_for (J := [6]) (ei_list ?_)
    walk_at "es"
    refine ⟨fun j ρ' => ρ' = [.val (.list (ws.map encP)), .val (.list (gs.map encR)), .val (.list ((rowsK ws k).map intsD)), .val (.int p.1), .val (.int p.2), .val (.list ((((rowsK ws k).take j).flatMap (extR ws k)).map intsD)), .emp, .emp, .emp, .emp], rfl, ?_, ?_⟩
    · rintro j dd ρ' hd0 rfl
      obtain ⟨row, hrow, rfl⟩ := map_at hd0
      have pl := part_len (ws := ws) (k := k) (j := j)
      obtain ⟨us, eu, ul, _⟩ := (rows_mem k row).mp (List.mem_of_getElem? hrow)
      have rl : row.length = k + 1 := by rw [eu, List.length_cons, ul]
      refine sg_name (by simp) ?_
      unfold intsD
      walk_at "w"
      walk_at "es"
      refine ex_of (eo_lcP (α := Int) (fun _ => true) (fun t => intsD (row ++ [t])) (ei_rng2 ?_))
      walk_at "es"
      refine ⟨⟨by omega, by omega, by omega, by omega⟩, rngI p.1 (p.2 + 1 - p.1).toNat, _, rfl, by rw [rngI_len]; omega, fun i hi => by simp at hi; subst hi; rfl, fun t ht => sg_name (by simp) ⟨rfl, ?_⟩, ?_⟩
      · walk_at "w"
        refine et_yes ⟨rfl, rfl, fun _ => ?_⟩
        walk_at "es"
        refine opd_plusL (by rw [List.length_map]; simp; omega) ?_
        refine ⟨?_, rfl⟩
        unfold intsD
        rw [List.map_append]
        rfl
      rw [filt_all]
      refine opd_plusL (by simp only [List.length_map, rngI_len]; omega) ?_
      refine ⟨_, ?_, rfl⟩
      rw [take_snoc' hrow, List.flatMap_append, List.map_append]
      have e : [row].flatMap (extR ws k) = (rngI p.1 (p.2 + 1 - p.1).toNat).map fun t => row ++ [t] := by
        rw [List.flatMap_cons, List.flatMap_nil, List.append_nil, extR, ep]
      rw [e, List.map_map]
      walk_at "le"
    rintro ρ' rfl
    rw [List.length_map, List.take_length]
    refine nx_seq ?_
    walk_at "es"
    exact ⟨_, by walk_at "le", rfl⟩
  rintro ρ' rfl
  rw [List.length_map]
  refine nx_seq ?_
  refine sx_seq (sx_asgO (eo_lst ?_))
  walk_at "es"
  walk_at "w"
  have sm := rows_small sc (k := ws.length) (Nat.le_refl _)
  refine sx_for (J := [6]) (ei_list ?_)
  walk_at "es"
  refine ⟨fun j ρ' => ρ' = [.val (.list (ws.map encP)), .val (.list (gs.map encR)), .val (.list ((rowsK ws ws.length).map intsD)), .emp, .emp, .emp, .emp, .emp, .own (((((rowsK ws ws.length).take j).filter (okG gs)).map List.tail).map intsD), .emp], rfl, ?_, ?_⟩
  · rintro j dd ρ' hd0 rfl
    obtain ⟨row, hrow, rfl⟩ := map_at hd0
    obtain ⟨us, eu, ul, _⟩ := (rows_mem _ row).mp (List.mem_of_getElem? hrow)
    have rl : row.length = ws.length + 1 := by rw [eu, List.length_cons, ul]
    refine sg_name (by simp) ?_
    unfold intsD
    walk_at "w"
    refine sx_if ?_
    walk_at "es"
    refine ex_of (eo_lcP (α := Rw) (gapB row) encR (ei_list ?_))
    walk_at "es"
    refine ⟨by omega, fun i hi => by simp at hi; subst hi; rfl, fun g hg => sg_name (by simp) ⟨rfl, ?_⟩, ?_⟩
    · have bg := sc.g g hg
      walk_at "w"
      walk_at "es"
      refine opd_ixT (d := .int g.2.1) rfl ?_
      walk_at "es"
      refine opd_ixM (f := PyData.int) 0 (by omega) (by omega) ?_
      walk_at "es"
      refine opd_ixT (d := .int g.1) rfl ?_
      walk_at "es"
      refine opd_ixM (f := PyData.int) 0 (by omega) (by omega) ?_
      walk_at "es"
      refine opd_ixT (d := .int g.2.2) rfl ?_
      walk_at "es"
      refine ⟨rfl, rfl, fun _ => ?_⟩
      walk_at "es"
      exact ⟨rfl, rfl⟩
    walk_at "es"
    rw [List.length_map]
    have eg : decide (((gs.filter (gapB row)).length : Int) = 0) = okG gs row := by
      unfold okG
      by_cases c : (gs.filter (gapB row)).length = 0
      · rw [decide_eq_true c, decide_eq_true (by omega)]
      · rw [decide_eq_false c, decide_eq_false (by omega)]
    rw [eg]
    have ln : ((((rowsK ws ws.length).take j).filter (okG gs)).map List.tail).length ≤ 14641 := by
      rw [List.length_map]
      have := List.length_filter_le (okG gs) ((rowsK ws ws.length).take j)
      rw [List.length_take] at this
      omega
    refine ⟨fun hq => ?_, fun hq => ?_⟩
    · refine sx_app rfl ?_
      walk_at "es"
      rw [show cutD (row.map PyData.int) (some 1) none = (row.drop 1).map .int from cut_drop .int _ 1]
      refine ⟨by rw [List.length_map]; omega, ?_⟩
      walk_at "w"
      refine ⟨_, ?_, rfl⟩
      rw [take_snoc' hrow, List.filter_append, show [row].filter (okG gs) = [row] by simp [hq], List.map_append, List.map_append, List.drop_one]
      walk_at "le"
    · refine sx_next ⟨_, ?_, rfl⟩
      rw [take_snoc' hrow, List.filter_append, show [row].filter (okG gs) = [] by simp [hq], List.append_nil]
      walk_at "le"
  rintro ρ' rfl
  rw [List.length_map, List.take_length]
  refine nx_seq (sx_freeze 8 rfl ?_)
  walk_at "es"
  exact z
/-! ### ends -/
def colF (E : List (List Int)) (k : Nat) : List Int := E.map fun ts => tm ts k
def endsD (E : List (List Int)) (n : Nat) : D := if E = [] then .none else .list [intsD ((List.range n).map fun k => foldMin (colF E k)), intsD ((List.range n).map fun k => foldMax (colF E k))]
def R_ends : List D → (D → Prop) → Prop := fun ds Z => ∃ (E : List (List Int)) (n : Nat), ds = [.list (E.map intsD)] ∧ E.length ≤ 20000 ∧ n ≤ 10 ∧ (∀ e ∈ E, e.length = n) ∧ Z (endsD E n)
theorem rng_map (f : Nat → Int) (n : Nat) : ((rngI 0 n).map fun k => PyData.int (f k.toNat)) = ((List.range n).map f).map .int := by
  unfold rngI
  rw [List.map_map, List.map_map]
  refine List.map_congr_left fun k _ => ?_
  simp only [Function.comp, Int.zero_add, Int.toNat_natCast]
theorem sx_l_ends (K : PySem.W.Frag) (ds : List D) (Z : D → Prop) (h : R_ends ds Z) : SX (T_l_ends K) (startE N_l_ends ds) { nx := fun _ => Z .none, rt := fun d _ => Z d } := by
  obtain ⟨E, n, rfl, hE, hn, hl, z⟩ := h
  show SX (T_l_ends K) [.val (.list (E.map intsD)), .emp, .emp, .emp] _
  unfold T_l_ends
  unfold endsD at z
  cases E with
  | nil =>
    refine sx_seq (sx_if (et_val true ?_ ?_))
    · walk_at "es"
      refine opd_eqP (Nat.le_trans (Nat.min_le_right _ _) (by decide)) ?_
      exact ⟨_, rfl, rfl, rfl⟩
    walk_at "yes"
    walk_at "es"
    exact z
  | cons e0 E0 =>
    rw [if_neg (by simp)] at z
    have a0 : atI ((e0 :: E0).map intsD) 0 = some (.list (e0.map .int)) := atI_map (f := intsD) [] (by omega) (by simp)
    have l0 : e0.length = n := hl e0 (by simp)
    generalize hEE : e0 :: E0 = E at hE hl z a0
    have hne : 0 < E.length := by rw [← hEE]; simp
    refine sx_seq (sx_if (et_val false ?_ ?_))
    · walk_at "es"
      refine opd_eqP (Nat.le_trans (Nat.min_le_right _ _) (by decide)) ?_
      rw [eqv_nilL, ← hEE]
      exact ⟨_, rfl, rfl, rfl⟩
    walk_at "no"
    refine sx_next (nx_seq ?_)
    have col : ∀ (k : Nat) (s1 : Slot) (Q : List D → Pu.Env → Prop), k < n → Q ((colF E k).map .int) [.val (.list (E.map intsD)), s1, .emp, .val (.int (k : Int))] → EO (tLc (iList K (tVar 0)) (gName 2) tYes (tOp (rIxA K) (tVar 2) (tVar 3)) [2]) [.val (.list (E.map intsD)), s1, .emp, .val (.int (k : Int))] Q := by
      intro k s1 Q hk hQ
      refine eo_lcP (α := List Int) (fun _ => true) (fun ts => .int (tm ts k)) (ei_list ?_)
      refine ex_var rfl ⟨_, rfl, ?_⟩
      refine ⟨E, intsD, rfl, by omega, fun i hi => by simp at hi; subst hi; rfl, fun ts hts => sg_name (by simp) ⟨rfl, ?_⟩, ?_⟩
      · have := hl ts hts
        unfold intsD
        walk_at "w"
        refine et_yes ⟨rfl, rfl, fun _ => ?_⟩
        walk_at "es"
        refine opd_int (by omega) ?_
        exact ⟨rfl, rfl⟩
      · rw [filt_all, show E.map (fun ts => PyData.int (tm ts k)) = (colF E k).map .int by unfold colF; rw [List.map_map]; rfl]
        exact hQ
    refine sx_seq (sx_asg (ex_of (eo_lcP (α := Int) (fun _ => true) (fun k => .int (foldMin (colF E k.toNat))) (ei_rng1 ?_))))
    walk_at "es"
    refine opd_ixL a0 ?_
    walk_at "es"
    rw [List.length_map, l0, Int.toNat_natCast]
    refine ⟨by omega, rngI 0 n, _, rfl, by rw [rngI_len]; omega, fun i hi => by simp at hi; subst hi; rfl, fun x hx => sg_name (by simp) ⟨rfl, ?_⟩, ?_⟩
    · have hx := rngI_mem.mp hx
      obtain ⟨k, rfl⟩ : ∃ k : Nat, x = (k : Int) := ⟨x.toNat, by omega⟩
      rw [Int.toNat_natCast]
      walk_at "w"
      refine et_yes ⟨rfl, rfl, fun _ => ?_⟩
      walk_at "es"
      refine ex_of (col k .emp _ (by omega) ?_)
      walk_at "es"
      refine cbd_minI (by unfold colF; rw [List.length_map]; exact hne) ?_
      exact ⟨rfl, rfl⟩
    rw [filt_all, rng_map fun k => foldMin (colF E k)]
    refine nx_seq ?_
    walk_at "w"
    walk_at "es"
    refine ex_of (eo_lcP (α := Int) (fun _ => true) (fun k => .int (foldMax (colF E k.toNat))) (ei_rng1 ?_))
    walk_at "es"
    refine opd_ixL a0 ?_
    walk_at "es"
    rw [List.length_map, l0, Int.toNat_natCast]
    refine ⟨by omega, rngI 0 n, _, rfl, by rw [rngI_len]; omega, fun i hi => by simp at hi; subst hi; rfl, fun x hx => sg_name (by simp) ⟨rfl, ?_⟩, ?_⟩
    · have hx := rngI_mem.mp hx
      obtain ⟨k, rfl⟩ : ∃ k : Nat, x = (k : Int) := ⟨x.toNat, by omega⟩
      rw [Int.toNat_natCast]
      walk_at "w"
      refine et_yes ⟨rfl, rfl, fun _ => ?_⟩
      walk_at "es"
      refine ex_of (col k _ _ (by omega) ?_)
      walk_at "es"
      refine cbd_maxI (by unfold colF; rw [List.length_map]; exact hne) ?_
      exact ⟨rfl, rfl⟩
    rw [filt_all, rng_map fun k => foldMax (colF E k)]
    walk_at "es"
    exact z
/-! ### bent rows -/
def R_bent : Stt → List D → (D → Stt → Prop) → Prop := fun S ds Z => ∃ (ns xs : List Int) (size : Int), ds = [.list (ns.map .int), intsD xs, .int size] ∧ (1 ≤ size ∧ size < 1000000) ∧ xs.length ≤ 4000 ∧ Ok2 S ∧ ∀ (ys : List Int) (S' : Stt), ys.length ≤ xs.length + 1 → Ok2 S' → Z (intsD ys) S'
theorem sx_l_bent (K : PySem.W.Frag) (S : Stt) (ds : List D) (Z : D → Stt → Prop) (h : R_bent S ds Z) :
    SX (T_l_bent K R_draw) (.st S :: (ds.map .val ++ List.replicate (N_l_bent.length - (ds.length + 1)) .emp)) { nx := fun ρ' => ∃ S', ρ'[0]? = some (.st S') ∧ Z .none S', rt := fun d ρ' => ∃ S', ρ'[0]? = some (.st S') ∧ Z d S' } := by
  obtain ⟨ns, xs, size, rfl, hs, hx, ok, z⟩ := h
  show SX (T_l_bent K R_draw) [.st S, .val (.list (ns.map .int)), .val (.list (xs.map .int)), .val (.int size), .emp, .emp] _
  unfold T_l_bent
  refine sx_seq (sx_asgO (eo_cb ?_))
  walk_at "es"
  refine cbo_listL ?_
  refine nx_seq ?_
  walk_at "w"
  refine sx_seq (sx_if (et_val xs.isEmpty ?_ ?_))
  · refine et_test (ex_lend 4 rfl ?_)
    walk_at "w"
    walk_at "es"
    refine opd_eqP (Nat.le_trans (Nat.min_le_right _ _) (by decide)) ?_
    rw [eqv_nilL, List.isEmpty_map]
    exact ⟨rfl, rfl, _, rfl, rfl, rfl⟩
  refine ⟨fun hq => ?_, fun hq => ?_⟩
  · walk_at "es"
    refine ⟨ns, size, rfl, by omega, ok, fun r S' r0 r1 ok' => ?_⟩
    walk_at "es"
    exact ⟨S', rfl, z [r] S' (by simp) ok'⟩
  have hne : xs ≠ [] := by intro e; rw [e] at hq; cases hq
  have hpos := List.length_pos_iff.mpr hne
  refine sx_next (nx_seq ?_)
  refine sx_seq (sx_asg (ex_callS rfl ?_))
  refine ea_cons (ex_var rfl (ea_cons (ex_lenO rfl (ea_nil ?_))))
  rw [List.length_map]
  refine ⟨_, rfl, ?_⟩
  refine ⟨ns, (xs.length : Int), rfl, by omega, ok, fun at_ S1 a0 a1 ok1 => ?_⟩
  refine nx_seq ?_
  walk_at "w"
  obtain ⟨a, rfl⟩ : ∃ a : Nat, at_ = (a : Int) := ⟨at_.toNat, by omega⟩
  refine sx_seq (sx_if ?_)
  walk_at "es"
  refine ⟨ns, 3, rfl, by omega, ok1, fun r S2 r0 r1 ok2 => ?_⟩
  walk_at "es"
  refine ⟨fun hq => ?_, fun hq => ?_⟩
  · refine sx_freeze 4 rfl ?_
    walk_at "w"
    walk_at "es"
    refine opd_plusL (by rw [cut_n, show ((a : Int) + 1) = ((a + 1 : Nat) : Int) by omega, cut_drop]; simp only [List.length_map, List.length_take, List.length_drop]; omega) ?_
    rw [cut_n, show ((a : Int) + 1) = ((a + 1 : Nat) : Int) by omega, cut_drop, ← List.map_append]
    exact ⟨S2, rfl, z _ S2 (by simp only [List.length_append, List.length_take, List.length_drop]; omega) ok2⟩
  · refine sx_next (nx_seq ?_)
    have ax : atI (xs.map PyData.int) (a : Int) = some (.int (xs.getD a 0)) := by rw [atI_map 0 (by omega) (by omega), Int.toNat_natCast]
    refine sx_seq (sx_setO (es := xs.map .int) (ex_op (ex_op (ex_ixO rfl ?_))))
    walk_at "es"
    refine ⟨_, _, _, rfl, rfl, ax, ?_⟩
    walk_at "es"
    refine ⟨ns, 2, rfl, by omega, ok2, fun r2 S3 r20 r21 ok3 => ?_⟩
    walk_at "es"
    refine ⟨rfl, ?_⟩
    walk_at "es"
    refine ⟨_, _, a, rfl, rfl, ixN_nat (by rw [List.length_map]; omega), ?_⟩
    rw [show (xs.map PyData.int).set a (.int (xs.getD a 0 + 1 - 2 * r2)) = (xs.set a (xs.getD a 0 + 1 - 2 * r2)).map .int by rw [List.map_set]]
    refine nx_seq (sx_freeze 4 rfl ?_)
    walk_at "w"
    walk_at "es"
    exact z _ S3 (by rw [List.length_set]; omega) ok3
end Law_k43
namespace Law_k43
open PySem L2 Pu
local macro_rules | `(tactic| walk_at "e") => `(tactic| first
  | ((with_reducible refine nx_seq ?_); (try dsimp only [List.set_cons_succ, List.set_cons_zero]))
  | ((with_reducible refine ex_vr ?_); dsimp only [VQ, List.set_cons_succ, List.set_cons_zero, List.getElem?_cons_zero, List.getElem?_cons_succ]; (fail_if_success (with_reducible show False)))
  | (with_reducible refine sx_seq ?_)
  | (with_reducible refine sx_if ?_)
  | (with_reducible refine sx_next ?_)
  | (with_reducible refine sx_ret ?_)
  | ((fail_if_success (with_reducible refine sx_asgO (eo_lst ?_))); (with_reducible refine sx_asg ?_))
  | (with_reducible refine ex_int ?_)
  | (with_reducible refine ex_str ?_)
  | (with_reducible refine ex_bl ?_)
  | (with_reducible refine ex_non ?_)
  | (with_reducible refine ex_op ?_)
  | (with_reducible refine ex_un ?_)
  | (with_reducible refine ex_chain ?_)
  | (with_reducible refine ex_call ?_)
  | (with_reducible refine ex_isT ?_)
  | (with_reducible refine ex_cb ?_)
  | (with_reducible refine ex_sl ?_)
  | (with_reducible refine ex_tup ?_)
  | (with_reducible refine ex_if ?_)
  | (with_reducible refine ex_of (eo_lst ?_))
  | (with_reducible refine ex_notV ?_)
  | (with_reducible refine ea_nil ?_)
  | (with_reducible refine ea_cons ?_)
  | (with_reducible refine ep_no ?_)
  | (with_reducible refine ep_some ?_)
  | (with_reducible refine et_test ?_)
  | (with_reducible refine et_B ?_)
  | (with_reducible refine et_ch3 ?_)
  | (with_reducible refine et_and ?_)
  | (with_reducible refine et_or ?_)
  | (with_reducible refine et_not ?_)
  | (with_reducible refine et_yes ?_)
  | (with_reducible refine et_truL ?_)
  | (with_reducible refine opd_plusI ?_)
  | (with_reducible refine opd_I0 ?_)
  | (with_reducible refine opd_B0 ?_)
  | (with_reducible refine opd_eqI ?_)
  | (with_reducible refine opd_neI ?_)
  | (with_reducible refine opd_eqS ?_)
  | (with_reducible refine opd_neS ?_)
  | (with_reducible refine opd_is ?_)
  | (with_reducible refine opd_isnt ?_)
  | (with_reducible refine opd_ixT rfl ?_)
  | (with_reducible refine opd_ixL rfl ?_)
  | (with_reducible refine und_neg ?_)
  | (with_reducible refine cbd_lenL ?_)
  | (with_reducible refine cbd_lenT ?_)
  | (with_reducible refine cbd_min2 ?_)
  | (with_reducible refine cbd_max2 ?_)
  | (with_reducible refine cbd_abs ?_)
  | (with_reducible refine cbd_int ?_)
  | (with_reducible refine cbd_tupL ?_)
  | (with_reducible refine cbd_listL ?_)
  | (with_reducible refine cbd_listT ?_)
  | (with_reducible refine cbd_sum ?_)
  | (with_reducible refine sld_T ?_)
  | (with_reducible refine sld_L ?_)
  | (with_reducible refine ex_revL ?_)
  | (with_reducible refine ex_bmL ?_)
  | (with_reducible refine ex_andV ?_)
  | (with_reducible refine ei_list ?_)
  | (with_reducible refine ei_rng1 ?_)
  | (with_reducible refine ei_rng2 ?_)
  | (with_reducible refine ei_enum ?_)
  | (with_reducible refine ei_enumT ?_)
  | (with_reducible refine ei_zip ?_)
  | (with_reducible refine sx_par ?_)
  | (with_reducible refine Exists.intro _ (And.intro rfl ?_))
  | (with_reducible refine Exists.intro _ (Exists.intro _ (And.intro rfl ?_)))
  | ((with_reducible show EX (tCall (spS _) [] _ (tCons (tVar _) _)) _ _); refine ex_callS rfl ?_)
  | ((with_reducible refine And.intro (show (_ : Nat) ≤ 100000 from ?_) ?_); (focus (simp; done)))
  | ((with_reducible refine opd_I ?_ ?_); focus (first | omega | (show CDiv _ _; exact ⟨by omega, by omega⟩) | (show CMul _ _; first | exact Or.inl ⟨by omega, by omega⟩ | exact Or.inr ⟨by omega, by omega⟩))))
local macro_rules | `(tactic| walk_at "es") => `(tactic| repeat walk_at "e")
local macro_rules | `(tactic| walk_at "w") => `(tactic| try dsimp only [wipeE, List.foldl_cons, List.foldl_nil, List.set_cons_succ, List.set_cons_zero])
local macro_rules | `(tactic| walk_at "le") => `(tactic| repeat' first | exact LeE.nil | (refine LeE.eq rfl ?_) | (refine LeE.emp ?_) | (refine LeE.eq ?_ ?_))
local macro_rules | `(tactic| walk_at "no") => `(tactic| ((refine And.intro (fun hb => absurd hb ?_) (fun _ => ?_)); (focus (first | (exact Bool.false_ne_true) | (simp; done) | (simp; omega) | (simp only [decide_eq_true_eq]; omega)))))
local macro_rules | `(tactic| walk_at "yes") => `(tactic| ((refine And.intro (fun _ => ?_) (fun hb => absurd hb ?_)); (rotate_left); (focus (first | (exact Bool.noConfusion) | (simp; done) | (simp; omega) | (simp only [decide_eq_false_iff_not]; omega)))))
local macro_rules | `(tactic| walk_at "ei") => `(tactic| repeat ((fail_if_success (with_reducible show SX (tSeq (tIfS _ _ _) _) _ _)); (fail_if_success (with_reducible show SX (tIfS _ _ _) _ _)); (fail_if_success (with_reducible show SX (tSeq (tAsg (tIf _ _ _) _) _) _ _)); walk_at "e"))
local macro_rules | `(tactic| walk_at "tv") => `(tactic| repeat' first | walk_at "e" | ((with_reducible show (_ = true → _) ∧ (_ = false → _)); refine And.intro (fun _ => ?_) (fun _ => ?_)))
/-! ### facts for the law -/
theorem ev_pot (ts : List Int) (x : Nat) : evA ts x = potF ts x := by
  cases x with
  | zero => rfl
  | succ k => rfl
theorem ring_first {R : List Rw} {xs : List Int} {y : Int} (h : leadN R xs y = some y) (hne : xs ≠ []) : ringB R xs = true := by
  cases xs with
  | nil => exact absurd rfl hne
  | cons i xs =>
    have h0 := h
    rw [lead_cons] at h
    split at h
    · rename_i hs
      unfold stepB at hs
      rw [Bool.and_eq_true, decide_eq_true_eq] at hs
      show ((decide (0 ≤ i) && decide (i < (R.length : Int))) && leadOk R (i :: xs) (rl R i.toNat).1 (rl R i.toNat).1) = true
      rw [hs.1, hs.2, Bool.true_and]
      unfold leadOk
      rw [h0]
      simp
    · cases h
theorem fault_ear {ws : List Pr} {gs : List Rw} (h : Sc ws gs) : faultD (rulesF ws gs) ws.length (earF ws gs) = .none := by
  rcases ear_cases h with ⟨xs, c, e, _, _, y, y1, y2, y3, y4⟩ | ⟨ts, cs, e, _, _, _, t1, t2, t3, t4⟩
  · rw [e]
    show ringFD _ xs = _
    unfold ringFD
    rw [if_pos (ring_first y1 y4), if_pos y2]
  · rw [e]
    show timesFD _ _ ts cs = _
    unfold timesFD
    rw [if_pos ⟨t1, t2⟩, Pu.find_no fun k hk => ?_]
    · rw [Pu.find_no fun k hk => ?_]
      obtain ⟨c1, c2, _⟩ := t4 k hk
      unfold chO chB leadOk
      rw [c1, c2]
      simp
    · unfold ruleO ruleB
      rw [ev_pot, ev_pot, if_neg]
      have := t3 k hk
      rw [decide_eq_true_eq]
      omega
theorem small_ear {ws : List Pr} {gs : List Rw} (h : Sc ws gs) : Small (earF ws gs) := by
  have n4 := h.n4
  rcases ear_cases h with ⟨xs, c, e, _, _, y, y1, y2, y3, y4⟩ | ⟨ts, cs, e, _, _, _, t1, t2, t3, t4⟩
  · rw [e]; show xs.length ≤ 5000; omega
  · rw [e]
    refine ⟨by omega, by omega, fun c hc => ?_⟩
    obtain ⟨k, hk⟩ := List.getElem?_of_mem hc
    have hl := (List.getElem?_eq_some_iff.mp hk).1
    have := (t4 k (by omega)).2.2
    rw [List.getD_eq_getElem?_getD, hk] at this
    have : c.length ≤ 1000 := this
    omega
theorem ends_is (ws : List Pr) (gs : List Rw) (hne : everyF ws gs ≠ []) : endsD (everyF ws gs) ws.length = .list [intsD (lowsF ws gs), intsD (highsF ws gs)] := by
  unfold endsD
  rw [if_neg hne]
  rfl
theorem ends_no (ws : List Pr) (gs : List Rw) (he : everyF ws gs = []) : endsD (everyF ws gs) ws.length = .none := by
  unfold endsD
  rw [if_pos he]
theorem every_all {ws : List Pr} {gs : List Rw} (h : Sc ws gs) : ∀ e ∈ everyF ws gs, e.length = ws.length := fun e he => by
  have hg : ∀ g ∈ gs, 0 ≤ g.1 ∧ 0 ≤ g.2.1 := fun g q => by have := h.g g q; omega
  exact ((every_mem hg).mp he).1
theorem rest_some {ws : List Pr} {gs : List Rw} (h : Sc ws gs) {hs : List Int} (hl : latF ws gs = some hs) (k : Nat) : ∃ hr, latF ws (rest gs k) = some hr := by
  obtain ⟨_, _, _, _, _, ne⟩ := ear_lat h hl
  rcases lat_cases (sc_rest h k) with ⟨c, _, _, q⟩ | ⟨ts, e, _⟩
  · cases he : everyF ws gs with
    | nil => exact absurd he ne
    | cons t l =>
      have := every_rest h k (ts := t) (by rw [he]; simp)
      rw [q] at this
      cases this
  · exact ⟨ts, e⟩
theorem ne_lows {ws : List Pr} {gs : List Rw} (h : Sc ws gs) {hs : List Int} (hl : latF ws gs = some hs) (k : Nat) : neB ws gs k = (decide (lowsF ws (rest gs k) = lowsF ws gs) && decide (highsF ws (rest gs k) = highsF ws gs)) := by
  obtain ⟨_, _, _, a1, a2, _⟩ := ear_lat h hl
  obtain ⟨hr, er⟩ := rest_some h hl k
  obtain ⟨_, _, _, b1, b2, _⟩ := ear_lat (sc_rest h k) er
  unfold neB
  rw [hl, er, a1, show earTs ws (rest gs k) = lowsF ws (rest gs k) from b1, a2, show hr = highsF ws (rest gs k) from b2]
  rw [show (some (highsF ws gs)).isSome = true from rfl, Bool.true_and]
  congr 1
  by_cases c : highsF ws (rest gs k) = highsF ws gs
  · rw [c]; simp
  · rw [decide_eq_false c, decide_eq_false (fun q => c (Option.some.inj q))]
theorem ne_no {ws : List Pr} {gs : List Rw} (hl : latF ws gs = none) (n : Nat) : neF ws gs n = [] := by
  unfold neF nI
  rw [List.filter_eq_nil_iff.mpr fun k _ => by unfold neB; rw [hl]; exact Bool.false_ne_true]
  rfl
theorem sh_str {s : Str} (h1 : (PyData.str s).showable = true) (h2 : (PyData.str s).hasDict = false) (h3 : (PyData.str s).shown.length ≤ 2000) : Sh 2000 (.str s) := ⟨h1, h2, h3⟩
theorem sh_fault {R : List Rw} {n : Nat} (t : Told) (hR : R.length ≤ 1000) (hn : n ≤ 1000) : Sh (2 * 2002 + 4) (faultD R n t) := by
  have one : ∀ s : Str, Sh 2000 (.str s) → Sh (2 * 2002 + 4) (.tuple [.str s]) := fun s h => sh_tup (m := 2) (sh_cons h sh_nil) (by simp)
  have two : ∀ (s : Str) (k : Nat), k < 1000 → Sh 2000 (.str s) → Sh (2 * 2002 + 4) (.tuple [.str s, .int (k : Int)]) := fun s k hk h => sh_tup (m := 2) (sh_cons h (sh_cons (sh_int (by omega)) sh_nil)) (by simp)
  cases t with
  | ring xs =>
    show Sh _ (ringFD R xs)
    unfold ringFD
    split
    · split
      · exact sh_non.up (by decide)
      · exact one _ (sh_str (by decide +kernel) (by decide +kernel) (by decide +kernel))
    · exact one _ (sh_str (by decide +kernel) (by decide +kernel) (by decide +kernel))
  | times ts cs =>
    show Sh _ (timesFD R n ts cs)
    unfold timesFD
    split
    · split
      · rename_i d hd
        obtain ⟨k, hk, e⟩ := List.exists_of_findSome?_eq_some hd
        have hk := List.mem_range.mp hk
        unfold ruleO at e
        split at e
        · cases e; exact two _ k (by omega) (sh_str (by decide +kernel) (by decide +kernel) (by decide +kernel))
        · cases e
      · split
        · rename_i d hd
          obtain ⟨k, hk, e⟩ := List.exists_of_findSome?_eq_some hd
          have hk := List.mem_range.mp hk
          unfold chO at e
          split at e
          · cases e; exact two _ k (by omega) (sh_str (by decide +kernel) (by decide +kernel) (by decide +kernel))
          · cases e
        · exact sh_non.up (by decide)
    · exact one _ (sh_str (by decide +kernel) (by decide +kernel) (by decide +kernel))
theorem fault_deep (R : List Rw) (n : Nat) (t : Told) : (faultD R n t).depth ≤ 60 := by
  cases t with
  | ring xs =>
    show (ringFD R xs).depth ≤ 60
    unfold ringFD
    split
    · split <;> decide +kernel
    · decide +kernel
  | times ts cs =>
    show (timesFD R n ts cs).depth ≤ 60
    unfold timesFD
    split
    · split
      · rename_i d hd
        obtain ⟨k, hk, e⟩ := List.exists_of_findSome?_eq_some hd
        unfold ruleO at e
        split at e
        · cases e; simp [PyData.depth, PyData.depthAll]
        · cases e
      · split
        · rename_i d hd
          obtain ⟨k, hk, e⟩ := List.exists_of_findSome?_eq_some hd
          unfold chO at e
          split at e
          · cases e; simp [PyData.depth, PyData.depthAll]
          · cases e
        · decide +kernel
    · decide +kernel
def sceneD (ws : List Pr) (gs : List Rw) : D := .list [.list (ws.map encP), .list (gs.map encR)]
theorem sh_scene {ws : List Pr} {gs : List Rw} (h : Sc ws gs) : Sh (2 * ((5 * (3 * 2002 + 4 + 2) + 4) + 2) + 4) (sceneD ws gs) := by
  have h1 : Sh (5 * (3 * 2002 + 4 + 2) + 4) (.list (ws.map encP)) := sh_list (n := 3 * 2002 + 4) (sh_map fun w hw => (sh_tup (m := 2) (sh_cons (sh_int (by have := h.w w hw; omega)) (sh_cons (sh_int (by have := h.w w hw; omega)) sh_nil)) (by simp)).up (by decide)) (by rw [List.length_map]; have := h.n4; omega)
  have h2 : Sh (5 * (3 * 2002 + 4 + 2) + 4) (.list (gs.map encR)) := sh_list (n := 3 * 2002 + 4) (sh_map fun g hg => sh_tup (m := 3) (sh_cons (sh_int (by have := h.g g hg; have := h.n4; omega)) (sh_cons (sh_int (by have := h.g g hg; have := h.n4; omega)) (sh_cons (sh_int (by have := h.g g hg; omega)) sh_nil))) (by simp)) (by rw [List.length_map]; exact h.g5)
  exact sh_list (m := 2) (sh_cons h1 (sh_cons h2 sh_nil)) (by simp)
theorem deep_scene (ws : List Pr) (gs : List Rw) : (sceneD ws gs).depth ≤ 60 := by
  have h : DpN 4 (sceneD ws gs) := dpn_list (dpn_cons (dpn_list (dpn_map fun x _ => dpn_tup (dpn_cons dpn_int (dpn_cons dpn_int dpn_nil)))) (dpn_cons (dpn_list (dpn_map fun x _ => dpn_tup (dpn_cons dpn_int (dpn_cons dpn_int (dpn_cons dpn_int dpn_nil))))) dpn_nil))
  exact Nat.le_trans h (by decide)
theorem deep_rules (R : List Rw) : (PyData.list (R.map encR)).depth ≤ 60 := by
  have h : DpN 4 (PyData.list (R.map encR)) := dpn_list (dpn_map fun x _ => dpn_tup (dpn_cons dpn_int (dpn_cons dpn_int (dpn_cons dpn_int dpn_nil))))
  exact Nat.le_trans h (by decide)
theorem sh_ints {xs : List Int} (hl : xs.length ≤ 5) (h : ∀ x ∈ xs, x.natAbs < 1000) : Sh (5 * 2002 + 4) (intsD xs) := sh_list (n := 2000) (sh_map fun x hx => sh_int (by have := h x hx; omega)) (by rw [List.length_map]; exact hl)
/-- the law's end: bent things -/
def T_finA (K : PySem.W.Frag) : TS := (tFor (iList K (tVar 16)) (gName 18)
      (tIfS (tTest (tOp (rNeP K) (tCB (rRepr K) (tCons (tCall (spP R_fault) [] E0 (tCons (tVar 2) (tCons (tVar 5) (tCons (tVar 18) tNil)))) tNil)) (tCB (rRepr K) (tCons (tCall (spP R_fault) [] E0 (tCons (tVar 2) (tCons (tVar 5) (tCons (tVar 18) tNil)))) tNil))))
      (tRet (tC (.bl false)))
      tNext))
def T_finB (K : PySem.W.Frag) : TS := (tRet (tOp (rEqP K) (tCB (rRepr K) (tCons (tLst (tCons (tVar 2) (tCons (tVar 5) tNil))) tNil)) (tVar 8)))
theorem sx_fin (K : PySem.W.Frag) (Z : D → Prop) (z : Z (.bool true)) {ns : List Int} {S : Stt} {ws : List Pr} {gs : List Rw} (sc : Sc ws gs) {bents : List Told} (bs : ∀ b ∈ bents, Small b) : SX (T_finA K) [.val (.list (ns.map .int)), .st S, .val (.list (ws.map encP)), .emp, .emp, .val (.list (gs.map encR)), .emp, .emp, .val (.str (sceneD ws gs).shown), .emp, .emp, .emp, .emp, .emp, .emp, .emp, .val (.list (bents.map encT)), .emp, .emp] (({ nx := fun _ => Z .none, rt := fun d _ => Z d } : Po).seq (T_finB K)) := by
  unfold T_finA T_finB
  have n4 := sc.n4
  have rlen := rules_len sc
  refine sx_for (J := [18]) (ei_list ?_)
  walk_at "es"
  refine ⟨fun k ρ' => ρ' = [.val (.list (ns.map .int)), .st S, .val (.list (ws.map encP)), .emp, .emp, .val (.list (gs.map encR)), .emp, .emp, .val (.str (sceneD ws gs).shown), .emp, .emp, .emp, .emp, .emp, .emp, .emp, .val (.list (bents.map encT)), .emp, .emp], rfl, ?_, ?_⟩
  · rintro k dd ρ' hd0 rfl
    obtain ⟨b, hb, rfl⟩ := map_at hd0
    have bt := bs b (List.mem_of_getElem? hb)
    refine sg_name (by simp) ?_
    walk_at "w"
    walk_at "es"
    refine ⟨ws, gs, b, rfl, sc, bt, ?_⟩
    walk_at "es"
    refine cbd_repr (sh_fault b (by omega) (by omega)) (by decide) (fault_deep _ _ b) ?_
    walk_at "es"
    refine ⟨ws, gs, b, rfl, sc, bt, ?_⟩
    walk_at "es"
    refine cbd_repr (sh_fault b (by omega) (by omega)) (by decide) (fault_deep _ _ b) ?_
    walk_at "es"
    walk_at "no"
    walk_at "es"
    exact ⟨_, by walk_at "le", rfl⟩
  rintro ρ' rfl
  refine nx_seq ?_
  walk_at "es"
  refine cbd_repr (sh_scene sc) (by decide) (deep_scene ws gs) ?_
  walk_at "es"
  show Z (.bool (decide ((sceneD ws gs).shown = (sceneD ws gs).shown)))
  rw [decide_eq_true rfl]
  exact z
end Law_k43
namespace Law_k43
open PySem L2 Pu
local macro_rules | `(tactic| walk_at "e") => `(tactic| first
  | ((with_reducible refine nx_seq ?_); (try dsimp only [List.set_cons_succ, List.set_cons_zero]))
  | ((with_reducible refine ex_vr ?_); dsimp only [VQ, List.set_cons_succ, List.set_cons_zero, List.getElem?_cons_zero, List.getElem?_cons_succ]; (fail_if_success (with_reducible show False)))
  | (with_reducible refine sx_seq ?_)
  | (with_reducible refine sx_if ?_)
  | (with_reducible refine sx_next ?_)
  | (with_reducible refine sx_ret ?_)
  | ((fail_if_success (with_reducible refine sx_asgO (eo_lst ?_))); (with_reducible refine sx_asg ?_))
  | (with_reducible refine ex_int ?_)
  | (with_reducible refine ex_str ?_)
  | (with_reducible refine ex_bl ?_)
  | (with_reducible refine ex_non ?_)
  | (with_reducible refine ex_op ?_)
  | (with_reducible refine ex_un ?_)
  | (with_reducible refine ex_chain ?_)
  | (with_reducible refine ex_call ?_)
  | (with_reducible refine ex_isT ?_)
  | (with_reducible refine ex_cb ?_)
  | (with_reducible refine ex_sl ?_)
  | (with_reducible refine ex_tup ?_)
  | (with_reducible refine ex_if ?_)
  | (with_reducible refine ex_of (eo_lst ?_))
  | (with_reducible refine ex_notV ?_)
  | (with_reducible refine ea_nil ?_)
  | (with_reducible refine ea_cons ?_)
  | (with_reducible refine ep_no ?_)
  | (with_reducible refine ep_some ?_)
  | (with_reducible refine et_test ?_)
  | (with_reducible refine et_B ?_)
  | (with_reducible refine et_ch3 ?_)
  | (with_reducible refine et_and ?_)
  | (with_reducible refine et_or ?_)
  | (with_reducible refine et_not ?_)
  | (with_reducible refine et_yes ?_)
  | (with_reducible refine et_truL ?_)
  | (with_reducible refine opd_plusI ?_)
  | (with_reducible refine opd_I0 ?_)
  | (with_reducible refine opd_B0 ?_)
  | (with_reducible refine opd_eqI ?_)
  | (with_reducible refine opd_neI ?_)
  | (with_reducible refine opd_eqS ?_)
  | (with_reducible refine opd_neS ?_)
  | (with_reducible refine opd_is ?_)
  | (with_reducible refine opd_isnt ?_)
  | (with_reducible refine opd_ixT rfl ?_)
  | (with_reducible refine opd_ixL rfl ?_)
  | (with_reducible refine und_neg ?_)
  | (with_reducible refine cbd_lenL ?_)
  | (with_reducible refine cbd_lenT ?_)
  | (with_reducible refine cbd_min2 ?_)
  | (with_reducible refine cbd_max2 ?_)
  | (with_reducible refine cbd_abs ?_)
  | (with_reducible refine cbd_int ?_)
  | (with_reducible refine cbd_tupL ?_)
  | (with_reducible refine cbd_listL ?_)
  | (with_reducible refine cbd_listT ?_)
  | (with_reducible refine cbd_sum ?_)
  | (with_reducible refine sld_T ?_)
  | (with_reducible refine sld_L ?_)
  | (with_reducible refine ex_revL ?_)
  | (with_reducible refine ex_bmL ?_)
  | (with_reducible refine ex_andV ?_)
  | (with_reducible refine ei_list ?_)
  | (with_reducible refine ei_rng1 ?_)
  | (with_reducible refine ei_rng2 ?_)
  | (with_reducible refine ei_enum ?_)
  | (with_reducible refine ei_enumT ?_)
  | (with_reducible refine ei_zip ?_)
  | (with_reducible refine sx_par ?_)
  | (with_reducible refine Exists.intro _ (And.intro rfl ?_))
  | (with_reducible refine Exists.intro _ (Exists.intro _ (And.intro rfl ?_)))
  | ((with_reducible show EX (tCall (spS _) [] _ (tCons (tVar _) _)) _ _); refine ex_callS rfl ?_)
  | ((with_reducible refine And.intro (show (_ : Nat) ≤ 100000 from ?_) ?_); (focus (simp; done)))
  | ((with_reducible refine opd_I ?_ ?_); focus (first | omega | (show CDiv _ _; exact ⟨by omega, by omega⟩) | (show CMul _ _; first | exact Or.inl ⟨by omega, by omega⟩ | exact Or.inr ⟨by omega, by omega⟩))))
local macro_rules | `(tactic| walk_at "es") => `(tactic| repeat walk_at "e")
local macro_rules | `(tactic| walk_at "w") => `(tactic| try dsimp only [wipeE, List.foldl_cons, List.foldl_nil, List.set_cons_succ, List.set_cons_zero])
local macro_rules | `(tactic| walk_at "le") => `(tactic| repeat' first | exact LeE.nil | (refine LeE.eq rfl ?_) | (refine LeE.emp ?_) | (refine LeE.eq ?_ ?_))
local macro_rules | `(tactic| walk_at "no") => `(tactic| ((refine And.intro (fun hb => absurd hb ?_) (fun _ => ?_)); (focus (first | (exact Bool.false_ne_true) | (simp; done) | (simp; omega) | (simp only [decide_eq_true_eq]; omega)))))
local macro_rules | `(tactic| walk_at "yes") => `(tactic| ((refine And.intro (fun _ => ?_) (fun hb => absurd hb ?_)); (rotate_left); (focus (first | (exact Bool.noConfusion) | (simp; done) | (simp; omega) | (simp only [decide_eq_false_iff_not]; omega)))))
local macro_rules | `(tactic| walk_at "ei") => `(tactic| repeat ((fail_if_success (with_reducible show SX (tSeq (tIfS _ _ _) _) _ _)); (fail_if_success (with_reducible show SX (tIfS _ _ _) _ _)); (fail_if_success (with_reducible show SX (tSeq (tAsg (tIf _ _ _) _) _) _ _)); walk_at "e"))
local macro_rules | `(tactic| walk_at "tv") => `(tactic| repeat' first | walk_at "e" | ((with_reducible show (_ = true → _) ∧ (_ = false → _)); refine And.intro (fun _ => ?_) (fun _ => ?_)))
def R_law : List D → (D → Prop) → Prop := fun ds Z => ∃ ns : List Int, ds = [.list (ns.map .int)] ∧ Z (.bool true)
def Wn (p : Pr) : Prop := 0 ≤ p.1 ∧ p.1 ≤ p.2 ∧ p.1 ≤ 5 ∧ p.2 ≤ 10
def Gp (n : Nat) (r : Rw) : Prop := 0 ≤ r.1 ∧ r.1 < n ∧ 0 ≤ r.2.1 ∧ r.2.1 < n ∧ -10 ≤ r.2.2 ∧ r.2.2 ≤ 10
theorem sx_law (K : PySem.W.Frag) (ds : List D) (Z : D → Prop) (h : R_law ds Z) : SX (T_law K R_rules R_all R_ends R_ear R_draw R_rules R_fault R_fault R_need R_lat R_fixed R_bent) (startE N_law ds) { nx := fun _ => Z .none, rt := fun d _ => Z d } := by
  obtain ⟨ns, rfl, z⟩ := h
  show SX (T_law K R_rules R_all R_ends R_ear R_draw R_rules R_fault R_fault R_need R_lat R_fixed R_bent) [.val (.list (ns.map .int)), .emp, .emp, .emp, .emp, .emp, .emp, .emp, .emp, .emp, .emp, .emp, .emp, .emp, .emp, .emp, .emp, .emp, .emp] _
  unfold T_law
  refine sx_seq (sx_asgO (eo_lst (ea_cons (ex_int (ea_cons (ex_int (ea_nil ⟨by simp, ?_⟩)))))))
  refine nx_seq ?_
  refine sx_toTwo (i := 1) (a := 0) (b := 0) (by decide) (by rfl) ?_
  walk_at "w"
  refine sx_seq (sx_asgO (eo_lst ?_))
  walk_at "es"
  refine sx_for (J := [3]) (ei_rng1 ?_)
  walk_at "es"
  refine ⟨ns, 5, rfl, by omega, ⟨by omega, by omega⟩, fun n S3 n0 n1 ok3 => ?_⟩
  walk_at "es"
  refine ⟨by omega, fun k ρ' => ∃ (ws : List Pr) (S : Stt), ws.length = k ∧ (∀ p ∈ ws, Wn p) ∧ Ok2 S ∧ ρ' = [.val (.list (ns.map .int)), .st S, .own (ws.map encP), .emp, .emp, .emp, .emp, .emp, .emp, .emp, .emp, .emp, .emp, .emp, .emp, .emp, .emp, .emp, .emp], ⟨[], S3, rfl, by simp, ok3, rfl⟩, ?_, ?_⟩
  · rintro k dd ρ' hd0 ⟨ws, S, wl, wg, ok, rfl⟩
    obtain ⟨hk, rfl⟩ := rng_at hd0
    refine sg_name (by simp) ?_
    walk_at "w"
    walk_at "es"
    refine ⟨ns, 6, rfl, by omega, ok, fun x S4 x0 x1 ok4 => ?_⟩
    walk_at "es"
    refine sx_app rfl ?_
    walk_at "es"
    refine ⟨ns, 6, rfl, by omega, ok4, fun y S5 y0 y1 ok5 => ?_⟩
    walk_at "es"
    refine ⟨by rw [List.length_map]; omega, ?_⟩
    walk_at "w"
    have wg' : ∀ w ∈ ws ++ [(x, x + y)], Wn w := by
      intro w hw
      rcases List.mem_append.mp hw with hw | hw
      · exact wg w hw
      · rw [List.mem_singleton.mp hw]
        unfold Wn
        simp only
        omega
    refine ⟨_, ?_, ws ++ [(x, x + y)], S5, by simp [wl], wg', ok5, rfl⟩
    rw [List.map_append]
    walk_at "le"
  rintro ρ' ⟨ws, S4, wl, wg, ok4, rfl⟩
  rw [rng_size] at wl
  have n4 : ws.length ≤ 4 := by omega
  refine nx_seq (sx_freeze 2 rfl ?_)
  walk_at "w"
  refine sx_seq (sx_asgO (eo_lst ?_))
  walk_at "es"
  refine sx_for (J := [3]) (ei_rng1 ?_)
  walk_at "es"
  refine ⟨ns, 6, rfl, by omega, ok4, fun m S5 m0 m1 ok5 => ?_⟩
  walk_at "es"
  refine opd_neP (Nat.le_trans (Nat.min_le_right _ _) (by decide)) ?_
  rw [eqv_nilL, List.isEmpty_map]
  walk_at "es"
  refine cbd_intB ?_
  generalize hb : (if (!ws.isEmpty) = true then (1 : Int) else 0) = b1
  have b01 : b1 = 0 ∨ (b1 = 1 ∧ 0 < ws.length) := by
    cases hws : ws with
    | nil => left; rw [hws] at hb; exact hb.symm
    | cons p q => right; rw [hws] at hb; exact ⟨hb.symm, by simp⟩
  have mb : m * b1 ≤ 5 ∧ 0 ≤ m * b1 ∧ (0 < m * b1 → 0 < ws.length) := by
    rcases b01 with e | ⟨e, p⟩
    · rw [e]; omega
    · rw [e]; omega
  refine opd_I (by first | exact Or.inl ⟨by omega, by omega⟩ | exact Or.inr ⟨by omega, by omega⟩) ?_
  generalize m * b1 = mm at mb ⊢
  walk_at "es"
  refine ⟨by omega, fun k ρ' => ∃ (gs : List Rw) (S : Stt), gs.length = k ∧ (∀ r ∈ gs, Gp ws.length r) ∧ Ok2 S ∧ ρ' = [.val (.list (ns.map .int)), .st S, .val (.list (ws.map encP)), .emp, .emp, .own (gs.map encR), .emp, .emp, .emp, .emp, .emp, .emp, .emp, .emp, .emp, .emp, .emp, .emp, .emp], ⟨[], S5, rfl, by simp, ok5, rfl⟩, ?_, ?_⟩
  · rintro k dd ρ' hd0 ⟨gs, S, gl, gg, ok, rfl⟩
    obtain ⟨hk, rfl⟩ := rng_at hd0
    have wp := mb.2.2 (by omega)
    refine sg_name (by simp) ?_
    walk_at "w"
    walk_at "es"
    rw [List.length_map]
    refine ⟨ns, (ws.length : Int), rfl, by omega, ok, fun x S6 x0 x1 ok6 => ?_⟩
    walk_at "es"
    rw [List.length_map]
    refine ⟨ns, (ws.length : Int), rfl, by omega, ok6, fun y S7 y0 y1 ok7 => ?_⟩
    walk_at "es"
    refine sx_app rfl ?_
    walk_at "es"
    refine ⟨ns, 8, rfl, by omega, ok7, fun w S8 w0 w1 ok8 => ?_⟩
    walk_at "es"
    refine cbd_intB ?_
    generalize hc : (if decide (y ≤ x) = true then (1 : Int) else 0) = c1
    have c01 : c1 = 0 ∨ c1 = 1 := by
      by_cases q : y ≤ x
      · rw [decide_eq_true q] at hc; right; exact hc.symm
      · rw [decide_eq_false q] at hc; left; exact hc.symm
    walk_at "es"
    refine ⟨by rw [List.length_map]; omega, ?_⟩
    walk_at "w"
    have gg' : ∀ r ∈ gs ++ [(x, y, w - 4 * c1)], Gp ws.length r := by
      intro r hr
      rcases List.mem_append.mp hr with hr | hr
      · exact gg r hr
      · rw [List.mem_singleton.mp hr]
        unfold Gp
        simp only
        omega
    refine ⟨_, ?_, gs ++ [(x, y, w - 4 * c1)], S8, by simp [gl], gg', ok8, rfl⟩
    rw [List.map_append]
    walk_at "le"
  rintro ρ' ⟨gs, S6, gl, gg, ok6, rfl⟩
  rw [rng_size] at gl
  have g5 : gs.length ≤ 5 := by omega
  have sc : Sc ws gs := ⟨n4, g5, wg, gg⟩
  have rlen := rules_len sc
  refine nx_seq (sx_freeze 5 rfl ?_)
  walk_at "w"
  refine sx_seq (sx_asg (ex_cb (ea_cons (ex_of (eo_lst ?_)))))
  walk_at "es"
  refine cbd_repr (sh_scene sc) (by decide) (deep_scene ws gs) ?_
  refine nx_seq ?_
  walk_at "w"
  walk_at "es"
  refine ⟨ws, gs, rfl, by omega, by omega, ?_⟩
  walk_at "es"
  refine ⟨ws, gs, rfl, sc, ?_⟩
  walk_at "es"
  refine ⟨everyF ws gs, ws.length, rfl, by have := every_len sc; omega, by omega, every_all sc, ?_⟩
  walk_at "es"
  refine ⟨ws, gs, rfl, sc, ?_⟩
  refine nx_seq ?_
  walk_at "w"
  have hfe := fault_ear sc
  have sme := small_ear sc
  rcases lat_cases sc with ⟨c, hlat, _, hev⟩ | ⟨hs, hlat, _⟩
  · -- no times
    obtain ⟨xs, hear, x31, xne⟩ : ∃ xs, earF ws gs = .ring xs ∧ xs.length ≤ 31 ∧ xs ≠ [] := by
      rcases ear_cases sc with ⟨xs, c, e, _, _, y, _, _, y3, y4⟩ | ⟨ts, cs, _, _, m1, _⟩
      · exact ⟨xs, e, y3, y4⟩
      · rw [hev] at m1; cases m1
    have hne := ne_no hlat gs.length
    rw [hear] at hfe sme ⊢
    rw [ends_no ws gs hev]
    refine sx_seq (sx_if (et_val false ?_ ?_))
    · walk_at "es"
      refine ⟨ws, gs, rfl, by omega, by omega, ?_⟩
      walk_at "es"
      refine opd_neSelf (deep_rules _) ⟨_, rfl, (fun q => by cases q), fun _ => ?_⟩
      unfold encT
      walk_at "es"
      refine cbd_intB ?_
      refine opd_ixL (d := .str (Str.ofString "ring")) rfl ?_
      walk_at "es"
      exact ⟨by simp, rfl⟩
    walk_at "no"
    refine sx_next (nx_seq ?_)
    refine sx_seq (sx_if (et_val false ?_ ?_))
    · walk_at "es"
      refine ⟨ws, gs, _, rfl, sc, sme, ?_⟩
      rw [hfe]
      walk_at "es"
      refine ⟨(fun q => by cases q), fun _ => ?_⟩
      walk_at "es"
      refine ⟨ws, gs, _, rfl, sc, sme, ?_⟩
      rw [hfe]
      walk_at "es"
      exact ⟨rfl, rfl⟩
    walk_at "no"
    refine sx_next (nx_seq ?_)
    refine sx_seq (sx_if (et_val false ?_ ?_))
    · walk_at "es"
      exact ⟨(fun q => by cases q), fun _ => ⟨rfl, rfl⟩⟩
    walk_at "no"
    refine sx_next (nx_seq ?_)
    walk_at "es"
    refine sx_asg (ex_of (eo_lst ?_))
    walk_at "ei"
    refine sx_seq (sx_if (et_val false ?_ ?_))
    · walk_at "es"
      exact ⟨rfl, rfl⟩
    walk_at "no"
    refine sx_next (nx_seq ?_)
    refine sx_seq (sx_if (et_val false ?_ ?_))
    · walk_at "es"
      refine ⟨ws, gs, rfl, sc, ?_⟩
      unfold fixF
      rw [hlat]
      walk_at "es"
      show CbD _ [PyData.none] _
      refine cbd_repr sh_non (by decide) (by simp [PyData.depth]) ?_
      walk_at "es"
      refine cbd_repr sh_non (by decide) (by simp [PyData.depth]) ?_
      walk_at "es"
      refine ⟨(fun q => by simp at q), fun _ => ?_⟩
      walk_at "es"
      refine ⟨ws, gs, rfl, sc, ?_⟩
      rw [hne]
      walk_at "es"
      refine opd_neSelf (ints_deep []) ⟨_, rfl, (fun q => by cases q), fun _ => ?_⟩
      walk_at "es"
      refine ⟨ws, gs, rfl, sc, ?_⟩
      rw [hlat]
      walk_at "es"
      refine opd_neB ?_
      exact ⟨_, rfl, rfl, rfl⟩
    walk_at "no"
    refine sx_next (nx_seq ?_)
    unfold encT intsD
    refine sx_seq (sx_if (et_val true ?_ ?_))
    · walk_at "es"
      exact ⟨by simp, rfl⟩
    walk_at "yes"
    refine sx_asgO (eo_lst ?_)
    walk_at "es"
    rw [List.length_map]
    refine ⟨ns, xs, ((rulesF ws gs).length : Int) + 1, rfl, by omega, by omega, ok6, fun ys S9 hy ok9 => ?_⟩
    walk_at "es"
    refine opd_plusL (by rw [List.length_map]; omega) ?_
    walk_at "es"
    refine opd_rep (by rw [List.length_map]; omega) (by rw [List.length_map]; simp; omega) ?_
    walk_at "es"
    refine opd_rep (by rw [List.length_map]; omega) (by rw [List.length_map]; simp; omega) ?_
    have e0 : (List.replicate ((ws.map encP).length : Int).toNat [PyData.int 0]).flatten = (List.replicate ws.length (0 : Int)).map .int := by
      rw [List.length_map, Int.toNat_natCast, List.map_replicate]
      induction ws.length with
      | zero => rfl
      | succ m ih => rw [List.replicate_succ, List.replicate_succ, List.flatten_cons, ih]; rfl
    have e2 : (List.replicate ((ws.map encP).length : Int).toNat [PyData.list []]).flatten = (List.replicate ws.length ([] : List Int)).map intsD := by
      rw [List.length_map, Int.toNat_natCast, List.map_replicate]
      induction ws.length with
      | zero => rfl
      | succ m ih => rw [List.replicate_succ, List.replicate_succ, List.flatten_cons, ih]; rfl
    rw [e0, e2, ← List.map_append]
    walk_at "es"
    refine sx_freeze 16 rfl ?_
    walk_at "w"
    refine sx_weak (ρ' := [.val (.list (ns.map .int)), .st S9, .val (.list (ws.map encP)), .emp, .emp, .val (.list (gs.map encR)), .emp, .emp, .val (.str (sceneD ws gs).shown), .emp, .emp, .emp, .emp, .emp, .emp, .emp, .val (.list ([Told.ring ys, .ring [], .ring (xs ++ xs), .times (List.replicate ws.length 0) (List.replicate ws.length [])].map encT)), .emp, .emp]) (by walk_at "le") ?_
    refine sx_fin K Z z sc (fun b hb => ?_)
    simp only [List.mem_cons, List.not_mem_nil, or_false] at hb
    rcases hb with rfl | rfl | rfl | rfl
    · show ys.length ≤ 5000; omega
    · show (0 : Nat) ≤ 5000; omega
    · show (xs ++ xs).length ≤ 5000; rw [List.length_append]; omega
    · refine ⟨by rw [List.length_replicate]; omega, by rw [List.length_replicate]; omega, fun c hc => ?_⟩
      rw [(List.mem_replicate.mp hc).2]
      exact Nat.zero_le _
  · -- times
    obtain ⟨hl, _, _, a1, a2, hev⟩ := ear_lat sc hlat
    obtain ⟨ts, cs, hear, t1, t2, t4⟩ : ∃ ts cs, earF ws gs = .times ts cs ∧ ts.length = ws.length ∧ cs.length = ws.length ∧ ∀ c ∈ cs, c.length ≤ 1000 := by
      rcases ear_cases sc with ⟨xs, c, _, _, q, _⟩ | ⟨ts, cs, e, _, _, _, t1, t2, _, t4⟩
      · exact absurd q hev
      · refine ⟨ts, cs, e, t1, t2, fun c hc => ?_⟩
        obtain ⟨k, hk⟩ := List.getElem?_of_mem hc
        have h9 := (List.getElem?_eq_some_iff.mp hk).1
        have := (t4 k (by omega)).2.2
        rw [List.getD_eq_getElem?_getD, hk] at this
        exact this
    have ets : earTs ws gs = ts := by unfold earTs; rw [hear]
    rw [ets] at a1
    have hnl := fun k => ne_lows sc hlat k
    rw [ends_is ws gs hev, ← a1, ← a2]
    rw [← a1, ← a2] at hnl
    rw [hear] at hfe sme ⊢
    refine sx_seq (sx_if (et_val false ?_ ?_))
    · walk_at "es"
      refine ⟨ws, gs, rfl, by omega, by omega, ?_⟩
      walk_at "es"
      refine opd_neSelf (deep_rules _) ⟨_, rfl, (fun q => by cases q), fun _ => ?_⟩
      unfold encT
      walk_at "es"
      refine cbd_intB ?_
      refine opd_ixL (d := .str (Str.ofString "times")) rfl ?_
      walk_at "es"
      exact ⟨by simp, rfl⟩
    walk_at "no"
    refine sx_next (nx_seq ?_)
    refine sx_seq (sx_if (et_val false ?_ ?_))
    · walk_at "es"
      refine ⟨ws, gs, _, rfl, sc, sme, ?_⟩
      rw [hfe]
      walk_at "es"
      refine ⟨(fun q => by cases q), fun _ => ?_⟩
      walk_at "es"
      refine ⟨ws, gs, _, rfl, sc, sme, ?_⟩
      rw [hfe]
      walk_at "es"
      exact ⟨rfl, rfl⟩
    walk_at "no"
    refine sx_next (nx_seq ?_)
    unfold encT intsD
    refine sx_seq (sx_if (et_val false ?_ ?_))
    · walk_at "es"
      refine ⟨fun _ => ?_, (fun q => by cases q)⟩
      walk_at "es"
      refine opd_neSelf (ints_deep _) ⟨_, rfl, (fun q => by cases q), fun _ => ?_⟩
      walk_at "es"
      refine ⟨ws, gs, rfl, sc, ?_⟩
      rw [hlat]
      walk_at "es"
      exact opd_neSelf (ints_deep _) ⟨_, rfl, rfl, rfl⟩
    walk_at "no"
    refine sx_next (nx_seq ?_)
    walk_at "es"
    refine sx_asg (ex_of (eo_lst ?_))
    walk_at "ei"
    refine sx_seq (sx_if (et_val true ?_ ?_))
    · walk_at "es"
      exact ⟨rfl, rfl⟩
    walk_at "yes"
    refine sx_seq (sx_asg (ex_of (eo_lcP (α := Int) (fun k => decide (tm ts k.toNat = tm hs k.toNat)) (fun k => .int k) (ei_rng1 ?_))))
    walk_at "es"
    rw [List.length_map, Int.toNat_natCast]
    refine ⟨by omega, rngI 0 ws.length, _, rfl, by rw [rngI_len]; omega, fun i hi => by simp at hi; subst hi; rfl, fun x hx => sg_name (by simp) ⟨rfl, ?_⟩, ?_⟩
    · have hx := rngI_mem.mp hx
      obtain ⟨k, rfl⟩ : ∃ k : Nat, x = (k : Int) := ⟨x.toNat, by omega⟩
      rw [Int.toNat_natCast]
      walk_at "w"
      walk_at "es"
      refine opd_int (by omega) ?_
      walk_at "es"
      refine opd_int (by omega) ?_
      walk_at "es"
      refine ⟨rfl, rfl, fun _ => ?_⟩
      walk_at "es"
      exact ⟨rfl, rfl⟩
    rw [rng_nI fun k => decide (tm ts k = tm hs k)]
    refine nx_seq ?_
    walk_at "w"
    refine sx_asg (ex_of (eo_lcP (α := Int) (fun k => neB ws gs k.toNat) (fun k => .int k) (ei_rng1 ?_)))
    walk_at "es"
    rw [List.length_map, Int.toNat_natCast]
    refine ⟨by omega, rngI 0 gs.length, _, rfl, by rw [rngI_len]; omega, fun i hi => by simp at hi; subst hi; rfl, fun x hx => sg_name (by simp) ⟨rfl, ?_⟩, ?_⟩
    · have hx := rngI_mem.mp hx
      obtain ⟨k, rfl⟩ : ∃ k : Nat, x = (k : Int) := ⟨x.toNat, by omega⟩
      rw [Int.toNat_natCast]
      have sr : Sc ws (rest gs k) := sc_rest sc k
      obtain ⟨hr, er⟩ := rest_some sc hlat k
      obtain ⟨_, _, _, _, _, nr⟩ := ear_lat sr er
      walk_at "w"
      walk_at "es"
      refine opd_plusL (by have := cut_n encR gs k; rw [this, show ((k : Int) + 1) = ((k + 1 : Nat) : Int) by omega, cut_drop]; simp only [List.length_map, List.length_take, List.length_drop]; omega) ?_
      rw [rest_cut]
      walk_at "es"
      refine ⟨ws, rest gs k, rfl, sr, ?_⟩
      walk_at "es"
      refine ⟨everyF ws (rest gs k), ws.length, rfl, by have := every_len sr; omega, by omega, every_all sr, ?_⟩
      rw [ends_is ws (rest gs k) nr]
      walk_at "es"
      have dz : (PyData.list [intsD ts, intsD hs]).depth ≤ 60 := by
        have h : DpN 4 (PyData.list [intsD ts, intsD hs]) := dpn_list (dpn_cons (dpn_list (dpn_map fun x _ => dpn_int)) (dpn_cons (dpn_list (dpn_map fun x _ => dpn_int)) dpn_nil))
        exact Nat.le_trans h (by decide)
      refine opd_eqP (Nat.le_trans (Nat.min_le_right _ _) dz) ?_
      rw [show PyData.eqv (.list [intsD (lowsF ws (rest gs k)), intsD (highsF ws (rest gs k))]) (.list [.list (ts.map .int), .list (hs.map .int)]) = (decide (lowsF ws (rest gs k) = ts) && decide (highsF ws (rest gs k) = hs)) from eqv_two _ _ _ _, ← hnl k]
      refine ⟨_, rfl, rfl, rfl, fun _ => ?_⟩
      walk_at "es"
      exact ⟨rfl, rfl⟩
    rw [rng_nI fun k => neB ws gs k]
    refine nx_seq ?_
    walk_at "w"
    have fx5 : (fixL ts hs ws.length).length ≤ 4 ∧ ∀ k ∈ fixL ts hs ws.length, k < 5 := by
      unfold fixL
      refine ⟨?_, fun k hk => ?_⟩
      · have := List.length_filter_le (fun k => decide (tm ts k = tm hs k)) (List.range ws.length)
        rw [List.length_range] at this
        omega
      · have := List.mem_range.mp (List.mem_filter.mp hk).1
        omega
    have shx : Sh (5 * 2002 + 4) (intsD (nI (fixL ts hs ws.length))) := sh_ints (by unfold nI; rw [List.length_map]; omega) (fun x hx => by
      unfold nI at hx
      obtain ⟨k, hk, rfl⟩ := List.mem_map.mp hx
      have := fx5.2 k hk
      omega)
    refine sx_seq (sx_if (et_val false ?_ ?_))
    · walk_at "es"
      refine ⟨ws, gs, rfl, sc, ?_⟩
      unfold fixF
      rw [hlat, ets]
      walk_at "es"
      show CbD _ [intsD (nI (fixL ts hs ws.length))] _
      refine cbd_repr shx (by decide) (ints_deep _) ?_
      walk_at "es"
      refine cbd_repr shx (by decide) (ints_deep _) ?_
      walk_at "es"
      refine ⟨(fun q => by simp [fixL, intsD] at q), fun _ => ?_⟩
      walk_at "es"
      refine ⟨ws, gs, rfl, sc, ?_⟩
      walk_at "es"
      refine opd_neSelf (ints_deep _) ⟨_, rfl, (fun q => by cases q), fun _ => ?_⟩
      walk_at "es"
      refine ⟨ws, gs, rfl, sc, ?_⟩
      rw [hlat]
      walk_at "es"
      refine opd_neB ?_
      exact ⟨_, rfl, rfl, rfl⟩
    walk_at "no"
    refine sx_next (nx_seq ?_)
    refine sx_seq (sx_if (et_val false ?_ ?_))
    · walk_at "es"
      exact ⟨by simp; decide, rfl⟩
    walk_at "no"
    refine sx_seq (sx_asgO (eo_lst ?_))
    walk_at "es"
    refine ⟨ns, ts, 9, rfl, by omega, by omega, ok6, fun ys S7 hy ok7 => ?_⟩
    walk_at "es"
    unfold chainsD
    walk_at "ei"
    rw [show cutD (cs.map intsD) (some 1) none = (cs.drop 1).map intsD from cut_drop intsD cs 1]
    have small4 : ∀ b ∈ [Told.times ys cs, .times ts (cs.drop 1), .ring [0, 1], .ring [9999]], Small b := fun b hb => by
      simp only [List.mem_cons, List.not_mem_nil, or_false] at hb
      rcases hb with rfl | rfl | rfl | rfl
      · exact ⟨by omega, by omega, fun c hc => by have := t4 c hc; omega⟩
      · refine ⟨by omega, by rw [List.length_drop]; omega, fun c hc => by have := t4 c (List.mem_of_mem_drop hc); omega⟩
      · show (2 : Nat) ≤ 5000; omega
      · show (1 : Nat) ≤ 5000; omega
    by_cases hcs : cs = []
    · refine sx_if (et_val false ?_ ?_)
      · walk_at "es"
        refine opd_neP (Nat.le_trans (Nat.min_le_right _ _) (by decide)) ?_
        rw [eqv_nilL, List.isEmpty_map, hcs]
        exact ⟨_, rfl, rfl, rfl⟩
      walk_at "no"
      refine sx_next (nx_seq (sx_seq (sx_freeze 16 rfl ?_)))
      walk_at "w"
      refine sx_weak (ρ' := [.val (.list (ns.map .int)), .st S7, .val (.list (ws.map encP)), .emp, .emp, .val (.list (gs.map encR)), .emp, .emp, .val (.str (sceneD ws gs).shown), .emp, .emp, .emp, .emp, .emp, .emp, .emp, .val (.list (([Told.times ys cs, .times ts (cs.drop 1), .ring [0, 1], .ring [9999]]).map encT)), .emp, .emp]) (by walk_at "le") ?_
      exact sx_fin K Z z sc small4
    · have hcp := List.length_pos_iff.mpr hcs
      have rl1 : 1 ≤ (rulesF ws gs).length := by
        unfold rulesF
        rw [List.length_append, win_len]
        omega
      refine sx_if (et_val true ?_ ?_)
      · walk_at "es"
        refine opd_neP (Nat.le_trans (Nat.min_le_right _ _) (by decide)) ?_
        rw [eqv_nilL, List.isEmpty_map, List.isEmpty_eq_false_iff.mpr hcs]
        exact ⟨_, rfl, rfl, rfl⟩
      walk_at "yes"
      walk_at "es"
      rw [List.length_map]
      refine ⟨ns, (cs.length : Int), rfl, by omega, ok7, fun at_ S8 a0 a1' ok8 => ?_⟩
      obtain ⟨a, rfl⟩ : ∃ a : Nat, at_ = (a : Int) := ⟨at_.toNat, by omega⟩
      have ac : atI (cs.map intsD) (a : Int) = some (intsD (cs.getD a [])) := by rw [atI_map [] (by omega) (by omega), Int.toNat_natCast]
      have cl5 : (cs.getD a []).length ≤ 1000 := t4 _ (by rw [List.getD_eq_getElem?_getD, List.getElem?_eq_getElem (show a < cs.length by omega)]; exact List.getElem_mem _)
      walk_at "es"
      refine sx_app rfl ?_
      walk_at "es"
      refine opd_ixL ac ?_
      walk_at "es"
      rw [List.length_map]
      refine ⟨ns, cs.getD a [], ((rulesF ws gs).length : Int), rfl, by omega, by omega, ok8, fun ys2 S9 hy2 ok9 => ?_⟩
      walk_at "es"
      rw [cut_n]
      refine opd_plusL (by simp only [List.length_map, List.length_take, List.length_singleton]; omega) ?_
      walk_at "es"
      rw [show ((a : Int) + 1) = ((a + 1 : Nat) : Int) by omega, cut_drop]
      refine opd_plusL (by simp only [List.length_append, List.length_map, List.length_take, List.length_drop, List.length_singleton]; omega) ?_
      rw [show (cs.take a).map intsD ++ [intsD ys2] ++ (cs.drop (a + 1)).map intsD = (cs.take a ++ [ys2] ++ cs.drop (a + 1)).map intsD by rw [List.map_append, List.map_append]; rfl]
      walk_at "es"
      refine ⟨by simp, ?_⟩
      walk_at "w"
      refine nx_seq (sx_seq (sx_freeze 16 rfl ?_))
      walk_at "w"
      refine sx_weak (ρ' := [.val (.list (ns.map .int)), .st S9, .val (.list (ws.map encP)), .emp, .emp, .val (.list (gs.map encR)), .emp, .emp, .val (.str (sceneD ws gs).shown), .emp, .emp, .emp, .emp, .emp, .emp, .emp, .val (.list (([Told.times ys cs, .times ts (cs.drop 1), .ring [0, 1], .ring [9999], .times ts (cs.take a ++ [ys2] ++ cs.drop (a + 1))]).map encT)), .emp, .emp]) (by walk_at "le") ?_
      refine sx_fin K Z z sc (fun b hb => ?_)
      rcases List.mem_append.mp (show b ∈ [Told.times ys cs, .times ts (cs.drop 1), .ring [0, 1], .ring [9999]] ++ [.times ts (cs.take a ++ [ys2] ++ cs.drop (a + 1))] from hb) with hb | hb
      · exact small4 b hb
      · rw [List.mem_singleton.mp hb]
        refine ⟨by omega, by simp only [List.length_append, List.length_take, List.length_drop, List.length_singleton]; omega, fun c hc => ?_⟩
        rcases List.mem_append.mp hc with hc | hc
        · rcases List.mem_append.mp hc with hc | hc
          · have := t4 c (List.mem_of_mem_take hc); omega
          · rw [List.mem_singleton.mp hc]; omega
        · have := t4 c (List.mem_of_mem_drop hc); omega
end Law_k43
namespace Law_k43
open PySem L2 Pu

def topS (i : Nat) : Stmt := PySem.Challenge.pw_firescore_k43_whole_gaps.main.body.getD i (.Pass ⟨0, 0, 0, 0⟩)
abbrev s_rules_of : Stmt := topS 1
abbrev s_longest_from : Stmt := topS 2
abbrev s_ring_at : Stmt := topS 3
abbrev s_chain_to : Stmt := topS 4
abbrev s_earliest : Stmt := topS 5
abbrev s_chain_fault : Stmt := topS 6
abbrev s_earliest_fault : Stmt := topS 7
abbrev s_latest : Stmt := topS 8
abbrev s_fixed_cues : Stmt := topS 9
abbrev s_needless_gaps : Stmt := topS 10
abbrev s_l_draw : Stmt := topS 12
abbrev s_l_pick : Stmt := topS 13
abbrev s_l_rules : Stmt := topS 14
abbrev s_l_all : Stmt := topS 15
abbrev s_l_leads : Stmt := topS 16
abbrev s_l_fault : Stmt := topS 17
abbrev s_l_bent : Stmt := topS 18
abbrev s_l_ends : Stmt := topS 19
abbrev s_law : Stmt := topS 20
theorem sc_rules_of : FnScope N_rules_of ["windows", "gaps"] (defScope s_rules_of) := ⟨rfl, rfl, rfl, by decide +kernel, rfl, by decide +kernel, by decide +kernel⟩
theorem sc_longest_from : FnScope N_longest_from ["count", "rules", "start"] (defScope s_longest_from) := ⟨rfl, rfl, rfl, by decide +kernel, rfl, by decide +kernel, by decide +kernel⟩
theorem sc_ring_at : FnScope N_ring_at ["rules", "came", "cue"] (defScope s_ring_at) := ⟨rfl, rfl, rfl, by decide +kernel, rfl, by decide +kernel, by decide +kernel⟩
theorem sc_chain_to : FnScope N_chain_to ["rules", "came", "start", "cue"] (defScope s_chain_to) := ⟨rfl, rfl, rfl, by decide +kernel, rfl, by decide +kernel, by decide +kernel⟩
theorem sc_earliest : FnScope N_earliest ["windows", "gaps"] (defScope s_earliest) := ⟨rfl, rfl, rfl, by decide +kernel, rfl, by decide +kernel, by decide +kernel⟩
theorem sc_chain_fault : FnScope N_chain_fault ["rules", "chain", "start", "end"] (defScope s_chain_fault) := ⟨rfl, rfl, rfl, by decide +kernel, rfl, by decide +kernel, by decide +kernel⟩
theorem sc_earliest_fault : FnScope N_earliest_fault ["windows", "gaps", "told"] (defScope s_earliest_fault) := ⟨rfl, rfl, rfl, by decide +kernel, rfl, by decide +kernel, by decide +kernel⟩
theorem sc_latest : FnScope N_latest ["windows", "gaps"] (defScope s_latest) := ⟨rfl, rfl, rfl, by decide +kernel, rfl, by decide +kernel, by decide +kernel⟩
theorem sc_fixed_cues : FnScope N_fixed_cues ["windows", "gaps"] (defScope s_fixed_cues) := ⟨rfl, rfl, rfl, by decide +kernel, rfl, by decide +kernel, by decide +kernel⟩
theorem sc_needless_gaps : FnScope N_needless_gaps ["windows", "gaps"] (defScope s_needless_gaps) := ⟨rfl, rfl, rfl, by decide +kernel, rfl, by decide +kernel, by decide +kernel⟩
theorem sc_l_draw : FnScope N_l_draw ["state", "script", "size"] (defScope s_l_draw) := ⟨rfl, rfl, rfl, by decide +kernel, rfl, by decide +kernel, by decide +kernel⟩
theorem sc_l_pick : FnScope N_l_pick ["state", "script", "items"] (defScope s_l_pick) := ⟨rfl, rfl, rfl, by decide +kernel, rfl, by decide +kernel, by decide +kernel⟩
theorem sc_l_rules : FnScope N_l_rules ["windows", "gaps"] (defScope s_l_rules) := ⟨rfl, rfl, rfl, by decide +kernel, rfl, by decide +kernel, by decide +kernel⟩
theorem sc_l_all : FnScope N_l_all ["windows", "gaps"] (defScope s_l_all) := ⟨rfl, rfl, rfl, by decide +kernel, rfl, by decide +kernel, by decide +kernel⟩
theorem sc_l_leads : FnScope N_l_leads ["rules", "chain", "start", "end"] (defScope s_l_leads) := ⟨rfl, rfl, rfl, by decide +kernel, rfl, by decide +kernel, by decide +kernel⟩
theorem sc_l_fault : FnScope N_l_fault ["windows", "gaps", "told"] (defScope s_l_fault) := ⟨rfl, rfl, rfl, by decide +kernel, rfl, by decide +kernel, by decide +kernel⟩
theorem sc_l_bent : FnScope N_l_bent ["state", "script", "row", "size"] (defScope s_l_bent) := ⟨rfl, rfl, rfl, by decide +kernel, rfl, by decide +kernel, by decide +kernel⟩
theorem sc_l_ends : FnScope N_l_ends ["every"] (defScope s_l_ends) := ⟨rfl, rfl, rfl, by decide +kernel, rfl, by decide +kernel, by decide +kernel⟩
theorem sc_law : FnScope N_law ["script"] (defScope s_law) := ⟨rfl, rfl, rfl, by decide +kernel, rfl, by decide +kernel, by decide +kernel⟩
section
variable {P : Program} {w : World} {K : PySem.W.Frag} {mg : Str → Option Value} {base : Heap} {f : Addr} {fd : FuncData} {k : Nat}
theorem ps_rules_of {cdv : Value} {A : Around} {outer : List PySem.Env} {s : Shared} {H : Hp} {E : XK} (bn : Bn mg) (hr : Room k (A.deeper (PyProof.Rows.envOfC "rules_of" (defScope s_rules_of) s.heap.objs.size f cdv))) :
    PSs (cxOf CX0 P w K mg base N_rules_of "rules_of" (defScope s_rules_of) f cdv A outer s H E).nox (defBody s_rules_of) (T_rules_of K) :=
  have nd := sc_rules_of.nd
  (pss_cons (ps_set (i := 2) nd rfl (by first | exact Or.inl rfl | exact Or.inr rfl) (pe_lst pa_nil))
    (pss_cons (ps_for PassesOwn.never rfl (pi_enum (by rfl) bn.enumerate_ (pa_cons (pv 0) pa_nil)) (pg_tup (n := 2) rfl (pgs_cons (pg_name (i := 3) nd rfl (by first | exact Or.inl rfl | exact Or.inr rfl)) (pgs_cons (pg_tup (n := 2) rfl (pgs_cons (pg_name (i := 4) nd rfl (by first | exact Or.inl rfl | exact Or.inr rfl)) (pgs_cons (pg_name (i := 5) nd rfl (by first | exact Or.inl rfl | exact Or.inr rfl)) pgs_nil))) pgs_nil)))
      (pss_one (ps_expr (pe_bm PySem.F.plainAttrs_list PySem.F.slot_list_extend PySem.F.type_list_extend mt_extR (pv 2) (pa_cons (pe_lst (pa_cons (pe_tup (pa_cons pe_int (pa_cons (pe_op op_plus (pv 3) pe_int) (pa_cons (pv 4) pa_nil)))) (pa_cons (pe_tup (pa_cons (pe_op op_plus (pv 3) pe_int) (pa_cons pe_int (pa_cons (pe_op op_sub pe_int (pv 5)) pa_nil)))) pa_nil))) pa_nil)))))
    (pss_one (ps_ret (pe_op op_plus (pv 2) (pe_lc (own := [("one", 6), ("other", 7), ("least", 8)]) (g := (gTup K 3 (gCons (gName 6) (gCons (gName 7) (gCons (gName 8) gNil))))) (tt := tYes) rfl nd (pi_list (pv 1)) (blkOk_by (N := N_rules_of) (sc := defScope s_rules_of) (by decide +kernel)) (fun _ _ _ _ _ => (pg_tup (n := 3) rfl (pgs_cons (pg_name (i := 6) nd rfl (by first | exact Or.inl rfl | exact Or.inr rfl)) (pgs_cons (pg_name (i := 7) nd rfl (by first | exact Or.inl rfl | exact Or.inr rfl)) (pgs_cons (pg_name (i := 8) nd rfl (by first | exact Or.inl rfl | exact Or.inr rfl)) pgs_nil))))) (fun _ _ _ _ _ => pts_nil) (fun _ _ _ _ _ => (pe_tup (pa_cons (pe_op op_plus (pv 6) pe_int) (pa_cons (pe_op op_plus (pv 7) pe_int) (pa_cons (pv 8) pa_nil)))))))))))
theorem ok_rules_of {R : List D → (D → Prop) → Prop} (F : Fun K "rules_of" "rules_of" s_rules_of f fd) (bn : Bn mg) (len : ∀ ds Z, R ds Z → ds.length = 2) (sx : ∀ ds Z, R ds Z → SX (T_rules_of K) (startE N_rules_of ds) { nx := fun _ => Z .none, rt := fun d _ => Z d }) :
    FnOk P w K mg base CX0 (k + 1) f fd ["windows", "gaps"] (spP R) := fn_pure F sc_rules_of len fun cdv A outer s H E hr => ⟨_, ps_rules_of bn hr, sx⟩
theorem ps_longest_from {cdv : Value} {A : Around} {outer : List PySem.Env} {s : Shared} {H : Hp} {E : XK} (bn : Bn mg) (hr : Room k (A.deeper (PyProof.Rows.envOfC "longest_from" (defScope s_longest_from) s.heap.objs.size f cdv))) :
    PSs (cxOf CX0 P w K mg base N_longest_from "longest_from" (defScope s_longest_from) f cdv A outer s H E).nox (defBody s_longest_from) (T_longest_from K) :=
  have nd := sc_longest_from.nd
  (pss_cons (ps_set (i := 3) nd rfl (by first | exact Or.inl rfl | exact Or.inr rfl) (pe_op op_repR (pe_lst (pa_cons pe_non pa_nil)) (pv 0)))
    (pss_cons (ps_asg pe_int (pg_sub (pv 3) (pv 2) set_list))
    (pss_cons (ps_set (i := 4) nd rfl (by first | exact Or.inl rfl | exact Or.inr rfl) (pe_op op_repR (pe_lst (pa_cons pe_non pa_nil)) (pv 0)))
    (pss_cons (ps_for PassesOwn.never rfl (pi_range1 (by rfl) bn.range_ (pa_cons (pe_op op_plus (pv 0) pe_int) pa_nil)) (pg_name (i := 5) nd rfl (by first | exact Or.inl rfl | exact Or.inr rfl))
      (pss_cons (ps_set (i := 6) nd rfl (by first | exact Or.inl rfl | exact Or.inr rfl) pe_non)
    (pss_cons (ps_for PassesOwn.never rfl (pi_enum (by rfl) bn.enumerate_ (pa_cons (pv 1) pa_nil)) (pg_tup (n := 2) rfl (pgs_cons (pg_name (i := 7) nd rfl (by first | exact Or.inl rfl | exact Or.inr rfl)) (pgs_cons (pg_tup (n := 3) rfl (pgs_cons (pg_name (i := 8) nd rfl (by first | exact Or.inl rfl | exact Or.inr rfl)) (pgs_cons (pg_name (i := 9) nd rfl (by first | exact Or.inl rfl | exact Or.inr rfl)) (pgs_cons (pg_name (i := 10) nd rfl (by first | exact Or.inl rfl | exact Or.inr rfl)) pgs_nil)))) pgs_nil)))
      (pss_one (ps_if (PW.pt (pw_and (pt_cmpR op_isnt (pe_ix ix_any (pv 3) (pv 8) (fun _ _ => rfl)) pe_non (nomark _)) (pw_and1 (PW.pt (pw_or (pt_cmpR op_is (pe_ix ix_any (pv 3) (pv 9) (fun _ _ => rfl)) pe_non (nomark _)) (pw_or1 (pt_cmpR op_gt (pe_op op_plus (pe_ix ix_any (pv 3) (pv 8) (fun _ _ => rfl)) (pv 10)) (pe_ix ix_any (pv 3) (pv 9) (fun _ _ => rfl)) (nomark _))))))))
      (pss_cons (ps_asg (pe_op op_plus (pe_ix ix_any (pv 3) (pv 8) (fun _ _ => rfl)) (pv 10)) (pg_sub (pv 3) (pv 9) set_list))
    (pss_cons (ps_asg (pv 7) (pg_sub (pv 4) (pv 9) set_list))
    (pss_one (ps_set (i := 6) nd rfl (by first | exact Or.inl rfl | exact Or.inr rfl) (pv 9)))))
      pss_nil)))
    (pss_one (ps_if (pt_cmpR op_is (pv 6) pe_non (nomark _))
      (pss_one (ps_ret (pe_tup (pa_cons (pv 3) (pa_cons (pv 4) (pa_cons pe_non pa_nil))))))
      pss_nil)))))
    (pss_one (ps_ret (pe_tup (pa_cons (pv 3) (pa_cons (pv 4) (pa_cons (pv 6) pa_nil))))))))))
theorem ok_longest_from {R : List D → (D → Prop) → Prop} (F : Fun K "longest_from" "longest_from" s_longest_from f fd) (bn : Bn mg) (len : ∀ ds Z, R ds Z → ds.length = 3) (sx : ∀ ds Z, R ds Z → SX (T_longest_from K) (startE N_longest_from ds) { nx := fun _ => Z .none, rt := fun d _ => Z d }) :
    FnOk P w K mg base CX0 (k + 1) f fd ["count", "rules", "start"] (spP R) := fn_pure F sc_longest_from len fun cdv A outer s H E hr => ⟨_, ps_longest_from bn hr, sx⟩
theorem ps_ring_at {cdv : Value} {A : Around} {outer : List PySem.Env} {s : Shared} {H : Hp} {E : XK} (bn : Bn mg) (hr : Room k (A.deeper (PyProof.Rows.envOfC "ring_at" (defScope s_ring_at) s.heap.objs.size f cdv))) :
    PSs (cxOf CX0 P w K mg base N_ring_at "ring_at" (defScope s_ring_at) f cdv A outer s H E).nox (defBody s_ring_at) (T_ring_at K) :=
  have nd := sc_ring_at.nd
  (pss_cons (ps_for PassesOwn.never rfl (pi_range1 (by rfl) bn.range_ (pa_cons (pe_callB Pu.cb_len (by rfl) bn.len_ (by decide +kernel) (pa_cons (pv 1) pa_nil)) pa_nil)) (pg_name (i := 3) nd rfl (by first | exact Or.inl rfl | exact Or.inr rfl))
      (pss_one (ps_set (i := 2) nd rfl (by first | exact Or.inl rfl | exact Or.inr rfl) (pe_ix ix_any (pe_ix ix_any (pv 0) (pe_ix ix_any (pv 1) (pv 2) (fun _ _ => rfl)) (fun _ _ => rfl)) pe_int (fun _ _ => rfl)))))
    (pss_cons (ps_set (i := 4) nd rfl (by first | exact Or.inl rfl | exact Or.inr rfl) (pe_lst (pa_cons (pe_ix ix_any (pv 1) (pv 2) (fun _ _ => rfl)) pa_nil)))
    (pss_cons (ps_set (i := 5) nd rfl (by first | exact Or.inl rfl | exact Or.inr rfl) (pe_ix ix_any (pe_ix ix_any (pv 0) (pe_ix ix_any (pv 1) (pv 2) (fun _ _ => rfl)) (fun _ _ => rfl)) pe_int (fun _ _ => rfl)))
    (pss_cons (ps_while PassesOwn.never (pt_cmpR (op_neP hr.units) (pv 5) (pv 2) (nomark _))
      (pss_cons (ps_set (i := 4) nd rfl (by first | exact Or.inl rfl | exact Or.inr rfl) (pe_op op_plus (pe_lst (pa_cons (pe_ix ix_any (pv 1) (pv 5) (fun _ _ => rfl)) pa_nil)) (pv 4)))
    (pss_one (ps_set (i := 5) nd rfl (by first | exact Or.inl rfl | exact Or.inr rfl) (pe_ix ix_any (pe_ix ix_any (pv 0) (pe_ix ix_any (pv 1) (pv 5) (fun _ _ => rfl)) (fun _ _ => rfl)) pe_int (fun _ _ => rfl))))))
    (pss_one (ps_ret (pv 4)))))))
theorem ok_ring_at {R : List D → (D → Prop) → Prop} (F : Fun K "ring_at" "ring_at" s_ring_at f fd) (bn : Bn mg) (len : ∀ ds Z, R ds Z → ds.length = 3) (sx : ∀ ds Z, R ds Z → SX (T_ring_at K) (startE N_ring_at ds) { nx := fun _ => Z .none, rt := fun d _ => Z d }) :
    FnOk P w K mg base CX0 (k + 1) f fd ["rules", "came", "cue"] (spP R) := fn_pure F sc_ring_at len fun cdv A outer s H E hr => ⟨_, ps_ring_at bn hr, sx⟩
theorem ps_chain_to {cdv : Value} {A : Around} {outer : List PySem.Env} {s : Shared} {H : Hp} {E : XK} (bn : Bn mg) (hr : Room k (A.deeper (PyProof.Rows.envOfC "chain_to" (defScope s_chain_to) s.heap.objs.size f cdv))) :
    PSs (cxOf CX0 P w K mg base N_chain_to "chain_to" (defScope s_chain_to) f cdv A outer s H E).nox (defBody s_chain_to) (T_chain_to K) :=
  have nd := sc_chain_to.nd
  (pss_cons (ps_set (i := 4) nd rfl (by first | exact Or.inl rfl | exact Or.inr rfl) (pe_lst pa_nil))
    (pss_cons (ps_while PassesOwn.never (pt_cmpR (op_neP hr.units) (pv 3) (pv 2) (nomark _))
      (pss_cons (ps_set (i := 4) nd rfl (by first | exact Or.inl rfl | exact Or.inr rfl) (pe_op op_plus (pe_lst (pa_cons (pe_ix ix_any (pv 1) (pv 3) (fun _ _ => rfl)) pa_nil)) (pv 4)))
    (pss_one (ps_set (i := 3) nd rfl (by first | exact Or.inl rfl | exact Or.inr rfl) (pe_ix ix_any (pe_ix ix_any (pv 0) (pe_ix ix_any (pv 1) (pv 3) (fun _ _ => rfl)) (fun _ _ => rfl)) pe_int (fun _ _ => rfl))))))
    (pss_one (ps_ret (pv 4)))))
theorem ok_chain_to {R : List D → (D → Prop) → Prop} (F : Fun K "chain_to" "chain_to" s_chain_to f fd) (bn : Bn mg) (len : ∀ ds Z, R ds Z → ds.length = 4) (sx : ∀ ds Z, R ds Z → SX (T_chain_to K) (startE N_chain_to ds) { nx := fun _ => Z .none, rt := fun d _ => Z d }) :
    FnOk P w K mg base CX0 (k + 1) f fd ["rules", "came", "start", "cue"] (spP R) := fn_pure F sc_chain_to len fun cdv A outer s H E hr => ⟨_, ps_chain_to bn hr, sx⟩
theorem ps_earliest {cdv : Value} {A : Around} {outer : List PySem.Env} {s : Shared} {H : Hp} {E : XK} (bn : Bn mg) (hr : Room k (A.deeper (PyProof.Rows.envOfC "earliest" (defScope s_earliest) s.heap.objs.size f cdv))) {R_rules_of : List D → (D → Prop) → Prop} {k_rules_of : Nat} (C_rules_of : Cal P w K mg base "rules_of" ["windows", "gaps"] (spP R_rules_of) k_rules_of) (h_rules_of : k_rules_of ≤ k) {R_longest_from : List D → (D → Prop) → Prop} {k_longest_from : Nat} (C_longest_from : Cal P w K mg base "longest_from" ["count", "rules", "start"] (spP R_longest_from) k_longest_from) (h_longest_from : k_longest_from ≤ k) {R_ring_at : List D → (D → Prop) → Prop} {k_ring_at : Nat} (C_ring_at : Cal P w K mg base "ring_at" ["rules", "came", "cue"] (spP R_ring_at) k_ring_at) (h_ring_at : k_ring_at ≤ k) {R_chain_to : List D → (D → Prop) → Prop} {k_chain_to : Nat} (C_chain_to : Cal P w K mg base "chain_to" ["rules", "came", "start", "cue"] (spP R_chain_to) k_chain_to) (h_chain_to : k_chain_to ≤ k) :
    PSs (cxOf CX0 P w K mg base N_earliest "earliest" (defScope s_earliest) f cdv A outer s H E).nox (defBody s_earliest) (T_earliest K R_rules_of R_longest_from R_ring_at R_chain_to) :=
  have nd := sc_earliest.nd
  (pss_cons (ps_set (i := 2) nd rfl (by first | exact Or.inl rfl | exact Or.inr rfl) (pe_cal C_rules_of (hr.mono h_rules_of) (by rfl) (pa_cons (pv 0) (pa_cons (pv 1) pa_nil))))
    (pss_cons (ps_asg (pe_cal C_longest_from (hr.mono h_longest_from) (by rfl) (pa_cons (pe_op op_plus (pe_callB Pu.cb_len (by rfl) bn.len_ (by decide +kernel) (pa_cons (pv 0) pa_nil)) pe_int) (pa_cons (pv 2) (pa_cons pe_int pa_nil)))) (pg_tup (n := 3) rfl (pgs_cons (pg_name (i := 3) nd rfl (by first | exact Or.inl rfl | exact Or.inr rfl)) (pgs_cons (pg_name (i := 4) nd rfl (by first | exact Or.inl rfl | exact Or.inr rfl)) (pgs_cons (pg_name (i := 5) nd rfl (by first | exact Or.inl rfl | exact Or.inr rfl)) pgs_nil)))))
    (pss_cons (ps_if (pt_cmpR op_isnt (pv 5) pe_non (nomark _))
      (pss_one (ps_ret (pe_tup (pa_cons pe_str (pa_cons (pe_cal C_ring_at (hr.mono h_ring_at) (by rfl) (pa_cons (pv 2) (pa_cons (pv 4) (pa_cons (pv 5) pa_nil)))) pa_nil)))))
      pss_nil)
    (pss_one (ps_ret (pe_tup (pa_cons pe_str (pa_cons (pe_slice sl_any (pv 3) (po_some pe_int) po_none) (pa_cons (pe_lc (own := [("cue", 6)]) (g := (gName 6)) (tt := tYes) rfl nd (pi_range2 (by rfl) bn.range_ (pa_cons pe_int (pa_cons (pe_callB Pu.cb_len (by rfl) bn.len_ (by decide +kernel) (pa_cons (pv 3) pa_nil)) pa_nil))) (blkOk_by (N := N_earliest) (sc := defScope s_earliest) (by decide +kernel)) (fun _ _ _ _ _ => (pg_name (i := 6) nd rfl (by first | exact Or.inl rfl | exact Or.inr rfl))) (fun _ _ _ _ _ => pts_nil) (fun _ _ _ _ _ => (pe_cal C_chain_to (hr.mono h_chain_to) (by rfl) (pa_cons (pv 2) (pa_cons (pv 4) (pa_cons pe_int (pa_cons (pv 6) pa_nil))))))) pa_nil)))))))))
theorem ok_earliest {R : List D → (D → Prop) → Prop} (F : Fun K "earliest" "earliest" s_earliest f fd) (bn : Bn mg) {R_rules_of : List D → (D → Prop) → Prop} {k_rules_of : Nat} (C_rules_of : Cal P w K mg base "rules_of" ["windows", "gaps"] (spP R_rules_of) k_rules_of) (h_rules_of : k_rules_of ≤ k) {R_longest_from : List D → (D → Prop) → Prop} {k_longest_from : Nat} (C_longest_from : Cal P w K mg base "longest_from" ["count", "rules", "start"] (spP R_longest_from) k_longest_from) (h_longest_from : k_longest_from ≤ k) {R_ring_at : List D → (D → Prop) → Prop} {k_ring_at : Nat} (C_ring_at : Cal P w K mg base "ring_at" ["rules", "came", "cue"] (spP R_ring_at) k_ring_at) (h_ring_at : k_ring_at ≤ k) {R_chain_to : List D → (D → Prop) → Prop} {k_chain_to : Nat} (C_chain_to : Cal P w K mg base "chain_to" ["rules", "came", "start", "cue"] (spP R_chain_to) k_chain_to) (h_chain_to : k_chain_to ≤ k) (len : ∀ ds Z, R ds Z → ds.length = 2) (sx : ∀ ds Z, R ds Z → SX (T_earliest K R_rules_of R_longest_from R_ring_at R_chain_to) (startE N_earliest ds) { nx := fun _ => Z .none, rt := fun d _ => Z d }) :
    FnOk P w K mg base CX0 (k + 1) f fd ["windows", "gaps"] (spP R) := fn_pure F sc_earliest len fun cdv A outer s H E hr => ⟨_, ps_earliest bn hr C_rules_of h_rules_of C_longest_from h_longest_from C_ring_at h_ring_at C_chain_to h_chain_to, sx⟩
theorem ps_chain_fault {cdv : Value} {A : Around} {outer : List PySem.Env} {s : Shared} {H : Hp} {E : XK} (bn : Bn mg) (hr : Room k (A.deeper (PyProof.Rows.envOfC "chain_fault" (defScope s_chain_fault) s.heap.objs.size f cdv))) :
    PSs (cxOf CX0 P w K mg base N_chain_fault "chain_fault" (defScope s_chain_fault) f cdv A outer s H E).nox (defBody s_chain_fault) (T_chain_fault K) :=
  have nd := sc_chain_fault.nd
  (pss_cons (ps_set (i := 4) nd rfl (by first | exact Or.inl rfl | exact Or.inr rfl) (pv 2))
    (pss_cons (ps_for PassesOwn.never rfl (pi_list (pv 1)) (pg_name (i := 5) nd rfl (by first | exact Or.inl rfl | exact Or.inr rfl))
      (pss_cons (ps_if (PW.pt (pw_or (pt_not (pt_chain op_le op_lt pe_int (pv 5) (pe_callB Pu.cb_len (by rfl) bn.len_ (by decide +kernel) (pa_cons (pv 0) pa_nil)))) (pw_or1 (pt_cmpR (op_neP hr.units) (pe_ix ix_any (pe_ix ix_any (pv 0) (pv 5) (fun _ _ => rfl)) pe_int (fun _ _ => rfl)) (pv 4) (nomark _)))))
      (pss_one (ps_ret pe_bl))
      pss_nil)
    (pss_one (ps_set (i := 4) nd rfl (by first | exact Or.inl rfl | exact Or.inr rfl) (pe_ix ix_any (pe_ix ix_any (pv 0) (pv 5) (fun _ _ => rfl)) pe_int (fun _ _ => rfl))))))
    (pss_one (ps_ret (pe_cmpR (op_neP hr.units) (pv 4) (pv 3) (nomark _))))))
theorem ok_chain_fault {R : List D → (D → Prop) → Prop} (F : Fun K "chain_fault" "chain_fault" s_chain_fault f fd) (bn : Bn mg) (len : ∀ ds Z, R ds Z → ds.length = 4) (sx : ∀ ds Z, R ds Z → SX (T_chain_fault K) (startE N_chain_fault ds) { nx := fun _ => Z .none, rt := fun d _ => Z d }) :
    FnOk P w K mg base CX0 (k + 1) f fd ["rules", "chain", "start", "end"] (spP R) := fn_pure F sc_chain_fault len fun cdv A outer s H E hr => ⟨_, ps_chain_fault bn hr, sx⟩
theorem ps_earliest_fault {cdv : Value} {A : Around} {outer : List PySem.Env} {s : Shared} {H : Hp} {E : XK} (bn : Bn mg) (hr : Room k (A.deeper (PyProof.Rows.envOfC "earliest_fault" (defScope s_earliest_fault) s.heap.objs.size f cdv))) {R_rules_of : List D → (D → Prop) → Prop} {k_rules_of : Nat} (C_rules_of : Cal P w K mg base "rules_of" ["windows", "gaps"] (spP R_rules_of) k_rules_of) (h_rules_of : k_rules_of ≤ k) {R_chain_fault : List D → (D → Prop) → Prop} {k_chain_fault : Nat} (C_chain_fault : Cal P w K mg base "chain_fault" ["rules", "chain", "start", "end"] (spP R_chain_fault) k_chain_fault) (h_chain_fault : k_chain_fault ≤ k) :
    PSs (cxOf CX0 P w K mg base N_earliest_fault "earliest_fault" (defScope s_earliest_fault) f cdv A outer s H E).nox (defBody s_earliest_fault) (T_earliest_fault K R_rules_of R_chain_fault) :=
  have nd := sc_earliest_fault.nd
  (pss_cons (ps_set (i := 3) nd rfl (by first | exact Or.inl rfl | exact Or.inr rfl) (pe_cal C_rules_of (hr.mono h_rules_of) (by rfl) (pa_cons (pv 0) (pa_cons (pv 1) pa_nil))))
    (pss_cons (ps_if (pt_cmpR (op_eqP hr.units) (pe_ix ix_any (pv 2) pe_int (fun _ _ => rfl)) pe_str (nomark _))
      (pss_cons (ps_set (i := 4) nd rfl (by first | exact Or.inl rfl | exact Or.inr rfl) (pe_ix ix_any (pv 2) pe_int (fun _ _ => rfl)))
    (pss_cons (ps_if (PW.pt (pw_or (pt_cmpR (op_eqP hr.units) (pe_callB Pu.cb_len (by rfl) bn.len_ (by decide +kernel) (pa_cons (pv 4) pa_nil)) pe_int (nomark _)) (pw_or1 (pt_not (pt_chain op_le op_lt pe_int (pe_ix ix_any (pv 4) pe_int (fun _ _ => rfl)) (pe_callB Pu.cb_len (by rfl) bn.len_ (by decide +kernel) (pa_cons (pv 3) pa_nil)))))))
      (pss_one (ps_ret (pe_tup (pa_cons pe_str pa_nil))))
      pss_nil)
    (pss_cons (ps_if (pt_val (pe_cal C_chain_fault (hr.mono h_chain_fault) (by rfl) (pa_cons (pv 3) (pa_cons (pv 4) (pa_cons (pe_ix ix_any (pe_ix ix_any (pv 3) (pe_ix ix_any (pv 4) pe_int (fun _ _ => rfl)) (fun _ _ => rfl)) pe_int (fun _ _ => rfl)) (pa_cons (pe_ix ix_any (pe_ix ix_any (pv 3) (pe_ix ix_any (pv 4) pe_int (fun _ _ => rfl)) (fun _ _ => rfl)) pe_int (fun _ _ => rfl)) pa_nil))))))
      (pss_one (ps_ret (pe_tup (pa_cons pe_str pa_nil))))
      pss_nil)
    (pss_one (ps_ret (pe_ifExp (pt_cmpR op_gt (pe_callB (cr_sum rfl) (by rfl) bn.sum_ (by decide +kernel) (pa_cons (pe_lc (own := [("number", 5)]) (g := (gName 5)) (tt := tYes) rfl nd (pi_list (pv 4)) (blkOk_by (N := N_earliest_fault) (sc := defScope s_earliest_fault) (by decide +kernel)) (fun _ _ _ _ _ => (pg_name (i := 5) nd rfl (by first | exact Or.inl rfl | exact Or.inr rfl))) (fun _ _ _ _ _ => pts_nil) (fun _ _ _ _ _ => (pe_ix ix_any (pe_ix ix_any (pv 3) (pv 5) (fun _ _ => rfl)) pe_int (fun _ _ => rfl)))) pa_nil)) pe_int (nomark _)) pe_non (pe_tup (pa_cons pe_str pa_nil))))))))
      pss_nil)
    (pss_cons (ps_set (i := 6) nd rfl (by first | exact Or.inl rfl | exact Or.inr rfl) (pe_op op_plus (pe_lst (pa_cons pe_int pa_nil)) (pe_callTy cb_list (by rfl) bn.list_ (by decide +kernel) (pa_cons (pe_ix ix_any (pv 2) pe_int (fun _ _ => rfl)) pa_nil))))
    (pss_cons (ps_if (PW.pt (pw_or (pt_cmpR (op_neP hr.units) (pe_callB Pu.cb_len (by rfl) bn.len_ (by decide +kernel) (pa_cons (pv 6) pa_nil)) (pe_op op_plus (pe_callB Pu.cb_len (by rfl) bn.len_ (by decide +kernel) (pa_cons (pv 0) pa_nil)) pe_int) (nomark _)) (pw_or1 (pt_cmpR (op_neP hr.units) (pe_callB Pu.cb_len (by rfl) bn.len_ (by decide +kernel) (pa_cons (pe_ix ix_any (pv 2) pe_int (fun _ _ => rfl)) pa_nil)) (pe_callB Pu.cb_len (by rfl) bn.len_ (by decide +kernel) (pa_cons (pv 0) pa_nil)) (nomark _)))))
      (pss_one (ps_ret (pe_tup (pa_cons pe_str pa_nil))))
      pss_nil)
    (pss_cons (ps_for PassesOwn.never rfl (pi_enum (by rfl) bn.enumerate_ (pa_cons (pv 3) pa_nil)) (pg_tup (n := 2) rfl (pgs_cons (pg_name (i := 5) nd rfl (by first | exact Or.inl rfl | exact Or.inr rfl)) (pgs_cons (pg_tup (n := 3) rfl (pgs_cons (pg_name (i := 7) nd rfl (by first | exact Or.inl rfl | exact Or.inr rfl)) (pgs_cons (pg_name (i := 8) nd rfl (by first | exact Or.inl rfl | exact Or.inr rfl)) (pgs_cons (pg_name (i := 9) nd rfl (by first | exact Or.inl rfl | exact Or.inr rfl)) pgs_nil)))) pgs_nil)))
      (pss_one (ps_if (pt_cmpR op_lt (pe_op op_sub (pe_ix ix_any (pv 6) (pv 8) (fun _ _ => rfl)) (pe_ix ix_any (pv 6) (pv 7) (fun _ _ => rfl))) (pv 9) (nomark _))
      (pss_one (ps_ret (pe_tup (pa_cons pe_str (pa_cons (pv 5) pa_nil)))))
      pss_nil)))
    (pss_cons (ps_for PassesOwn.never rfl (pi_enum (by rfl) bn.enumerate_ (pa_cons (pe_ix ix_any (pv 2) pe_int (fun _ _ => rfl)) pa_nil)) (pg_tup (n := 2) rfl (pgs_cons (pg_name (i := 10) nd rfl (by first | exact Or.inl rfl | exact Or.inr rfl)) (pgs_cons (pg_name (i := 11) nd rfl (by first | exact Or.inl rfl | exact Or.inr rfl)) pgs_nil)))
      (pss_one (ps_if (PW.pt (pw_or (pt_val (pe_cal C_chain_fault (hr.mono h_chain_fault) (by rfl) (pa_cons (pv 3) (pa_cons (pv 11) (pa_cons pe_int (pa_cons (pe_op op_plus (pv 10) pe_int) pa_nil)))))) (pw_or1 (pt_cmpR (op_neP hr.units) (pe_callB (cr_sum rfl) (by rfl) bn.sum_ (by decide +kernel) (pa_cons (pe_lc (own := [("number", 5)]) (g := (gName 5)) (tt := tYes) rfl nd (pi_list (pv 11)) (blkOk_by (N := N_earliest_fault) (sc := defScope s_earliest_fault) (by decide +kernel)) (fun _ _ _ _ _ => (pg_name (i := 5) nd rfl (by first | exact Or.inl rfl | exact Or.inr rfl))) (fun _ _ _ _ _ => pts_nil) (fun _ _ _ _ _ => (pe_ix ix_any (pe_ix ix_any (pv 3) (pv 5) (fun _ _ => rfl)) pe_int (fun _ _ => rfl)))) pa_nil)) (pe_ix ix_any (pv 6) (pe_op op_plus (pv 10) pe_int) (fun _ _ => rfl)) (nomark _)))))
      (pss_one (ps_ret (pe_tup (pa_cons pe_str (pa_cons (pv 10) pa_nil)))))
      pss_nil)))
    (pss_one (ps_ret pe_non))))))))
theorem ok_earliest_fault {R : List D → (D → Prop) → Prop} (F : Fun K "earliest_fault" "earliest_fault" s_earliest_fault f fd) (bn : Bn mg) {R_rules_of : List D → (D → Prop) → Prop} {k_rules_of : Nat} (C_rules_of : Cal P w K mg base "rules_of" ["windows", "gaps"] (spP R_rules_of) k_rules_of) (h_rules_of : k_rules_of ≤ k) {R_chain_fault : List D → (D → Prop) → Prop} {k_chain_fault : Nat} (C_chain_fault : Cal P w K mg base "chain_fault" ["rules", "chain", "start", "end"] (spP R_chain_fault) k_chain_fault) (h_chain_fault : k_chain_fault ≤ k) (len : ∀ ds Z, R ds Z → ds.length = 3) (sx : ∀ ds Z, R ds Z → SX (T_earliest_fault K R_rules_of R_chain_fault) (startE N_earliest_fault ds) { nx := fun _ => Z .none, rt := fun d _ => Z d }) :
    FnOk P w K mg base CX0 (k + 1) f fd ["windows", "gaps", "told"] (spP R) := fn_pure F sc_earliest_fault len fun cdv A outer s H E hr => ⟨_, ps_earliest_fault bn hr C_rules_of h_rules_of C_chain_fault h_chain_fault, sx⟩
theorem ps_latest {cdv : Value} {A : Around} {outer : List PySem.Env} {s : Shared} {H : Hp} {E : XK} (bn : Bn mg) (hr : Room k (A.deeper (PyProof.Rows.envOfC "latest" (defScope s_latest) s.heap.objs.size f cdv))) {R_longest_from : List D → (D → Prop) → Prop} {k_longest_from : Nat} (C_longest_from : Cal P w K mg base "longest_from" ["count", "rules", "start"] (spP R_longest_from) k_longest_from) (h_longest_from : k_longest_from ≤ k) {R_rules_of : List D → (D → Prop) → Prop} {k_rules_of : Nat} (C_rules_of : Cal P w K mg base "rules_of" ["windows", "gaps"] (spP R_rules_of) k_rules_of) (h_rules_of : k_rules_of ≤ k) :
    PSs (cxOf CX0 P w K mg base N_latest "latest" (defScope s_latest) f cdv A outer s H E).nox (defBody s_latest) (T_latest K R_longest_from R_rules_of) :=
  have nd := sc_latest.nd
  (pss_cons (ps_setLc (i := 2) (own := [("one", 4), ("other", 3), ("least", 5)]) (g := (gTup K 3 (gCons (gName 4) (gCons (gName 3) (gCons (gName 5) gNil))))) (tt := tYes) rfl nd rfl rfl (sw_true rfl rfl rfl (by decide +kernel)) (pi_list (pe_cal C_rules_of (hr.mono h_rules_of) (by rfl) (pa_cons (pv 0) (pa_cons (pv 1) pa_nil)))) (blkOk_by (N := N_latest) (sc := defScope s_latest) (by decide +kernel)) (fun _ _ _ _ _ => (pg_tup (n := 3) rfl (pgs_cons (pg_name (i := 4) nd rfl (by first | exact Or.inl rfl | exact Or.inr rfl)) (pgs_cons (pg_name (i := 3) nd rfl (by first | exact Or.inl rfl | exact Or.inr rfl)) (pgs_cons (pg_name (i := 5) nd rfl (by first | exact Or.inl rfl | exact Or.inr rfl)) pgs_nil))))) (fun _ _ _ _ _ => pts_nil) (fun _ _ _ _ _ => (pe_tup (pa_cons (pv 3) (pa_cons (pv 4) (pa_cons (pv 5) pa_nil))))))
    (pss_cons (ps_asg (pe_cal C_longest_from (hr.mono h_longest_from) (by rfl) (pa_cons (pe_op op_plus (pe_callB Pu.cb_len (by rfl) bn.len_ (by decide +kernel) (pa_cons (pv 0) pa_nil)) pe_int) (pa_cons (pv 2) (pa_cons pe_int pa_nil)))) (pg_tup (n := 3) rfl (pgs_cons (pg_name (i := 6) nd rfl (by first | exact Or.inl rfl | exact Or.inr rfl)) (pgs_cons (pg_name (i := 7) nd rfl (by first | exact Or.inl rfl | exact Or.inr rfl)) (pgs_cons (pg_name (i := 8) nd rfl (by first | exact Or.inl rfl | exact Or.inr rfl)) pgs_nil)))))
    (pss_one (ps_ret (pe_ifExp (pt_cmpR op_isnt (pv 8) pe_non (nomark _)) pe_non (pe_lc (own := [("one", 4)]) (g := (gName 4)) (tt := tYes) rfl nd (pi_list (pe_slice sl_any (pv 6) (po_some pe_int) po_none)) (blkOk_by (N := N_latest) (sc := defScope s_latest) (by decide +kernel)) (fun _ _ _ _ _ => (pg_name (i := 4) nd rfl (by first | exact Or.inl rfl | exact Or.inr rfl))) (fun _ _ _ _ _ => pts_nil) (fun _ _ _ _ _ => (pe_op op_sub pe_int (pv 4)))))))))
theorem ok_latest {R : List D → (D → Prop) → Prop} (F : Fun K "latest" "latest" s_latest f fd) (bn : Bn mg) {R_longest_from : List D → (D → Prop) → Prop} {k_longest_from : Nat} (C_longest_from : Cal P w K mg base "longest_from" ["count", "rules", "start"] (spP R_longest_from) k_longest_from) (h_longest_from : k_longest_from ≤ k) {R_rules_of : List D → (D → Prop) → Prop} {k_rules_of : Nat} (C_rules_of : Cal P w K mg base "rules_of" ["windows", "gaps"] (spP R_rules_of) k_rules_of) (h_rules_of : k_rules_of ≤ k) (len : ∀ ds Z, R ds Z → ds.length = 2) (sx : ∀ ds Z, R ds Z → SX (T_latest K R_longest_from R_rules_of) (startE N_latest ds) { nx := fun _ => Z .none, rt := fun d _ => Z d }) :
    FnOk P w K mg base CX0 (k + 1) f fd ["windows", "gaps"] (spP R) := fn_pure F sc_latest len fun cdv A outer s H E hr => ⟨_, ps_latest bn hr C_longest_from h_longest_from C_rules_of h_rules_of, sx⟩
theorem ps_fixed_cues {cdv : Value} {A : Around} {outer : List PySem.Env} {s : Shared} {H : Hp} {E : XK} (bn : Bn mg) (hr : Room k (A.deeper (PyProof.Rows.envOfC "fixed_cues" (defScope s_fixed_cues) s.heap.objs.size f cdv))) {R_earliest : List D → (D → Prop) → Prop} {k_earliest : Nat} (C_earliest : Cal P w K mg base "earliest" ["windows", "gaps"] (spP R_earliest) k_earliest) (h_earliest : k_earliest ≤ k) {R_latest : List D → (D → Prop) → Prop} {k_latest : Nat} (C_latest : Cal P w K mg base "latest" ["windows", "gaps"] (spP R_latest) k_latest) (h_latest : k_latest ≤ k) :
    PSs (cxOf CX0 P w K mg base N_fixed_cues "fixed_cues" (defScope s_fixed_cues) f cdv A outer s H E).nox (defBody s_fixed_cues) (T_fixed_cues K R_earliest R_latest) :=
  have nd := sc_fixed_cues.nd
  (pss_cons (ps_asg (pe_tup (pa_cons (pe_cal C_earliest (hr.mono h_earliest) (by rfl) (pa_cons (pv 0) (pa_cons (pv 1) pa_nil))) (pa_cons (pe_cal C_latest (hr.mono h_latest) (by rfl) (pa_cons (pv 0) (pa_cons (pv 1) pa_nil))) pa_nil))) (pg_tup (n := 2) rfl (pgs_cons (pg_name (i := 2) nd rfl (by first | exact Or.inl rfl | exact Or.inr rfl)) (pgs_cons (pg_name (i := 3) nd rfl (by first | exact Or.inl rfl | exact Or.inr rfl)) pgs_nil))))
    (pss_cons (ps_if (pt_cmpR op_is (pv 3) pe_non (nomark _))
      (pss_one (ps_ret pe_non))
      pss_nil)
    (pss_one (ps_ret (pe_lc (own := [("at", 4)]) (g := (gName 4)) (tt := (tTest (tOp (rEqP K) (tOp (rIxA K) (tOp (rIxA K) (tVar 2) (tC (.int 1))) (tVar 4)) (tOp (rIxA K) (tVar 3) (tVar 4))))) rfl nd (pi_range1 (by rfl) bn.range_ (pa_cons (pe_callB Pu.cb_len (by rfl) bn.len_ (by decide +kernel) (pa_cons (pv 0) pa_nil)) pa_nil)) (blkOk_by (N := N_fixed_cues) (sc := defScope s_fixed_cues) (by decide +kernel)) (fun _ _ _ _ _ => (pg_name (i := 4) nd rfl (by first | exact Or.inl rfl | exact Or.inr rfl))) (fun _ _ _ _ _ => (pts_one (pt_cmpR (op_eqP hr.units) (pe_ix ix_any (pe_ix ix_any (pv 2) pe_int (fun _ _ => rfl)) (pv 4) (fun _ _ => rfl)) (pe_ix ix_any (pv 3) (pv 4) (fun _ _ => rfl)) (nomark _)))) (fun _ _ _ _ _ => (pv 4)))))))
theorem ok_fixed_cues {R : List D → (D → Prop) → Prop} (F : Fun K "fixed_cues" "fixed_cues" s_fixed_cues f fd) (bn : Bn mg) {R_earliest : List D → (D → Prop) → Prop} {k_earliest : Nat} (C_earliest : Cal P w K mg base "earliest" ["windows", "gaps"] (spP R_earliest) k_earliest) (h_earliest : k_earliest ≤ k) {R_latest : List D → (D → Prop) → Prop} {k_latest : Nat} (C_latest : Cal P w K mg base "latest" ["windows", "gaps"] (spP R_latest) k_latest) (h_latest : k_latest ≤ k) (len : ∀ ds Z, R ds Z → ds.length = 2) (sx : ∀ ds Z, R ds Z → SX (T_fixed_cues K R_earliest R_latest) (startE N_fixed_cues ds) { nx := fun _ => Z .none, rt := fun d _ => Z d }) :
    FnOk P w K mg base CX0 (k + 1) f fd ["windows", "gaps"] (spP R) := fn_pure F sc_fixed_cues len fun cdv A outer s H E hr => ⟨_, ps_fixed_cues bn hr C_earliest h_earliest C_latest h_latest, sx⟩
theorem ps_needless_gaps {cdv : Value} {A : Around} {outer : List PySem.Env} {s : Shared} {H : Hp} {E : XK} (bn : Bn mg) (hr : Room k (A.deeper (PyProof.Rows.envOfC "needless_gaps" (defScope s_needless_gaps) s.heap.objs.size f cdv))) {R_latest : List D → (D → Prop) → Prop} {k_latest : Nat} (C_latest : Cal P w K mg base "latest" ["windows", "gaps"] (spP R_latest) k_latest) (h_latest : k_latest ≤ k) {R_earliest : List D → (D → Prop) → Prop} {k_earliest : Nat} (C_earliest : Cal P w K mg base "earliest" ["windows", "gaps"] (spP R_earliest) k_earliest) (h_earliest : k_earliest ≤ k) :
    PSs (cxOf CX0 P w K mg base N_needless_gaps "needless_gaps" (defScope s_needless_gaps) f cdv A outer s H E).nox (defBody s_needless_gaps) (T_needless_gaps K R_latest R_earliest) :=
  have nd := sc_needless_gaps.nd
  (pss_cons (ps_set (i := 2) nd rfl (by first | exact Or.inl rfl | exact Or.inr rfl) (pe_tup (pa_cons (pe_ix ix_any (pe_cal C_earliest (hr.mono h_earliest) (by rfl) (pa_cons (pv 0) (pa_cons (pv 1) pa_nil))) pe_int (fun _ _ => rfl)) (pa_cons (pe_cal C_latest (hr.mono h_latest) (by rfl) (pa_cons (pv 0) (pa_cons (pv 1) pa_nil))) pa_nil))))
    (pss_cons (ps_set (i := 3) nd rfl (by first | exact Or.inl rfl | exact Or.inr rfl) (pe_lst pa_nil))
    (pss_cons (ps_for PassesOwn.never rfl (pi_range1 (by rfl) bn.range_ (pa_cons (pe_callB Pu.cb_len (by rfl) bn.len_ (by decide +kernel) (pa_cons (pv 1) pa_nil)) pa_nil)) (pg_name (i := 4) nd rfl (by first | exact Or.inl rfl | exact Or.inr rfl))
      (pss_cons (ps_set (i := 5) nd rfl (by first | exact Or.inl rfl | exact Or.inr rfl) (pe_op op_plus (pe_slice sl_any (pv 1) po_none (po_some (pv 4))) (pe_slice sl_any (pv 1) (po_some (pe_op op_plus (pv 4) pe_int)) po_none)))
    (pss_one (ps_if (PW.pt (pw_and (pt_cmpR op_isnt (pe_ix ix_any (pv 2) pe_int (fun _ _ => rfl)) pe_non (nomark _)) (pw_and1 (pt_cmpR (op_eqP hr.units) (pe_tup (pa_cons (pe_ix ix_any (pe_cal C_earliest (hr.mono h_earliest) (by rfl) (pa_cons (pv 0) (pa_cons (pv 5) pa_nil))) pe_int (fun _ _ => rfl)) (pa_cons (pe_cal C_latest (hr.mono h_latest) (by rfl) (pa_cons (pv 0) (pa_cons (pv 5) pa_nil))) pa_nil))) (pv 2) (nomark _)))))
      (pss_one (ps_expr (pe_bm PySem.F.plainAttrs_list PySem.F.slot_list_append PySem.F.type_list_append mt_append (pv 3) (pa_cons (pv 4) pa_nil))))
      pss_nil))))
    (pss_one (ps_ret (pv 3))))))
theorem ok_needless_gaps {R : List D → (D → Prop) → Prop} (F : Fun K "needless_gaps" "needless_gaps" s_needless_gaps f fd) (bn : Bn mg) {R_latest : List D → (D → Prop) → Prop} {k_latest : Nat} (C_latest : Cal P w K mg base "latest" ["windows", "gaps"] (spP R_latest) k_latest) (h_latest : k_latest ≤ k) {R_earliest : List D → (D → Prop) → Prop} {k_earliest : Nat} (C_earliest : Cal P w K mg base "earliest" ["windows", "gaps"] (spP R_earliest) k_earliest) (h_earliest : k_earliest ≤ k) (len : ∀ ds Z, R ds Z → ds.length = 2) (sx : ∀ ds Z, R ds Z → SX (T_needless_gaps K R_latest R_earliest) (startE N_needless_gaps ds) { nx := fun _ => Z .none, rt := fun d _ => Z d }) :
    FnOk P w K mg base CX0 (k + 1) f fd ["windows", "gaps"] (spP R) := fn_pure F sc_needless_gaps len fun cdv A outer s H E hr => ⟨_, ps_needless_gaps bn hr C_latest h_latest C_earliest h_earliest, sx⟩
theorem ps_l_draw {cdv : Value} {A : Around} {outer : List PySem.Env} {s : Shared} {H : Hp} {E : XK} (bn : Bn mg) (hr : Room k (A.deeper (PyProof.Rows.envOfC "_law_draw" (defScope s_l_draw) s.heap.objs.size f cdv))) :
    PSs (cxOf CX0 P w K mg base N_l_draw "_law_draw" (defScope s_l_draw) f cdv A outer s H E).nox (defBody s_l_draw) (T_l_draw K) :=
  have nd := sc_l_draw.nd
  (pss_cons (ps_if (pt_cmpR (op_eqP hr.units) (pe_ix ix_any (pv 0) pe_int (fun _ _ => rfl)) pe_int (nomark _))
      (pss_cons (ps_set (i := 3) nd rfl (by first | exact Or.inl rfl | exact Or.inr rfl) pe_int)
    (pss_cons (ps_if (pt_cmpR op_gt (pe_callB Pu.cb_len (by rfl) bn.len_ (by decide +kernel) (pa_cons (pv 1) pa_nil)) pe_int (nomark _))
      (pss_one (ps_set (i := 3) nd rfl (by first | exact Or.inl rfl | exact Or.inr rfl) (pe_ix ix_any (pv 1) (pe_op op_mod (pe_ix ix_any (pv 0) pe_int (fun _ _ => rfl)) (pe_callB Pu.cb_len (by rfl) bn.len_ (by decide +kernel) (pa_cons (pv 1) pa_nil))) (fun _ _ => rfl))))
      pss_nil)
    (pss_cons (ps_if (pt_cmpR op_lt (pv 3) pe_int (nomark _))
      (pss_one (ps_set (i := 3) nd rfl (by first | exact Or.inl rfl | exact Or.inr rfl) (pe_op op_sub pe_int (pe_op op_mul pe_int (pv 3)))))
      pss_nil)
    (pss_cons (ps_set (i := 4) nd rfl (by first | exact Or.inl rfl | exact Or.inr rfl) (pe_op op_mod (pe_callTy cb_int (by rfl) bn.int_ (by decide +kernel) (pa_cons (pe_op op_mul (pe_op op_plus (pe_op op_plus (pv 3) (pe_op op_mul (pe_ix ix_any (pv 0) pe_int (fun _ _ => rfl)) pe_int)) pe_int) pe_int) pa_nil)) pe_int))
    (pss_cons (ps_asg (pe_op op_mod (pe_callTy cb_int (by rfl) bn.int_ (by decide +kernel) (pa_cons (pe_op op_plus (pe_op op_mul (pv 4) pe_int) (pe_op op_mul (pe_ix ix_any (pv 0) pe_int (fun _ _ => rfl)) pe_int)) pa_nil)) pe_int) (pg_sub (pv 0) pe_int set_list))
    (pss_cons (ps_if (PW.pt (pw_and (pt_cmpR op_ge (pv 3) (pe_op op_pow pe_int pe_int) (nomark _)) (pw_and1 (pt_cmpR op_lt (pe_ix ix_any (pv 0) pe_int (fun _ _ => rfl)) (pe_callB Pu.cb_len (by rfl) bn.len_ (by decide +kernel) (pa_cons (pv 1) pa_nil)) (nomark _)))))
      (pss_one (ps_asg (pv 3) (pg_sub (pv 0) pe_int set_list)))
      pss_nil)
    (pss_one (ps_asg (pe_op op_plus (pe_ix ix_any (pv 0) pe_int (fun _ _ => rfl)) pe_int) (pg_sub (pv 0) pe_int set_list)))))))))
      pss_nil)
    (pss_cons (ps_set (i := 5) nd rfl (by first | exact Or.inl rfl | exact Or.inr rfl) (pe_op op_mod (pe_callTy cb_int (by rfl) bn.int_ (by decide +kernel) (pa_cons (pe_ix ix_any (pv 0) pe_int (fun _ _ => rfl)) pa_nil)) (pv 2)))
    (pss_cons (ps_asg (pe_op op_fdiv (pe_ix ix_any (pv 0) pe_int (fun _ _ => rfl)) (pv 2)) (pg_sub (pv 0) pe_int set_list))
    (pss_one (ps_ret (pv 5))))))
theorem ok_l_draw {R : Stt → List D → (D → Stt → Prop) → Prop} (F : Fun K "_law_draw" "_law_draw" s_l_draw f fd) (bn : Bn mg) (len : ∀ S ds Z, R S ds Z → ds.length + 1 = 3) (sx : ∀ S ds Z, R S ds Z → SX (T_l_draw K) (.st S :: (ds.map .val ++ List.replicate (N_l_draw.length - (ds.length + 1)) .emp)) { nx := fun ρ' => ∃ S', ρ'[0]? = some (.st S') ∧ Z .none S', rt := fun d ρ' => ∃ S', ρ'[0]? = some (.st S') ∧ Z d S' }) :
    FnOk P w K mg base CX0 (k + 1) f fd ["state", "script", "size"] (spS R) := fn_state F sc_l_draw len fun cdv A outer s H E hr => ⟨_, ps_l_draw bn hr, sx⟩
theorem ps_l_pick {cdv : Value} {A : Around} {outer : List PySem.Env} {s : Shared} {H : Hp} {E : XK} (bn : Bn mg) (hr : Room k (A.deeper (PyProof.Rows.envOfC "_law_pick" (defScope s_l_pick) s.heap.objs.size f cdv))) {R_l_draw : Stt → List D → (D → Stt → Prop) → Prop} {k_l_draw : Nat} (C_l_draw : Cal P w K mg base "_law_draw" ["state", "script", "size"] (spS R_l_draw) k_l_draw) (h_l_draw : k_l_draw ≤ k) :
    PSs (cxOf CX0 P w K mg base N_l_pick "_law_pick" (defScope s_l_pick) f cdv A outer s H E).nox (defBody s_l_pick) (T_l_pick K R_l_draw) :=
  have nd := sc_l_pick.nd
  (pss_one (ps_ret (pe_ix ix_any (pv 2) (pe_cal C_l_draw (hr.mono h_l_draw) (by rfl) (pa_cons (pv 0) (pa_cons (pv 1) (pa_cons (pe_callB Pu.cb_len (by rfl) bn.len_ (by decide +kernel) (pa_cons (pv 2) pa_nil)) pa_nil)))) (fun _ _ => rfl))))
theorem ok_l_pick {R : Stt → List D → (D → Stt → Prop) → Prop} (F : Fun K "_law_pick" "_law_pick" s_l_pick f fd) (bn : Bn mg) {R_l_draw : Stt → List D → (D → Stt → Prop) → Prop} {k_l_draw : Nat} (C_l_draw : Cal P w K mg base "_law_draw" ["state", "script", "size"] (spS R_l_draw) k_l_draw) (h_l_draw : k_l_draw ≤ k) (len : ∀ S ds Z, R S ds Z → ds.length + 1 = 3) (sx : ∀ S ds Z, R S ds Z → SX (T_l_pick K R_l_draw) (.st S :: (ds.map .val ++ List.replicate (N_l_pick.length - (ds.length + 1)) .emp)) { nx := fun ρ' => ∃ S', ρ'[0]? = some (.st S') ∧ Z .none S', rt := fun d ρ' => ∃ S', ρ'[0]? = some (.st S') ∧ Z d S' }) :
    FnOk P w K mg base CX0 (k + 1) f fd ["state", "script", "items"] (spS R) := fn_state F sc_l_pick len fun cdv A outer s H E hr => ⟨_, ps_l_pick bn hr C_l_draw h_l_draw, sx⟩
theorem ps_l_rules {cdv : Value} {A : Around} {outer : List PySem.Env} {s : Shared} {H : Hp} {E : XK} (bn : Bn mg) (hr : Room k (A.deeper (PyProof.Rows.envOfC "_law_rules" (defScope s_l_rules) s.heap.objs.size f cdv))) :
    PSs (cxOf CX0 P w K mg base N_l_rules "_law_rules" (defScope s_l_rules) f cdv A outer s H E).nox (defBody s_l_rules) (T_l_rules K) :=
  have nd := sc_l_rules.nd
  (pss_cons (ps_set (i := 2) nd rfl (by first | exact Or.inl rfl | exact Or.inr rfl) (pe_lst pa_nil))
    (pss_cons (ps_for PassesOwn.never rfl (pi_range1 (by rfl) bn.range_ (pa_cons (pe_callB Pu.cb_len (by rfl) bn.len_ (by decide +kernel) (pa_cons (pv 0) pa_nil)) pa_nil)) (pg_name (i := 3) nd rfl (by first | exact Or.inl rfl | exact Or.inr rfl))
      (pss_one (ps_set (i := 2) nd rfl (by first | exact Or.inl rfl | exact Or.inr rfl) (pe_op op_plus (pv 2) (pe_lst (pa_cons (pe_tup (pa_cons pe_int (pa_cons (pe_op op_plus (pv 3) pe_int) (pa_cons (pe_ix ix_any (pe_ix ix_any (pv 0) (pv 3) (fun _ _ => rfl)) pe_int (fun _ _ => rfl)) pa_nil)))) (pa_cons (pe_tup (pa_cons (pe_op op_plus (pv 3) pe_int) (pa_cons pe_int (pa_cons (pe_op op_sub pe_int (pe_ix ix_any (pe_ix ix_any (pv 0) (pv 3) (fun _ _ => rfl)) pe_int (fun _ _ => rfl))) pa_nil)))) pa_nil)))))))
    (pss_one (ps_ret (pe_op op_plus (pv 2) (pe_lc (own := [("one", 4), ("other", 5), ("least", 6)]) (g := (gTup K 3 (gCons (gName 4) (gCons (gName 5) (gCons (gName 6) gNil))))) (tt := tYes) rfl nd (pi_list (pv 1)) (blkOk_by (N := N_l_rules) (sc := defScope s_l_rules) (by decide +kernel)) (fun _ _ _ _ _ => (pg_tup (n := 3) rfl (pgs_cons (pg_name (i := 4) nd rfl (by first | exact Or.inl rfl | exact Or.inr rfl)) (pgs_cons (pg_name (i := 5) nd rfl (by first | exact Or.inl rfl | exact Or.inr rfl)) (pgs_cons (pg_name (i := 6) nd rfl (by first | exact Or.inl rfl | exact Or.inr rfl)) pgs_nil))))) (fun _ _ _ _ _ => pts_nil) (fun _ _ _ _ _ => (pe_tup (pa_cons (pe_op op_plus (pv 4) pe_int) (pa_cons (pe_op op_plus (pv 5) pe_int) (pa_cons (pv 6) pa_nil)))))))))))
theorem ok_l_rules {R : List D → (D → Prop) → Prop} (F : Fun K "_law_rules" "_law_rules" s_l_rules f fd) (bn : Bn mg) (len : ∀ ds Z, R ds Z → ds.length = 2) (sx : ∀ ds Z, R ds Z → SX (T_l_rules K) (startE N_l_rules ds) { nx := fun _ => Z .none, rt := fun d _ => Z d }) :
    FnOk P w K mg base CX0 (k + 1) f fd ["windows", "gaps"] (spP R) := fn_pure F sc_l_rules len fun cdv A outer s H E hr => ⟨_, ps_l_rules bn hr, sx⟩
theorem ps_l_all {cdv : Value} {A : Around} {outer : List PySem.Env} {s : Shared} {H : Hp} {E : XK} (bn : Bn mg) (hr : Room k (A.deeper (PyProof.Rows.envOfC "_law_all" (defScope s_l_all) s.heap.objs.size f cdv))) :
    PSs (cxOf CX0 P w K mg base N_l_all "_law_all" (defScope s_l_all) f cdv A outer s H E).nox (defBody s_l_all) (T_l_all K) :=
  have nd := sc_l_all.nd
  (pss_cons (ps_set (i := 2) nd rfl (by first | exact Or.inl rfl | exact Or.inr rfl) (pe_lst (pa_cons (pe_lst (pa_cons pe_int pa_nil)) pa_nil)))
    (pss_cons (ps_for PassesOwn.never rfl (pi_list (pv 0)) (pg_tup (n := 2) rfl (pgs_cons (pg_name (i := 3) nd rfl (by first | exact Or.inl rfl | exact Or.inr rfl)) (pgs_cons (pg_name (i := 4) nd rfl (by first | exact Or.inl rfl | exact Or.inr rfl)) pgs_nil)))
      (pss_cons (ps_set (i := 5) nd rfl (by first | exact Or.inl rfl | exact Or.inr rfl) (pe_lst pa_nil))
    (pss_cons (ps_for PassesOwn.never rfl (pi_list (pv 2)) (pg_name (i := 6) nd rfl (by first | exact Or.inl rfl | exact Or.inr rfl))
      (pss_one (ps_set (i := 5) nd rfl (by first | exact Or.inl rfl | exact Or.inr rfl) (pe_op op_plus (pv 5) (pe_lc (own := [("time", 7)]) (g := (gName 7)) (tt := tYes) rfl nd (pi_range2 (by rfl) bn.range_ (pa_cons (pv 3) (pa_cons (pe_op op_plus (pv 4) pe_int) pa_nil))) (blkOk_by (N := N_l_all) (sc := defScope s_l_all) (by decide +kernel)) (fun _ _ _ _ _ => (pg_name (i := 7) nd rfl (by first | exact Or.inl rfl | exact Or.inr rfl))) (fun _ _ _ _ _ => pts_nil) (fun _ _ _ _ _ => (pe_op op_plus (pv 6) (pe_lst (pa_cons (pv 7) pa_nil)))))))))
    (pss_one (ps_set (i := 2) nd rfl (by first | exact Or.inl rfl | exact Or.inr rfl) (pv 5))))))
    (pss_cons (ps_set (i := 8) nd rfl (by first | exact Or.inl rfl | exact Or.inr rfl) (pe_lst pa_nil))
    (pss_cons (ps_for PassesOwn.never rfl (pi_list (pv 2)) (pg_name (i := 6) nd rfl (by first | exact Or.inl rfl | exact Or.inr rfl))
      (pss_one (ps_if (pt_cmpR (op_eqP hr.units) (pe_callB Pu.cb_len (by rfl) bn.len_ (by decide +kernel) (pa_cons (pe_lc (own := [("gap", 9)]) (g := (gName 9)) (tt := (tTest (tOp (rI0 fun i j => .bl (decide (i < j))) (tOp (rI0 fun i j => .int (i - j)) (tOp (rIxA K) (tVar 6) (tOp (rPlus K) (tOp (rIxA K) (tVar 9) (tC (.int 1))) (tC (.int 1)))) (tOp (rIxA K) (tVar 6) (tOp (rPlus K) (tOp (rIxA K) (tVar 9) (tC (.int 0))) (tC (.int 1))))) (tOp (rIxA K) (tVar 9) (tC (.int 2)))))) rfl nd (pi_list (pv 1)) (blkOk_by (N := N_l_all) (sc := defScope s_l_all) (by decide +kernel)) (fun _ _ _ _ _ => (pg_name (i := 9) nd rfl (by first | exact Or.inl rfl | exact Or.inr rfl))) (fun _ _ _ _ _ => (pts_one (pt_cmpR op_lt (pe_op op_sub (pe_ix ix_any (pv 6) (pe_op op_plus (pe_ix ix_any (pv 9) pe_int (fun _ _ => rfl)) pe_int) (fun _ _ => rfl)) (pe_ix ix_any (pv 6) (pe_op op_plus (pe_ix ix_any (pv 9) pe_int (fun _ _ => rfl)) pe_int) (fun _ _ => rfl))) (pe_ix ix_any (pv 9) pe_int (fun _ _ => rfl)) (nomark _)))) (fun _ _ _ _ _ => (pv 9))) pa_nil)) pe_int (nomark _))
      (pss_one (ps_expr (pe_bm PySem.F.plainAttrs_list PySem.F.slot_list_append PySem.F.type_list_append mt_append (pv 8) (pa_cons (pe_slice sl_any (pv 6) (po_some pe_int) po_none) pa_nil))))
      pss_nil)))
    (pss_one (ps_ret (pv 8)))))))
theorem ok_l_all {R : List D → (D → Prop) → Prop} (F : Fun K "_law_all" "_law_all" s_l_all f fd) (bn : Bn mg) (len : ∀ ds Z, R ds Z → ds.length = 2) (sx : ∀ ds Z, R ds Z → SX (T_l_all K) (startE N_l_all ds) { nx := fun _ => Z .none, rt := fun d _ => Z d }) :
    FnOk P w K mg base CX0 (k + 1) f fd ["windows", "gaps"] (spP R) := fn_pure F sc_l_all len fun cdv A outer s H E hr => ⟨_, ps_l_all bn hr, sx⟩
theorem ps_l_leads {cdv : Value} {A : Around} {outer : List PySem.Env} {s : Shared} {H : Hp} {E : XK} (bn : Bn mg) (hr : Room k (A.deeper (PyProof.Rows.envOfC "_law_leads" (defScope s_l_leads) s.heap.objs.size f cdv))) :
    PSs (cxOf CX0 P w K mg base N_l_leads "_law_leads" (defScope s_l_leads) f cdv A outer s H E).nox (defBody s_l_leads) (T_l_leads K) :=
  have nd := sc_l_leads.nd
  (pss_cons (ps_set (i := 4) nd rfl (by first | exact Or.inl rfl | exact Or.inr rfl) (pv 2))
    (pss_cons (ps_for PassesOwn.never rfl (pi_list (pv 1)) (pg_name (i := 5) nd rfl (by first | exact Or.inl rfl | exact Or.inr rfl))
      (pss_cons (ps_if (PW.pt (pw_or (pt_not (pt_chain op_le op_lt pe_int (pv 5) (pe_callB Pu.cb_len (by rfl) bn.len_ (by decide +kernel) (pa_cons (pv 0) pa_nil)))) (pw_or1 (pt_cmpR (op_neP hr.units) (pe_ix ix_any (pe_ix ix_any (pv 0) (pv 5) (fun _ _ => rfl)) pe_int (fun _ _ => rfl)) (pv 4) (nomark _)))))
      (pss_one (ps_ret pe_bl))
      pss_nil)
    (pss_one (ps_set (i := 4) nd rfl (by first | exact Or.inl rfl | exact Or.inr rfl) (pe_ix ix_any (pe_ix ix_any (pv 0) (pv 5) (fun _ _ => rfl)) pe_int (fun _ _ => rfl))))))
    (pss_one (ps_ret (pe_cmpR (op_eqP hr.units) (pv 4) (pv 3) (nomark _))))))
theorem ok_l_leads {R : List D → (D → Prop) → Prop} (F : Fun K "_law_leads" "_law_leads" s_l_leads f fd) (bn : Bn mg) (len : ∀ ds Z, R ds Z → ds.length = 4) (sx : ∀ ds Z, R ds Z → SX (T_l_leads K) (startE N_l_leads ds) { nx := fun _ => Z .none, rt := fun d _ => Z d }) :
    FnOk P w K mg base CX0 (k + 1) f fd ["rules", "chain", "start", "end"] (spP R) := fn_pure F sc_l_leads len fun cdv A outer s H E hr => ⟨_, ps_l_leads bn hr, sx⟩
theorem ps_l_fault {cdv : Value} {A : Around} {outer : List PySem.Env} {s : Shared} {H : Hp} {E : XK} (bn : Bn mg) (hr : Room k (A.deeper (PyProof.Rows.envOfC "_law_fault" (defScope s_l_fault) s.heap.objs.size f cdv))) {R_l_rules : List D → (D → Prop) → Prop} {k_l_rules : Nat} (C_l_rules : Cal P w K mg base "_law_rules" ["windows", "gaps"] (spP R_l_rules) k_l_rules) (h_l_rules : k_l_rules ≤ k) {R_l_leads : List D → (D → Prop) → Prop} {k_l_leads : Nat} (C_l_leads : Cal P w K mg base "_law_leads" ["rules", "chain", "start", "end"] (spP R_l_leads) k_l_leads) (h_l_leads : k_l_leads ≤ k) :
    PSs (cxOf CX0 P w K mg base N_l_fault "_law_fault" (defScope s_l_fault) f cdv A outer s H E).nox (defBody s_l_fault) (T_l_fault K R_l_rules R_l_leads) :=
  have nd := sc_l_fault.nd
  (pss_cons (ps_set (i := 3) nd rfl (by first | exact Or.inl rfl | exact Or.inr rfl) (pe_cal C_l_rules (hr.mono h_l_rules) (by rfl) (pa_cons (pv 0) (pa_cons (pv 1) pa_nil))))
    (pss_cons (ps_if (pt_cmpR (op_eqP hr.units) (pe_ix ix_any (pv 2) pe_int (fun _ _ => rfl)) pe_str (nomark _))
      (pss_cons (ps_set (i := 4) nd rfl (by first | exact Or.inl rfl | exact Or.inr rfl) (pe_ix ix_any (pv 2) pe_int (fun _ _ => rfl)))
    (pss_cons (ps_if (PW.pt (pw_or (pt_cmpR (op_eqP hr.units) (pv 4) (pe_lst pa_nil) (nomark _)) (pw_or (pt_not (pt_chain op_le op_lt pe_int (pe_ix ix_any (pv 4) pe_int (fun _ _ => rfl)) (pe_callB Pu.cb_len (by rfl) bn.len_ (by decide +kernel) (pa_cons (pv 3) pa_nil)))) (pw_or1 (pt_not (pt_val (pe_cal C_l_leads (hr.mono h_l_leads) (by rfl) (pa_cons (pv 3) (pa_cons (pv 4) (pa_cons (pe_ix ix_any (pe_ix ix_any (pv 3) (pe_ix ix_any (pv 4) pe_int (fun _ _ => rfl)) (fun _ _ => rfl)) pe_int (fun _ _ => rfl)) (pa_cons (pe_ix ix_any (pe_ix ix_any (pv 3) (pe_ix ix_any (pv 4) pe_int (fun _ _ => rfl)) (fun _ _ => rfl)) pe_int (fun _ _ => rfl)) pa_nil)))))))))))
      (pss_one (ps_ret (pe_tup (pa_cons pe_str pa_nil))))
      pss_nil)
    (pss_one (ps_ret (pe_ix ix_any (pe_lst (pa_cons (pe_tup (pa_cons pe_str pa_nil)) (pa_cons pe_non pa_nil))) (pe_callTy cb_int (by rfl) bn.int_ (by decide +kernel) (pa_cons (pe_cmpR op_gt (pe_callB (cr_sum rfl) (by rfl) bn.sum_ (by decide +kernel) (pa_cons (pe_lc (own := [("number", 5)]) (g := (gName 5)) (tt := tYes) rfl nd (pi_list (pv 4)) (blkOk_by (N := N_l_fault) (sc := defScope s_l_fault) (by decide +kernel)) (fun _ _ _ _ _ => (pg_name (i := 5) nd rfl (by first | exact Or.inl rfl | exact Or.inr rfl))) (fun _ _ _ _ _ => pts_nil) (fun _ _ _ _ _ => (pe_ix ix_any (pe_ix ix_any (pv 3) (pv 5) (fun _ _ => rfl)) pe_int (fun _ _ => rfl)))) pa_nil)) pe_int (nomark _)) pa_nil)) (fun _ _ => rfl))))))
      pss_nil)
    (pss_cons (ps_asg (pv 2) (pg_tup (n := 3) rfl (pgs_cons (pg_name (i := 6) nd rfl (by first | exact Or.inl rfl | exact Or.inr rfl)) (pgs_cons (pg_name (i := 7) nd rfl (by first | exact Or.inl rfl | exact Or.inr rfl)) (pgs_cons (pg_name (i := 8) nd rfl (by first | exact Or.inl rfl | exact Or.inr rfl)) pgs_nil)))))
    (pss_cons (ps_if (PW.pt (pw_or (pt_cmpR (op_neP hr.units) (pe_callB Pu.cb_len (by rfl) bn.len_ (by decide +kernel) (pa_cons (pv 7) pa_nil)) (pe_callB Pu.cb_len (by rfl) bn.len_ (by decide +kernel) (pa_cons (pv 0) pa_nil)) (nomark _)) (pw_or1 (pt_cmpR (op_neP hr.units) (pe_callB Pu.cb_len (by rfl) bn.len_ (by decide +kernel) (pa_cons (pv 8) pa_nil)) (pe_callB Pu.cb_len (by rfl) bn.len_ (by decide +kernel) (pa_cons (pv 0) pa_nil)) (nomark _)))))
      (pss_one (ps_ret (pe_tup (pa_cons pe_str pa_nil))))
      pss_nil)
    (pss_cons (ps_set (i := 9) nd rfl (by first | exact Or.inl rfl | exact Or.inr rfl) (pe_op op_plus (pe_lst (pa_cons pe_int pa_nil)) (pe_callTy cb_list (by rfl) bn.list_ (by decide +kernel) (pa_cons (pv 7) pa_nil))))
    (pss_cons (ps_for PassesOwn.never rfl (pi_range1 (by rfl) bn.range_ (pa_cons (pe_callB Pu.cb_len (by rfl) bn.len_ (by decide +kernel) (pa_cons (pv 3) pa_nil)) pa_nil)) (pg_name (i := 10) nd rfl (by first | exact Or.inl rfl | exact Or.inr rfl))
      (pss_one (ps_if (pt_cmpR op_lt (pe_op op_sub (pe_ix ix_any (pv 9) (pe_ix ix_any (pe_ix ix_any (pv 3) (pv 10) (fun _ _ => rfl)) pe_int (fun _ _ => rfl)) (fun _ _ => rfl)) (pe_ix ix_any (pv 9) (pe_ix ix_any (pe_ix ix_any (pv 3) (pv 10) (fun _ _ => rfl)) pe_int (fun _ _ => rfl)) (fun _ _ => rfl))) (pe_ix ix_any (pe_ix ix_any (pv 3) (pv 10) (fun _ _ => rfl)) pe_int (fun _ _ => rfl)) (nomark _))
      (pss_one (ps_ret (pe_tup (pa_cons pe_str (pa_cons (pv 10) pa_nil)))))
      pss_nil)))
    (pss_cons (ps_for PassesOwn.never rfl (pi_range1 (by rfl) bn.range_ (pa_cons (pe_callB Pu.cb_len (by rfl) bn.len_ (by decide +kernel) (pa_cons (pv 8) pa_nil)) pa_nil)) (pg_name (i := 10) nd rfl (by first | exact Or.inl rfl | exact Or.inr rfl))
      (pss_one (ps_if (PW.pt (pw_or (pt_not (pt_val (pe_cal C_l_leads (hr.mono h_l_leads) (by rfl) (pa_cons (pv 3) (pa_cons (pe_ix ix_any (pv 8) (pv 10) (fun _ _ => rfl)) (pa_cons pe_int (pa_cons (pe_op op_plus (pv 10) pe_int) pa_nil))))))) (pw_or1 (pt_cmpR (op_neP hr.units) (pe_callB (cr_sum rfl) (by rfl) bn.sum_ (by decide +kernel) (pa_cons (pe_lc (own := [("number", 5)]) (g := (gName 5)) (tt := tYes) rfl nd (pi_list (pe_ix ix_any (pv 8) (pv 10) (fun _ _ => rfl))) (blkOk_by (N := N_l_fault) (sc := defScope s_l_fault) (by decide +kernel)) (fun _ _ _ _ _ => (pg_name (i := 5) nd rfl (by first | exact Or.inl rfl | exact Or.inr rfl))) (fun _ _ _ _ _ => pts_nil) (fun _ _ _ _ _ => (pe_ix ix_any (pe_ix ix_any (pv 3) (pv 5) (fun _ _ => rfl)) pe_int (fun _ _ => rfl)))) pa_nil)) (pe_ix ix_any (pv 7) (pv 10) (fun _ _ => rfl)) (nomark _)))))
      (pss_one (ps_ret (pe_tup (pa_cons pe_str (pa_cons (pv 10) pa_nil)))))
      pss_nil)))
    (pss_one (ps_ret pe_non)))))))))
theorem ok_l_fault {R : List D → (D → Prop) → Prop} (F : Fun K "_law_fault" "_law_fault" s_l_fault f fd) (bn : Bn mg) {R_l_rules : List D → (D → Prop) → Prop} {k_l_rules : Nat} (C_l_rules : Cal P w K mg base "_law_rules" ["windows", "gaps"] (spP R_l_rules) k_l_rules) (h_l_rules : k_l_rules ≤ k) {R_l_leads : List D → (D → Prop) → Prop} {k_l_leads : Nat} (C_l_leads : Cal P w K mg base "_law_leads" ["rules", "chain", "start", "end"] (spP R_l_leads) k_l_leads) (h_l_leads : k_l_leads ≤ k) (len : ∀ ds Z, R ds Z → ds.length = 3) (sx : ∀ ds Z, R ds Z → SX (T_l_fault K R_l_rules R_l_leads) (startE N_l_fault ds) { nx := fun _ => Z .none, rt := fun d _ => Z d }) :
    FnOk P w K mg base CX0 (k + 1) f fd ["windows", "gaps", "told"] (spP R) := fn_pure F sc_l_fault len fun cdv A outer s H E hr => ⟨_, ps_l_fault bn hr C_l_rules h_l_rules C_l_leads h_l_leads, sx⟩
theorem ps_l_bent {cdv : Value} {A : Around} {outer : List PySem.Env} {s : Shared} {H : Hp} {E : XK} (bn : Bn mg) (hr : Room k (A.deeper (PyProof.Rows.envOfC "_law_bent" (defScope s_l_bent) s.heap.objs.size f cdv))) {R_l_draw : Stt → List D → (D → Stt → Prop) → Prop} {k_l_draw : Nat} (C_l_draw : Cal P w K mg base "_law_draw" ["state", "script", "size"] (spS R_l_draw) k_l_draw) (h_l_draw : k_l_draw ≤ k) :
    PSs (cxOf CX0 P w K mg base N_l_bent "_law_bent" (defScope s_l_bent) f cdv A outer s H E).nox (defBody s_l_bent) (T_l_bent K R_l_draw) :=
  have nd := sc_l_bent.nd
  (pss_cons (ps_set (i := 4) nd rfl (by first | exact Or.inl rfl | exact Or.inr rfl) (pe_callTy cb_list (by rfl) bn.list_ (by decide +kernel) (pa_cons (pv 2) pa_nil)))
    (pss_cons (ps_if (pt_cmpR (op_eqP hr.units) (pv 4) (pe_lst pa_nil) (nomark _))
      (pss_one (ps_ret (pe_lst (pa_cons (pe_cal C_l_draw (hr.mono h_l_draw) (by rfl) (pa_cons (pv 0) (pa_cons (pv 1) (pa_cons (pv 3) pa_nil)))) pa_nil))))
      pss_nil)
    (pss_cons (ps_set (i := 5) nd rfl (by first | exact Or.inl rfl | exact Or.inr rfl) (pe_cal C_l_draw (hr.mono h_l_draw) (by rfl) (pa_cons (pv 0) (pa_cons (pv 1) (pa_cons (pe_callB Pu.cb_len (by rfl) bn.len_ (by decide +kernel) (pa_cons (pv 4) pa_nil)) pa_nil)))))
    (pss_cons (ps_if (pt_cmpR (op_eqP hr.units) (pe_cal C_l_draw (hr.mono h_l_draw) (by rfl) (pa_cons (pv 0) (pa_cons (pv 1) (pa_cons pe_int pa_nil)))) pe_int (nomark _))
      (pss_one (ps_ret (pe_op op_plus (pe_slice sl_any (pv 4) po_none (po_some (pv 5))) (pe_slice sl_any (pv 4) (po_some (pe_op op_plus (pv 5) pe_int)) po_none))))
      pss_nil)
    (pss_cons (ps_asg (pe_op op_sub (pe_op op_plus (pe_ix ix_any (pv 4) (pv 5) (fun _ _ => rfl)) pe_int) (pe_op op_mul pe_int (pe_cal C_l_draw (hr.mono h_l_draw) (by rfl) (pa_cons (pv 0) (pa_cons (pv 1) (pa_cons pe_int pa_nil)))))) (pg_sub (pv 4) (pv 5) set_list))
    (pss_one (ps_ret (pv 4))))))))
theorem ok_l_bent {R : Stt → List D → (D → Stt → Prop) → Prop} (F : Fun K "_law_bent" "_law_bent" s_l_bent f fd) (bn : Bn mg) {R_l_draw : Stt → List D → (D → Stt → Prop) → Prop} {k_l_draw : Nat} (C_l_draw : Cal P w K mg base "_law_draw" ["state", "script", "size"] (spS R_l_draw) k_l_draw) (h_l_draw : k_l_draw ≤ k) (len : ∀ S ds Z, R S ds Z → ds.length + 1 = 4) (sx : ∀ S ds Z, R S ds Z → SX (T_l_bent K R_l_draw) (.st S :: (ds.map .val ++ List.replicate (N_l_bent.length - (ds.length + 1)) .emp)) { nx := fun ρ' => ∃ S', ρ'[0]? = some (.st S') ∧ Z .none S', rt := fun d ρ' => ∃ S', ρ'[0]? = some (.st S') ∧ Z d S' }) :
    FnOk P w K mg base CX0 (k + 1) f fd ["state", "script", "row", "size"] (spS R) := fn_state F sc_l_bent len fun cdv A outer s H E hr => ⟨_, ps_l_bent bn hr C_l_draw h_l_draw, sx⟩
theorem ps_l_ends {cdv : Value} {A : Around} {outer : List PySem.Env} {s : Shared} {H : Hp} {E : XK} (bn : Bn mg) (hr : Room k (A.deeper (PyProof.Rows.envOfC "_law_ends" (defScope s_l_ends) s.heap.objs.size f cdv))) :
    PSs (cxOf CX0 P w K mg base N_l_ends "_law_ends" (defScope s_l_ends) f cdv A outer s H E).nox (defBody s_l_ends) (T_l_ends K) :=
  have nd := sc_l_ends.nd
  (pss_cons (ps_if (pt_cmpR (op_eqP hr.units) (pv 0) (pe_lst pa_nil) (nomark _))
      (pss_one (ps_ret pe_non))
      pss_nil)
    (pss_cons (ps_setLc (i := 1) (own := [("k", 3)]) (g := (gName 3)) (tt := tYes) rfl nd rfl rfl (sw_true rfl rfl rfl (by decide +kernel)) (pi_range1 (by rfl) bn.range_ (pa_cons (pe_callB Pu.cb_len (by rfl) bn.len_ (by decide +kernel) (pa_cons (pe_ix ix_any (pv 0) pe_int (fun _ _ => rfl)) pa_nil)) pa_nil)) (blkOk_by (N := N_l_ends) (sc := defScope s_l_ends) (by decide +kernel)) (fun _ _ _ _ _ => (pg_name (i := 3) nd rfl (by first | exact Or.inl rfl | exact Or.inr rfl))) (fun _ _ _ _ _ => pts_nil) (fun _ _ _ _ _ => (pe_callB (cb_minD rfl hr.units) (by rfl) bn.min_ (by decide +kernel) (pa_cons (pe_lc (own := [("row", 2)]) (g := (gName 2)) (tt := tYes) rfl nd (pi_list (pv 0)) (blkOk_by (by with_unfolding_all rfl)) (fun _ _ _ _ _ => (pg_name (i := 2) nd rfl (by first | exact Or.inl rfl | exact Or.inr rfl))) (fun _ _ _ _ _ => pts_nil) (fun _ _ _ _ _ => (pe_ix ix_any (pv 2) (pv 3) (fun _ _ => rfl)))) pa_nil))))
    (pss_one (ps_ret (pe_lst (pa_cons (pv 1) (pa_cons (pe_lc (own := [("k", 3)]) (g := (gName 3)) (tt := tYes) rfl nd (pi_range1 (by rfl) bn.range_ (pa_cons (pe_callB Pu.cb_len (by rfl) bn.len_ (by decide +kernel) (pa_cons (pe_ix ix_any (pv 0) pe_int (fun _ _ => rfl)) pa_nil)) pa_nil)) (blkOk_by (N := N_l_ends) (sc := defScope s_l_ends) (by decide +kernel)) (fun _ _ _ _ _ => (pg_name (i := 3) nd rfl (by first | exact Or.inl rfl | exact Or.inr rfl))) (fun _ _ _ _ _ => pts_nil) (fun _ _ _ _ _ => (pe_callB (cb_maxD rfl hr.units) (by rfl) bn.max_ (by decide +kernel) (pa_cons (pe_lc (own := [("row", 2)]) (g := (gName 2)) (tt := tYes) rfl nd (pi_list (pv 0)) (blkOk_by (by with_unfolding_all rfl)) (fun _ _ _ _ _ => (pg_name (i := 2) nd rfl (by first | exact Or.inl rfl | exact Or.inr rfl))) (fun _ _ _ _ _ => pts_nil) (fun _ _ _ _ _ => (pe_ix ix_any (pv 2) (pv 3) (fun _ _ => rfl)))) pa_nil)))) pa_nil)))))))
theorem ok_l_ends {R : List D → (D → Prop) → Prop} (F : Fun K "_law_ends" "_law_ends" s_l_ends f fd) (bn : Bn mg) (len : ∀ ds Z, R ds Z → ds.length = 1) (sx : ∀ ds Z, R ds Z → SX (T_l_ends K) (startE N_l_ends ds) { nx := fun _ => Z .none, rt := fun d _ => Z d }) :
    FnOk P w K mg base CX0 (k + 1) f fd ["every"] (spP R) := fn_pure F sc_l_ends len fun cdv A outer s H E hr => ⟨_, ps_l_ends bn hr, sx⟩
theorem ps_law {cdv : Value} {A : Around} {outer : List PySem.Env} {s : Shared} {H : Hp} {E : XK} (bn : Bn mg) (hr : Room k (A.deeper (PyProof.Rows.envOfC "law" (defScope s_law) s.heap.objs.size f cdv))) (hgd : (A.deeper (PyProof.Rows.envOfC "law" (defScope s_law) s.heap.objs.size f cdv)).guards = some []) {R_l_rules : List D → (D → Prop) → Prop} {k_l_rules : Nat} (C_l_rules : Cal P w K mg base "_law_rules" ["windows", "gaps"] (spP R_l_rules) k_l_rules) (h_l_rules : k_l_rules ≤ k) {R_l_all : List D → (D → Prop) → Prop} {k_l_all : Nat} (C_l_all : Cal P w K mg base "_law_all" ["windows", "gaps"] (spP R_l_all) k_l_all) (h_l_all : k_l_all ≤ k) {R_l_ends : List D → (D → Prop) → Prop} {k_l_ends : Nat} (C_l_ends : Cal P w K mg base "_law_ends" ["every"] (spP R_l_ends) k_l_ends) (h_l_ends : k_l_ends ≤ k) {R_earliest : List D → (D → Prop) → Prop} {k_earliest : Nat} (C_earliest : Cal P w K mg base "earliest" ["windows", "gaps"] (spP R_earliest) k_earliest) (h_earliest : k_earliest ≤ k) {R_l_draw : Stt → List D → (D → Stt → Prop) → Prop} {k_l_draw : Nat} (C_l_draw : Cal P w K mg base "_law_draw" ["state", "script", "size"] (spS R_l_draw) k_l_draw) (h_l_draw : k_l_draw ≤ k) {R_rules_of : List D → (D → Prop) → Prop} {k_rules_of : Nat} (C_rules_of : Cal P w K mg base "rules_of" ["windows", "gaps"] (spP R_rules_of) k_rules_of) (h_rules_of : k_rules_of ≤ k) {R_l_fault : List D → (D → Prop) → Prop} {k_l_fault : Nat} (C_l_fault : Cal P w K mg base "_law_fault" ["windows", "gaps", "told"] (spP R_l_fault) k_l_fault) (h_l_fault : k_l_fault ≤ k) {R_earliest_fault : List D → (D → Prop) → Prop} {k_earliest_fault : Nat} (C_earliest_fault : Cal P w K mg base "earliest_fault" ["windows", "gaps", "told"] (spP R_earliest_fault) k_earliest_fault) (h_earliest_fault : k_earliest_fault ≤ k) {R_needless_gaps : List D → (D → Prop) → Prop} {k_needless_gaps : Nat} (C_needless_gaps : Cal P w K mg base "needless_gaps" ["windows", "gaps"] (spP R_needless_gaps) k_needless_gaps) (h_needless_gaps : k_needless_gaps ≤ k) {R_latest : List D → (D → Prop) → Prop} {k_latest : Nat} (C_latest : Cal P w K mg base "latest" ["windows", "gaps"] (spP R_latest) k_latest) (h_latest : k_latest ≤ k) {R_fixed_cues : List D → (D → Prop) → Prop} {k_fixed_cues : Nat} (C_fixed_cues : Cal P w K mg base "fixed_cues" ["windows", "gaps"] (spP R_fixed_cues) k_fixed_cues) (h_fixed_cues : k_fixed_cues ≤ k) {R_l_bent : Stt → List D → (D → Stt → Prop) → Prop} {k_l_bent : Nat} (C_l_bent : Cal P w K mg base "_law_bent" ["state", "script", "row", "size"] (spS R_l_bent) k_l_bent) (h_l_bent : k_l_bent ≤ k) :
    PSs (cxOf CX0 P w K mg base N_law "law" (defScope s_law) f cdv A outer s H E).nox (defBody s_law) (T_law K R_l_rules R_l_all R_l_ends R_earliest R_l_draw R_rules_of R_l_fault R_earliest_fault R_needless_gaps R_latest R_fixed_cues R_l_bent) :=
  have nd := sc_law.nd
  (pss_cons (ps_set (i := 1) nd rfl (by first | exact Or.inl rfl | exact Or.inr rfl) (pe_lst (pa_cons pe_int (pa_cons pe_int pa_nil))))
    (pss_cons (ps_set (i := 2) nd rfl (by first | exact Or.inl rfl | exact Or.inr rfl) (pe_lst pa_nil))
    (pss_cons (ps_for PassesOwn.never rfl (pi_range1 (by rfl) bn.range_ (pa_cons (pe_cal C_l_draw (hr.mono h_l_draw) (by rfl) (pa_cons (pv 1) (pa_cons (pv 0) (pa_cons pe_int pa_nil)))) pa_nil)) (pg_name (i := 3) nd rfl (by first | exact Or.inl rfl | exact Or.inr rfl))
      (pss_cons (ps_set (i := 4) nd rfl (by first | exact Or.inl rfl | exact Or.inr rfl) (pe_cal C_l_draw (hr.mono h_l_draw) (by rfl) (pa_cons (pv 1) (pa_cons (pv 0) (pa_cons pe_int pa_nil)))))
    (pss_one (ps_expr (pe_bm PySem.F.plainAttrs_list PySem.F.slot_list_append PySem.F.type_list_append mt_append (pv 2) (pa_cons (pe_tup (pa_cons (pv 4) (pa_cons (pe_op op_plus (pv 4) (pe_cal C_l_draw (hr.mono h_l_draw) (by rfl) (pa_cons (pv 1) (pa_cons (pv 0) (pa_cons pe_int pa_nil))))) pa_nil))) pa_nil))))))
    (pss_cons (ps_set (i := 5) nd rfl (by first | exact Or.inl rfl | exact Or.inr rfl) (pe_lst pa_nil))
    (pss_cons (ps_for PassesOwn.never rfl (pi_range1 (by rfl) bn.range_ (pa_cons (pe_op op_mul (pe_cal C_l_draw (hr.mono h_l_draw) (by rfl) (pa_cons (pv 1) (pa_cons (pv 0) (pa_cons pe_int pa_nil)))) (pe_callTy cb_int (by rfl) bn.int_ (by decide +kernel) (pa_cons (pe_cmpR (op_neP hr.units) (pv 2) (pe_lst pa_nil) (nomark _)) pa_nil))) pa_nil)) (pg_name (i := 3) nd rfl (by first | exact Or.inl rfl | exact Or.inr rfl))
      (pss_cons (ps_set (i := 6) nd rfl (by first | exact Or.inl rfl | exact Or.inr rfl) (pe_cal C_l_draw (hr.mono h_l_draw) (by rfl) (pa_cons (pv 1) (pa_cons (pv 0) (pa_cons (pe_callB Pu.cb_len (by rfl) bn.len_ (by decide +kernel) (pa_cons (pv 2) pa_nil)) pa_nil)))))
    (pss_cons (ps_set (i := 7) nd rfl (by first | exact Or.inl rfl | exact Or.inr rfl) (pe_cal C_l_draw (hr.mono h_l_draw) (by rfl) (pa_cons (pv 1) (pa_cons (pv 0) (pa_cons (pe_callB Pu.cb_len (by rfl) bn.len_ (by decide +kernel) (pa_cons (pv 2) pa_nil)) pa_nil)))))
    (pss_one (ps_expr (pe_bm PySem.F.plainAttrs_list PySem.F.slot_list_append PySem.F.type_list_append mt_append (pv 5) (pa_cons (pe_tup (pa_cons (pv 6) (pa_cons (pv 7) (pa_cons (pe_op op_sub (pe_cal C_l_draw (hr.mono h_l_draw) (by rfl) (pa_cons (pv 1) (pa_cons (pv 0) (pa_cons pe_int pa_nil)))) (pe_op op_mul pe_int (pe_callTy cb_int (by rfl) bn.int_ (by decide +kernel) (pa_cons (pe_cmpR op_ge (pv 6) (pv 7) (nomark _)) pa_nil)))) pa_nil)))) pa_nil)))))))
    (pss_cons (ps_set (i := 8) nd rfl (by first | exact Or.inl rfl | exact Or.inr rfl) (pe_callB (cb_repr hr.units hgd) (by rfl) bn.repr_ (by decide +kernel) (pa_cons (pe_lst (pa_cons (pv 2) (pa_cons (pv 5) pa_nil))) pa_nil)))
    (pss_cons (ps_set (i := 9) nd rfl (by first | exact Or.inl rfl | exact Or.inr rfl) (pe_cal C_l_rules (hr.mono h_l_rules) (by rfl) (pa_cons (pv 2) (pa_cons (pv 5) pa_nil))))
    (pss_cons (ps_set (i := 10) nd rfl (by first | exact Or.inl rfl | exact Or.inr rfl) (pe_cal C_l_all (hr.mono h_l_all) (by rfl) (pa_cons (pv 2) (pa_cons (pv 5) pa_nil))))
    (pss_cons (ps_set (i := 11) nd rfl (by first | exact Or.inl rfl | exact Or.inr rfl) (pe_cal C_l_ends (hr.mono h_l_ends) (by rfl) (pa_cons (pv 10) pa_nil)))
    (pss_cons (ps_set (i := 12) nd rfl (by first | exact Or.inl rfl | exact Or.inr rfl) (pe_cal C_earliest (hr.mono h_earliest) (by rfl) (pa_cons (pv 2) (pa_cons (pv 5) pa_nil))))
    (pss_cons (ps_if (PW.pt (pw_or (pt_cmpR (op_neP hr.units) (pe_cal C_rules_of (hr.mono h_rules_of) (by rfl) (pa_cons (pv 2) (pa_cons (pv 5) pa_nil))) (pv 9) (nomark _)) (pw_or1 (pt_cmpR (op_neP hr.units) (pe_ix ix_any (pv 12) pe_int (fun _ _ => rfl)) (pe_ix ix_any (pe_lst (pa_cons pe_str (pa_cons pe_str pa_nil))) (pe_callTy cb_int (by rfl) bn.int_ (by decide +kernel) (pa_cons (pe_cmpR op_is (pv 11) pe_non (nomark _)) pa_nil)) (fun _ _ => rfl)) (nomark _)))))
      (pss_one (ps_ret pe_bl))
      pss_nil)
    (pss_cons (ps_if (PW.pt (pw_or (pt_cmpR op_isnt (pe_cal C_l_fault (hr.mono h_l_fault) (by rfl) (pa_cons (pv 2) (pa_cons (pv 5) (pa_cons (pv 12) pa_nil)))) pe_non (nomark _)) (pw_or1 (pt_cmpR op_isnt (pe_cal C_earliest_fault (hr.mono h_earliest_fault) (by rfl) (pa_cons (pv 2) (pa_cons (pv 5) (pa_cons (pv 12) pa_nil)))) pe_non (nomark _)))))
      (pss_one (ps_ret pe_bl))
      pss_nil)
    (pss_cons (ps_if (PW.pt (pw_and (pt_cmpR op_isnt (pv 11) pe_non (nomark _)) (pw_and1 (PW.pt (pw_or (pt_cmpR (op_neP hr.units) (pe_ix ix_any (pv 12) pe_int (fun _ _ => rfl)) (pe_ix ix_any (pv 11) pe_int (fun _ _ => rfl)) (nomark _)) (pw_or1 (pt_cmpR (op_neP hr.units) (pe_cal C_latest (hr.mono h_latest) (by rfl) (pa_cons (pv 2) (pa_cons (pv 5) pa_nil))) (pe_ix ix_any (pv 11) pe_int (fun _ _ => rfl)) (nomark _))))))))
      (pss_one (ps_ret pe_bl))
      pss_nil)
    (pss_cons (ps_set (i := 13) nd rfl (by first | exact Or.inl rfl | exact Or.inr rfl) pe_non)
    (pss_cons (ps_set (i := 14) nd rfl (by first | exact Or.inl rfl | exact Or.inr rfl) (pe_lst pa_nil))
    (pss_cons (ps_if (pt_cmpR op_isnt (pv 11) pe_non (nomark _))
      (pss_cons (ps_setLc (i := 13) (own := [("k", 15)]) (g := (gName 15)) (tt := (tTest (tOp (rEqP K) (tOp (rIxA K) (tOp (rIxA K) (tVar 11) (tC (.int 0))) (tVar 15)) (tOp (rIxA K) (tOp (rIxA K) (tVar 11) (tC (.int 1))) (tVar 15))))) rfl nd rfl rfl (sw_true rfl rfl rfl (by decide +kernel)) (pi_range1 (by rfl) bn.range_ (pa_cons (pe_callB Pu.cb_len (by rfl) bn.len_ (by decide +kernel) (pa_cons (pv 2) pa_nil)) pa_nil)) (blkOk_by (N := N_law) (sc := defScope s_law) (by decide +kernel)) (fun _ _ _ _ _ => (pg_name (i := 15) nd rfl (by first | exact Or.inl rfl | exact Or.inr rfl))) (fun _ _ _ _ _ => (pts_one (pt_cmpR (op_eqP hr.units) (pe_ix ix_any (pe_ix ix_any (pv 11) pe_int (fun _ _ => rfl)) (pv 15) (fun _ _ => rfl)) (pe_ix ix_any (pe_ix ix_any (pv 11) pe_int (fun _ _ => rfl)) (pv 15) (fun _ _ => rfl)) (nomark _)))) (fun _ _ _ _ _ => (pv 15)))
    (pss_one (ps_setLc (i := 14) (own := [("k", 15)]) (g := (gName 15)) (tt := (tTest (tOp (rEqP K) (tCall (spP R_l_ends) [] E0 (tCons (tCall (spP R_l_all) [] E0 (tCons (tVar 2) (tCons (tOp (rPlus K) (tSl (rSl K) (tVar 5) tNoPart (tPart (tVar 15))) (tSl (rSl K) (tVar 5) (tPart (tOp (rPlus K) (tVar 15) (tC (.int 1)))) tNoPart)) tNil))) tNil)) (tVar 11)))) rfl nd rfl rfl (sw_true rfl rfl rfl (by decide +kernel)) (pi_range1 (by rfl) bn.range_ (pa_cons (pe_callB Pu.cb_len (by rfl) bn.len_ (by decide +kernel) (pa_cons (pv 5) pa_nil)) pa_nil)) (blkOk_by (N := N_law) (sc := defScope s_law) (by decide +kernel)) (fun _ _ _ _ _ => (pg_name (i := 15) nd rfl (by first | exact Or.inl rfl | exact Or.inr rfl))) (fun _ _ _ _ _ => (pts_one (pt_cmpR (op_eqP hr.units) (pe_cal C_l_ends (hr.mono h_l_ends) (by rfl) (pa_cons (pe_cal C_l_all (hr.mono h_l_all) (by rfl) (pa_cons (pv 2) (pa_cons (pe_op op_plus (pe_slice sl_any (pv 5) po_none (po_some (pv 15))) (pe_slice sl_any (pv 5) (po_some (pe_op op_plus (pv 15) pe_int)) po_none)) pa_nil))) pa_nil)) (pv 11) (nomark _)))) (fun _ _ _ _ _ => (pv 15)))))
      pss_nil)
    (pss_cons (ps_if (PW.pt (pw_or (pt_cmpR (op_neP hr.units) (pe_callB (cb_repr hr.units hgd) (by rfl) bn.repr_ (by decide +kernel) (pa_cons (pe_cal C_fixed_cues (hr.mono h_fixed_cues) (by rfl) (pa_cons (pv 2) (pa_cons (pv 5) pa_nil))) pa_nil)) (pe_callB (cb_repr hr.units hgd) (by rfl) bn.repr_ (by decide +kernel) (pa_cons (pv 13) pa_nil)) (nomark _)) (pw_or (pt_cmpR (op_neP hr.units) (pe_cal C_needless_gaps (hr.mono h_needless_gaps) (by rfl) (pa_cons (pv 2) (pa_cons (pv 5) pa_nil))) (pv 14) (nomark _)) (pw_or1 (pt_cmpR (op_neP hr.units) (pe_cmpR op_is (pe_cal C_latest (hr.mono h_latest) (by rfl) (pa_cons (pv 2) (pa_cons (pv 5) pa_nil))) pe_non (nomark _)) (pe_cmpR op_is (pv 11) pe_non (nomark _)) (nomark _))))))
      (pss_one (ps_ret pe_bl))
      pss_nil)
    (pss_cons (ps_if (pt_cmpR (op_eqP hr.units) (pe_ix ix_any (pv 12) pe_int (fun _ _ => rfl)) pe_str (nomark _))
      (pss_one (ps_set (i := 16) nd rfl (by first | exact Or.inl rfl | exact Or.inr rfl) (pe_lst (pa_cons (pe_tup (pa_cons pe_str (pa_cons (pe_cal C_l_bent (hr.mono h_l_bent) (by rfl) (pa_cons (pv 1) (pa_cons (pv 0) (pa_cons (pe_ix ix_any (pv 12) pe_int (fun _ _ => rfl)) (pa_cons (pe_op op_plus (pe_callB Pu.cb_len (by rfl) bn.len_ (by decide +kernel) (pa_cons (pv 9) pa_nil)) pe_int) pa_nil))))) pa_nil))) (pa_cons (pe_tup (pa_cons pe_str (pa_cons (pe_lst pa_nil) pa_nil))) (pa_cons (pe_tup (pa_cons pe_str (pa_cons (pe_op op_plus (pe_ix ix_any (pv 12) pe_int (fun _ _ => rfl)) (pe_ix ix_any (pv 12) pe_int (fun _ _ => rfl))) pa_nil))) (pa_cons (pe_tup (pa_cons pe_str (pa_cons (pe_op op_repR (pe_lst (pa_cons pe_int pa_nil)) (pe_callB Pu.cb_len (by rfl) bn.len_ (by decide +kernel) (pa_cons (pv 2) pa_nil))) (pa_cons (pe_op op_repR (pe_lst (pa_cons (pe_lst pa_nil) pa_nil)) (pe_callB Pu.cb_len (by rfl) bn.len_ (by decide +kernel) (pa_cons (pv 2) pa_nil))) pa_nil)))) pa_nil)))))))
      (pss_cons (ps_set (i := 16) nd rfl (by first | exact Or.inl rfl | exact Or.inr rfl) (pe_lst (pa_cons (pe_tup (pa_cons pe_str (pa_cons (pe_cal C_l_bent (hr.mono h_l_bent) (by rfl) (pa_cons (pv 1) (pa_cons (pv 0) (pa_cons (pe_ix ix_any (pv 12) pe_int (fun _ _ => rfl)) (pa_cons pe_int pa_nil))))) (pa_cons (pe_ix ix_any (pv 12) pe_int (fun _ _ => rfl)) pa_nil)))) (pa_cons (pe_tup (pa_cons pe_str (pa_cons (pe_ix ix_any (pv 12) pe_int (fun _ _ => rfl)) (pa_cons (pe_slice sl_any (pe_ix ix_any (pv 12) pe_int (fun _ _ => rfl)) (po_some pe_int) po_none) pa_nil)))) (pa_cons (pe_tup (pa_cons pe_str (pa_cons (pe_lst (pa_cons pe_int (pa_cons pe_int pa_nil))) pa_nil))) (pa_cons (pe_tup (pa_cons pe_str (pa_cons (pe_lst (pa_cons pe_int pa_nil)) pa_nil))) pa_nil))))))
    (pss_one (ps_if (pt_cmpR (op_neP hr.units) (pe_ix ix_any (pv 12) pe_int (fun _ _ => rfl)) (pe_lst pa_nil) (nomark _))
      (pss_cons (ps_set (i := 17) nd rfl (by first | exact Or.inl rfl | exact Or.inr rfl) (pe_cal C_l_draw (hr.mono h_l_draw) (by rfl) (pa_cons (pv 1) (pa_cons (pv 0) (pa_cons (pe_callB Pu.cb_len (by rfl) bn.len_ (by decide +kernel) (pa_cons (pe_ix ix_any (pv 12) pe_int (fun _ _ => rfl)) pa_nil)) pa_nil)))))
    (pss_one (ps_expr (pe_bm PySem.F.plainAttrs_list PySem.F.slot_list_append PySem.F.type_list_append mt_append (pv 16) (pa_cons (pe_tup (pa_cons pe_str (pa_cons (pe_ix ix_any (pv 12) pe_int (fun _ _ => rfl)) (pa_cons (pe_op op_plus (pe_op op_plus (pe_slice sl_any (pe_ix ix_any (pv 12) pe_int (fun _ _ => rfl)) po_none (po_some (pv 17))) (pe_lst (pa_cons (pe_cal C_l_bent (hr.mono h_l_bent) (by rfl) (pa_cons (pv 1) (pa_cons (pv 0) (pa_cons (pe_ix ix_any (pe_ix ix_any (pv 12) pe_int (fun _ _ => rfl)) (pv 17) (fun _ _ => rfl)) (pa_cons (pe_callB Pu.cb_len (by rfl) bn.len_ (by decide +kernel) (pa_cons (pv 9) pa_nil)) pa_nil))))) pa_nil))) (pe_slice sl_any (pe_ix ix_any (pv 12) pe_int (fun _ _ => rfl)) (po_some (pe_op op_plus (pv 17) pe_int)) po_none)) pa_nil)))) pa_nil)))))
      pss_nil))))
    (pss_cons (ps_for PassesOwn.never rfl (pi_list (pv 16)) (pg_name (i := 18) nd rfl (by first | exact Or.inl rfl | exact Or.inr rfl))
      (pss_one (ps_if (pt_cmpR (op_neP hr.units) (pe_callB (cb_repr hr.units hgd) (by rfl) bn.repr_ (by decide +kernel) (pa_cons (pe_cal C_earliest_fault (hr.mono h_earliest_fault) (by rfl) (pa_cons (pv 2) (pa_cons (pv 5) (pa_cons (pv 18) pa_nil)))) pa_nil)) (pe_callB (cb_repr hr.units hgd) (by rfl) bn.repr_ (by decide +kernel) (pa_cons (pe_cal C_l_fault (hr.mono h_l_fault) (by rfl) (pa_cons (pv 2) (pa_cons (pv 5) (pa_cons (pv 18) pa_nil)))) pa_nil)) (nomark _))
      (pss_one (ps_ret pe_bl))
      pss_nil)))
    (pss_one (ps_ret (pe_cmpR (op_eqP hr.units) (pe_callB (cb_repr hr.units hgd) (by rfl) bn.repr_ (by decide +kernel) (pa_cons (pe_lst (pa_cons (pv 2) (pa_cons (pv 5) pa_nil))) pa_nil)) (pv 8) (nomark _)))))))))))))))))))))))
theorem top_law {R : List D → (D → Prop) → Prop} (F : Fun K "law" "law" s_law f fd) (bn : Bn mg) {R_l_rules : List D → (D → Prop) → Prop} {k_l_rules : Nat} (C_l_rules : Cal P w K mg base "_law_rules" ["windows", "gaps"] (spP R_l_rules) k_l_rules) (h_l_rules : k_l_rules ≤ k) {R_l_all : List D → (D → Prop) → Prop} {k_l_all : Nat} (C_l_all : Cal P w K mg base "_law_all" ["windows", "gaps"] (spP R_l_all) k_l_all) (h_l_all : k_l_all ≤ k) {R_l_ends : List D → (D → Prop) → Prop} {k_l_ends : Nat} (C_l_ends : Cal P w K mg base "_law_ends" ["every"] (spP R_l_ends) k_l_ends) (h_l_ends : k_l_ends ≤ k) {R_earliest : List D → (D → Prop) → Prop} {k_earliest : Nat} (C_earliest : Cal P w K mg base "earliest" ["windows", "gaps"] (spP R_earliest) k_earliest) (h_earliest : k_earliest ≤ k) {R_l_draw : Stt → List D → (D → Stt → Prop) → Prop} {k_l_draw : Nat} (C_l_draw : Cal P w K mg base "_law_draw" ["state", "script", "size"] (spS R_l_draw) k_l_draw) (h_l_draw : k_l_draw ≤ k) {R_rules_of : List D → (D → Prop) → Prop} {k_rules_of : Nat} (C_rules_of : Cal P w K mg base "rules_of" ["windows", "gaps"] (spP R_rules_of) k_rules_of) (h_rules_of : k_rules_of ≤ k) {R_l_fault : List D → (D → Prop) → Prop} {k_l_fault : Nat} (C_l_fault : Cal P w K mg base "_law_fault" ["windows", "gaps", "told"] (spP R_l_fault) k_l_fault) (h_l_fault : k_l_fault ≤ k) {R_earliest_fault : List D → (D → Prop) → Prop} {k_earliest_fault : Nat} (C_earliest_fault : Cal P w K mg base "earliest_fault" ["windows", "gaps", "told"] (spP R_earliest_fault) k_earliest_fault) (h_earliest_fault : k_earliest_fault ≤ k) {R_needless_gaps : List D → (D → Prop) → Prop} {k_needless_gaps : Nat} (C_needless_gaps : Cal P w K mg base "needless_gaps" ["windows", "gaps"] (spP R_needless_gaps) k_needless_gaps) (h_needless_gaps : k_needless_gaps ≤ k) {R_latest : List D → (D → Prop) → Prop} {k_latest : Nat} (C_latest : Cal P w K mg base "latest" ["windows", "gaps"] (spP R_latest) k_latest) (h_latest : k_latest ≤ k) {R_fixed_cues : List D → (D → Prop) → Prop} {k_fixed_cues : Nat} (C_fixed_cues : Cal P w K mg base "fixed_cues" ["windows", "gaps"] (spP R_fixed_cues) k_fixed_cues) (h_fixed_cues : k_fixed_cues ≤ k) {R_l_bent : Stt → List D → (D → Stt → Prop) → Prop} {k_l_bent : Nat} (C_l_bent : Cal P w K mg base "_law_bent" ["state", "script", "row", "size"] (spS R_l_bent) k_l_bent) (h_l_bent : k_l_bent ≤ k) (room : RoomTop (k + 1)) (len : ∀ ds Z, R ds Z → ds.length = 1) (sx : ∀ ds Z, R ds Z → SX (T_law K R_l_rules R_l_all R_l_ends R_earliest R_l_draw R_rules_of R_l_fault R_earliest_fault R_needless_gaps R_latest R_fixed_cues R_l_bent) (startE N_law ds) { nx := fun _ => Z .none, rt := fun d _ => Z d }) :
    TopOk P w K mg base f fd ["script"] (spP R) := top_pure F sc_law len room fun cdv s H E hr => ⟨_, ps_law bn hr rfl C_l_rules h_l_rules C_l_all h_l_all C_l_ends h_l_ends C_earliest h_earliest C_l_draw h_l_draw C_rules_of h_rules_of C_l_fault h_l_fault C_earliest_fault h_earliest_fault C_needless_gaps h_needless_gaps C_latest h_latest C_fixed_cues h_fixed_cues C_l_bent h_l_bent, sx⟩
end
end Law_k43
namespace Law_k43
open PySem L2 Pu
section
variable {P : Program} {w : World} {K : PySem.W.Frag} {mg : Str → Option Value} {base : Heap} {f : Addr} {fd : FuncData} {k : Nat}
theorem len_l_rules : ∀ ds Z, R_rules ds Z → ds.length = 2 := by
  intro ds Z h
  unfold R_rules at h
  repeat (obtain ⟨e, h⟩ := h; try subst e)
  all_goals rfl
theorem len_l_all : ∀ ds Z, R_all ds Z → ds.length = 2 := by
  intro ds Z h
  unfold R_all at h
  repeat (obtain ⟨e, h⟩ := h; try subst e)
  all_goals rfl
theorem len_l_ends : ∀ ds Z, R_ends ds Z → ds.length = 1 := by
  intro ds Z h
  unfold R_ends at h
  repeat (obtain ⟨e, h⟩ := h; try subst e)
  all_goals rfl
theorem len_rules_of : ∀ ds Z, R_rules ds Z → ds.length = 2 := by
  intro ds Z h
  unfold R_rules at h
  repeat (obtain ⟨e, h⟩ := h; try subst e)
  all_goals rfl
theorem len_longest_from : ∀ ds Z, R_long ds Z → ds.length = 3 := by
  intro ds Z h
  unfold R_long at h
  repeat (obtain ⟨e, h⟩ := h; try subst e)
  all_goals rfl
theorem len_ring_at : ∀ ds Z, R_ringat ds Z → ds.length = 3 := by
  intro ds Z h
  unfold R_ringat at h
  repeat (obtain ⟨e, h⟩ := h; try subst e)
  all_goals rfl
theorem len_chain_to : ∀ ds Z, R_chain ds Z → ds.length = 4 := by
  intro ds Z h
  unfold R_chain at h
  repeat (obtain ⟨e, h⟩ := h; try subst e)
  all_goals rfl
theorem len_earliest : ∀ ds Z, R_ear ds Z → ds.length = 2 := by
  intro ds Z h
  unfold R_ear at h
  repeat (obtain ⟨e, h⟩ := h; try subst e)
  all_goals rfl
theorem len_l_draw : ∀ S ds Z, R_draw S ds Z → ds.length + 1 = 3 := by
  intro S ds Z h
  unfold R_draw at h
  repeat (obtain ⟨e, h⟩ := h; try subst e)
  all_goals rfl
theorem len_l_leads : ∀ ds Z, R_leads ds Z → ds.length = 4 := by
  intro ds Z h
  unfold R_leads at h
  repeat (obtain ⟨e, h⟩ := h; try subst e)
  all_goals rfl
theorem len_l_fault : ∀ ds Z, R_fault ds Z → ds.length = 3 := by
  intro ds Z h
  unfold R_fault at h
  repeat (obtain ⟨e, h⟩ := h; try subst e)
  all_goals rfl
theorem len_chain_fault : ∀ ds Z, R_cf ds Z → ds.length = 4 := by
  intro ds Z h
  unfold R_cf at h
  repeat (obtain ⟨e, h⟩ := h; try subst e)
  all_goals rfl
theorem len_earliest_fault : ∀ ds Z, R_fault ds Z → ds.length = 3 := by
  intro ds Z h
  unfold R_fault at h
  repeat (obtain ⟨e, h⟩ := h; try subst e)
  all_goals rfl
theorem len_latest : ∀ ds Z, R_lat ds Z → ds.length = 2 := by
  intro ds Z h
  unfold R_lat at h
  repeat (obtain ⟨e, h⟩ := h; try subst e)
  all_goals rfl
theorem len_needless_gaps : ∀ ds Z, R_need ds Z → ds.length = 2 := by
  intro ds Z h
  unfold R_need at h
  repeat (obtain ⟨e, h⟩ := h; try subst e)
  all_goals rfl
theorem len_fixed_cues : ∀ ds Z, R_fixed ds Z → ds.length = 2 := by
  intro ds Z h
  unfold R_fixed at h
  repeat (obtain ⟨e, h⟩ := h; try subst e)
  all_goals rfl
theorem len_l_bent : ∀ S ds Z, R_bent S ds Z → ds.length + 1 = 4 := by
  intro S ds Z h
  unfold R_bent at h
  repeat (obtain ⟨e, h⟩ := h; try subst e)
  all_goals rfl
theorem len_law : ∀ ds Z, R_law ds Z → ds.length = 1 := by
  intro ds Z h
  unfold R_law at h
  repeat (obtain ⟨e, h⟩ := h; try subst e)
  all_goals rfl
end
theorem all_mk {l : PySem.W.OpenLaw} {w : World} {K : PySem.W.Frag} {h : Heap} {mg : Str → Option Value} {fa f1 f2 f3 f4 f5 f6 f7 f8 f9 f10 f11 f12 f13 f14 f15 f16 f17 f18 : Addr} (X : K.In h) (G : h.Ns mainGlobals mg) (hfa : mg "law" = some (.ref fa))
    {od1 an1 od2 an2 od3 an3 od4 an4 od5 an5 od6 an6 od7 an7 od8 an8 od9 an9 od10 an10 od11 an11 od12 an12 od13 an13 od14 an14 od15 an15 od16 an16 od17 an17 od18 an18 : Option Addr} {sl1 sl2 sl3 sl4 sl5 sl6 sl7 sl8 sl9 sl10 sl11 sl12 sl13 sl14 sl15 sl16 sl17 sl18 : Array (Option Value)}
    {oc1 kV1 dc1 pm1 cd1 ct1 oc2 kV2 dc2 pm2 cd2 ct2 oc3 kV3 dc3 pm3 cd3 ct3 oc4 kV4 dc4 pm4 cd4 ct4 oc5 kV5 dc5 pm5 cd5 ct5 oc6 kV6 dc6 pm6 cd6 ct6 oc7 kV7 dc7 pm7 cd7 ct7 oc8 kV8 dc8 pm8 cd8 ct8 oc9 kV9 dc9 pm9 cd9 ct9 oc10 kV10 dc10 pm10 cd10 ct10 oc11 kV11 dc11 pm11 cd11 ct11 oc12 kV12 dc12 pm12 cd12 ct12 oc13 kV13 dc13 pm13 cd13 ct13 oc14 kV14 dc14 pm14 cd14 ct14 oc15 kV15 dc15 pm15 cd15 ct15 oc16 kV16 dc16 pm16 cd16 ct16 oc17 kV17 dc17 pm17 cd17 ct17 oc18 kV18 dc18 pm18 cd18 ct18 : Value}
    (a1 : PySem.W.nsIn K mainGlobals "rules_of" = some (some (.ref f1))) (l1 : K.lookup f1 = some ⟨oc1, od1, .func (PySem.W.fnOf "rules_of" "rules_of" (defArgs s_rules_of) (defBody s_rules_of) (defScope s_rules_of) .none kV1 dc1 pm1 an1 cd1 ct1), sl1⟩) (c1 : PySem.W.codeIn K cd1 "rules_of" = true) (k1 : PySem.W.keepIn K (.ref f1) = true)
    (a2 : PySem.W.nsIn K mainGlobals "longest_from" = some (some (.ref f2))) (l2 : K.lookup f2 = some ⟨oc2, od2, .func (PySem.W.fnOf "longest_from" "longest_from" (defArgs s_longest_from) (defBody s_longest_from) (defScope s_longest_from) .none kV2 dc2 pm2 an2 cd2 ct2), sl2⟩) (c2 : PySem.W.codeIn K cd2 "longest_from" = true) (k2 : PySem.W.keepIn K (.ref f2) = true)
    (a3 : PySem.W.nsIn K mainGlobals "ring_at" = some (some (.ref f3))) (l3 : K.lookup f3 = some ⟨oc3, od3, .func (PySem.W.fnOf "ring_at" "ring_at" (defArgs s_ring_at) (defBody s_ring_at) (defScope s_ring_at) .none kV3 dc3 pm3 an3 cd3 ct3), sl3⟩) (c3 : PySem.W.codeIn K cd3 "ring_at" = true) (k3 : PySem.W.keepIn K (.ref f3) = true)
    (a4 : PySem.W.nsIn K mainGlobals "chain_to" = some (some (.ref f4))) (l4 : K.lookup f4 = some ⟨oc4, od4, .func (PySem.W.fnOf "chain_to" "chain_to" (defArgs s_chain_to) (defBody s_chain_to) (defScope s_chain_to) .none kV4 dc4 pm4 an4 cd4 ct4), sl4⟩) (c4 : PySem.W.codeIn K cd4 "chain_to" = true) (k4 : PySem.W.keepIn K (.ref f4) = true)
    (a5 : PySem.W.nsIn K mainGlobals "earliest" = some (some (.ref f5))) (l5 : K.lookup f5 = some ⟨oc5, od5, .func (PySem.W.fnOf "earliest" "earliest" (defArgs s_earliest) (defBody s_earliest) (defScope s_earliest) .none kV5 dc5 pm5 an5 cd5 ct5), sl5⟩) (c5 : PySem.W.codeIn K cd5 "earliest" = true) (k5 : PySem.W.keepIn K (.ref f5) = true)
    (a6 : PySem.W.nsIn K mainGlobals "chain_fault" = some (some (.ref f6))) (l6 : K.lookup f6 = some ⟨oc6, od6, .func (PySem.W.fnOf "chain_fault" "chain_fault" (defArgs s_chain_fault) (defBody s_chain_fault) (defScope s_chain_fault) .none kV6 dc6 pm6 an6 cd6 ct6), sl6⟩) (c6 : PySem.W.codeIn K cd6 "chain_fault" = true) (k6 : PySem.W.keepIn K (.ref f6) = true)
    (a7 : PySem.W.nsIn K mainGlobals "earliest_fault" = some (some (.ref f7))) (l7 : K.lookup f7 = some ⟨oc7, od7, .func (PySem.W.fnOf "earliest_fault" "earliest_fault" (defArgs s_earliest_fault) (defBody s_earliest_fault) (defScope s_earliest_fault) .none kV7 dc7 pm7 an7 cd7 ct7), sl7⟩) (c7 : PySem.W.codeIn K cd7 "earliest_fault" = true) (k7 : PySem.W.keepIn K (.ref f7) = true)
    (a8 : PySem.W.nsIn K mainGlobals "latest" = some (some (.ref f8))) (l8 : K.lookup f8 = some ⟨oc8, od8, .func (PySem.W.fnOf "latest" "latest" (defArgs s_latest) (defBody s_latest) (defScope s_latest) .none kV8 dc8 pm8 an8 cd8 ct8), sl8⟩) (c8 : PySem.W.codeIn K cd8 "latest" = true) (k8 : PySem.W.keepIn K (.ref f8) = true)
    (a9 : PySem.W.nsIn K mainGlobals "fixed_cues" = some (some (.ref f9))) (l9 : K.lookup f9 = some ⟨oc9, od9, .func (PySem.W.fnOf "fixed_cues" "fixed_cues" (defArgs s_fixed_cues) (defBody s_fixed_cues) (defScope s_fixed_cues) .none kV9 dc9 pm9 an9 cd9 ct9), sl9⟩) (c9 : PySem.W.codeIn K cd9 "fixed_cues" = true) (k9 : PySem.W.keepIn K (.ref f9) = true)
    (a10 : PySem.W.nsIn K mainGlobals "needless_gaps" = some (some (.ref f10))) (l10 : K.lookup f10 = some ⟨oc10, od10, .func (PySem.W.fnOf "needless_gaps" "needless_gaps" (defArgs s_needless_gaps) (defBody s_needless_gaps) (defScope s_needless_gaps) .none kV10 dc10 pm10 an10 cd10 ct10), sl10⟩) (c10 : PySem.W.codeIn K cd10 "needless_gaps" = true) (k10 : PySem.W.keepIn K (.ref f10) = true)
    (a11 : PySem.W.nsIn K mainGlobals "_law_draw" = some (some (.ref f11))) (l11 : K.lookup f11 = some ⟨oc11, od11, .func (PySem.W.fnOf "_law_draw" "_law_draw" (defArgs s_l_draw) (defBody s_l_draw) (defScope s_l_draw) .none kV11 dc11 pm11 an11 cd11 ct11), sl11⟩) (c11 : PySem.W.codeIn K cd11 "_law_draw" = true) (k11 : PySem.W.keepIn K (.ref f11) = true)
    (a12 : PySem.W.nsIn K mainGlobals "_law_rules" = some (some (.ref f12))) (l12 : K.lookup f12 = some ⟨oc12, od12, .func (PySem.W.fnOf "_law_rules" "_law_rules" (defArgs s_l_rules) (defBody s_l_rules) (defScope s_l_rules) .none kV12 dc12 pm12 an12 cd12 ct12), sl12⟩) (c12 : PySem.W.codeIn K cd12 "_law_rules" = true) (k12 : PySem.W.keepIn K (.ref f12) = true)
    (a13 : PySem.W.nsIn K mainGlobals "_law_all" = some (some (.ref f13))) (l13 : K.lookup f13 = some ⟨oc13, od13, .func (PySem.W.fnOf "_law_all" "_law_all" (defArgs s_l_all) (defBody s_l_all) (defScope s_l_all) .none kV13 dc13 pm13 an13 cd13 ct13), sl13⟩) (c13 : PySem.W.codeIn K cd13 "_law_all" = true) (k13 : PySem.W.keepIn K (.ref f13) = true)
    (a14 : PySem.W.nsIn K mainGlobals "_law_leads" = some (some (.ref f14))) (l14 : K.lookup f14 = some ⟨oc14, od14, .func (PySem.W.fnOf "_law_leads" "_law_leads" (defArgs s_l_leads) (defBody s_l_leads) (defScope s_l_leads) .none kV14 dc14 pm14 an14 cd14 ct14), sl14⟩) (c14 : PySem.W.codeIn K cd14 "_law_leads" = true) (k14 : PySem.W.keepIn K (.ref f14) = true)
    (a15 : PySem.W.nsIn K mainGlobals "_law_fault" = some (some (.ref f15))) (l15 : K.lookup f15 = some ⟨oc15, od15, .func (PySem.W.fnOf "_law_fault" "_law_fault" (defArgs s_l_fault) (defBody s_l_fault) (defScope s_l_fault) .none kV15 dc15 pm15 an15 cd15 ct15), sl15⟩) (c15 : PySem.W.codeIn K cd15 "_law_fault" = true) (k15 : PySem.W.keepIn K (.ref f15) = true)
    (a16 : PySem.W.nsIn K mainGlobals "_law_bent" = some (some (.ref f16))) (l16 : K.lookup f16 = some ⟨oc16, od16, .func (PySem.W.fnOf "_law_bent" "_law_bent" (defArgs s_l_bent) (defBody s_l_bent) (defScope s_l_bent) .none kV16 dc16 pm16 an16 cd16 ct16), sl16⟩) (c16 : PySem.W.codeIn K cd16 "_law_bent" = true) (k16 : PySem.W.keepIn K (.ref f16) = true)
    (a17 : PySem.W.nsIn K mainGlobals "_law_ends" = some (some (.ref f17))) (l17 : K.lookup f17 = some ⟨oc17, od17, .func (PySem.W.fnOf "_law_ends" "_law_ends" (defArgs s_l_ends) (defBody s_l_ends) (defScope s_l_ends) .none kV17 dc17 pm17 an17 cd17 ct17), sl17⟩) (c17 : PySem.W.codeIn K cd17 "_law_ends" = true) (k17 : PySem.W.keepIn K (.ref f17) = true)
    (a18 : PySem.W.nsIn K mainGlobals "law" = some (some (.ref f18))) (l18 : K.lookup f18 = some ⟨oc18, od18, .func (PySem.W.fnOf "law" "law" (defArgs s_law) (defBody s_law) (defScope s_law) .none kV18 dc18 pm18 an18 cd18 ct18), sl18⟩) (c18 : PySem.W.codeIn K cd18 "law" = true) (k18 : PySem.W.keepIn K (.ref f18) = true)
    (z1 : PySem.W.nsIn K mainGlobals "len" = some none) (z2 : PySem.W.nsIn K mainGlobals "range" = some none) (z3 : PySem.W.nsIn K mainGlobals "min" = some none) (z4 : PySem.W.nsIn K mainGlobals "max" = some none) (z5 : PySem.W.nsIn K mainGlobals "abs" = some none) (z6 : PySem.W.nsIn K mainGlobals "sum" = some none) (z7 : PySem.W.nsIn K mainGlobals "int" = some none) (z8 : PySem.W.nsIn K mainGlobals "list" = some none) (z9 : PySem.W.nsIn K mainGlobals "tuple" = some none) (z10 : PySem.W.nsIn K mainGlobals "sorted" = some none) (z11 : PySem.W.nsIn K mainGlobals "isinstance" = some none) (z12 : PySem.W.nsIn K mainGlobals "enumerate" = some none) (z13 : PySem.W.nsIn K mainGlobals "zip" = some none) (z14 : PySem.W.nsIn K mainGlobals "set" = some none) (z15 : PySem.W.nsIn K mainGlobals "repr" = some none) (z16 : PySem.W.nsIn K mainGlobals "all" = some none) (z17 : PySem.W.nsIn K mainGlobals "any" = some none) (z18 : PySem.W.nsIn K mainGlobals "dict" = some none) (z19 : PySem.W.nsIn K mainGlobals "reversed" = some none) (z20 : PySem.W.nsIn K mainGlobals "str" = some none) :
    ∃ fd : FuncData, (∀ (s : Shared) (v : Value), BindsTo s fd ⟨[v], []⟩ [("script", v)]) ∧ ∀ base : Heap, K.In base → base.Ns mainGlobals mg → TopOk l.prog w K mg base fa fd ["script"] (spP R_law) := by
  have e := hfa.symm.trans (PySem.W.mg_of X G a18)
  cases e
  have bn : Bn mg := ⟨PySem.W.mg_none_of X G z1, PySem.W.mg_none_of X G z2, PySem.W.mg_none_of X G z3, PySem.W.mg_none_of X G z4, PySem.W.mg_none_of X G z5, PySem.W.mg_none_of X G z6, PySem.W.mg_none_of X G z7, PySem.W.mg_none_of X G z8, PySem.W.mg_none_of X G z9, PySem.W.mg_none_of X G z10, PySem.W.mg_none_of X G z11, PySem.W.mg_none_of X G z12, PySem.W.mg_none_of X G z13, PySem.W.mg_none_of X G z14, PySem.W.mg_none_of X G z15, PySem.W.mg_none_of X G z16, PySem.W.mg_none_of X G z17, PySem.W.mg_none_of X G z18, PySem.W.mg_none_of X G z19, PySem.W.mg_none_of X G z20⟩
  have F1 := fun_mk (st := s_rules_of) l1 c1 k1
  have b1 := F1.binds (ps := ["windows", "gaps"]) fun _ _ _ _ _ _ us hl => match us, hl with | [_, _], _ => rfl
  have F2 := fun_mk (st := s_longest_from) l2 c2 k2
  have b2 := F2.binds (ps := ["count", "rules", "start"]) fun _ _ _ _ _ _ us hl => match us, hl with | [_, _, _], _ => rfl
  have F3 := fun_mk (st := s_ring_at) l3 c3 k3
  have b3 := F3.binds (ps := ["rules", "came", "cue"]) fun _ _ _ _ _ _ us hl => match us, hl with | [_, _, _], _ => rfl
  have F4 := fun_mk (st := s_chain_to) l4 c4 k4
  have b4 := F4.binds (ps := ["rules", "came", "start", "cue"]) fun _ _ _ _ _ _ us hl => match us, hl with | [_, _, _, _], _ => rfl
  have F5 := fun_mk (st := s_earliest) l5 c5 k5
  have b5 := F5.binds (ps := ["windows", "gaps"]) fun _ _ _ _ _ _ us hl => match us, hl with | [_, _], _ => rfl
  have F6 := fun_mk (st := s_chain_fault) l6 c6 k6
  have b6 := F6.binds (ps := ["rules", "chain", "start", "end"]) fun _ _ _ _ _ _ us hl => match us, hl with | [_, _, _, _], _ => rfl
  have F7 := fun_mk (st := s_earliest_fault) l7 c7 k7
  have b7 := F7.binds (ps := ["windows", "gaps", "told"]) fun _ _ _ _ _ _ us hl => match us, hl with | [_, _, _], _ => rfl
  have F8 := fun_mk (st := s_latest) l8 c8 k8
  have b8 := F8.binds (ps := ["windows", "gaps"]) fun _ _ _ _ _ _ us hl => match us, hl with | [_, _], _ => rfl
  have F9 := fun_mk (st := s_fixed_cues) l9 c9 k9
  have b9 := F9.binds (ps := ["windows", "gaps"]) fun _ _ _ _ _ _ us hl => match us, hl with | [_, _], _ => rfl
  have F10 := fun_mk (st := s_needless_gaps) l10 c10 k10
  have b10 := F10.binds (ps := ["windows", "gaps"]) fun _ _ _ _ _ _ us hl => match us, hl with | [_, _], _ => rfl
  have F11 := fun_mk (st := s_l_draw) l11 c11 k11
  have b11 := F11.binds (ps := ["state", "script", "size"]) fun _ _ _ _ _ _ us hl => match us, hl with | [_, _, _], _ => rfl
  have F12 := fun_mk (st := s_l_rules) l12 c12 k12
  have b12 := F12.binds (ps := ["windows", "gaps"]) fun _ _ _ _ _ _ us hl => match us, hl with | [_, _], _ => rfl
  have F13 := fun_mk (st := s_l_all) l13 c13 k13
  have b13 := F13.binds (ps := ["windows", "gaps"]) fun _ _ _ _ _ _ us hl => match us, hl with | [_, _], _ => rfl
  have F14 := fun_mk (st := s_l_leads) l14 c14 k14
  have b14 := F14.binds (ps := ["rules", "chain", "start", "end"]) fun _ _ _ _ _ _ us hl => match us, hl with | [_, _, _, _], _ => rfl
  have F15 := fun_mk (st := s_l_fault) l15 c15 k15
  have b15 := F15.binds (ps := ["windows", "gaps", "told"]) fun _ _ _ _ _ _ us hl => match us, hl with | [_, _, _], _ => rfl
  have F16 := fun_mk (st := s_l_bent) l16 c16 k16
  have b16 := F16.binds (ps := ["state", "script", "row", "size"]) fun _ _ _ _ _ _ us hl => match us, hl with | [_, _, _, _], _ => rfl
  have F17 := fun_mk (st := s_l_ends) l17 c17 k17
  have b17 := F17.binds (ps := ["every"]) fun _ _ _ _ _ _ us hl => match us, hl with | [_], _ => rfl
  have F18 := fun_mk (st := s_law) l18 c18 k18
  have b18 := F18.binds (ps := ["script"]) fun _ _ _ _ _ _ us hl => match us, hl with | [_], _ => rfl
  refine ⟨PySem.W.fnOf "law" "law" (defArgs s_law) (defBody s_law) (defScope s_law) .none kV18 dc18 pm18 an18 cd18 ct18, fun s v => .of_eq rfl, fun base _ _ => ?_⟩
  have C_l_rules : Cal l.prog w K mg base "_law_rules" ["windows", "gaps"] (spP R_rules) 1 := ⟨_, _, ok_l_rules (k := 0) F12 bn len_l_rules (sx_l_rules K), PySem.W.mg_of X G a12, F12.kp, b12⟩
  have C_l_all : Cal l.prog w K mg base "_law_all" ["windows", "gaps"] (spP R_all) 1 := ⟨_, _, ok_l_all (k := 0) F13 bn len_l_all (sx_l_all K), PySem.W.mg_of X G a13, F13.kp, b13⟩
  have C_l_ends : Cal l.prog w K mg base "_law_ends" ["every"] (spP R_ends) 1 := ⟨_, _, ok_l_ends (k := 0) F17 bn len_l_ends (sx_l_ends K), PySem.W.mg_of X G a17, F17.kp, b17⟩
  have C_rules_of : Cal l.prog w K mg base "rules_of" ["windows", "gaps"] (spP R_rules) 1 := ⟨_, _, ok_rules_of (k := 0) F1 bn len_rules_of (sx_rules_of K), PySem.W.mg_of X G a1, F1.kp, b1⟩
  have C_longest_from : Cal l.prog w K mg base "longest_from" ["count", "rules", "start"] (spP R_long) 1 := ⟨_, _, ok_longest_from (k := 0) F2 bn len_longest_from (sx_longest_from K), PySem.W.mg_of X G a2, F2.kp, b2⟩
  have C_ring_at : Cal l.prog w K mg base "ring_at" ["rules", "came", "cue"] (spP R_ringat) 1 := ⟨_, _, ok_ring_at (k := 0) F3 bn len_ring_at (sx_ring_at K), PySem.W.mg_of X G a3, F3.kp, b3⟩
  have C_chain_to : Cal l.prog w K mg base "chain_to" ["rules", "came", "start", "cue"] (spP R_chain) 1 := ⟨_, _, ok_chain_to (k := 0) F4 bn len_chain_to (sx_chain_to K), PySem.W.mg_of X G a4, F4.kp, b4⟩
  have C_earliest : Cal l.prog w K mg base "earliest" ["windows", "gaps"] (spP R_ear) 2 := ⟨_, _, ok_earliest (k := 1) F5 bn C_rules_of (by decide) C_longest_from (by decide) C_ring_at (by decide) C_chain_to (by decide) len_earliest (sx_earliest K), PySem.W.mg_of X G a5, F5.kp, b5⟩
  have C_l_draw : Cal l.prog w K mg base "_law_draw" ["state", "script", "size"] (spS R_draw) 1 := ⟨_, _, ok_l_draw (k := 0) F11 bn len_l_draw (sx_draw K), PySem.W.mg_of X G a11, F11.kp, b11⟩
  have C_l_leads : Cal l.prog w K mg base "_law_leads" ["rules", "chain", "start", "end"] (spP R_leads) 1 := ⟨_, _, ok_l_leads (k := 0) F14 bn len_l_leads (sx_l_leads K), PySem.W.mg_of X G a14, F14.kp, b14⟩
  have C_l_fault : Cal l.prog w K mg base "_law_fault" ["windows", "gaps", "told"] (spP R_fault) 2 := ⟨_, _, ok_l_fault (k := 1) F15 bn C_l_rules (by decide) C_l_leads (by decide) len_l_fault (sx_l_fault K), PySem.W.mg_of X G a15, F15.kp, b15⟩
  have C_chain_fault : Cal l.prog w K mg base "chain_fault" ["rules", "chain", "start", "end"] (spP R_cf) 1 := ⟨_, _, ok_chain_fault (k := 0) F6 bn len_chain_fault (sx_chain_fault K), PySem.W.mg_of X G a6, F6.kp, b6⟩
  have C_earliest_fault : Cal l.prog w K mg base "earliest_fault" ["windows", "gaps", "told"] (spP R_fault) 2 := ⟨_, _, ok_earliest_fault (k := 1) F7 bn C_rules_of (by decide) C_chain_fault (by decide) len_earliest_fault (sx_earliest_fault K), PySem.W.mg_of X G a7, F7.kp, b7⟩
  have C_latest : Cal l.prog w K mg base "latest" ["windows", "gaps"] (spP R_lat) 2 := ⟨_, _, ok_latest (k := 1) F8 bn C_longest_from (by decide) C_rules_of (by decide) len_latest (sx_latest K), PySem.W.mg_of X G a8, F8.kp, b8⟩
  have C_needless_gaps : Cal l.prog w K mg base "needless_gaps" ["windows", "gaps"] (spP R_need) 3 := ⟨_, _, ok_needless_gaps (k := 2) F10 bn C_latest (by decide) C_earliest (by decide) len_needless_gaps (sx_needless_gaps K), PySem.W.mg_of X G a10, F10.kp, b10⟩
  have C_fixed_cues : Cal l.prog w K mg base "fixed_cues" ["windows", "gaps"] (spP R_fixed) 3 := ⟨_, _, ok_fixed_cues (k := 2) F9 bn C_earliest (by decide) C_latest (by decide) len_fixed_cues (sx_fixed_cues K), PySem.W.mg_of X G a9, F9.kp, b9⟩
  have C_l_bent : Cal l.prog w K mg base "_law_bent" ["state", "script", "row", "size"] (spS R_bent) 2 := ⟨_, _, ok_l_bent (k := 1) F16 bn C_l_draw (by decide) len_l_bent (sx_l_bent K), PySem.W.mg_of X G a16, F16.kp, b16⟩
  exact top_law (k := 3) F18 bn C_l_rules (by decide) C_l_all (by decide) C_l_ends (by decide) C_earliest (by decide) C_l_draw (by decide) C_rules_of (by decide) C_l_fault (by decide) C_earliest_fault (by decide) C_needless_gaps (by decide) C_latest (by decide) C_fixed_cues (by decide) C_l_bent (by decide) ⟨rfl, by decide, by decide⟩ len_law (sx_law K)
theorem walk {l : PySem.W.OpenLaw} {q : Program} {loose : List Str} {XP : (Str → Option Value) → Heap → Prop} {YP : World → Heap → Prop} {d : DefRec} {K : Params → PySem.W.Frag} (hn : l.most = some 63) (hdf : d.params.defaults = [])
    (hY : ∀ (w : World) (h : Heap), YP w h → (K w.params).In h) (nl : ∀ w : World, noLs (K w.params) = true)
    (F : ∀ (w : World) (mg : Str → Option Value) (fa : Addr) (h : Heap), (K w.params).In h → h.Ns mainGlobals mg → mg d.name = some (.ref fa) →
      ∃ fd : FuncData, (∀ (s : Shared) (u : Value), BindsTo s fd ⟨[u], []⟩ [("script", u)]) ∧ ∀ base : Heap, (K w.params).In base → base.Ns mainGlobals mg → TopOk l.prog w (K w.params) mg base fa fd ["script"] (spP R_law)) :
    PySem.W.WalkO q loose XP YP l.row.toRowW d [] (fun f vs => PySem.call f vs) :=
  walk_top (n := 63) (x := "script") (R := R_law) hn (by decide) hdf hY nl F fun ns hl => ⟨ns, rfl, rfl⟩
end Law_k43
open PySem PySem.W PyProof.Rows
set_option maxHeartbeats 0 in
theorem PySem.Challenge.cw_firescore_k43_whole_gaps_holds : PySem.Challenge.rw_firescore_k43_whole_gaps.Holds := by
  w_on; o_law; k_head; (case hw => w_witness2)
  k_fill
  refine Law_k43.walk (l := PySem.Challenge.rw_firescore_k43_whole_gaps) rfl rfl (fun w h Y => PySem.W.kIn_of Y) (fun w => ?NL) ?F
  case NL => rfl
  case F =>
    intro w mg fa h KX G hmg
    refine' Law_k43.all_mk KX G hmg ?a1 ?l1 ?c1 ?k1 ?a2 ?l2 ?c2 ?k2 ?a3 ?l3 ?c3 ?k3 ?a4 ?l4 ?c4 ?k4 ?a5 ?l5 ?c5 ?k5 ?a6 ?l6 ?c6 ?k6 ?a7 ?l7 ?c7 ?k7 ?a8 ?l8 ?c8 ?k8 ?a9 ?l9 ?c9 ?k9 ?a10 ?l10 ?c10 ?k10 ?a11 ?l11 ?c11 ?k11 ?a12 ?l12 ?c12 ?k12 ?a13 ?l13 ?c13 ?k13 ?a14 ?l14 ?c14 ?k14 ?a15 ?l15 ?c15 ?k15 ?a16 ?l16 ?c16 ?k16 ?a17 ?l17 ?c17 ?k17 ?a18 ?l18 ?c18 ?k18 ?z1 ?z2 ?z3 ?z4 ?z5 ?z6 ?z7 ?z8 ?z9 ?z10 ?z11 ?z12 ?z13 ?z14 ?z15 ?z16 ?z17 ?z18 ?z19 ?z20
    (case a1 => k_is); (case l1 => k_is); (case c1 => k_is); (case k1 => k_is)
    (case a2 => k_is); (case l2 => k_is); (case c2 => k_is); (case k2 => k_is)
    (case a3 => k_is); (case l3 => k_is); (case c3 => k_is); (case k3 => k_is)
    (case a4 => k_is); (case l4 => k_is); (case c4 => k_is); (case k4 => k_is)
    (case a5 => k_is); (case l5 => k_is); (case c5 => k_is); (case k5 => k_is)
    (case a6 => k_is); (case l6 => k_is); (case c6 => k_is); (case k6 => k_is)
    (case a7 => k_is); (case l7 => k_is); (case c7 => k_is); (case k7 => k_is)
    (case a8 => k_is); (case l8 => k_is); (case c8 => k_is); (case k8 => k_is)
    (case a9 => k_is); (case l9 => k_is); (case c9 => k_is); (case k9 => k_is)
    (case a10 => k_is); (case l10 => k_is); (case c10 => k_is); (case k10 => k_is)
    (case a11 => k_is); (case l11 => k_is); (case c11 => k_is); (case k11 => k_is)
    (case a12 => k_is); (case l12 => k_is); (case c12 => k_is); (case k12 => k_is)
    (case a13 => k_is); (case l13 => k_is); (case c13 => k_is); (case k13 => k_is)
    (case a14 => k_is); (case l14 => k_is); (case c14 => k_is); (case k14 => k_is)
    (case a15 => k_is); (case l15 => k_is); (case c15 => k_is); (case k15 => k_is)
    (case a16 => k_is); (case l16 => k_is); (case c16 => k_is); (case k16 => k_is)
    (case a17 => k_is); (case l17 => k_is); (case c17 => k_is); (case k17 => k_is)
    (case a18 => k_is); (case l18 => k_is); (case c18 => k_is); (case k18 => k_is)
    (case z1 => k_is)
    (case z2 => k_is)
    (case z3 => k_is)
    (case z4 => k_is)
    (case z5 => k_is)
    (case z6 => k_is)
    (case z7 => k_is)
    (case z8 => k_is)
    (case z9 => k_is)
    (case z10 => k_is)
    (case z11 => k_is)
    (case z12 => k_is)
    (case z13 => k_is)
    (case z14 => k_is)
    (case z15 => k_is)
    (case z16 => k_is)
    (case z17 => k_is)
    (case z18 => k_is)
    (case z19 => k_is)
    (case z20 => k_is)
