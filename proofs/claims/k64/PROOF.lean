import PyProof.Rows.All
import Wide.All
import OpenK.AllK
import Wide.FinOn
import HandS.ForMost
import HandS.TupAny
import HandS.Zip
import KE.SortData
import KE.DataMinMax
import KE.DataEq
import KE.DataFind
import HandS.Style
import HandS.Dict
import KE.DatumIndex
import KE.GoesMore
import HandS.Deep
import HandS.Set
import HandS.SetFor
import KE.DataAny
import HandS.Conv
import HandS.NoneIn
import HandS.DictComp
import HandS.Flow
import HandS.SortKw
import HandS.TupSets
import PySem.Challenge.RW_firescore_k64_stores_judged
set_option Elab.async false
set_option linter.all false
set_option autoImplicit false
set_option maxRecDepth 100000
set_option maxHeartbeats 4000000
/-! Pu: the hand layer's readings over pure data: slots hold data, own lists, a state; no addresses. -/
namespace Pu
open PySem L2

abbrev D := PyData
mutual
/-- the value v reads as the datum d in the frozen part F of the heap -/
inductive Rp (F : Hp) : V → D → Prop
  | non : Rp F .non .none
  | bl (b : Bool) : Rp F (.bl b) (.bool b)
  | int (i : Int) : Rp F (.int i) (.int i)
  | str (x : Str) : Rp F (.str x) (.str x)
  | lst {a : Addr} {xs : List V} {ds : List D} : Rd F a (.lst xs) → RpA F xs ds → Rp F (.ref a) (.list ds)
  | tup {a : Addr} {xs : List V} {ds : List D} : F a = some (.tup xs) → RpA F xs ds → Rp F (.ref a) (.tuple ds)
inductive RpA (F : Hp) : List V → List D → Prop
  | nil : RpA F [] []
  | cons {v : V} {vs : List V} {d : D} {ds : List D} : Rp F v d → RpA F vs ds → RpA F (v :: vs) (d :: ds)
end
theorem rd_mono {F G : Hp} {a : Addr} {u : HO} (e : Same F G) (h : Rd F a u) : Rd G a u := by
  rcases h with h | ⟨o, h⟩
  · exact .inl (e _ _ h)
  · exact .inr ⟨o, e _ _ h⟩
mutual
theorem Rp.mono {F G : Hp} (e : Same F G) : ∀ (d : D) {v : V}, Rp F v d → Rp G v d
  | .none, _, h => by cases h; exact .non
  | .bool b, _, h => by cases h; exact .bl b
  | .int i, _, h => by cases h; exact .int i
  | .str x, _, h => by cases h; exact .str x
  | .list ds, _, h => by
    cases h with
    | lst h1 h2 => exact .lst (rd_mono e h1) (RpA.mono e ds h2)
  | .tuple ds, _, h => by
    cases h with
    | tup h1 h2 => exact .tup (e _ _ h1) (RpA.mono e ds h2)
  | .dict _, _, h => by cases h
theorem RpA.mono {F G : Hp} (e : Same F G) : ∀ (ds : List D) {vs : List V}, RpA F vs ds → RpA G vs ds
  | [], _, h => by cases h; exact .nil
  | d :: ds, _, h => by
    cases h with
    | cons h1 h2 => exact .cons (Rp.mono e d h1) (RpA.mono e ds h2)
end
theorem Rp.up {F G : Hp} {d : D} {v : V} (h : Rp F v d) (e : Same F G) : Rp G v d := Rp.mono e d h
theorem RpA.up {F G : Hp} {ds : List D} {vs : List V} (h : RpA F vs ds) (e : Same F G) : RpA G vs ds := RpA.mono e ds h
theorem sqL_rd {K : PySem.W.Frag} {F H : Hp} {a : Addr} {xs : List V} (h : Rd F a (.lst xs)) (e : Same F H) : SqL K H a xs := .inl (rd_mono e h)
theorem sqT_rd {K : PySem.W.Frag} {F H : Hp} {a : Addr} {xs : List V} (h : F a = some (.tup xs)) (e : Same F H) : SqT K H a xs := .inl (.inl (e _ _ h))
mutual
theorem Rp.dp {K : PySem.W.Frag} {F H : Hp} (e : Same F H) : ∀ (d : D) {v : V}, Rp F v d → Dp K H v d
  | .none, _, h => by cases h; exact .non
  | .bool b, _, h => by cases h; exact .bl b
  | .int i, _, h => by cases h; exact .int i
  | .str x, _, h => by cases h; exact .str x
  | .list ds, _, h => by
    cases h with
    | lst h1 h2 => exact .lst (sqL_rd h1 e) (RpA.dp e ds h2)
  | .tuple ds, _, h => by
    cases h with
    | tup h1 h2 => exact .tup (sqT_rd h1 e) (RpA.dp e ds h2)
  | .dict _, _, h => by cases h
theorem RpA.dp {K : PySem.W.Frag} {F H : Hp} (e : Same F H) : ∀ (ds : List D) {vs : List V}, RpA F vs ds → DpAll K H vs ds
  | [], _, h => by cases h; exact .nil
  | d :: ds, _, h => by
    cases h with
    | cons h1 h2 => exact .cons (Rp.dp e d h1) (RpA.dp e ds h2)
end
section
variable {F : Hp}
theorem Rp.int_inv {v : V} {i : Int} (h : Rp F v (.int i)) : v = .int i := by cases h; rfl
theorem Rp.bl_inv {v : V} {b : Bool} (h : Rp F v (.bool b)) : v = .bl b := by cases h; rfl
theorem Rp.str_inv {v : V} {x : Str} (h : Rp F v (.str x)) : v = .str x := by cases h; rfl
theorem Rp.non_inv {v : V} (h : Rp F v .none) : v = .non := by cases h; rfl
theorem Rp.lst_inv {v : V} {ds : List D} (h : Rp F v (.list ds)) : ∃ a xs, v = .ref a ∧ Rd F a (.lst xs) ∧ RpA F xs ds := by
  cases h with
  | lst h1 h2 => exact ⟨_, _, rfl, h1, h2⟩
theorem Rp.tup_inv {v : V} {ds : List D} (h : Rp F v (.tuple ds)) : ∃ a xs, v = .ref a ∧ F a = some (.tup xs) ∧ RpA F xs ds := by
  cases h with
  | tup h1 h2 => exact ⟨_, _, rfl, h1, h2⟩
theorem RpA.len : ∀ {vs : List V} {ds : List D}, RpA F vs ds → vs.length = ds.length
  | _, [], h => by cases h; rfl
  | _, d :: ds, h => by
    cases h with
    | cons h1 h2 => simp [RpA.len h2]
theorem RpA.get : ∀ {vs : List V} {ds : List D} {k : Nat} {d : D}, RpA F vs ds → ds[k]? = some d → ∃ v, vs[k]? = some v ∧ Rp F v d
  | _, [], k, d, h, e => by simp at e
  | _, a :: ds, 0, d, h, e => by
    cases h with
    | cons h1 h2 =>
      simp at e
      subst e
      exact ⟨_, rfl, h1⟩
  | _, a :: ds, k + 1, d, h, e => by
    cases h with
    | cons h1 h2 =>
      obtain ⟨v, e1, e2⟩ := RpA.get (k := k) h2 (by simpa using e)
      exact ⟨v, by simpa using e1, e2⟩
theorem RpA.get' : ∀ {vs : List V} {ds : List D} {k : Nat} {v : V}, RpA F vs ds → vs[k]? = some v → ∃ d, ds[k]? = some d ∧ Rp F v d := fun {vs ds k v} h e => by
  have hk : k < ds.length := by rw [← h.len]; exact (List.getElem?_eq_some_iff.mp e).1
  obtain ⟨w, e1, e2⟩ := h.get (List.getElem?_eq_getElem hk)
  rw [e] at e1
  cases e1
  exact ⟨_, List.getElem?_eq_getElem hk, e2⟩
theorem RpA.app : ∀ {vs ws : List V} {ds es : List D}, RpA F vs ds → RpA F ws es → RpA F (vs ++ ws) (ds ++ es)
  | _, _, [], es, h, g => by cases h; exact g
  | _, _, d :: ds, es, h, g => by
    cases h with
    | cons h1 h2 => exact .cons h1 (RpA.app h2 g)
theorem RpA.take : ∀ {vs : List V} {ds : List D} (n : Nat), RpA F vs ds → RpA F (vs.take n) (ds.take n)
  | _, _, 0, h => by simp; exact .nil
  | _, [], n + 1, h => by cases h; exact .nil
  | _, d :: ds, n + 1, h => by
    cases h with
    | cons h1 h2 => exact .cons h1 (RpA.take n h2)
theorem RpA.drop : ∀ {vs : List V} {ds : List D} (n : Nat), RpA F vs ds → RpA F (vs.drop n) (ds.drop n)
  | _, _, 0, h => by simpa using h
  | _, [], n + 1, h => by cases h; exact .nil
  | _, d :: ds, n + 1, h => by
    cases h with
    | cons h1 h2 => exact RpA.drop n h2
theorem RpA.set : ∀ {vs : List V} {ds : List D} {v : V} {d : D} (n : Nat), RpA F vs ds → Rp F v d → RpA F (vs.set n v) (ds.set n d)
  | _, [], _, _, n, h, g => by cases h; exact .nil
  | _, e :: ds, _, _, 0, h, g => by
    cases h with
    | cons h1 h2 => exact .cons g h2
  | _, e :: ds, _, _, n + 1, h, g => by
    cases h with
    | cons h1 h2 => exact .cons h1 (RpA.set n h2 g)
theorem RpA.ints : ∀ (ns : List Int), RpA F (ns.map V.int) (ns.map PyData.int)
  | [] => .nil
  | n :: ns => .cons (.int n) (RpA.ints ns)
theorem RpA.ints_inv : ∀ {ns : List Int} {vs : List V}, RpA F vs (ns.map PyData.int) → vs = ns.map V.int
  | [], _, h => by cases h; rfl
  | n :: ns, _, h => by
    cases h with
    | cons h1 h2 =>
      rw [h1.int_inv, RpA.ints_inv h2]
      rfl
theorem RpA.rev {vs : List V} {ds : List D} (h : RpA F vs ds) : RpA F vs.reverse ds.reverse := by
  induction ds generalizing vs with
  | nil => cases h; exact .nil
  | cons d ds ih =>
    cases h with
    | cons h1 h2 =>
      rw [List.reverse_cons, List.reverse_cons]
      exact (ih h2).app (.cons h1 .nil)
end

/-! ### state, slots, the world -/
inductive Stt where
  | two (a b : Int)
  | cel (a : Int) (cs : List Int)
  | dct (kvs : List (Int × Int))
  /-- a dict whose keys are ints, each with True -/
  | dbl (ks : List Int)
  /-- a list of lists of ints and None that nobody else has -/
  | grd (rows : List (List (Option Int)))
  /-- an instance of the class at C whose attributes are data -/
  | obj (C : Addr) (fs : List (Str × D))
  /-- a dict whose keys are pairs of ints -/
  | dtt (kvs : List ((Int × Int) × Int))
def ov : Option Int → V
  | none => .non
  | some i => .int i
/-- the inner lists -/
def GrA (H : Hp) : List Addr → List (List (Option Int)) → Prop
  | [], [] => True
  | q :: qs, r :: rows => H q = some (.lst (r.map ov)) ∧ GrA H qs rows
  | _, _ => False
/-- the attributes of an instance -/
def FldA (F : Hp) : List (Str × V) → List (Str × D) → Prop
  | [], [] => True
  | (f, v) :: vs, (g, d) :: fs => f = g ∧ Rp F v d ∧ FldA F vs fs
  | _, _ => False
theorem FldA.up {F F' : Hp} : ∀ {vs : List (Str × V)} {fs : List (Str × D)}, FldA F vs fs → Same F F' → FldA F' vs fs
  | [], [], _, _ => trivial
  | (_, _) :: _, (_, _) :: _, h, e => ⟨h.1, h.2.1.up e, FldA.up h.2.2 e⟩
  | [], _ :: _, h, _ => h.elim
  | _ :: _, [], h, _ => h.elim
def StAt (F H : Hp) : Stt → Addr → List Addr → Prop
  | .two a b, s, as => as = [s] ∧ H s = some (.lst [.int a, .int b])
  | .cel a cs, s, as => ∃ c, as = [s, c] ∧ s ≠ c ∧ H s = some (.lst [.int a, .ref c]) ∧ H c = some (.lst (cs.map V.int))
  | .dct kvs, s, as => as = [s] ∧ H s = some (.dK (kvs.map fun p => ((.inl p.1 : Key), V.int p.2)))
  | .dbl ks, s, as => as = [s] ∧ H s = some (.dK (ks.map fun k => ((.inl k : Key), V.bl true)))
  | .grd rows, s, as => ∃ qs, as = s :: qs ∧ (s :: qs).Nodup ∧ H s = some (.lst (qs.map V.ref)) ∧ GrA H qs rows
  | .obj C fs, s, as => ∃ dx vs, as = [s] ∧ H s = some (.ins C dx vs) ∧ FldA F vs fs
  | .dtt kvs, s, as => as = [s] ∧ H s = some (.dT (kvs.map fun p => (([.inl p.1.1, .inl p.1.2] : List Key), V.int p.2)))
theorem GrA.mem {H : Hp} : ∀ {qs : List Addr} {rows : List (List (Option Int))}, GrA H qs rows → ∀ q ∈ qs, H q ≠ none
  | q :: qs, r :: rows, h, x, hx => by
    rcases List.mem_cons.mp hx with rfl | hx
    · rw [h.1]; intro z; cases z
    · exact GrA.mem h.2 x hx
  | [], _, _, x, hx => by cases hx
  | _ :: _, [], h, _, _ => h.elim
theorem GrA.keep {H H' : Hp} : ∀ {qs : List Addr} {rows : List (List (Option Int))}, GrA H qs rows → (∀ q ∈ qs, ∀ o, H q = some o → H' q = some o) → GrA H' qs rows
  | q :: qs, r :: rows, h, k => ⟨k q (by simp) _ h.1, GrA.keep h.2 fun x hx => k x (by simp [hx])⟩
  | [], [], _, _ => trivial
  | [], _ :: _, h, _ => h.elim
  | _ :: _, [], h, _ => h.elim
theorem StAt.mem {F H : Hp} {S : Stt} {s : Addr} {as : List Addr} (h : StAt F H S s as) : s ∈ as ∧ ∀ a ∈ as, H a ≠ none := by
  cases S with
  | two a b =>
    obtain ⟨rfl, h⟩ := h
    exact ⟨by simp, fun x hx => by
      have e : x = s := by simpa using hx
      rw [e, h]; intro z; cases z⟩
  | dct kvs =>
    obtain ⟨rfl, h⟩ := h
    exact ⟨by simp, fun x hx => by
      have e : x = s := by simpa using hx
      rw [e, h]; intro z; cases z⟩
  | dbl ks =>
    obtain ⟨rfl, h⟩ := h
    exact ⟨by simp, fun x hx => by
      have e : x = s := by simpa using hx
      rw [e, h]; intro z; cases z⟩
  | cel a cs =>
    obtain ⟨c, rfl, _, h1, h2⟩ := h
    exact ⟨by simp, fun x hx => by
      have e : x = s ∨ x = c := by simpa using hx
      rcases e with e | e
      · rw [e, h1]; intro z; cases z
      · rw [e, h2]; intro z; cases z⟩
  | grd rows =>
    obtain ⟨qs, rfl, _, h1, h2⟩ := h
    exact ⟨by simp, fun x hx => by
      rcases List.mem_cons.mp hx with rfl | hx
      · rw [h1]; intro z; cases z
      · exact h2.mem x hx⟩
  | dtt kvs =>
    obtain ⟨rfl, h⟩ := h
    exact ⟨by simp, fun x hx => by
      have e : x = s := by simpa using hx
      rw [e, h]; intro z; cases z⟩
  | obj C fs =>
    obtain ⟨dx, vs, rfl, h, _⟩ := h
    exact ⟨by simp, fun x hx => by
      have e : x = s := by simpa using hx
      rw [e, h]; intro z; cases z⟩
theorem StAt.keep {F F' H H' : Hp} {S : Stt} {s : Addr} {as : List Addr} (h : StAt F H S s as) (f : Same F F') (k : ∀ a ∈ as, ∀ o, H a = some o → H' a = some o) : StAt F' H' S s as := by
  cases S with
  | two a b =>
    obtain ⟨rfl, h⟩ := h
    exact ⟨rfl, k s (by simp) _ h⟩
  | dct kvs =>
    obtain ⟨rfl, h⟩ := h
    exact ⟨rfl, k s (by simp) _ h⟩
  | dbl ks =>
    obtain ⟨rfl, h⟩ := h
    exact ⟨rfl, k s (by simp) _ h⟩
  | cel a cs =>
    obtain ⟨c, rfl, ne, h1, h2⟩ := h
    exact ⟨c, rfl, ne, k s (by simp) _ h1, k c (by simp) _ h2⟩
  | grd rows =>
    obtain ⟨qs, rfl, nd, h1, h2⟩ := h
    exact ⟨qs, rfl, nd, k s (by simp) _ h1, h2.keep fun q hq => k q (by simp [hq])⟩
  | dtt kvs =>
    obtain ⟨rfl, h⟩ := h
    exact ⟨rfl, k s (by simp) _ h⟩
  | obj C fs =>
    obtain ⟨dx, vs, rfl, h1, h2⟩ := h
    exact ⟨dx, vs, rfl, k s (by simp) _ h1, h2.up f⟩
/-- is it an instance? -/
def Stt.ob : Stt → Bool
  | .obj _ _ => true
  | _ => false
theorem StAt.down {F F' H : Hp} {S : Stt} {s : Addr} {as : List Addr} (h : StAt F' H S s as) (n : S.ob = false) : StAt F H S s as := by
  cases S with
  | obj C fs => cases n
  | two a b => exact h
  | cel a cs => exact h
  | dct kvs => exact h
  | dbl ks => exact h
  | grd rows => exact h
  | dtt kvs => exact h
inductive Slot where
  | emp
  | val (d : D)
  | own (ds : List D)
  | st (S : Stt)
abbrev Env := List Slot
/-- no instance is there -/
def NoOb (ρ : Env) : Prop := ∀ S, Slot.st S ∈ ρ → S.ob = false
def noObP : Env → Prop
  | [] => True
  | .st S :: ρ => S.ob = false ∧ noObP ρ
  | .emp :: ρ => noObP ρ
  | .val _ :: ρ => noObP ρ
  | .own _ :: ρ => noObP ρ
theorem noob_of : ∀ {ρ : Env}, noObP ρ → NoOb ρ
  | [], _, _, h => by cases h
  | .st S :: ρ, h, T, m => by
    rcases List.mem_cons.mp m with e | m
    · cases e; exact h.1
    · exact noob_of h.2 T m
  | .emp :: ρ, h, T, m => by
    rcases List.mem_cons.mp m with e | m
    · cases e
    · exact noob_of (ρ := ρ) h T m
  | .val _ :: ρ, h, T, m => by
    rcases List.mem_cons.mp m with e | m
    · cases e
    · exact noob_of (ρ := ρ) h T m
  | .own _ :: ρ, h, T, m => by
    rcases List.mem_cons.mp m with e | m
    · cases e
    · exact noob_of (ρ := ρ) h T m
/-- a state of the laws from k60 on: a counter, cells from 0 on -/
def Ok : Stt → Prop
  | .cel a cs => 0 < cs.length ∧ cs.length ≤ 100000 ∧ 0 ≤ a ∧ ∀ c ∈ cs, 0 ≤ c
  | _ => False
theorem Ok.nob : ∀ {S : Stt}, Ok S → S.ob = false
  | .two _ _, h => h.elim
  | .cel _ _, _ => rfl
  | .dct _, h => h.elim
  | .dbl _, h => h.elim
  | .grd _, h => h.elim
  | .obj _ _, h => h.elim
  | .dtt _, h => h.elim
/-- a state of the laws up to k45 -/
def Ok2 : Stt → Prop
  | .two a b => 0 ≤ a ∧ 0 ≤ b
  | _ => False
theorem Ok2.nob : ∀ {S : Stt}, Ok2 S → S.ob = false
  | .two _ _, _ => rfl
  | .cel _ _, _ => rfl
  | .dct _, _ => rfl
  | .dbl _, _ => rfl
  | .grd _, _ => rfl
  | .dtt _, _ => rfl
  | .obj _ _, h => h.elim
structure Base where
  F0 : Hp
  H0 : Hp
  M : Addr → Prop
  pin : Option (Addr × List Addr) := none
/-- from (F, H) to (F', H'): all is kept but what M has -/
structure Gr (M : Addr → Prop) (F H F' H' : Hp) : Prop where
  ff : Same F F'
  fh : Same F' H'
  kp : ∀ a o, H a = some o → ¬ M a → H' a = some o
  al : ∀ a, H a ≠ none → H' a ≠ none
  fr : ∀ a, H a ≠ none → F a = none → F' a = none
theorem Gr.refl {M : Addr → Prop} {F H : Hp} (e : Same F H) : Gr M F H F H := ⟨Same.refl F, e, fun _ _ h _ => h, fun _ h => h, fun _ _ h => h⟩
theorem Gr.trans {M M1 M2 : Addr → Prop} {F H F1 H1 F2 H2 : Hp} (a : Gr M1 F H F1 H1) (b : Gr M2 F1 H1 F2 H2) (i1 : ∀ x, H x ≠ none → M1 x → M x) (i2 : ∀ x, H x ≠ none → M2 x → M x) : Gr M F H F2 H2 :=
  ⟨a.ff.trans b.ff, b.fh, fun x o h m => b.kp x o (a.kp x o h fun z => m (i1 x (by rw [h]; intro q; cases q) z)) fun z => m (i2 x (by rw [h]; intro q; cases q) z), fun x h => b.al x (a.al x h), fun x h e => b.fr x (a.al x h) (a.fr x h e)⟩
/-- nothing changes -/
abbrev Non : Addr → Prop := fun _ => False

def SlotOk (B : Base) (F H : Hp) : Slot → Option (Option V) → List Addr → Prop
  | .emp, _, as => as = []
  | .val d, x, as => as = [] ∧ ∃ v, x = some (some v) ∧ Rp F v d
  | .own ds, x, as => ∃ p vs, as = [p] ∧ B.H0 p = none ∧ x = some (some (.ref p)) ∧ H p = some (.lst vs) ∧ RpA F vs ds
  | .st S, x, as => ∃ s, x = some (some (.ref s)) ∧ StAt F H S s as
/-- a state that came as the first argument stays where it is -/
def PinOk (B : Base) (ad : Nat → List Addr) (ρ : Env) (σ : St) : Prop := ∀ s as, B.pin = some (s, as) → ∀ S, ρ[0]? = some (Slot.st S) → σ[0]? = some (some (.ref s)) ∧ ad 0 = as
theorem PinOk.to {B : Base} {ad ad' : Nat → List Addr} {ρ ρ' : Env} {σ σ' : St} (h : PinOk B ad ρ σ) (k : ∀ S, ρ'[0]? = some (Slot.st S) → (∃ S', ρ[0]? = some (Slot.st S')) ∧ σ'[0]? = σ[0]? ∧ ad' 0 = ad 0) : PinOk B ad' ρ' σ' := fun s as e S q => by
  obtain ⟨⟨S', e1⟩, e2, e3⟩ := k S q
  rw [e2, e3]
  exact h s as e S' e1
structure WA (B : Base) (ad : Nat → List Addr) (ρ : Env) (σ : St) (F H : Hp) : Prop where
  gr : Gr B.M B.F0 B.H0 F H
  len : σ.length = ρ.length
  sl : ∀ i s, ρ[i]? = some s → SlotOk B F H s σ[i]? (ad i)
  fz : ∀ i p, p ∈ ad i → F p = none ∧ (B.H0 p = none ∨ (B.M p ∧ i = 0))
  dj : ∀ i j p, p ∈ ad i → p ∈ ad j → i = j
  out : ∀ i, ρ[i]? = none → ad i = []
  pin : PinOk B ad ρ σ
def W (B : Base) (ρ : Env) (σ : St) (F H : Hp) : Prop := ∃ ad, WA B ad ρ σ F H
/-- the addresses of the states -/
def MS (ad : Nat → List Addr) (ρ : Env) (a : Addr) : Prop := ∃ (i : Nat) (S : Stt), ρ[i]? = some (Slot.st S) ∧ a ∈ ad i
/-- behind an expression -/
structure Post (B : Base) (ad : Nat → List Addr) (σ : St) (ρ : Env) (F H : Hp) (ρ' : Env) (F' H' : Hp) : Prop where
  wa : WA B ad ρ' σ F' H'
  gr : Gr (MS ad ρ) F H F' H'
  sh : ∀ (i : Nat) (S' : Stt), ρ'[i]? = some (Slot.st S') → ∃ S, ρ[i]? = some (Slot.st S)
section
variable {B : Base} {ad : Nat → List Addr} {ρ ρ' ρ1 ρ2 : Env} {σ : St} {F H F' H' F1 H1 F2 H2 : Hp}
theorem Post.refl (w : WA B ad ρ σ F H) : Post B ad σ ρ F H ρ F H := ⟨w, Gr.refl w.gr.fh, fun i S h => ⟨S, h⟩⟩
theorem Post.trans (a : Post B ad σ ρ F H ρ1 F1 H1) (b : Post B ad σ ρ1 F1 H1 ρ2 F2 H2) : Post B ad σ ρ F H ρ2 F2 H2 :=
  ⟨b.wa, a.gr.trans b.gr (fun _ _ h => h) fun x _ ⟨i, S, h, m⟩ => let ⟨S', h'⟩ := a.sh i S h; ⟨i, S', h', m⟩, fun i S h => let ⟨S1, h1⟩ := b.sh i S h; a.sh i S1 h1⟩
theorem WA.lv (w : WA B ad ρ σ F H) {i : Nat} {p : Addr} (h : p ∈ ad i) : H p ≠ none := by
  cases e : ρ[i]? with
  | none => rw [w.out i e] at h; cases h
  | some s =>
    have k := w.sl i s e
    cases s with
    | emp => have k : ad i = [] := k; rw [k] at h; cases h
    | val d => have k : ad i = [] := k.1; rw [k] at h; cases h
    | own ds =>
      obtain ⟨q, vs, k, _, _, k2, _⟩ := k
      rw [k] at h
      have e : p = q := by simpa using h
      rw [e, k2]
      intro z; cases z
    | st S =>
      obtain ⟨s, _, k⟩ := k
      exact k.mem.2 p h
/-- nothing tracked changes, F grows -/
theorem WA.grow (w : WA B ad ρ σ F H) (g : Gr Non F H F' H') : WA B ad ρ σ F' H' where
  gr := w.gr.trans g (fun _ _ h => h) fun _ _ h => h.elim
  len := w.len
  sl := fun i s h => by
    have k := w.sl i s h
    cases s with
    | emp => exact k
    | val d =>
      obtain ⟨k, v, e, r⟩ := k
      exact ⟨k, v, e, r.up g.ff⟩
    | own ds =>
      obtain ⟨p, vs, k, k0, k1, k2, r⟩ := k
      exact ⟨p, vs, k, k0, k1, g.kp _ _ k2 id, r.up g.ff⟩
    | st S =>
      obtain ⟨s, k1, k⟩ := k
      exact ⟨s, k1, k.keep g.ff fun a _ o e => g.kp a o e id⟩
  fz := fun i p h => ⟨g.fr p (w.lv h) (w.fz i p h).1, (w.fz i p h).2⟩
  dj := w.dj
  out := w.out
  pin := w.pin
theorem Post.of (w : WA B ad ρ σ F H) (g : Gr Non F H F' H') : Post B ad σ ρ F H ρ F' H' := ⟨w.grow g, ⟨g.ff, g.fh, fun a o h _ => g.kp a o h id, g.al, g.fr⟩, fun i S h => ⟨S, h⟩⟩
theorem Gr.heap (e : Same F H) (g : Same H H') : Gr Non F H F H' where
  ff := Same.refl F
  fh := e.trans g
  kp := fun a o h _ => g a o h
  al := fun a h => by
    cases q : H a with
    | none => exact absurd q h
    | some o =>
      rw [g a o q]
      intro z
      cases z
  fr := fun _ _ h => h
theorem same_upd {p : Addr} {o : HO} (h : H p = none) : Same H (upd H p o) := fun b u q => by rw [upd_ne (ne_of_none q h)]; exact q
/-- a new object is laid and frozen -/
theorem Gr.new {p : Addr} {o : HO} (e : Same F H) (h : H p = none) : Gr Non F H (upd F p o) (upd H p o) where
  ff := same_upd (by
    cases q : F p with
    | none => rfl
    | some u => rw [e p u q] at h; cases h)
  fh := fun a u q => by
    by_cases ha : a = p
    · subst ha; rw [upd_same] at q ⊢; exact q
    · rw [upd_ne ha] at q ⊢; exact e a u q
  kp := fun a u q _ => by rw [upd_ne (ne_of_none q h)]; exact q
  al := fun a q => by
    by_cases ha : a = p
    · subst ha; rw [upd_same]; intro z; cases z
    · rw [upd_ne ha]; exact q
  fr := fun a q z => by
    have ha : a ≠ p := fun z => q (z ▸ h)
    rw [upd_ne ha]
    exact z
end

/-! ### expressions over pure data -/
def EX (te : TE) (ρ : Env) (Q : D → Env → Prop) : Prop := ∀ B ad σ F H, WA B ad ρ σ F H → ∀ Z : VK, (∀ d ρ' v F' H', Q d ρ' → Post B ad σ ρ F H ρ' F' H' → Rp F' v d → Z v H') → te σ H Z
def EA (ta : TA) (ρ : Env) (Q : List D → Env → Prop) : Prop := ∀ B ad σ F H, WA B ad ρ σ F H → ∀ Z : List V → Hp → Prop, (∀ ds ρ' vs F' H', Q ds ρ' → Post B ad σ ρ F H ρ' F' H' → RpA F' vs ds → Z vs H') → ta σ H Z
def ET (tt : TT) (ρ : Env) (Q : Bool → Env → Prop) : Prop := ∀ B ad σ F H, WA B ad ρ σ F H → ∀ Z : Bool → Hp → Prop, (∀ b ρ' F' H', Q b ρ' → Post B ad σ ρ F H ρ' F' H' → Z b H') → tt σ H Z
/-- a new list, not yet frozen -/
def EO (te : TE) (ρ : Env) (Q : List D → Env → Prop) : Prop := ∀ B ad σ F H, WA B ad ρ σ F H → ∀ Z : VK,
  (∀ ds ρ' p vs F' H', Q ds ρ' → Post B ad σ ρ F H ρ' F' H' → F' p = none → H p = none → H' p = some (.lst vs) → RpA F' vs ds → Z (.ref p) H') → te σ H Z
def EPt (to : TO) (ρ : Env) (Q : Option Int → Env → Prop) : Prop := ∀ B ad σ F H, WA B ad ρ σ F H → ∀ Z : Option Int → Hp → Prop, (∀ o ρ' F' H', Q o ρ' → Post B ad σ ρ F H ρ' F' H' → Z o H') → to σ H Z
/-- operations by data -/
def OpD (r : R2) (d1 d2 : D) (K : D → Prop) : Prop := ∀ F H x y, Same F H → Rp F x d1 → Rp F y d2 → ∀ Z : VK, (∀ d v F' H', K d → Gr Non F H F' H' → Rp F' v d → Z v H') → r x y H Z
def OpO (r : R2) (d1 d2 : D) (K : List D → Prop) : Prop := ∀ F H x y, Same F H → Rp F x d1 → Rp F y d2 → ∀ Z : VK, (∀ ds p vs H', K ds → Same H H' → H p = none → H' p = some (.lst vs) → RpA F vs ds → Z (.ref p) H') → r x y H Z
def UnD (r : V → Hp → VK → Prop) (d1 : D) (K : D → Prop) : Prop := ∀ F H x, Same F H → Rp F x d1 → ∀ Z : VK, (∀ d v F' H', K d → Gr Non F H F' H' → Rp F' v d → Z v H') → r x H Z
def CbD (r : List V → Hp → VK → Prop) (ds : List D) (K : D → Prop) : Prop := ∀ F H vs, Same F H → RpA F vs ds → ∀ Z : VK, (∀ d v F' H', K d → Gr Non F H F' H' → Rp F' v d → Z v H') → r vs H Z
def CbO (r : List V → Hp → VK → Prop) (ds : List D) (K : List D → Prop) : Prop := ∀ F H vs, Same F H → RpA F vs ds → ∀ Z : VK, (∀ es p ws H', K es → Same H H' → H p = none → H' p = some (.lst ws) → RpA F ws es → Z (.ref p) H') → r vs H Z
def SlD (r : V → Option Int → Option Int → Hp → VK → Prop) (d1 : D) (lo hi : Option Int) (K : D → Prop) : Prop := ∀ F H x, Same F H → Rp F x d1 → ∀ Z : VK, (∀ d v F' H', K d → Gr Non F H F' H' → Rp F' v d → Z v H') → r x lo hi H Z
def SlO (r : V → Option Int → Option Int → Hp → VK → Prop) (d1 : D) (lo hi : Option Int) (K : List D → Prop) : Prop := ∀ F H x, Same F H → Rp F x d1 → ∀ Z : VK, (∀ ds p vs H', K ds → Same H H' → H p = none → H' p = some (.lst vs) → RpA F vs ds → Z (.ref p) H') → r x lo hi H Z

section
variable {B : Base} {ad : Nat → List Addr} {ρ ρ' ρ1 ρ2 : Env} {σ : St} {F H F' H' F1 H1 F2 H2 : Hp} {te ta tb tc : TE} {tt tu : TT} {t : TA} {Q Q' : D → Env → Prop}
theorem WA.newp (w : WA B ad ρ σ F H) {p : Addr} (h : H p = none) : F p = none ∧ B.H0 p = none ∧ ∀ i, p ∉ ad i := by
  refine ⟨w.gr.fh.free h, ?_, fun i m => w.lv m h⟩
  cases q : B.H0 p with
  | none => rfl
  | some o => exact absurd h (w.gr.al p (by rw [q]; intro z; cases z))
/-- a list that nobody owns is frozen -/
theorem WA.freeze (w : WA B ad ρ σ F H) {p : Addr} {vs : List V} (hF : F p = none) (h0 : B.H0 p = none) (hn : ∀ i, p ∉ ad i) (hp : H p = some (.lst vs)) : WA B ad ρ σ (upd F p (.lst vs)) H where
  gr := ⟨w.gr.ff.trans (same_upd hF), fun a o e => by
    by_cases ha : a = p
    · subst ha; rw [upd_same] at e; rw [hp]; exact e
    · rw [upd_ne ha] at e; exact w.gr.fh a o e, w.gr.kp, w.gr.al, fun a e z => by
    have ha : a ≠ p := fun q => e (by rw [q]; exact h0)
    rw [upd_ne ha]
    exact w.gr.fr a e z⟩
  len := w.len
  sl := fun i s e => by
    have k := w.sl i s e
    have up := same_upd (o := .lst vs) hF
    cases s with
    | emp => exact k
    | val d =>
      obtain ⟨k, v, e, r⟩ := k
      exact ⟨k, v, e, r.up up⟩
    | own ds =>
      obtain ⟨q, ws, k, k0, k1, k2, r⟩ := k
      exact ⟨q, ws, k, k0, k1, k2, r.up up⟩
    | st S =>
      obtain ⟨s, k1, k⟩ := k
      exact ⟨s, k1, k.keep up fun _ _ _ e => e⟩
  fz := fun i q m => by
    have ne : q ≠ p := fun z => hn i (z ▸ m)
    rw [upd_ne ne]
    exact w.fz i q m
  dj := w.dj
  out := w.out
  pin := w.pin
theorem Post.freeze (w : Post B ad σ ρ F H ρ' F' H') (w0 : WA B ad ρ σ F H) {p : Addr} {vs : List V} (hF : F' p = none) (hH : H p = none) (hp : H' p = some (.lst vs)) : Post B ad σ ρ F H ρ' (upd F' p (.lst vs)) H' :=
  have n := w0.newp hH
  have f := w.wa.freeze hF n.2.1 n.2.2 hp
  ⟨f, ⟨w.gr.ff.trans (same_upd hF), f.gr.fh, w.gr.kp, w.gr.al, fun a e z => by
    have ha : a ≠ p := fun q => e (by rw [q]; exact hH)
    rw [upd_ne ha]
    exact w.gr.fr a e z⟩, w.sh⟩

/-! #### the rules -/
theorem EX.imp (h : EX te ρ Q) (k : ∀ d ρ', Q d ρ' → Q' d ρ') : EX te ρ Q' := fun B ad σ F H w Z z => h B ad σ F H w Z fun d ρ' v F' H' q p r => z d ρ' v F' H' (k d ρ' q) p r
theorem ex_of {Q : D → Env → Prop} (h : EO te ρ fun ds ρ' => Q (.list ds) ρ') : EX te ρ Q := fun B ad σ F H w Z z => h B ad σ F H w Z fun ds ρ' p vs F' H' q P hF hH hp r =>
  z _ ρ' _ (upd F' p (.lst vs)) H' q (P.freeze w hF hH hp) (.lst (.inl upd_same) (r.up (same_upd hF)))
theorem ex_var {i : Nat} {d : D} (h : ρ[i]? = some (.val d)) (q : Q d ρ) : EX (tVar i) ρ Q := fun B ad σ F H w Z z => by
  obtain ⟨_, v, e, r⟩ := w.sl i _ h
  exact ⟨v, e, z d ρ v F H q (Post.refl w) r⟩
theorem ex_c {v : V} {d : D} (r : ∀ F, Rp F v d) (q : Q d ρ) : EX (tC v) ρ Q := fun B ad σ F H w Z z => z d ρ v F H q (Post.refl w) (r F)
theorem ex_int {i : Int} (q : Q (.int i) ρ) : EX (tC (.int i)) ρ Q := ex_c (fun _ => .int i) q
theorem ex_str {x : Str} (q : Q (.str x) ρ) : EX (tC (.str x)) ρ Q := ex_c (fun _ => .str x) q
theorem ex_bl {b : Bool} (q : Q (.bool b) ρ) : EX (tC (.bl b)) ρ Q := ex_c (fun _ => .bl b) q
theorem ex_non (q : Q .none ρ) : EX (tC .non) ρ Q := ex_c (fun _ => .non) q
theorem ex_op {r : R2} (h : EX ta ρ fun d1 ρ1 => EX tb ρ1 fun d2 ρ2 => OpD r d1 d2 fun d => Q d ρ2) : EX (tOp r ta tb) ρ Q := fun B ad σ F H w Z z =>
  h B ad σ F H w _ fun d1 ρ1 x F1 H1 q1 p1 r1 => q1 B ad σ F1 H1 p1.wa _ fun d2 ρ2 y F2 H2 q2 p2 r2 =>
    q2 F2 H2 x y p2.wa.gr.fh (r1.up p2.gr.ff) r2 Z fun d v F' H' kd g rv => z d ρ2 v F' H' kd ((p1.trans p2).trans (Post.of p2.wa g)) rv
theorem eo_op {r : R2} {Q : List D → Env → Prop} (h : EX ta ρ fun d1 ρ1 => EX tb ρ1 fun d2 ρ2 => OpO r d1 d2 fun d => Q d ρ2) : EO (tOp r ta tb) ρ Q := fun B ad σ F H w Z z =>
  h B ad σ F H w _ fun d1 ρ1 x F1 H1 q1 p1 r1 => q1 B ad σ F1 H1 p1.wa _ fun d2 ρ2 y F2 H2 q2 p2 r2 =>
    q2 F2 H2 x y p2.wa.gr.fh (r1.up p2.gr.ff) r2 Z fun ds p vs H' kd e hn hp rv => z ds ρ2 p vs F2 H' kd ((p1.trans p2).trans (Post.of p2.wa (Gr.heap p2.wa.gr.fh e))) (p2.wa.newp hn).1 (by
      cases q : H p with
      | none => rfl
      | some o => exact absurd hn (p2.gr.al p (p1.gr.al p (by rw [q]; intro z; cases z)))) hp rv
theorem ex_un {r : V → Hp → VK → Prop} (h : EX ta ρ fun d1 ρ1 => UnD r d1 fun d => Q d ρ1) : EX (tUn r ta) ρ Q := fun B ad σ F H w Z z =>
  h B ad σ F H w _ fun d1 ρ1 x F1 H1 q1 p1 r1 => q1 F1 H1 x p1.wa.gr.fh r1 Z fun d v F' H' kd g rv => z d ρ1 v F' H' kd (p1.trans (Post.of p1.wa g)) rv
theorem ea_nil {Q : List D → Env → Prop} (q : Q [] ρ) : EA tNil ρ Q := fun B ad σ F H w Z z => z [] ρ [] F H q (Post.refl w) .nil
theorem ea_cons {Q : List D → Env → Prop} (h : EX te ρ fun d ρ1 => EA t ρ1 fun ds ρ2 => Q (d :: ds) ρ2) : EA (tCons te t) ρ Q := fun B ad σ F H w Z z =>
  h B ad σ F H w _ fun d ρ1 v F1 H1 q1 p1 r1 => q1 B ad σ F1 H1 p1.wa _ fun ds ρ2 vs F2 H2 q2 p2 r2 => z (d :: ds) ρ2 (v :: vs) F2 H2 q2 (p1.trans p2) (.cons (r1.up p2.gr.ff) r2)
theorem ex_cb {r : List V → Hp → VK → Prop} (h : EA t ρ fun ds ρ1 => CbD r ds fun d => Q d ρ1) : EX (tCB r t) ρ Q := fun B ad σ F H w Z z =>
  h B ad σ F H w _ fun ds ρ1 vs F1 H1 q1 p1 r1 => q1 F1 H1 vs p1.wa.gr.fh r1 Z fun d v F' H' kd g rv => z d ρ1 v F' H' kd (p1.trans (Post.of p1.wa g)) rv
theorem eo_cb {r : List V → Hp → VK → Prop} {Q : List D → Env → Prop} (h : EA t ρ fun ds ρ1 => CbO r ds fun d => Q d ρ1) : EO (tCB r t) ρ Q := fun B ad σ F H w Z z =>
  h B ad σ F H w _ fun ds ρ1 vs F1 H1 q1 p1 r1 => q1 F1 H1 vs p1.wa.gr.fh r1 Z fun es p ws H' kd e hn hp rv => z es ρ1 p ws F1 H' kd (p1.trans (Post.of p1.wa (Gr.heap p1.wa.gr.fh e))) (p1.wa.newp hn).1 (by
      cases q : H p with
      | none => rfl
      | some o => exact absurd hn (p1.gr.al p (by rw [q]; intro z; cases z))) hp rv
theorem ex_tup (h : EA t ρ fun ds ρ1 => ds.length ≤ 100000 ∧ Q (.tuple ds) ρ1) : EX (tTup t) ρ Q := fun B ad σ F H w Z z =>
  h B ad σ F H w _ fun ds ρ1 vs F1 H1 q1 p1 r1 => ⟨Nat.le_trans (by rw [r1.len]; exact q1.1) (by decide), fun p hp =>
    z _ ρ1 _ (upd F1 p (.tup vs)) _ q1.2 (p1.trans (Post.of p1.wa (Gr.new p1.wa.gr.fh hp))) (.tup upd_same (r1.up (Gr.new p1.wa.gr.fh hp).ff))⟩
theorem eo_lst {Q : List D → Env → Prop} (h : EA t ρ fun ds ρ1 => ds.length ≤ 100000 ∧ Q ds ρ1) : EO (tLst t) ρ Q := fun B ad σ F H w Z z =>
  h B ad σ F H w _ fun ds ρ1 vs F1 H1 q1 p1 r1 => ⟨Nat.le_trans (by rw [r1.len]; exact q1.1) (by decide), fun p hp =>
    z _ ρ1 p vs F1 _ q1.2 (p1.trans (Post.of p1.wa (Gr.heap p1.wa.gr.fh (same_upd hp)))) (p1.wa.newp hp).1 (by
      cases q : H p with
      | none => rfl
      | some o => exact absurd hp (p1.gr.al p (by rw [q]; intro z; cases z))) upd_same r1⟩
/-! slices -/
theorem ep_no {Q : Option Int → Env → Prop} (q : Q none ρ) : EPt tNoPart ρ Q := fun B ad σ F H w Z z => z none ρ F H q (Post.refl w)
theorem ep_some {Q : Option Int → Env → Prop} (h : EX te ρ fun d ρ1 => ∃ i, d = .int i ∧ Q (some i) ρ1) : EPt (tPart te) ρ Q := fun B ad σ F H w Z z =>
  h B ad σ F H w _ fun d ρ1 v F1 H1 q1 p1 r1 => by
    obtain ⟨i, rfl, q⟩ := q1
    exact ⟨i, r1.int_inv, z _ ρ1 F1 H1 q p1⟩
theorem ex_sl {r : V → Option Int → Option Int → Hp → VK → Prop} {tl th : TO} (h : EX te ρ fun d1 ρ1 => EPt tl ρ1 fun lo ρ2 => EPt th ρ2 fun hi ρ3 => SlD r d1 lo hi fun d => Q d ρ3) : EX (tSl r te tl th) ρ Q := fun B ad σ F H w Z z =>
  h B ad σ F H w _ fun d1 ρ1 x F1 H1 q1 p1 r1 => q1 B ad σ F1 H1 p1.wa _ fun lo ρ2 F2 H2 q2 p2 => q2 B ad σ F2 H2 p2.wa _ fun hi ρ3 F3 H3 q3 p3 =>
    q3 F3 H3 x p3.wa.gr.fh ((r1.up p2.gr.ff).up p3.gr.ff) Z fun d v F' H' kd g rv => z d ρ3 v F' H' kd (((p1.trans p2).trans p3).trans (Post.of p3.wa g)) rv
theorem eo_sl {r : V → Option Int → Option Int → Hp → VK → Prop} {tl th : TO} {Q : List D → Env → Prop} (h : EX te ρ fun d1 ρ1 => EPt tl ρ1 fun lo ρ2 => EPt th ρ2 fun hi ρ3 => SlO r d1 lo hi fun d => Q d ρ3) : EO (tSl r te tl th) ρ Q := fun B ad σ F H w Z z =>
  h B ad σ F H w _ fun d1 ρ1 x F1 H1 q1 p1 r1 => q1 B ad σ F1 H1 p1.wa _ fun lo ρ2 F2 H2 q2 p2 => q2 B ad σ F2 H2 p2.wa _ fun hi ρ3 F3 H3 q3 p3 =>
    q3 F3 H3 x p3.wa.gr.fh ((r1.up p2.gr.ff).up p3.gr.ff) Z fun ds p vs H' kd e hn hp rv => z ds ρ3 p vs F3 H' kd (((p1.trans p2).trans p3).trans (Post.of p3.wa (Gr.heap p3.wa.gr.fh e))) (p3.wa.newp hn).1 (by
      cases q : H p with
      | none => rfl
      | some o => exact absurd hn (p3.gr.al p (p2.gr.al p (p1.gr.al p (by rw [q]; intro z; cases z))))) hp rv
/-! tests -/
theorem et_imp {Q Q' : Bool → Env → Prop} (h : ET tt ρ Q) (k : ∀ b ρ', Q b ρ' → Q' b ρ') : ET tt ρ Q' := fun B ad σ F H w Z z => h B ad σ F H w Z fun b ρ' F' H' q p => z b ρ' F' H' (k b ρ' q) p
theorem et_test {Q : Bool → Env → Prop} (h : EX te ρ fun d ρ1 => ∃ b, d = .bool b ∧ Q b ρ1) : ET (tTest te) ρ Q := fun B ad σ F H w Z z =>
  h B ad σ F H w _ fun d ρ1 v F1 H1 q1 p1 r1 => by
    obtain ⟨b, rfl, q⟩ := q1
    exact ⟨b, r1.bl_inv, z b ρ1 F1 H1 q p1⟩
theorem et_B {Q : Bool → Env → Prop} (h : EX te ρ fun d ρ1 => ∃ b, d = .bool b ∧ Q b ρ1) : ET (tB te) ρ Q := et_test h
theorem et_and {Q : Bool → Env → Prop} (h : ET tt ρ fun b ρ1 => (b = true → ET tu ρ1 Q) ∧ (b = false → Q false ρ1)) : ET (tAnd tt tu) ρ Q := fun B ad σ F H w Z z =>
  h B ad σ F H w _ fun b ρ1 F1 H1 q1 p1 => by
    cases b with
    | true =>
      show tu σ H1 Z
      exact q1.1 rfl B ad σ F1 H1 p1.wa Z fun b ρ' F' H' q p => z b ρ' F' H' q (p1.trans p)
    | false =>
      show Z false H1
      exact z false ρ1 F1 H1 (q1.2 rfl) p1
theorem et_or {Q : Bool → Env → Prop} (h : ET tt ρ fun b ρ1 => (b = true → Q true ρ1) ∧ (b = false → ET tu ρ1 Q)) : ET (tOr tt tu) ρ Q := fun B ad σ F H w Z z =>
  h B ad σ F H w _ fun b ρ1 F1 H1 q1 p1 => by
    cases b with
    | true =>
      show Z true H1
      exact z true ρ1 F1 H1 (q1.1 rfl) p1
    | false =>
      show tu σ H1 Z
      exact q1.2 rfl B ad σ F1 H1 p1.wa Z fun b ρ' F' H' q p => z b ρ' F' H' q (p1.trans p)
theorem et_not {Q : Bool → Env → Prop} (h : ET tt ρ fun b ρ1 => Q (!b) ρ1) : ET (tNot tt) ρ Q := fun B ad σ F H w Z z => h B ad σ F H w _ fun b ρ1 F1 H1 q p => z (!b) ρ1 F1 H1 q p
theorem ex_andV (h : EX ta ρ fun d ρ1 => ∃ b, d = .bool b ∧ (b = true → EX tb ρ1 Q) ∧ (b = false → Q (.bool false) ρ1)) : EX (tAndV ta tb) ρ Q := fun B ad σ F H w Z z =>
  h B ad σ F H w _ fun d ρ1 v F1 H1 q1 p1 r1 => by
    obtain ⟨b, rfl, k1, k2⟩ := q1
    refine ⟨b, r1.bl_inv, ?_⟩
    cases b with
    | true =>
      show tb σ H1 Z
      exact k1 rfl B ad σ F1 H1 p1.wa Z fun d ρ' v F' H' q p r => z d ρ' v F' H' q (p1.trans p) r
    | false =>
      show Z (.bl false) H1
      exact z _ ρ1 _ F1 H1 (k2 rfl) p1 (.bl false)
theorem ex_orV (h : EX ta ρ fun d ρ1 => ∃ b, d = .bool b ∧ (b = true → Q (.bool true) ρ1) ∧ (b = false → EX tb ρ1 Q)) : EX (tOrV ta tb) ρ Q := fun B ad σ F H w Z z =>
  h B ad σ F H w _ fun d ρ1 v F1 H1 q1 p1 r1 => by
    obtain ⟨b, rfl, k1, k2⟩ := q1
    refine ⟨b, r1.bl_inv, ?_⟩
    cases b with
    | true =>
      show Z (.bl true) H1
      exact z _ ρ1 _ F1 H1 (k1 rfl) p1 (.bl true)
    | false =>
      show tb σ H1 Z
      exact k2 rfl B ad σ F1 H1 p1.wa Z fun d ρ' v F' H' q p r => z d ρ' v F' H' q (p1.trans p) r
theorem ex_notV (h : EX ta ρ fun d ρ1 => ∃ b, d = .bool b ∧ Q (.bool !b) ρ1) : EX (tNotV ta) ρ Q := fun B ad σ F H w Z z =>
  h B ad σ F H w _ fun d ρ1 v F1 H1 q1 p1 r1 => by
    obtain ⟨b, rfl, k⟩ := q1
    exact ⟨b, r1.bl_inv, z _ ρ1 _ F1 H1 k p1 (.bl _)⟩
theorem ex_if (h : ET tt ρ fun b ρ1 => (b = true → EX ta ρ1 Q) ∧ (b = false → EX tb ρ1 Q)) : EX (tIf tt ta tb) ρ Q := fun B ad σ F H w Z z =>
  h B ad σ F H w _ fun b ρ1 F1 H1 q1 p1 => by
    cases b with
    | true =>
      show ta σ H1 Z
      exact q1.1 rfl B ad σ F1 H1 p1.wa Z fun d ρ' v F' H' q p r => z d ρ' v F' H' q (p1.trans p) r
    | false =>
      show tb σ H1 Z
      exact q1.2 rfl B ad σ F1 H1 p1.wa Z fun d ρ' v F' H' q p r => z d ρ' v F' H' q (p1.trans p) r
theorem ex_chain {r r' : R2} (h : EX ta ρ fun d1 ρ1 => EX tb ρ1 fun d2 ρ2 => OpD r d1 d2 fun d => ∃ b, d = .bool b ∧ (b = true → EX tc ρ2 fun d3 ρ3 => OpD r' d2 d3 fun d => Q d ρ3) ∧ (b = false → Q (.bool false) ρ2)) : EX (tChain r r' ta tb tc) ρ Q := fun B ad σ F H w Z z =>
  h B ad σ F H w _ fun d1 ρ1 x F1 H1 q1 p1 r1 => q1 B ad σ F1 H1 p1.wa _ fun d2 ρ2 y F2 H2 q2 p2 r2 =>
    q2 F2 H2 x y p2.wa.gr.fh (r1.up p2.gr.ff) r2 _ fun d v F3 H3 kd g rv => by
      obtain ⟨b, rfl, k1, k2⟩ := kd
      refine ⟨b, rv.bl_inv, ?_⟩
      have p3 := (p1.trans p2).trans (Post.of p2.wa g)
      cases b with
      | true =>
        show tc σ H3 fun w' H4 => r' y w' H4 Z
        exact k1 rfl B ad σ F3 H3 p3.wa _ fun d3 ρ3 u F4 H4 q4 p4 r4 => q4 F4 H4 y u p4.wa.gr.fh ((r2.up g.ff).up p4.gr.ff) r4 Z fun d v F' H' kd g rv => z d ρ3 v F' H' kd ((p3.trans p4).trans (Post.of p4.wa g)) rv
      | false =>
        show Z (.bl false) H3
        exact z _ ρ2 _ F3 H3 (k2 rfl) p3 (.bl false)
end
/-! ### operations -/
section
variable {K : PySem.W.Frag} {Q : D → Prop} {i j : Int} {d d1 d2 : D} {ds es : List D}
theorem opd_I0 {g : Int → Int → Int} (k : Q (.int (g i j))) : OpD (rI0 fun i j => .int (g i j)) (.int i) (.int j) Q := fun F H x y e rx ry Z z => ⟨i, j, rx.int_inv, ry.int_inv, z _ _ F H k (Gr.refl e) (.int _)⟩
theorem opd_B0 {g : Int → Int → Bool} (k : Q (.bool (g i j))) : OpD (rI0 fun i j => .bl (g i j)) (.int i) (.int j) Q := fun F H x y e rx ry Z z => ⟨i, j, rx.int_inv, ry.int_inv, z _ _ F H k (Gr.refl e) (.bl _)⟩
theorem opd_I {C : Int → Int → Prop} {g : Int → Int → Int} (c : C i j) (k : Q (.int (g i j))) : OpD (rI C fun i j => .int (g i j)) (.int i) (.int j) Q := fun F H x y e rx ry Z z => ⟨i, j, rx.int_inv, ry.int_inv, c, z _ _ F H k (Gr.refl e) (.int _)⟩
theorem und_neg (k : Q (.int (-i))) : UnD (rU fun i => .int (-i)) (.int i) Q := fun F H x e rx Z z => ⟨i, rx.int_inv, z _ _ F H k (Gr.refl e) (.int _)⟩
theorem opd_eq (s1 : SeqAt.shaped d1 = true) (s2 : SeqAt.shaped d2 = true) (k : Q (.bool (PyData.eqv d1 d2))) : OpD (rEqD K) d1 d2 Q := fun F H x y e rx ry Z z => ⟨d1, d2, rx.dp e, ry.dp e, s1, s2, z _ _ F H k (Gr.refl e) (.bl _)⟩
theorem opd_ne (s1 : SeqAt.shaped d1 = true) (s2 : SeqAt.shaped d2 = true) (k : Q (.bool (!PyData.eqv d1 d2))) : OpD (rNeD K) d1 d2 Q := fun F H x y e rx ry Z z => ⟨d1, d2, rx.dp e, ry.dp e, s1, s2, z _ _ F H k (Gr.refl e) (.bl _)⟩
def isN : D → Bool
  | .none => true
  | _ => false
theorem isN_of {F : Hp} {x : V} (r : Rp F x d) : decide (x = .non) = isN d := by cases r <;> rfl
def rIs : R2 := fun x y H Q => y = .non ∧ Q (.bl (decide (x = .non))) H
def rIsnt : R2 := fun x y H Q => y = .non ∧ Q (.bl (!decide (x = .non))) H
theorem op_is {X : Cx} : OpR X (compareOp .Is) rIs := op_isN
theorem op_isnt {X : Cx} : OpR X (compareOp .IsNot) rIsnt := op_notN
theorem opd_is (k : Q (.bool (isN d))) : OpD rIs d .none Q := fun F H x y e rx ry Z z => ⟨ry.non_inv, by rw [isN_of rx]; exact z _ _ F H k (Gr.refl e) (.bl _)⟩
theorem opd_isnt (k : Q (.bool (!isN d))) : OpD rIsnt d .none Q := fun F H x y e rx ry Z z => ⟨ry.non_inv, by rw [isN_of rx]; exact z _ _ F H k (Gr.refl e) (.bl _)⟩
/-! an item -/
theorem RpA.at_ {F : Hp} {vs : List V} (r : RpA F vs ds) (h : atI ds i = some d) : ∃ v, atI vs i = some v ∧ Rp F v d := by
  unfold atI at h ⊢
  rw [r.len]
  cases e : ixN ds.length i with
  | none => rw [e] at h; cases h
  | some k =>
    rw [e] at h
    exact r.get (k := k) h
def rIxA (K : PySem.W.Frag) : R2 := fun x y H Q => rIxL K x y H Q ∨ rIxT K x y H Q
theorem ix_any {X : Cx} : IxR X (rIxA X.K) := IxR.or ix_list ix_tup
theorem opd_ixL (h : atI ds i = some d) (k : Q d) : OpD (rIxA K) (.list ds) (.int i) Q := fun F H x y e rx ry Z z => by
  obtain ⟨a, xs, rfl, h1, h2⟩ := rx.lst_inv
  obtain ⟨v, hv, rv⟩ := h2.at_ h
  exact .inl ⟨a, xs, i, v, rfl, ry.int_inv, sqL_rd h1 e, hv, z _ _ F H k (Gr.refl e) rv⟩
theorem opd_ixT (h : atI ds i = some d) (k : Q d) : OpD (rIxA K) (.tuple ds) (.int i) Q := fun F H x y e rx ry Z z => by
  obtain ⟨a, xs, rfl, h1, h2⟩ := rx.tup_inv
  obtain ⟨v, hv, rv⟩ := h2.at_ h
  exact .inr ⟨a, xs, i, v, rfl, ry.int_inv, sqT_rd h1 e, hv, z _ _ F H k (Gr.refl e) rv⟩
/-! + -/
def rCatR : R2 := fun x y H Q => ∃ l b xs zs, x = .ref l ∧ y = .ref b ∧ Rd H l (.lst xs) ∧ Rd H b (.lst zs) ∧ xs.length + zs.length ≤ sizeLine ∧ ∀ p, H p = none → Q (.ref p) (upd H p (.lst (xs ++ zs)))
theorem op_catR {X : Cx} : OpR X (binaryOp .Add) rCatR := by
  intro pins s σ H x y v u Q I rx ry h
  obtain ⟨l, b, xs, zs, rfl, rfl, hH, hB, hz, q⟩ := h
  cases rx
  cases ry
  obtain ⟨z, its, n, r, e⟩ := hH.ok I.hok
  obtain ⟨z2, its2, n2, r2, e2⟩ := hB.ok I.hok
  have hl := r.length
  have hl2 := r2.length
  refine PySem.P.add_list e e2 ?_ (by rw [List.size_toArray, List.size_toArray]; omega)
  have ea : its.toArray ++ its2.toArray = (its ++ its2).toArray := by simp
  rw [ea]
  exact ⟨.ref _, _, I.lnew (t' := s.toks) (r.append r2) (by rw [List.length_append]; omega), rfl, q _ I.fresh⟩
def rPlus (K : PySem.W.Frag) : R2 := fun x y H Q => (fun x y H Q => rI0 (fun i j => .int (i + j)) x y H Q ∨ rCatR x y H Q) x y H Q ∨ rCatA K x y H Q
theorem op_plus {X : Cx} : OpR X (binaryOp .Add) (rPlus X.K) := OpR.or (OpR.or op_add op_catR) op_catA
theorem opd_plusI (k : Q (.int (i + j))) : OpD (rPlus K) (.int i) (.int j) Q := fun F H x y e rx ry Z z => .inl (.inl (opd_I0 k F H x y e rx ry Z z))
theorem opo_plusL {Q : List D → Prop} (hz : ds.length + es.length ≤ 1000000) (k : Q (ds ++ es)) : OpO (rPlus K) (.list ds) (.list es) Q := fun F H x y e rx ry Z z => by
  obtain ⟨a, xs, rfl, h1, h2⟩ := rx.lst_inv
  obtain ⟨b, ys, rfl, g1, g2⟩ := ry.lst_inv
  exact .inl (.inr ⟨a, b, xs, ys, rfl, rfl, rd_mono e h1, rd_mono e g1, Nat.le_trans (by rw [h2.len, g2.len]; exact hz) (by decide), fun p hp => z _ p _ _ k (same_upd hp) hp upd_same (h2.app g2)⟩)
theorem opd_plusT (hz : ds.length + es.length ≤ 1000000) (k : Q (.tuple (ds ++ es))) : OpD (rPlus K) (.tuple ds) (.tuple es) Q := fun F H x y e rx ry Z z => by
  obtain ⟨a, xs, rfl, h1, h2⟩ := rx.tup_inv
  obtain ⟨b, ys, rfl, g1, g2⟩ := ry.tup_inv
  refine .inr ⟨a, b, xs, ys, rfl, rfl, sqT_rd h1 e, sqT_rd g1 e, Nat.le_trans (by rw [h2.len, g2.len]; exact hz) (by decide), fun q => ?_, fun _ q => ?_, fun _ _ p hp => ?_⟩
  · subst q
    cases h2
    exact z _ _ F H k (Gr.refl e) ry
  · subst q
    cases g2
    rw [List.append_nil] at k
    exact z _ _ F H k (Gr.refl e) rx
  · exact z _ _ _ _ k (Gr.new e hp) (.tup upd_same ((h2.app g2).up (Gr.new e hp).ff))
/-! slices -/
def rSl (K : PySem.W.Frag) : V → Option Int → Option Int → Hp → VK → Prop := fun x lo hi H Q => rSlL K x lo hi H Q ∨ rSlA K x lo hi H Q
theorem sl_any {X : Cx} : SlR X (rSl X.K) := SlR.or sl_list sl_tupA
def cutD (xs : List D) (lo hi : Option Int) : List D := (xs.drop (HT.sIx xs.length 0 lo)).take (HT.sIx xs.length xs.length hi - HT.sIx xs.length 0 lo)
theorem RpA.cut {F : Hp} {vs : List V} (r : RpA F vs ds) (lo hi : Option Int) : RpA F (cutV vs lo hi) (cutD ds lo hi) := by
  unfold cutV cutD
  rw [r.len]
  exact (r.drop _).take _
theorem slo_L {Q : List D → Prop} {lo hi : Option Int} (k : Q (cutD ds lo hi)) : SlO (rSl K) (.list ds) lo hi Q := fun F H x e rx Z z => by
  obtain ⟨a, xs, rfl, h1, h2⟩ := rx.lst_inv
  exact .inl ⟨a, xs, rfl, sqL_rd h1 e, fun p hp => z _ p _ _ k (same_upd hp) hp upd_same (h2.cut lo hi)⟩
theorem sld_T {lo hi : Option Int} (k : Q (.tuple (cutD ds lo hi))) : SlD (rSl K) (.tuple ds) lo hi Q := fun F H x e rx Z z => by
  obtain ⟨a, xs, rfl, h1, h2⟩ := rx.tup_inv
  refine .inr ⟨a, xs, rfl, sqT_rd h1 e, fun w => ?_, fun w p hp => z _ _ _ _ k (Gr.new e hp) (.tup upd_same ((h2.cut lo hi).up (Gr.new e hp).ff))⟩
  have ec : cutD ds lo hi = ds := by
    rw [h2.len] at w
    unfold cutD
    rw [w.1, w.2, List.drop_zero, Nat.sub_zero, List.take_length]
  rw [ec] at k
  exact z _ _ F H k (Gr.refl e) rx
/-! built-ins -/
def rLen (K : PySem.W.Frag) : List V → Hp → VK → Prop := fun xs H Q => ∃ x n, xs = [x] ∧ LenV K x H n ∧ Q (.int (n : Int)) H
theorem cb_len {X : Cx} : CallR X (.builtin "len") (rLen X.K) := call_len
theorem RpA.one {F : Hp} {vs : List V} (h : RpA F vs [d]) : ∃ v, vs = [v] ∧ Rp F v d := by
  cases h with
  | cons h1 h2 => cases h2; exact ⟨_, rfl, h1⟩
theorem RpA.two {F : Hp} {vs : List V} (h : RpA F vs [d1, d2]) : ∃ v u, vs = [v, u] ∧ Rp F v d1 ∧ Rp F u d2 := by
  cases h with
  | cons h1 h2 => obtain ⟨u, rfl, r⟩ := h2.one; exact ⟨_, _, rfl, h1, r⟩
theorem cbd_lenL (k : Q (.int (ds.length : Int))) : CbD (rLen K) [.list ds] Q := fun F H vs e r Z z => by
  obtain ⟨v, rfl, rv⟩ := r.one
  obtain ⟨a, xs, rfl, h1, h2⟩ := rv.lst_inv
  exact ⟨_, ds.length, rfl, .inl ⟨xs, sqL_rd h1 e, h2.len.symm⟩, z _ _ F H k (Gr.refl e) (.int _)⟩
theorem cbd_lenT (k : Q (.int (ds.length : Int))) : CbD (rLen K) [.tuple ds] Q := fun F H vs e r Z z => by
  obtain ⟨v, rfl, rv⟩ := r.one
  obtain ⟨a, xs, rfl, h1, h2⟩ := rv.tup_inv
  exact ⟨_, ds.length, rfl, .inr ⟨xs, sqT_rd h1 e, h2.len.symm⟩, z _ _ F H k (Gr.refl e) (.int _)⟩
def rAbs : List V → Hp → VK → Prop := fun xs H Q => ∃ i, xs = [.int i] ∧ Q (.int (if i < 0 then -i else i)) H
theorem cb_abs {X : Cx} : CallR X (.builtin "abs") rAbs := call_abs
theorem cbd_abs (k : Q (.int (i.natAbs : Int))) : CbD rAbs [.int i] Q := fun F H vs e r Z z => by
  obtain ⟨v, rfl, rv⟩ := r.one
  refine ⟨i, by rw [rv.int_inv], ?_⟩
  have e2 : (if i < 0 then -i else i) = (i.natAbs : Int) := by
    by_cases h : i < 0
    · rw [if_pos h]; omega
    · rw [if_neg h]; omega
  rw [e2]
  exact z _ _ F H k (Gr.refl e) (.int _)
def rMx2 : List V → Hp → VK → Prop := fun xs H Q => ∃ i j, xs = [.int i, .int j] ∧ Q (.int (if j > i then j else i)) H
def rMn2 : List V → Hp → VK → Prop := fun xs H Q => ∃ i j, xs = [.int i, .int j] ∧ Q (.int (if j < i then j else i)) H
theorem cb_max2 {X : Cx} (hc : X.calm = true) : CallR X (.builtin "max") rMx2 := call_max2 hc
theorem cb_min2 {X : Cx} (hc : X.calm = true) : CallR X (.builtin "min") rMn2 := call_min2 hc
theorem cbd_max2 (k : Q (.int (max i j))) : CbD rMx2 [.int i, .int j] Q := fun F H vs e r Z z => by
  obtain ⟨v, u, rfl, rv, ru⟩ := r.two
  refine ⟨i, j, by rw [rv.int_inv, ru.int_inv], ?_⟩
  have e2 : (if j > i then j else i) = max i j := by
    by_cases h : j > i
    · rw [if_pos h]; omega
    · rw [if_neg h]; omega
  rw [e2]
  exact z _ _ F H k (Gr.refl e) (.int _)
theorem cbd_min2 (k : Q (.int (min i j))) : CbD rMn2 [.int i, .int j] Q := fun F H vs e r Z z => by
  obtain ⟨v, u, rfl, rv, ru⟩ := r.two
  refine ⟨i, j, by rw [rv.int_inv, ru.int_inv], ?_⟩
  have e2 : (if j < i then j else i) = min i j := by
    by_cases h : j < i
    · rw [if_pos h]; omega
    · rw [if_neg h]; omega
  rw [e2]
  exact z _ _ F H k (Gr.refl e) (.int _)
def rInt : List V → Hp → VK → Prop := fun xs H Q => (∃ i, xs = [.int i] ∧ Q (.int i) H) ∨ ∃ k, xs = [.bl k] ∧ Q (.int (if k then 1 else 0)) H
theorem cb_int {X : Cx} : CallR X (.type "int") rInt := call_int1
theorem cbd_int (k : Q (.int i)) : CbD rInt [.int i] Q := fun F H vs e r Z z => by
  obtain ⟨v, rfl, rv⟩ := r.one
  exact .inl ⟨i, by rw [rv.int_inv], z _ _ F H k (Gr.refl e) (.int _)⟩
def rList (K : PySem.W.Frag) : List V → Hp → VK → Prop := fun xs H Q => ∃ p ys, xs = [.ref p] ∧ (SqL K H p ys ∨ SqT K H p ys) ∧ ∀ l, H l = none → Q (.ref l) (upd H l (.lst ys))
theorem cb_list {X : Cx} : CallR X (.type "list") (rList X.K) := call_list_of
theorem cbo_listL {Q : List D → Prop} (k : Q ds) : CbO (rList K) [.list ds] Q := fun F H vs e r Z z => by
  obtain ⟨v, rfl, rv⟩ := r.one
  obtain ⟨a, xs, rfl, h1, h2⟩ := rv.lst_inv
  exact ⟨a, xs, rfl, .inl (sqL_rd h1 e), fun p hp => z _ p _ _ k (same_upd hp) hp upd_same h2⟩
theorem cbo_listT {Q : List D → Prop} (k : Q ds) : CbO (rList K) [.tuple ds] Q := fun F H vs e r Z z => by
  obtain ⟨v, rfl, rv⟩ := r.one
  obtain ⟨a, xs, rfl, h1, h2⟩ := rv.tup_inv
  exact ⟨a, xs, rfl, .inr (sqT_rd h1 e), fun p hp => z _ p _ _ k (same_upd hp) hp upd_same h2⟩
def rTup (K : PySem.W.Frag) : List V → Hp → VK → Prop := fun xs H Q => ∃ p ys, xs = [.ref p] ∧ ((SqL K H p ys ∧ ∀ l, H l = none → Q (.ref l) (upd H l (.tup ys))) ∨ (SqT K H p ys ∧ Q (.ref p) H))
theorem cb_tuple {X : Cx} : CallR X (.type "tuple") (rTup X.K) := call_tuple_of
theorem cbd_tupL (k : Q (.tuple ds)) : CbD (rTup K) [.list ds] Q := fun F H vs e r Z z => by
  obtain ⟨v, rfl, rv⟩ := r.one
  obtain ⟨a, xs, rfl, h1, h2⟩ := rv.lst_inv
  exact ⟨a, xs, rfl, .inl ⟨sqL_rd h1 e, fun p hp => z _ _ _ _ k (Gr.new e hp) (.tup upd_same (h2.up (Gr.new e hp).ff))⟩⟩
theorem cbd_sum {ns : List Int} (k : Q (.int ns.sum)) : CbD (rSum K) [.list (ns.map .int)] Q := fun F H vs e r Z z => by
  obtain ⟨v, rfl, rv⟩ := r.one
  obtain ⟨a, xs, rfl, h1, h2⟩ := rv.lst_inv
  exact ⟨a, ns, rfl, by rw [← h2.ints_inv]; exact sqL_rd h1 e, z _ _ F H k (Gr.refl e) (.int _)⟩
/-- isinstance(x, tuple) -/
theorem ex_isT {te : TE} {ρ : Env} {Q : D → Env → Prop} (h : EX te ρ fun d ρ1 => ∃ ds, d = .tuple ds ∧ Q (.bool true) ρ1) : EX (tCB RZ.rIsTy (tCons te (tCons (tC (.ty "tuple")) tNil))) ρ Q := fun B ad σ F H w Z z =>
  h B ad σ F H w _ fun d ρ1 v F1 H1 q1 p1 r1 => by
    obtain ⟨ds, rfl, q⟩ := q1
    obtain ⟨a, xs, rfl, h1, h2⟩ := r1.tup_inv
    exact ⟨.ref a, "tuple", rfl, .tup (p1.wa.gr.fh _ _ h1), z _ ρ1 _ F1 H1 q p1 (.bl true)⟩
end

/-! ### own lists -/
section
variable {B : Base} {ad : Nat → List Addr} {ρ ρ' : Env} {σ : St} {F H F' H' : Hp} {te tb : TE} {Q : D → Env → Prop}
theorem get_set {α : Type} {l : List α} {i j : Nat} {x y : α} (h : (l.set i x)[j]? = some y) : (j = i ∧ y = x) ∨ (j ≠ i ∧ l[j]? = some y) := by
  by_cases e : j = i
  · subst e
    by_cases hl : j < l.length
    · rw [List.getElem?_set_self hl] at h
      exact .inl ⟨rfl, (Option.some.inj h).symm⟩
    · rw [List.getElem?_eq_none (by simpa using hl)] at h
      cases h
  · rw [List.getElem?_set_ne (Ne.symm e)] at h
    exact .inr ⟨e, h⟩
theorem get_set' {α : Type} {l : List α} {i j : Nat} {x : α} (h : (l.set i x)[j]? = none) : l[j]? = none := by
  rw [List.getElem?_eq_none_iff] at h ⊢
  simpa using h
/-- slot i's own list is frozen where it stands -/
theorem WA.lend (w : WA B ad ρ σ F H) {i : Nat} {ds : List D} (h : ρ[i]? = some (.own ds)) : ∃ p vs, ad i = [p] ∧ F p = none ∧ H p = some (.lst vs) ∧ RpA F vs ds ∧ B.H0 p = none ∧ σ[i]? = some (some (.ref p)) ∧
    WA B (fun k => if k = i then [] else ad k) (ρ.set i (.val (.list ds))) σ (upd F p (.lst vs)) H := by
  obtain ⟨p, vs, k, k0, k1, k2, r⟩ := w.sl i _ h
  have hF : F p = none := (w.fz i p (by rw [k]; simp)).1
  have up := same_upd (o := .lst vs) hF
  refine ⟨p, vs, k, hF, k2, r, k0, k1, ?_⟩
  have hn : ∀ j, j ≠ i → p ∉ ad j := fun j hj m => hj (w.dj j i p m (by rw [k]; simp))
  refine ⟨⟨w.gr.ff.trans up, fun a o e => ?_, w.gr.kp, w.gr.al, fun a e z => ?_⟩, by rw [List.length_set]; exact w.len, fun j s e => ?_, fun j q m => ?_, fun j1 j2 q m1 m2 => ?_, fun j e => ?_, w.pin.to fun S e => by
    rcases get_set e with ⟨_, q⟩ | ⟨hj, e⟩
    · cases q
    · exact ⟨⟨S, e⟩, rfl, if_neg hj⟩⟩
  · by_cases ha : a = p
    · subst ha; rw [upd_same] at e; rw [k2]; exact e
    · rw [upd_ne ha] at e; exact w.gr.fh a o e
  · have ha : a ≠ p := fun q => e (by rw [q]; exact k0)
    rw [upd_ne ha]
    exact w.gr.fr a e z
  · rcases get_set e with ⟨rfl, rfl⟩ | ⟨hj, e⟩
    · exact ⟨if_pos rfl, _, k1, .lst (.inl upd_same) (r.up up)⟩
    · have q := w.sl j s e
      rw [if_neg hj]
      cases s with
      | emp => exact q
      | val d =>
        obtain ⟨k, v, e, r⟩ := q
        exact ⟨k, v, e, r.up up⟩
      | own es =>
        obtain ⟨q, ws, k, k0, k1, k2, r⟩ := q
        exact ⟨q, ws, k, k0, k1, k2, r.up up⟩
      | st S =>
        obtain ⟨s, k1, k⟩ := q
        exact ⟨s, k1, k.keep up fun _ _ _ e => e⟩
  · by_cases hj : j = i
    · simp [hj] at m
    · simp only [if_neg hj] at m
      have ne : q ≠ p := fun z => hn j hj (z ▸ m)
      rw [upd_ne ne]
      exact w.fz j q m
  · by_cases h1 : j1 = i
    · simp [h1] at m1
    · by_cases h2 : j2 = i
      · simp [h2] at m2
      · simp only [if_neg h1] at m1
        simp only [if_neg h2] at m2
        exact w.dj j1 j2 q m1 m2
  · by_cases hj : j = i
    · show (if j = i then [] else ad j) = []
      rw [if_pos hj]
    · show (if j = i then [] else ad j) = []
      rw [if_neg hj]
      exact w.out j (get_set' e)
def scalD : D → Bool
  | .none => true
  | .bool _ => true
  | .int _ => true
  | .str _ => true
  | _ => false
theorem scal_any {d : D} {v : V} (h : scalD d = true) (r : Rp F v d) : Rp F' v d := by
  cases r with
  | non => exact .non
  | bl b => exact .bl b
  | int i => exact .int i
  | str x => exact .str x
  | lst _ _ => cases h
  | tup _ _ => cases h
/-- behind a loan, with nothing changed but the heap's new objects -/
theorem WA.back (w : WA B ad ρ σ F H) {i : Nat} {ds : List D} (h : ρ[i]? = some (.own ds)) {F1 : Hp} {ad1 : Nat → List Addr} {ρ1 : Env} (e1 : ρ1 = ρ.set i (.val (.list ds))) (ea : ad1 = fun k => if k = i then [] else ad k)
    (hF1 : Same F F1) (p : Post B ad1 σ ρ1 F1 H ρ1 F' H') (no : NoOb ρ) : Post B ad σ ρ F H ρ F H' := by
  subst e1 ea
  have hi : i < ρ.length := (List.getElem?_eq_some_iff.mp h).1
  have ms : ∀ a, MS (fun k => if k = i then [] else ad k) (ρ.set i (.val (.list ds))) a → MS ad ρ a := fun a ⟨j, S, e, m⟩ => by
    rcases get_set e with ⟨_, q⟩ | ⟨hj, e⟩
    · cases q
    · simp only [if_neg hj] at m
      exact ⟨j, S, e, m⟩
  have fh : Same F H' := (hF1.trans p.gr.ff).trans p.gr.fh
  have nms : ∀ j q, q ∈ ad j → (∀ S, ρ[j]? ≠ some (Slot.st S)) → ¬ MS ad ρ q := fun j q m hj ⟨j', S, e, m'⟩ => by
    have := w.dj j j' q m m'
    subst this
    exact hj S e
  refine ⟨⟨⟨w.gr.ff, fh, p.wa.gr.kp, p.wa.gr.al, w.gr.fr⟩, w.len, fun j s e => ?_, w.fz, w.dj, w.out, w.pin⟩, ⟨Same.refl F, fh, fun a o e m => p.gr.kp a o e fun z => m (ms a z), p.gr.al, fun _ _ z => z⟩, fun j S e => ⟨S, e⟩⟩
  have k := w.sl j s e
  cases s with
  | emp => exact k
  | val d => exact k
  | own es =>
    obtain ⟨q, ws, k, k0, k1, k2, r⟩ := k
    refine ⟨q, ws, k, k0, k1, p.gr.kp q _ k2 fun z => nms j q (by rw [k]; simp) (fun S z => by rw [e] at z; cases z) (ms q z), r⟩
  | st S =>
    have hj : j ≠ i := fun z => by subst z; rw [h] at e; cases e
    have k' := p.wa.sl j (.st S) (by rw [List.getElem?_set_ne (Ne.symm hj)]; exact e)
    simp only [if_neg hj] at k'
    obtain ⟨s, k1, k2⟩ := k'
    exact ⟨s, k1, k2.down (no _ (List.mem_of_getElem? e))⟩
theorem ex_lend (i : Nat) {ds : List D} (h : ρ[i]? = some (.own ds)) (k : EX te (ρ.set i (.val (.list ds))) fun d ρ' => ρ' = ρ.set i (.val (.list ds)) ∧ scalD d = true ∧ Q d ρ) (no : NoOb ρ := by first | (refine noob_of ?_; simp only [noObP, and_true]; done) | (refine noob_of ?_; simp only [noObP, and_true]; rfl) | (refine noob_of ?_; simp only [noObP, and_true]; exact Ok2.nob (by assumption)) | (refine noob_of ?_; simp only [noObP, and_true]; exact Ok.nob (by assumption))) : EX te ρ Q := fun B ad σ F H w Z z => by
  obtain ⟨p, vs, k1, k2, k3, k4, k5, k6, w2⟩ := w.lend h
  refine k B _ σ _ H w2 Z fun d ρ' v F' H' q P r => ?_
  obtain ⟨rfl, sc, q⟩ := q
  exact z d ρ v F H' q (w.back h rfl rfl (same_upd k2) P no) (scal_any sc r)
theorem et_lend (i : Nat) {tt : TT} {Q : Bool → Env → Prop} {ds : List D} (h : ρ[i]? = some (.own ds)) (k : ET tt (ρ.set i (.val (.list ds))) fun b ρ' => ρ' = ρ.set i (.val (.list ds)) ∧ Q b ρ) (no : NoOb ρ := by first | (refine noob_of ?_; simp only [noObP, and_true]; done) | (refine noob_of ?_; simp only [noObP, and_true]; rfl) | (refine noob_of ?_; simp only [noObP, and_true]; exact Ok2.nob (by assumption)) | (refine noob_of ?_; simp only [noObP, and_true]; exact Ok.nob (by assumption))) : ET tt ρ Q := fun B ad σ F H w Z z => by
  obtain ⟨p, vs, k1, k2, k3, k4, k5, k6, w2⟩ := w.lend h
  refine k B _ σ _ H w2 Z fun d ρ' F' H' q P => ?_
  obtain ⟨rfl, q⟩ := q
  exact z d ρ F H' q (w.back h rfl rfl (same_upd k2) P no)
/-- x[k], x an own list -/
theorem ex_ixO {K : PySem.W.Frag} {i : Nat} {es : List D} (h : ρ[i]? = some (.own es)) (k : EX tb ρ fun d ρ2 => ∃ ds j e, ρ2[i]? = some (.own ds) ∧ d = .int j ∧ atI ds j = some e ∧ Q e ρ2) : EX (tOp (rIxA K) (tVar i) tb) ρ Q := fun B ad σ F H w Z z => by
  obtain ⟨p0, _, _, _, k1, _⟩ := w.sl i _ h
  refine ⟨_, k1, k B ad σ F H w _ fun d ρ2 y F2 H2 q2 p2 r2 => ?_⟩
  obtain ⟨ds, j, e, h2, rfl, hj, q⟩ := q2
  obtain ⟨p, vs, _, _, k2, k3, rr⟩ := p2.wa.sl i _ h2
  rw [k1] at k2
  cases k2
  obtain ⟨v, hv, rv⟩ := rr.at_ hj
  exact .inl ⟨_, vs, j, v, rfl, r2.int_inv, .inl (.inl k3), hv, z e ρ2 v F2 H2 q p2 rv⟩
theorem ex_lenO {K : PySem.W.Frag} {i : Nat} {ds : List D} (h : ρ[i]? = some (.own ds)) (q : Q (.int (ds.length : Int)) ρ) : EX (tCB (rLen K) (tCons (tVar i) tNil)) ρ Q := fun B ad σ F H w Z z => by
  obtain ⟨p, vs, _, _, k1, k3, rr⟩ := w.sl i _ h
  exact ⟨_, k1, _, ds.length, rfl, .inl ⟨vs, .inl (.inl k3), rr.len.symm⟩, z _ ρ _ F H q (Post.refl w) (.int _)⟩
end

/-! ### statements -/
structure Po where
  nx : Env → Prop
  rt : D → Env → Prop
  bk : Env → Prop := fun _ => False
  ct : Env → Prop := fun _ => False
def SX (ts : TS) (ρ : Env) (P : Po) : Prop := ∀ B σ F H, W B ρ σ F H → ∀ Dn : Ends, (∀ ρ' σ' F' H', P.nx ρ' → W B ρ' σ' F' H' → Dn.nx σ' H') → (∀ d ρ' σ' v F' H', P.rt d ρ' → W B ρ' σ' F' H' → Rp F' v d → Dn.rt v H') →
  (∀ ρ' σ' F' H', P.bk ρ' → W B ρ' σ' F' H' → Dn.bk σ' H') → (∀ ρ' σ' F' H', P.ct ρ' → W B ρ' σ' F' H' → Dn.ct σ' H') → ts Dn σ H
/-- ρ' knows no more than ρ -/
inductive LeE : Env → Env → Prop
  | nil : LeE [] []
  | emp {s : Slot} {ρ' ρ : Env} : LeE ρ' ρ → LeE (.emp :: ρ') (s :: ρ)
  | eq {s s' : Slot} {ρ' ρ : Env} : s = s' → LeE ρ' ρ → LeE (s :: ρ') (s' :: ρ)
theorem LeE.refl : ∀ ρ, LeE ρ ρ
  | [] => .nil
  | _ :: ρ => .eq rfl (LeE.refl ρ)
theorem LeE.len {ρ' ρ : Env} (h : LeE ρ' ρ) : ρ'.length = ρ.length := by
  induction h with
  | nil => rfl
  | emp _ ih => simp [ih]
  | eq _ _ ih => simp [ih]
theorem LeE.get {ρ' ρ : Env} (h : LeE ρ' ρ) : ∀ {i : Nat} {s : Slot}, ρ'[i]? = some s → s = .emp ∨ ρ[i]? = some s := by
  induction h with
  | nil => intro i s e; simp at e
  | emp _ ih =>
    intro i s e
    cases i with
    | zero => simp at e; exact .inl e.symm
    | succ i => exact ih (by simpa using e)
  | eq q _ ih =>
    intro i s e
    cases i with
    | zero => simp at e; subst e; subst q; exact .inr rfl
    | succ i => exact ih (by simpa using e)
theorem WA.weak {B : Base} {ad : Nat → List Addr} {ρ ρ' : Env} {σ : St} {F H : Hp} (w : WA B ad ρ σ F H) (l : LeE ρ' ρ) : W B ρ' σ F H := by
  refine ⟨fun i => match ρ'[i]? with | some .emp => [] | _ => ad i, w.gr, by rw [l.len]; exact w.len, fun i s e => ?_, fun i p m => ?_, fun i j p m1 m2 => ?_, fun i e => ?_, w.pin.to fun S e => by
    rcases l.get e with h | h
    · cases h
    · exact ⟨⟨S, h⟩, rfl, by
        show (match ρ'[0]? with | some .emp => [] | _ => ad 0) = ad 0
        rw [e]⟩⟩
  · rcases l.get e with h | h
    · subst h
      show (match ρ'[i]? with | some .emp => [] | _ => ad i) = []
      rw [e]
    · have k := w.sl i s h
      show SlotOk B F H s σ[i]? (match ρ'[i]? with | some .emp => [] | _ => ad i)
      rw [e]
      cases s with
      | emp => rfl
      | _ => exact k
  · exact w.fz i p (by
      revert m
      show p ∈ (match ρ'[i]? with | some .emp => [] | _ => ad i) → p ∈ ad i
      split <;> simp)
  · have g : ∀ i, p ∈ (match ρ'[i]? with | some .emp => [] | _ => ad i) → p ∈ ad i := fun i => by split <;> simp
    exact w.dj i j p (g i m1) (g j m2)
  · show (match ρ'[i]? with | some .emp => [] | _ => ad i) = []
    rw [e]
    exact w.out i (by
      rw [List.getElem?_eq_none_iff] at e ⊢
      rw [← l.len]; exact e)
theorem W.weak {B : Base} {ρ ρ' : Env} {σ : St} {F H : Hp} (w : W B ρ σ F H) (l : LeE ρ' ρ) : W B ρ' σ F H := let ⟨_, w⟩ := w; w.weak l
/-- a slot is stored -/
theorem WA.setVal {B : Base} {ad : Nat → List Addr} {ρ : Env} {σ : St} {F H : Hp} (w : WA B ad ρ σ F H) (i : Nat) {d : D} {v : V} (r : Rp F v d) : W B (ρ.set i (.val d)) (σ.set i (some v)) F H := by
  refine ⟨fun k => if k = i then [] else ad k, w.gr, by rw [List.length_set, List.length_set]; exact w.len, fun j s e => ?_, fun j p m => ?_, fun j1 j2 q m1 m2 => ?_, fun j e => ?_, w.pin.to fun S e => by
    rcases get_set e with ⟨_, q⟩ | ⟨hj, e⟩
    · cases q
    · exact ⟨⟨S, e⟩, List.getElem?_set_ne (Ne.symm hj), if_neg hj⟩⟩
  · rcases get_set e with ⟨rfl, rfl⟩ | ⟨hj, e'⟩
    · have hi : j < σ.length := by
        have := (List.getElem?_eq_some_iff.mp e).1
        rw [List.length_set] at this
        rw [w.len]; exact this
      exact ⟨if_pos rfl, v, List.getElem?_set_self hi, r⟩
    · rw [if_neg hj, List.getElem?_set_ne (Ne.symm hj)]
      exact w.sl j s e'
  · by_cases hj : j = i
    · simp [hj] at m
    · simp only [if_neg hj] at m
      exact w.fz j p m
  · by_cases h1 : j1 = i
    · simp [h1] at m1
    · by_cases h2 : j2 = i
      · simp [h2] at m2
      · simp only [if_neg h1] at m1
        simp only [if_neg h2] at m2
        exact w.dj j1 j2 q m1 m2
  · show (if j = i then [] else ad j) = []
    by_cases hj : j = i
    · rw [if_pos hj]
    · rw [if_neg hj]
      exact w.out j (get_set' e)
theorem WA.setOwn {B : Base} {ad : Nat → List Addr} {ρ : Env} {σ : St} {F H : Hp} (w : WA B ad ρ σ F H) (i : Nat) {ds : List D} {p : Addr} {vs : List V} (hF : F p = none) (h0 : B.H0 p = none) (hn : ∀ i, p ∉ ad i) (hp : H p = some (.lst vs)) (r : RpA F vs ds) :
    W B (ρ.set i (.own ds)) (σ.set i (some (.ref p))) F H := by
  refine ⟨fun k => if k = i then (if i < ρ.length then [p] else []) else ad k, w.gr, by rw [List.length_set, List.length_set]; exact w.len, fun j s e => ?_, fun j q m => ?_, fun j1 j2 q m1 m2 => ?_, fun j e => ?_, w.pin.to fun S e => by
    rcases get_set e with ⟨_, q⟩ | ⟨hj, e⟩
    · cases q
    · exact ⟨⟨S, e⟩, List.getElem?_set_ne (Ne.symm hj), if_neg hj⟩⟩
  · rcases get_set e with ⟨rfl, rfl⟩ | ⟨hj, e'⟩
    · have hi : j < ρ.length := by
        have := (List.getElem?_eq_some_iff.mp e).1
        rwa [List.length_set] at this
      exact ⟨p, vs, by rw [if_pos rfl, if_pos hi], h0, List.getElem?_set_self (by rw [w.len]; exact hi), hp, r⟩
    · rw [if_neg hj, List.getElem?_set_ne (Ne.symm hj)]
      exact w.sl j s e'
  · by_cases hj : j = i
    · simp only [if_pos hj] at m
      by_cases hi : i < ρ.length
      · simp only [if_pos hi, List.mem_singleton] at m
        subst m
        exact ⟨hF, .inl h0⟩
      · simp [if_neg hi] at m
    · simp only [if_neg hj] at m
      exact w.fz j q m
  · have g : ∀ j, q ∈ (if j = i then (if i < ρ.length then [p] else []) else ad j) → (j = i ∧ q = p) ∨ (j ≠ i ∧ q ∈ ad j) := fun j m => by
      by_cases hj : j = i
      · simp only [if_pos hj] at m
        by_cases hi : i < ρ.length
        · simp only [if_pos hi, List.mem_singleton] at m
          exact .inl ⟨hj, m⟩
        · simp [if_neg hi] at m
      · simp only [if_neg hj] at m
        exact .inr ⟨hj, m⟩
    rcases g j1 m1 with ⟨a1, b1⟩ | ⟨a1, b1⟩ <;> rcases g j2 m2 with ⟨a2, b2⟩ | ⟨a2, b2⟩
    · rw [a1, a2]
    · exact absurd (b1 ▸ b2) (hn j2)
    · exact absurd (b2 ▸ b1) (hn j1)
    · exact w.dj j1 j2 q b1 b2
  · show (if j = i then (if i < ρ.length then [p] else []) else ad j) = []
    have e' := get_set' e
    by_cases hj : j = i
    · subst hj
      rw [if_pos rfl, if_neg (by rw [List.getElem?_eq_none_iff] at e'; omega)]
    · rw [if_neg hj]
      exact w.out j e'
/-- an own list is changed in place -/
theorem WA.mut {B : Base} {ad : Nat → List Addr} {ρ : Env} {σ : St} {F H : Hp} (w : WA B ad ρ σ F H) {i : Nat} {ds es : List D} {p : Addr} {ws : List V} (h : ρ[i]? = some (.own ds)) (hp : σ[i]? = some (some (.ref p))) (r : RpA F ws es) :
    W B (ρ.set i (.own es)) σ F (upd H p (.lst ws)) := by
  obtain ⟨p', vs, k, k0, k1, k2, _⟩ := w.sl i _ h
  rw [hp] at k1
  cases k1
  have hF : F p = none := (w.fz i p (by rw [k]; simp)).1
  have hn : ∀ j, j ≠ i → p ∉ ad j := fun j hj m => hj (w.dj j i p m (by rw [k]; simp))
  have ne0 : ∀ a o, B.H0 a = some o → a ≠ p := fun a o e z => by rw [z, k0] at e; cases e
  refine ⟨ad, ⟨w.gr.ff, fun a o e => ?_, fun a o e m => ?_, fun a e => ?_, w.gr.fr⟩, by rw [List.length_set]; exact w.len, fun j s e => ?_, w.fz, w.dj, fun j e => w.out j (get_set' e), w.pin.to fun S e => by
    rcases get_set e with ⟨_, q⟩ | ⟨hj, e⟩
    · cases q
    · exact ⟨⟨S, e⟩, rfl, rfl⟩⟩
  · rw [upd_ne (fun z => by rw [z, hF] at e; cases e)]
    exact w.gr.fh a o e
  · rw [upd_ne (ne0 a o e)]
    exact w.gr.kp a o e m
  · by_cases ha : a = p
    · rw [ha, upd_same]; intro z; cases z
    · rw [upd_ne ha]; exact w.gr.al a e
  · rcases get_set e with ⟨rfl, rfl⟩ | ⟨hj, e⟩
    · exact ⟨p, ws, k, k0, hp, upd_same, r⟩
    · have q := w.sl j s e
      cases s with
      | emp => exact q
      | val d => exact q
      | own es =>
        obtain ⟨q, vs, k1, k2, k3, k4, k5⟩ := q
        refine ⟨q, vs, k1, k2, k3, ?_, k5⟩
        rw [upd_ne (fun z => hn j hj (by rw [k1, z]; simp))]
        exact k4
      | st S =>
        obtain ⟨s, k1, q⟩ := q
        exact ⟨s, k1, q.keep (Same.refl _) fun a m o e => by
          rw [upd_ne (fun z => hn j hj (by rw [← z]; exact m))]
          exact e⟩

/-! #### the rules for statements -/
section
variable {ρ ρ' : Env} {P : Po} {te ta tb : TE} {tt : TT} {t u : TS}
/-- what follows, perhaps with less known -/
def NX (P : Po) (ρ : Env) : Prop := ∃ ρ', LeE ρ' ρ ∧ P.nx ρ'
theorem nx_same (h : P.nx ρ) : NX P ρ := ⟨ρ, LeE.refl ρ, h⟩
theorem nx_le (l : LeE ρ' ρ) (h : P.nx ρ') : NX P ρ := ⟨ρ', l, h⟩
def CTn (P : Po) (ρ : Env) : Prop := ∃ ρ', LeE ρ' ρ ∧ P.ct ρ'
theorem sx_weak (l : LeE ρ' ρ) (h : SX t ρ' P) : SX t ρ P := fun B σ F H w => h B σ F H (w.weak l)
/-- then u -/
def Po.seq (P : Po) (u : TS) : Po := { P with nx := fun ρ' => SX u ρ' P }
theorem nx_seq (h : SX u ρ P) : NX (P.seq u) ρ := nx_same h
theorem nx_seqw (l : LeE ρ' ρ) (h : SX u ρ' P) : NX (P.seq u) ρ := nx_le l h
theorem sx_seq (h : SX t ρ (P.seq u)) : SX (tSeq t u) ρ P := fun B σ F H w Dn n r b c =>
  h B σ F H w { Dn with nx := u Dn } (fun ρ' σ' F' H' q w' => q B σ' F' H' w' Dn n r b c) r b c
theorem sx_next (h : NX P ρ) : SX tNext ρ P := fun B σ F H w Dn n r b c => let ⟨ρ', l, q⟩ := h; n ρ' σ F H q (w.weak l)
theorem sx_asg {i : Nat} (h : EX te ρ fun d ρ1 => NX P (ρ1.set i (.val d))) : SX (tAsg te (gName i)) ρ P := fun B σ F H w Dn n r b c => by
  obtain ⟨ad, w⟩ := w
  exact h B ad σ F H w _ fun d ρ1 v F1 H1 q p rv => let ⟨ρ', l, q⟩ := q; n ρ' _ F1 H1 q ((p.wa.setVal i rv).weak l)
theorem sx_asgO {i : Nat} (h : EO te ρ fun ds ρ1 => NX P (ρ1.set i (.own ds))) : SX (tAsg te (gName i)) ρ P := fun B σ F H w Dn n r b c => by
  obtain ⟨ad, w⟩ := w
  refine h B ad σ F H w _ fun ds ρ1 p vs F1 H1 q P hF hH hp rv => ?_
  obtain ⟨ρ', l, q⟩ := q
  have k := w.newp hH
  exact n ρ' _ F1 H1 q ((P.wa.setOwn i hF k.2.1 k.2.2 hp rv).weak l)
theorem sx_if (h : ET tt ρ fun b ρ1 => (b = true → SX t ρ1 P) ∧ (b = false → SX u ρ1 P)) : SX (tIfS tt t u) ρ P := fun B σ F H w Dn n r bk c => by
  obtain ⟨ad, w⟩ := w
  refine h B ad σ F H w _ fun b ρ1 F1 H1 q p => ?_
  cases b with
  | true =>
    show t Dn σ H1
    exact q.1 rfl B σ F1 H1 ⟨ad, p.wa⟩ Dn n r bk c
  | false =>
    show u Dn σ H1
    exact q.2 rfl B σ F1 H1 ⟨ad, p.wa⟩ Dn n r bk c
theorem sx_ret (h : EX te ρ fun d ρ1 => P.rt d ρ1) : SX (tRet te) ρ P := fun B σ F H w Dn n r b c => by
  obtain ⟨ad, w⟩ := w
  exact h B ad σ F H w _ fun d ρ1 v F1 H1 q p rv => r d ρ1 σ v F1 H1 q ⟨ad, p.wa⟩ rv
theorem sx_retN (h : P.rt .none ρ) : SX tRetN ρ P := fun B σ F H w Dn n r b c => r .none ρ σ .non F H h w .non
theorem sx_brk (h : P.bk ρ) : SX tBreak ρ P := fun B σ F H w Dn n r b c => b ρ σ F H h w
theorem sx_cont (h : CTn P ρ) : SX tCont ρ P := fun B σ F H w Dn n r b c => let ⟨ρ', l, q⟩ := h; c ρ' σ F H q (w.weak l)
theorem sx_drop (h : EX te ρ fun _ ρ1 => NX P ρ1) : SX (tDrop te) ρ P := fun B σ F H w Dn n r b c => by
  obtain ⟨ad, w⟩ := w
  exact h B ad σ F H w _ fun d ρ1 v F1 H1 q p rv => let ⟨ρ', l, q⟩ := q; n ρ' σ F1 H1 q (p.wa.weak l)
theorem W.freeze {B : Base} {σ : St} {F H : Hp} (w : W B ρ σ F H) {i : Nat} {ds : List D} (h : ρ[i]? = some (.own ds)) : ∃ F', W B (ρ.set i (.val (.list ds))) σ F' H := by
  obtain ⟨ad, w⟩ := w
  obtain ⟨p, vs, _, _, _, _, _, _, w2⟩ := w.lend h
  exact ⟨_, _, w2⟩
theorem sx_freeze (i : Nat) {ds : List D} (h : ρ[i]? = some (.own ds)) (k : SX t (ρ.set i (.val (.list ds))) P) : SX t ρ P := fun B σ F H w => by
  obtain ⟨F', w2⟩ := w.freeze h
  exact k B σ F' H w2
/-- x.append(e), x an own list -/
theorem sx_app {K : PySem.W.Frag} {i : Nat} {es : List D} (h : ρ[i]? = some (.own es)) (k : EX te ρ fun d ρ1 => ∃ ds, ρ1[i]? = some (.own ds) ∧ ds.length < 1000000 ∧ NX P (ρ1.set i (.own (ds ++ [d])))) : SX (tDrop (tBM K "list" rAppend (tVar i) (tCons te tNil))) ρ P := fun B σ F H w Dn n r b c => by
  obtain ⟨ad, w⟩ := w
  obtain ⟨p0, vs0, _, _, k1, k0, _⟩ := w.sl i _ h
  refine ⟨_, k1, .inl ⟨rfl, _, .inl (.inl k0)⟩, k B ad σ F H w _ fun d ρ1 v F1 H1 q1 p1 r1 => ?_⟩
  obtain ⟨ds, h1, hz, ρ', l, q⟩ := q1
  obtain ⟨p, vs, _, _, k2, k3, rr⟩ := p1.wa.sl i _ h1
  have e := k1.symm.trans k2
  cases e
  exact ⟨_, vs, v, rfl, rfl, k3, Nat.lt_of_lt_of_le (by rw [rr.len]; exact hz) (by decide), n ρ' σ F1 _ q ((p1.wa.mut h1 k2 (rr.app (.cons r1 .nil))).weak l)⟩
/-- x[j] = e, x an own list -/
theorem sx_setO {i : Nat} {es : List D} (h : EX te ρ fun d ρ1 => ρ1[i]? = some (.own es) ∧ EX tb ρ1 fun j ρ2 => ∃ ds k m, ρ2[i]? = some (.own ds) ∧ j = .int k ∧ ixN ds.length k = some m ∧ NX P (ρ2.set i (.own (ds.set m d)))) : SX (tAsg te (gSub (tVar i) tb rSetL)) ρ P := fun B σ F H w Dn n r b c => by
  obtain ⟨ad, w⟩ := w
  refine h B ad σ F H w _ fun d ρ1 v F1 H1 q1 p1 r1 => ?_
  obtain ⟨h1, q1⟩ := q1
  obtain ⟨p0, vs0, _, _, k1, k0, _⟩ := p1.wa.sl i _ h1
  refine ⟨_, k1, q1 B ad σ F1 H1 p1.wa _ fun j ρ2 y F2 H2 q2 p2 r2 => ?_⟩
  obtain ⟨ds, k, m, h2, rfl, hm, ρ', l, q⟩ := q2
  obtain ⟨p, vs, _, _, k2, k3, rr⟩ := p2.wa.sl i _ h2
  have e := k1.symm.trans k2
  cases e
  exact ⟨_, vs, k, m, rfl, r2.int_inv, k3, by rw [rr.len]; exact hm, n ρ' σ F2 _ q ((p2.wa.mut h2 k2 (rr.set m (r1.up p2.gr.ff))).weak l)⟩
/-- a, b = e, f -/
theorem sx_par {i j : Nat} {t : TA} (h : EA t ρ fun ds ρ1 => ∃ d e, ds = [d, e] ∧ NX P ((ρ1.set i (.val d)).set j (.val e))) : SX (tPar i j t) ρ P := fun B σ F H w Dn n r b c => by
  obtain ⟨ad, w⟩ := w
  refine h B ad σ F H w _ fun ds ρ1 vs F1 H1 q p rv => ?_
  obtain ⟨d, e, rfl, ρ', l, q⟩ := q
  obtain ⟨v, u, rfl, r1, r2⟩ := rv.two
  obtain ⟨ad2, w2⟩ := p.wa.setVal i r1
  exact ⟨v, u, rfl, n ρ' _ F1 H1 q ((w2.setVal j r2).weak l)⟩
/-! targets -/
def SG (J : List Nat) (g : TG) (d : D) (ρ : Env) (Qn : Env → Prop) : Prop := ∀ B ad σ F H v, WA B ad ρ σ F H → (∀ j ∈ J, ad j = []) → Rp F v d → ∀ Z : St → Hp → Prop, (∀ ρ' σ', Qn ρ' → WA B ad ρ' σ' F H → wipe σ' J = wipe σ J → (∀ i, i ∉ J → ρ'[i]? = ρ[i]?) → Z σ' H) → g v σ H Z
def SGs (J : List Nat) (g : TGs) (ds : List D) (ρ : Env) (Qn : Env → Prop) : Prop := ∀ B ad σ F H vs, WA B ad ρ σ F H → (∀ j ∈ J, ad j = []) → RpA F vs ds → ∀ Z : St → Hp → Prop, (∀ ρ' σ', Qn ρ' → WA B ad ρ' σ' F H → wipe σ' J = wipe σ J → (∀ i, i ∉ J → ρ'[i]? = ρ[i]?) → Z σ' H) → g vs σ H Z
theorem wipe_get {σ : St} {i : Nat} : ∀ {vs : List Nat}, (wipe σ vs)[i]? = if i ∈ vs ∧ i < σ.length then some none else σ[i]?
  | [] => by simp [wipe]
  | v :: vs => by
    unfold wipe
    by_cases h : i = v
    · subst h
      by_cases hl : i < σ.length
      · rw [List.getElem?_set_self (by rw [wipe_length]; exact hl)]
        simp [hl]
      · rw [List.getElem?_eq_none (by rw [List.length_set, wipe_length]; omega)]
        simp [hl]
    · rw [List.getElem?_set_ne (Ne.symm h), wipe_get]
      simp [h]
theorem wipe_set {σ : St} {i : Nat} {x : Option V} {J : List Nat} (h : i ∈ J) : wipe (σ.set i x) J = wipe σ J := by
  apply List.ext_getElem?
  intro k
  rw [wipe_get, wipe_get, List.length_set]
  by_cases hk : k ∈ J ∧ k < σ.length
  · rw [if_pos hk, if_pos hk]
  · rw [if_neg hk, if_neg hk]
    by_cases e : k = i
    · subst e
      have : ¬ k < σ.length := fun z => hk ⟨h, z⟩
      rw [List.getElem?_eq_none (by rw [List.length_set]; omega), List.getElem?_eq_none (by omega)]
    · rw [List.getElem?_set_ne (Ne.symm e)]
theorem WA.setVal' {B : Base} {ad : Nat → List Addr} {σ : St} {F H : Hp} (w : WA B ad ρ σ F H) (i : Nat) (hi : ad i = []) {d : D} {v : V} (r : Rp F v d) : WA B ad (ρ.set i (.val d)) (σ.set i (some v)) F H := by
  refine ⟨w.gr, by rw [List.length_set, List.length_set]; exact w.len, fun j s e => ?_, w.fz, w.dj, fun j e => w.out j (get_set' e), w.pin.to fun S e => by
    rcases get_set e with ⟨_, q⟩ | ⟨hj, e⟩
    · cases q
    · exact ⟨⟨S, e⟩, List.getElem?_set_ne (Ne.symm hj), rfl⟩⟩
  rcases get_set e with ⟨rfl, rfl⟩ | ⟨hj, e'⟩
  · have hl : j < σ.length := by
      have := (List.getElem?_eq_some_iff.mp e).1
      rw [List.length_set] at this
      rw [w.len]; exact this
    exact ⟨hi, v, List.getElem?_set_self hl, r⟩
  · rw [List.getElem?_set_ne (Ne.symm hj)]
    exact w.sl j s e'
theorem sg_name {J : List Nat} {i : Nat} {d : D} {Qn : Env → Prop} (hj : i ∈ J) (q : Qn (ρ.set i (.val d))) : SG J (gName i) d ρ Qn := fun B ad σ F H v w hJ r Z z => z _ _ q (w.setVal' i (hJ i hj) r) (wipe_set hj) fun k hk => List.getElem?_set_ne fun e => hk (by rw [← e]; exact hj)
theorem sgs_nil {J : List Nat} {Qn : Env → Prop} (q : Qn ρ) : SGs J gNil [] ρ Qn := fun B ad σ F H vs w hJ r Z z => by
  cases r
  exact ⟨rfl, z ρ σ q w rfl fun _ _ => rfl⟩
theorem sgs_cons {J : List Nat} {g : TG} {gs : TGs} {d : D} {ds : List D} {Qn : Env → Prop} (h : SG J g d ρ fun ρ1 => SGs J gs ds ρ1 Qn) : SGs J (gCons g gs) (d :: ds) ρ Qn := fun B ad σ F H vs w hJ r Z z => by
  cases r with
  | cons r1 r2 =>
    exact ⟨_, _, rfl, h B ad σ F H _ w hJ r1 _ fun ρ1 σ1 q w1 e1 f1 => q B ad σ1 F H _ w1 hJ r2 Z fun ρ2 σ2 q w2 e2 f2 => z ρ2 σ2 q w2 (e2.trans e1) fun i hi => (f2 i hi).trans (f1 i hi)⟩
theorem sg_tup {K : PySem.W.Frag} {J : List Nat} {n : Nat} {gs : TGs} {ds : List D} {Qn : Env → Prop} (hn : ds.length = n) (h : SGs J gs ds ρ Qn) : SG J (gTup K n gs) (.tuple ds) ρ Qn := fun B ad σ F H v w hJ r Z z => by
  obtain ⟨a, xs, rfl, h1, h2⟩ := r.tup_inv
  exact ⟨a, xs, rfl, sqT_rd h1 w.gr.fh, h2.len.trans hn, h B ad σ F H xs w hJ h2 Z z⟩
/-- the slots at vs forgotten -/
def wipeE (ρ : Env) (vs : List Nat) : Env := vs.foldl (fun r v => r.set v .emp) ρ
theorem wipeE_len (ρ : Env) (vs : List Nat) : (wipeE ρ vs).length = ρ.length := by
  unfold wipeE
  induction vs generalizing ρ with
  | nil => rfl
  | cons v vs ih => rw [List.foldl_cons, ih, List.length_set]
theorem wipeE_get : ∀ {vs : List Nat} {ρ : Env} {i : Nat}, (wipeE ρ vs)[i]? = if i ∈ vs ∧ i < ρ.length then some .emp else ρ[i]?
  | [], ρ, i => by simp [wipeE]
  | v :: vs, ρ, i => by
    have e : wipeE ρ (v :: vs) = wipeE (ρ.set v .emp) vs := rfl
    rw [e, wipeE_get, List.length_set]
    by_cases h : i ∈ vs ∧ i < ρ.length
    · rw [if_pos h, if_pos ⟨List.mem_cons_of_mem _ h.1, h.2⟩]
    · rw [if_neg h]
      by_cases hv : i = v
      · subst hv
        by_cases hl : i < ρ.length
        · rw [List.getElem?_set_self hl, if_pos ⟨by simp, hl⟩]
        · rw [List.getElem?_eq_none (by rw [List.length_set]; omega), if_neg (fun z => hl z.2), List.getElem?_eq_none (by omega)]
      · rw [List.getElem?_set_ne (Ne.symm hv)]
        rw [if_neg (fun z => h ⟨(List.mem_cons.mp z.1).resolve_left hv, z.2⟩)]
theorem WA.weakJ {B : Base} {ad : Nat → List Addr} {σ : St} {F H : Hp} (w : WA B ad ρ σ F H) (J : List Nat) : WA B (fun k => if k ∈ J then [] else ad k) (wipeE ρ J) σ F H := by
  have g : ∀ i p, p ∈ (if i ∈ J then [] else ad i) → p ∈ ad i := fun i p m => by
    by_cases h : i ∈ J
    · rw [if_pos h] at m; cases m
    · rw [if_neg h] at m; exact m
  refine ⟨w.gr, by rw [wipeE_len]; exact w.len, fun i s e => ?_, fun i p m => w.fz i p (g i p m), fun i j p m1 m2 => w.dj i j p (g i p m1) (g j p m2), fun i e => ?_, w.pin.to fun S e => by
    rw [wipeE_get] at e
    by_cases h : 0 ∈ J ∧ 0 < ρ.length
    · rw [if_pos h] at e; cases e
    · rw [if_neg h] at e
      have hi : 0 < ρ.length := (List.getElem?_eq_some_iff.mp e).1
      exact ⟨⟨S, e⟩, rfl, if_neg fun z => h ⟨z, hi⟩⟩⟩
  · rw [wipeE_get] at e
    by_cases h : i ∈ J ∧ i < ρ.length
    · rw [if_pos h] at e
      cases e
      exact if_pos h.1
    · rw [if_neg h] at e
      have hi : i < ρ.length := (List.getElem?_eq_some_iff.mp e).1
      have hJ : i ∉ J := fun z => h ⟨z, hi⟩
      simp only [if_neg hJ]
      exact w.sl i s e
  · rw [wipeE_get] at e
    by_cases hJ : i ∈ J
    · exact if_pos hJ
    · show (if i ∈ J then [] else ad i) = []
      rw [if_neg hJ]
      rw [if_neg (fun z => hJ z.1)] at e
      exact w.out i e
theorem sg_go {B : Base} {ad : Nat → List Addr} {σ : St} {F H : Hp} {J : List Nat} {g : TG} {d : D} {v : V} {Qn : Env → Prop} (h : SG J g d (wipeE ρ J) Qn) (w : WA B ad ρ σ F H) (r : Rp F v d) (Z : St → Hp → Prop) (z : ∀ ρ' σ', Qn ρ' → W B ρ' σ' F H → Z σ' H) : g v σ H Z :=
  h B _ σ F H v (w.weakJ J) (fun j hj => if_pos hj) r Z fun ρ' σ' q w' _ _ => z ρ' σ' q ⟨_, w'⟩
/-- (a, b) = e by a target -/
theorem sx_asgT {J : List Nat} {g : TG} (h : EX te ρ fun d ρ1 => SG J g d (wipeE ρ1 J) fun ρ2 => NX P ρ2) : SX (tAsg te g) ρ P := fun B σ F H w Dn n r b c => by
  obtain ⟨ad, w⟩ := w
  exact h B ad σ F H w _ fun d ρ1 v F1 H1 q p rv => sg_go q p.wa rv _ fun ρ2 σ2 q w2 => let ⟨ρ', l, q⟩ := q; n ρ' σ2 F1 H1 q (w2.weak l)
/-! loops -/
structure ItD (J : It) (F : Hp) (ds : List D) : Prop where
  go : ∀ i H, Same F H → i < ds.length → J.go i H
  stop : ∀ i H, Same F H → ds.length ≤ i → J.stop i H
  yld : ∀ i H x H' F1, Same F F1 → Same F1 H → J.yld i H x H' → i < ds.length → ∃ d F2, ds[i]? = some d ∧ Gr Non F1 H F2 H' ∧ Rp F2 x d
/-- what is walked -/
def EI (wi : TI) (ρ : Env) (Q : List D → Env → Prop) : Prop := ∀ B ad σ F H, WA B ad ρ σ F H → ∀ R : It → Hp → Prop, (∀ ds ρ' J F' H', Q ds ρ' → Post B ad σ ρ F H ρ' F' H' → ItD J F' ds → R J H') → wi σ H R
theorem W.rebase {B : Base} {σ : St} {F H : Hp} (w : W B ρ σ F H) : W { F0 := F, H0 := B.H0, M := B.M, pin := B.pin } ρ σ F H := by
  obtain ⟨ad, w⟩ := w
  refine ⟨ad, ⟨Same.refl F, w.gr.fh, w.gr.kp, w.gr.al, fun _ _ z => z⟩, w.len, fun i s e => ?_, w.fz, w.dj, w.out, w.pin⟩
  have k := w.sl i s e
  cases s <;> exact k
theorem W.unbase {B : Base} {σ σ' : St} {F H F' H' : Hp} (w : W B ρ σ F H) (w' : W { F0 := F, H0 := B.H0, M := B.M, pin := B.pin } ρ' σ' F' H') : W B ρ' σ' F' H' ∧ Same F F' := by
  obtain ⟨ad, w⟩ := w
  obtain ⟨ad', w'⟩ := w'
  refine ⟨⟨ad', ⟨w.gr.ff.trans w'.gr.ff, w'.gr.fh, w'.gr.kp, w'.gr.al, fun a e z => w'.gr.fr a e (w.gr.fr a e z)⟩, w'.len, fun i s e => ?_, w'.fz, w'.dj, w'.out, w'.pin⟩, w'.gr.ff⟩
  have k := w'.sl i s e
  cases s <;> exact k
theorem sx_for {wi : TI} {J : List Nat} {g : TG} (h : EI wi ρ fun ds ρ1 => ∃ I : Nat → Env → Prop, I 0 ρ1 ∧ (∀ k d ρ', ds[k]? = some d → I k ρ' → SG J g d (wipeE ρ' J) fun ρ2 => SX t ρ2 { nx := I (k + 1), ct := I (k + 1), bk := NX P, rt := P.rt }) ∧ ∀ ρ', I ds.length ρ' → NX P ρ') :
    SX (tFor wi g t) ρ P := fun B σ F H w Dn n r b c => by
  obtain ⟨ad, w⟩ := w
  refine h B ad σ F H w _ fun ds ρ1 J F1 H1 q1 p1 it => ?_
  obtain ⟨I, i0, turn, done⟩ := q1
  refine ⟨fun i m σ' H' => m = ds.length - i ∧ i ≤ ds.length ∧ ∃ ρ' F', I i ρ' ∧ W B ρ' σ' F' H' ∧ Same F1 F', ⟨_, rfl, Nat.zero_le _, ρ1, F1, i0, ⟨ad, p1.wa⟩, Same.refl _⟩, ?_⟩
  rintro i m σ' H' ⟨rfl, hi, ρ', F', iv, ⟨ad', w'⟩, sf⟩
  by_cases hlt : i < ds.length
  · refine .inr ⟨it.go i H' (sf.trans w'.gr.fh) hlt, fun σ2 H2 => ∃ ρ2 F2, I (i + 1) ρ2 ∧ W B ρ2 σ2 F2 H2 ∧ Same F1 F2, fun σ2 H2 ⟨ρ2, F2, a, b, c⟩ => ⟨ds.length - (i + 1), by omega, rfl, hlt, ρ2, F2, a, b, c⟩, fun x H2 y => ?_⟩
    obtain ⟨d, F2, e, gr, rx⟩ := it.yld i H' x H2 F' sf w'.gr.fh y hlt
    refine sg_go (turn i d ρ' e iv) (w'.grow gr) rx _ fun ρ2 σ2 q w2 => ?_
    exact q _ σ2 F2 H2 w2.rebase _ (fun ρ3 σ3 F3 H3 q3 w3 => let k := w2.unbase w3; ⟨ρ3, F3, q3, k.1, (sf.trans gr.ff).trans k.2⟩) (fun d ρ3 σ3 v F3 H3 q3 w3 rv => r d ρ3 σ3 v F3 H3 q3 (w2.unbase w3).1 rv) (fun ρ3 σ3 F3 H3 q3 w3 => let ⟨ρ4, l, q4⟩ := q3; n ρ4 σ3 F3 H3 q4 ((w2.unbase w3).1.weak l)) (fun ρ3 σ3 F3 H3 q3 w3 => let k := w2.unbase w3; ⟨ρ3, F3, q3, k.1, (sf.trans gr.ff).trans k.2⟩)
  · have e : i = ds.length := by omega
    subst e
    obtain ⟨ρ2, l, q⟩ := done ρ' iv
    exact .inl ⟨it.stop _ H' (sf.trans w'.gr.fh) (Nat.le_refl _), n ρ2 σ' F' H' q (w'.weak l)⟩
theorem sx_while (I : Nat → Env → Prop) (m0 : Nat) (i0 : I m0 ρ) (h : ∀ m ρ', I m ρ' → ET tt ρ' fun b ρ1 => (b = true → SX t ρ1 { nx := fun ρ2 => ∃ m', m' < m ∧ I m' ρ2, ct := fun ρ2 => ∃ m', m' < m ∧ I m' ρ2, bk := NX P, rt := P.rt }) ∧ (b = false → NX P ρ1)) : SX (tWhile tt t) ρ P := fun B σ F H w Dn n r b c => by
  refine ⟨fun m σ' H' => ∃ ρ' F', I m ρ' ∧ W B ρ' σ' F' H', ⟨m0, ρ, F, i0, w⟩, ?_⟩
  rintro m σ' H' ⟨ρ', F', iv, ⟨ad, w'⟩⟩
  refine h m ρ' iv B ad σ' F' H' w' _ fun b1 ρ1 F1 H1 q p => ?_
  cases b1 with
  | true =>
    refine ⟨fun σ2 H2 => ∃ m' ρ2 F2, m' < m ∧ I m' ρ2 ∧ W B ρ2 σ2 F2 H2, fun σ2 H2 ⟨m', ρ2, F2, a, b, c⟩ => ⟨m', a, ρ2, F2, b, c⟩, ?_⟩
    exact q.1 rfl B σ' F1 H1 ⟨ad, p.wa⟩ _ (fun ρ3 σ3 F3 H3 q3 w3 => let ⟨m', a, b⟩ := q3; ⟨m', ρ3, F3, a, b, w3⟩) r (fun ρ3 σ3 F3 H3 q3 w3 => let ⟨ρ4, l, q4⟩ := q3; n ρ4 σ3 F3 H3 q4 (w3.weak l)) (fun ρ3 σ3 F3 H3 q3 w3 => let ⟨m', a, b⟩ := q3; ⟨m', ρ3, F3, a, b, w3⟩)
  | false =>
    show Dn.nx σ' H1
    obtain ⟨ρ2, l, q2⟩ := q.2 rfl
    exact n ρ2 σ' F1 H1 q2 (W.weak ⟨ad, p.wa⟩ l)
/-! what is walked -/
theorem ei_list {K : PySem.W.Frag} {Q : List D → Env → Prop} (h : EX te ρ fun d ρ1 => ∃ ds, d = .list ds ∧ Q ds ρ1) : EI (iList K te) ρ Q := fun B ad σ F H w R z =>
  h B ad σ F H w _ fun d ρ1 v F1 H1 q p r => by
    obtain ⟨ds, rfl, q⟩ := q
    obtain ⟨a, xs, rfl, h1, h2⟩ := r.lst_inv
    refine ⟨a, rfl, ⟨xs, sqL_rd h1 p.wa.gr.fh⟩, z ds ρ1 _ F1 H1 q p ⟨fun i H' e hi => ⟨xs, xs[i]'(by rw [h2.len]; exact hi), sqL_rd h1 e, by simp⟩, fun i H' e hi => ⟨xs, sqL_rd h1 e, by rw [h2.len]; exact hi⟩, fun i H' x H2 F2 e1 e2 y hi => ?_⟩⟩
    obtain ⟨rfl, y⟩ := y
    obtain ⟨d, hd, rd⟩ := h2.get' (y xs (sqL_rd h1 (e1.trans e2)))
    exact ⟨d, F2, hd, Gr.refl e2, rd.up e1⟩
theorem ei_tup {K : PySem.W.Frag} {Q : List D → Env → Prop} (h : EX te ρ fun d ρ1 => ∃ ds, d = .tuple ds ∧ Q ds ρ1) : EI (iTup K te) ρ Q := fun B ad σ F H w R z =>
  h B ad σ F H w _ fun d ρ1 v F1 H1 q p r => by
    obtain ⟨ds, rfl, q⟩ := q
    obtain ⟨a, xs, rfl, h1, h2⟩ := r.tup_inv
    refine ⟨a, rfl, ⟨xs, sqT_rd h1 p.wa.gr.fh⟩, z ds ρ1 _ F1 H1 q p ⟨fun i H' e hi => ⟨xs, xs[i]'(by rw [h2.len]; exact hi), sqT_rd h1 e, by simp⟩, fun i H' e hi => ⟨xs, sqT_rd h1 e, by rw [h2.len]; exact hi⟩, fun i H' x H2 F2 e1 e2 y hi => ?_⟩⟩
    obtain ⟨rfl, y⟩ := y
    obtain ⟨d, hd, rd⟩ := h2.get' (y xs (sqT_rd h1 (e1.trans e2)))
    exact ⟨d, F2, hd, Gr.refl e2, rd.up e1⟩
/-- lo, lo + 1, .., n of them -/
def rngI (lo : Int) (n : Nat) : List Int := (List.range n).map fun k : Nat => lo + (k : Int)
theorem rngI_len (lo : Int) (n : Nat) : (rngI lo n).length = n := by simp [rngI]
theorem rngI_get {lo : Int} {n k : Nat} (h : k < n) : (rngI lo n)[k]? = some (lo + (k : Int)) := by simp [rngI, h]
theorem rngI_mem {lo x : Int} {n : Nat} : x ∈ rngI lo n ↔ lo ≤ x ∧ x < lo + (n : Int) := by
  unfold rngI
  rw [List.mem_map]
  constructor
  · rintro ⟨k, hk, rfl⟩
    rw [List.mem_range] at hk
    omega
  · intro h
    exact ⟨(x - lo).toNat, by rw [List.mem_range]; omega, by omega⟩
theorem itd_rng {F : Hp} (lo : Int) (n : Nat) : ItD (Itr lo n) F ((rngI lo n).map .int) where
  go := fun i H _ h => by rw [List.length_map, rngI_len] at h; exact h
  stop := fun i H _ h => by rw [List.length_map, rngI_len] at h; exact h
  yld := fun i H x H' F1 _ e2 y h => by
    rw [List.length_map, rngI_len] at h
    obtain ⟨rfl, rfl⟩ := y
    exact ⟨.int (lo + (i : Int)), F1, by rw [List.getElem?_map, rngI_get h]; rfl, Gr.refl e2, .int _⟩
theorem ei_rng1 {t : TA} {Q : List D → Env → Prop} (h : EA t ρ fun ds ρ1 => ∃ n, ds = [.int n] ∧ (-1000000000000 ≤ n ∧ n ≤ 1000000000000) ∧ Q ((rngI 0 n.toNat).map .int) ρ1) : EI (iRng1 t) ρ Q := fun B ad σ F H w R z =>
  h B ad σ F H w _ fun ds ρ1 vs F1 H1 q p r => by
    obtain ⟨n, rfl, ⟨hn1, hn2⟩, q⟩ := q
    obtain ⟨v, rfl, rv⟩ := r.one
    exact ⟨n, by rw [rv.int_inv], by omega, by omega, z _ ρ1 _ F1 H1 q p (itd_rng 0 _)⟩
theorem ei_rng2 {t : TA} {Q : List D → Env → Prop} (h : EA t ρ fun ds ρ1 => ∃ l n, ds = [.int l, .int n] ∧ (-1000000000000 ≤ l ∧ l ≤ 1000000000000 ∧ -1000000000000 ≤ n ∧ n ≤ 1000000000000) ∧ Q ((rngI l (n - l).toNat).map .int) ρ1) : EI (iRng2 t) ρ Q := fun B ad σ F H w R z =>
  h B ad σ F H w _ fun ds ρ1 vs F1 H1 q p r => by
    obtain ⟨l, n, rfl, ⟨hl1, hl2, hn1, hn2⟩, q⟩ := q
    obtain ⟨v, u, rfl, rv, ru⟩ := r.two
    exact ⟨l, n, by rw [rv.int_inv, ru.int_inv], ⟨by omega, by omega, by omega, by omega⟩, z _ ρ1 _ F1 H1 q p (itd_rng l _)⟩
/-- enumerate: pairs (index, item) -/
def enumD (k : Nat) : List D → List D
  | [] => []
  | d :: ds => .tuple [.int (k : Int), d] :: enumD (k + 1) ds
theorem enumD_len : ∀ (ds : List D) (k : Nat), (enumD k ds).length = ds.length
  | [], _ => rfl
  | d :: ds, k => by simp [enumD, enumD_len ds]
theorem enumD_get : ∀ (ds : List D) (k i : Nat) {d : D}, ds[i]? = some d → (enumD k ds)[i]? = some (.tuple [.int ((k + i : Nat) : Int), d])
  | [], _, i, _, h => by simp at h
  | e :: ds, k, 0, d, h => by simp at h; subst h; rfl
  | e :: ds, k, i + 1, d, h => by
    have q := enumD_get ds (k + 1) i (by simpa using h)
    show (enumD (k + 1) ds)[i]? = _
    rw [q, show k + 1 + i = k + (i + 1) by omega]
theorem ei_enum {K : PySem.W.Frag} {t : TA} {Q : List D → Env → Prop} (h : EA t ρ fun es ρ1 => ∃ ds, es = [.list ds] ∧ Q (enumD 0 ds) ρ1) : EI (iEnum K t) ρ Q := fun B ad σ F H w R z =>
  h B ad σ F H w _ fun es ρ1 vs F1 H1 q p r => by
    obtain ⟨ds, rfl, q⟩ := q
    obtain ⟨v, rfl, rv⟩ := r.one
    obtain ⟨a, xs, rfl, h1, h2⟩ := rv.lst_inv
    refine ⟨a, xs, rfl, sqL_rd h1 p.wa.gr.fh, z _ ρ1 _ F1 H1 q p ⟨fun i H' e hi => ?_, fun i H' e hi => ?_, fun i H' x H2 F2 e1 e2 y hi => ?_⟩⟩
    · rw [enumD_len] at hi
      exact ⟨xs, xs[i]'(by rw [h2.len]; exact hi), sqL_rd h1 e, by simp⟩
    · rw [enumD_len] at hi
      exact ⟨xs, sqL_rd h1 e, by rw [h2.len]; exact hi⟩
    · obtain ⟨T, x, rfl, hT, rfl, y⟩ := y
      obtain ⟨d, hd, rd⟩ := h2.get' (y xs (sqL_rd h1 (e1.trans e2)))
      have g := Gr.new (o := .tup [.int (i : Nat), x]) e2 hT
      refine ⟨_, upd F2 T (.tup [.int (i : Nat), x]), enumD_get ds 0 i hd, g, .tup upd_same (.cons ?_ (.cons ((rd.up e1).up g.ff) .nil))⟩
      rw [Nat.zero_add]
      exact .int _
theorem ei_zip {K : PySem.W.Frag} {t : TA} {Q : List D → Env → Prop} (h : EA t ρ fun es ρ1 => ∃ ds fs, es = [.list ds, .list fs] ∧ Q (List.zipWith (fun d f => PyData.tuple [d, f]) ds fs) ρ1) : EI (iZip K t) ρ Q := fun B ad σ F H w R z =>
  h B ad σ F H w _ fun es ρ1 vs F1 H1 q p r => by
    obtain ⟨ds, fs, rfl, q⟩ := q
    obtain ⟨v, u, rfl, rv, ru⟩ := r.two
    obtain ⟨a, xs, rfl, h1, h2⟩ := rv.lst_inv
    obtain ⟨b, ys, rfl, g1, g2⟩ := ru.lst_inv
    refine ⟨a, b, xs, ys, rfl, sqL_rd h1 p.wa.gr.fh, sqL_rd g1 p.wa.gr.fh, z _ ρ1 _ F1 H1 q p ⟨fun i H' e hi => ?_, fun i H' e hi => ?_, fun i H' x H2 F2 e1 e2 y hi => ?_⟩⟩
    · rw [List.length_zipWith] at hi
      exact ⟨xs, ys, xs[i]'(by rw [h2.len]; omega), ys[i]'(by rw [g2.len]; omega), sqL_rd h1 e, sqL_rd g1 e, by simp, by simp⟩
    · rw [List.length_zipWith] at hi
      exact ⟨xs, ys, sqL_rd h1 e, sqL_rd g1 e, by rw [h2.len, g2.len]; omega⟩
    · obtain ⟨T, x, y', rfl, hT, rfl, y1, y2⟩ := y
      obtain ⟨d, hd, rd⟩ := h2.get' (y1 xs (sqL_rd h1 (e1.trans e2)))
      obtain ⟨f, hf, rf⟩ := g2.get' (y2 ys (sqL_rd g1 (e1.trans e2)))
      have g := Gr.new (o := .tup [x, y']) e2 hT
      exact ⟨_, upd F2 T (.tup [x, y']), by rw [List.getElem?_zipWith, hd, hf], g, .tup upd_same (.cons ((rd.up e1).up g.ff) (.cons ((rf.up e1).up g.ff) .nil))⟩
end

/-! ### comprehensions -/
section
variable {ρ ρ' : Env} {te : TE} {tt : TT} {wi : TI} {g : TG}
/-- vs's slots as in the first, the others as in the second -/
def unwA : Nat → List Nat → Env → Env → Env
  | k, vs, a :: ρ, b :: ρ' => (if vs.contains k = true then a else b) :: unwA (k + 1) vs ρ ρ'
  | _, _, _, _ => []
abbrev unw (vs : List Nat) (ρ ρ' : Env) : Env := unwA 0 vs ρ ρ'
theorem unwA_len : ∀ {k : Nat} {vs : List Nat} {ρ ρ' : Env}, ρ'.length = ρ.length → (unwA k vs ρ ρ').length = ρ.length
  | _, _, [], [], _ => rfl
  | _, _, [], _ :: _, h => by simp at h
  | _, _, _ :: _, [], h => by simp at h
  | k, vs, a :: ρ, b :: ρ', h => by
    show (unwA (k + 1) vs ρ ρ').length + 1 = ρ.length + 1
    rw [unwA_len (by simpa using h)]
theorem unwA_get : ∀ {k : Nat} {vs : List Nat} {ρ ρ' : Env} {i : Nat}, ρ'.length = ρ.length → (unwA k vs ρ ρ')[i]? = if k + i ∈ vs then ρ[i]? else ρ'[i]?
  | _, _, [], [], i, _ => by simp [unwA]
  | _, _, [], _ :: _, _, h => by simp at h
  | _, _, _ :: _, [], _, h => by simp at h
  | k, vs, a :: ρ, b :: ρ', 0, h => by
    show some (if vs.contains k = true then a else b) = if k + 0 ∈ vs then some a else some b
    by_cases hk : k ∈ vs
    · rw [if_pos (by simpa using hk), if_pos (by simpa using hk)]
    · rw [if_neg (by simpa using hk), if_neg (by simpa using hk)]
  | k, vs, a :: ρ, b :: ρ', i + 1, h => by
    show (unwA (k + 1) vs ρ ρ')[i]? = if k + (i + 1) ∈ vs then ρ[i]? else ρ'[i]?
    rw [unwA_get (by simpa using h), show k + 1 + i = k + (i + 1) by omega]
/-- the slots at vs hold nothing that is owned -/
def isPl : Option Slot → Bool
  | some (.own _) => false
  | some (.st _) => false
  | _ => true
def Plain (ρ : Env) (vs : List Nat) : Prop := ∀ i ∈ vs, isPl ρ[i]? = true
theorem Plain.ad {B : Base} {ad : Nat → List Addr} {σ : St} {F H : Hp} {vs : List Nat} (w : WA B ad ρ σ F H) (pl : Plain ρ vs) : ∀ j ∈ vs, ad j = [] := fun j hj => by
  have k := pl j hj
  cases e : ρ[j]? with
  | none => exact w.out j e
  | some s =>
    have q := w.sl j s e
    rw [e] at k
    cases s with
    | emp => exact q
    | val d => exact q.1
    | own _ => cases k
    | st _ => cases k
theorem WA.wiped {B : Base} {ad : Nat → List Addr} {σ : St} {F H : Hp} {vs : List Nat} (w : WA B ad ρ σ F H) (pl : Plain ρ vs) : WA B ad (wipeE ρ vs) (wipe σ vs) F H where
  gr := w.gr
  len := by rw [wipe_length, wipeE_len]; exact w.len
  sl := fun i s e => by
    rw [wipeE_get] at e
    rw [wipe_get]
    by_cases h : i ∈ vs ∧ i < ρ.length
    · rw [if_pos h] at e
      cases e
      exact pl.ad w i h.1
    · rw [if_neg h] at e
      rw [if_neg (by rw [w.len]; exact h)]
      exact w.sl i s e
  fz := w.fz
  dj := w.dj
  out := fun i e => by
    rw [wipeE_get] at e
    by_cases h : i ∈ vs ∧ i < ρ.length
    · rw [if_pos h] at e; cases e
    · rw [if_neg h] at e; exact w.out i e
  pin := w.pin.to fun S e => by
    rw [wipeE_get] at e
    by_cases h : 0 ∈ vs ∧ 0 < ρ.length
    · rw [if_pos h] at e; cases e
    · rw [if_neg h] at e
      exact ⟨⟨S, e⟩, by rw [wipe_get, if_neg (by rw [w.len]; exact h)], rfl⟩
theorem wipe_eq {σ σ' : St} {vs : List Nat} (h : wipe σ' vs = wipe σ vs) {i : Nat} (hi : i ∉ vs) : σ'[i]? = σ[i]? := by
  have e := congrArg (fun l => l[i]?) h
  simp only [wipe_get] at e
  rwa [if_neg (fun z => hi z.1), if_neg (fun z => hi z.1)] at e
/-- behind the block's turn: the outer slots again -/
theorem Post.unwiped {B : Base} {ad : Nat → List Addr} {σ σ2 : St} {F H F' H' : Hp} {vs : List Nat} {ρ1 ρ2 : Env} (w : WA B ad ρ1 σ F H) (pl : Plain ρ1 vs)
    (hσ : wipe σ2 vs = wipe σ vs) (fr : ∀ i, i ∉ vs → ρ2[i]? = (wipeE ρ1 vs)[i]?) (w2 : WA B ad ρ2 σ2 F H) (p : Post B ad σ2 ρ2 F H ρ' F' H') : Post B ad σ ρ1 F H (unw vs ρ1 ρ') F' H' := by
  have hl : ρ'.length = ρ1.length := by
    have l1 := p.wa.len
    have l2 := congrArg List.length hσ
    rw [wipe_length, wipe_length] at l2
    rw [← l1, l2, w.len]
  have pa := pl.ad w
  have ms : ∀ a, MS ad ρ2 a → MS ad ρ1 a := fun a ⟨i, S, e, m⟩ => by
    have hi : i ∉ vs := fun z => by rw [pa i z] at m; cases m
    rw [fr i hi, wipeE_get, if_neg (fun z => hi z.1)] at e
    exact ⟨i, S, e, m⟩
  refine ⟨⟨p.wa.gr, by rw [unwA_len hl]; exact w.len, fun i s e => ?_, p.wa.fz, p.wa.dj, fun i e => ?_, fun s as hp S e => ?_⟩, ⟨p.gr.ff, p.gr.fh, fun a o e m => p.gr.kp a o e fun z => m (ms a z), p.gr.al, p.gr.fr⟩, fun i S e => ?_⟩
  · rw [unwA_get hl, Nat.zero_add] at e
    by_cases hi : i ∈ vs
    · rw [if_pos hi] at e
      have k := w.sl i s e
      have q := pl i hi
      rw [e] at q
      cases s with
      | emp => exact k
      | val d =>
        obtain ⟨k, v, e, r⟩ := k
        exact ⟨k, v, e, r.up p.gr.ff⟩
      | own _ => cases q
      | st _ => cases q
    · rw [if_neg hi] at e
      rw [← wipe_eq hσ hi]
      exact p.wa.sl i s e
  · rw [List.getElem?_eq_none_iff, unwA_len hl, ← hl, ← List.getElem?_eq_none_iff] at e
    exact p.wa.out i e
  · rw [unwA_get hl, Nat.zero_add] at e
    by_cases hi : 0 ∈ vs
    · rw [if_pos hi] at e
      have q := pl 0 hi
      rw [e] at q
      cases q
    · rw [if_neg hi] at e
      rw [← wipe_eq hσ hi]
      exact p.wa.pin s as hp S e
  · rw [unwA_get hl, Nat.zero_add] at e
    by_cases hi : i ∈ vs
    · rw [if_pos hi] at e
      exact ⟨S, e⟩
    · rw [if_neg hi] at e
      obtain ⟨S', e'⟩ := p.sh i S e
      rw [fr i hi, wipeE_get, if_neg (fun z => hi z.1)] at e'
      exact ⟨S', e'⟩
/-- [e for target in ..], by an invariant over the turn, the items made, the slots -/
theorem eo_lc {vs : List Nat} {Q : List D → Env → Prop} (h : EI wi ρ fun ds ρ1 => ∃ I : Nat → List D → Env → Prop, I 0 [] ρ1 ∧
    (∀ k d acc ρ', ds[k]? = some d → I k acc ρ' → Plain ρ' vs ∧ acc.length < 1000000 ∧ SG vs g d (wipeE ρ' vs) fun ρ2 => ET tt ρ2 fun b ρ3 => (b = true → EX te ρ3 fun e ρ4 => I (k + 1) (acc ++ [e]) (unw vs ρ' ρ4)) ∧ (b = false → I (k + 1) acc (unw vs ρ' ρ3))) ∧
    ∀ acc ρ', I ds.length acc ρ' → Q acc ρ') : EO (tLc wi g tt te vs) ρ Q := fun B ad σ F H w Z z => by
  refine h B ad σ F H w _ fun ds ρ1 J F1 H1 q1 p1 it => ?_
  obtain ⟨I, i0, turn, done⟩ := q1
  intro Dl hD
  have hDH : H Dl = none := by
    cases q : H Dl with
    | none => rfl
    | some o => exact absurd hD (p1.gr.al Dl (by rw [q]; intro z; cases z))
  have nw := p1.wa.newp hD
  -- at each turn: the outer slots, over a heap in which Dl is not seen
  let Inv := fun (i : Nat) (H' : Hp) => ∃ acc ρ' F' vs', I i acc ρ' ∧ Post B ad σ ρ1 F1 H1 ρ' F' H' ∧ F' Dl = none ∧ H' Dl = some (.lst vs') ∧ RpA F' vs' acc
  refine ⟨fun i m H' => m = ds.length - i ∧ i ≤ ds.length ∧ Inv i H', ⟨_, rfl, Nat.zero_le _, [], ρ1, F1, [], i0, Post.of p1.wa (Gr.heap p1.wa.gr.fh (same_upd hD)), nw.1, upd_same, .nil⟩, ?_⟩
  rintro i m H' ⟨rfl, hi, acc, ρ', F', vs', iv, P, hF, hH, ra⟩
  by_cases hlt : i < ds.length
  · refine .inr ⟨it.go i H' (P.gr.ff.trans P.wa.gr.fh) hlt, fun H2 => Inv (i + 1) H2, fun H2 k => ⟨ds.length - (i + 1), by omega, rfl, hlt, k⟩, fun x H2 y => ?_⟩
    obtain ⟨d, F2, e, gr, rx⟩ := it.yld i H' x H2 F' P.gr.ff P.wa.gr.fh y hlt
    obtain ⟨pl, hz, k⟩ := turn i d acc ρ' e iv
    have P2 := P.trans (Post.of P.wa gr)
    have w2 := P.wa.grow gr
    have hF2 : F2 Dl = none := gr.fr Dl (by rw [hH]; intro z; cases z) hF
    have hH2 : H2 Dl = some (.lst vs') := gr.kp Dl _ hH id
    have nms : ∀ (ρ2 : Env), ¬ MS ad ρ2 Dl := fun ρ2 ⟨j, S, _, m⟩ => nw.2.2 j m
    refine k B ad (wipe σ vs) F2 H2 x (w2.wiped pl) (pl.ad w2) rx _ fun ρ2 σ2 q wb e2 fr => ?_
    have e2' : wipe σ2 vs = wipe σ vs := by
      rw [e2]
      apply List.ext_getElem?
      intro j
      rw [wipe_get, wipe_get, wipe_length]
      split
      · rfl
      · first | rfl | rw [wipe_get, if_neg (by assumption)]
    refine ⟨e2', q B ad σ2 F2 H2 wb _ fun b ρ3 F3 H3 q3 p3 => ?_⟩
    cases b with
    | true =>
      show te σ2 H3 _
      refine q3.1 rfl B ad σ2 F3 H3 p3.wa _ fun e ρ4 v F4 H4 q4 p4 rv => ?_
      have p34 := p3.trans p4
      have pu := Post.unwiped w2 pl e2' fr wb p34
      have hH4 : H4 Dl = some (.lst vs') := p34.gr.kp Dl _ hH2 (nms _)
      have hF4 : F4 Dl = none := p34.gr.fr Dl (by rw [hH2]; intro z; cases z) hF2
      have ra4 : RpA F4 (vs' ++ [v]) (acc ++ [e]) := (ra.up (gr.ff.trans p34.gr.ff)).app (.cons rv .nil)
      refine ⟨vs', hH4, Nat.lt_of_lt_of_le (by rw [ra.len]; exact hz) (by decide), acc ++ [e], _, F4, vs' ++ [v], q4, ?_, hF4, upd_same, ra4⟩
      -- Dl grows: nobody sees it
      have pt := P2.trans pu
      have ne1 : ∀ a o, H1 a = some o → a ≠ Dl := fun a o q z => by rw [z, hD] at q; cases q
      have neF : ∀ a o, F4 a = some o → a ≠ Dl := fun a o q z => by rw [z, hF4] at q; cases q
      refine ⟨⟨⟨pt.wa.gr.ff, fun a o q => by rw [upd_ne (neF a o q)]; exact pt.wa.gr.fh a o q, fun a o q m => ?_, fun a q => ?_, pt.wa.gr.fr⟩, pt.wa.len, fun j s q => ?_, pt.wa.fz, pt.wa.dj, pt.wa.out, pt.wa.pin⟩, ⟨pt.gr.ff, fun a o q => by rw [upd_ne (neF a o q)]; exact pt.gr.fh a o q, fun a o q m => by rw [upd_ne (ne1 a o q)]; exact pt.gr.kp a o q m, fun a q => ?_, pt.gr.fr⟩, pt.sh⟩
      · rw [upd_ne (fun z => by rw [z, nw.2.1] at q; cases q)]
        exact pt.wa.gr.kp a o q m
      · by_cases ha : a = Dl
        · rw [ha, upd_same]; intro z; cases z
        · rw [upd_ne ha]; exact pt.wa.gr.al a q
      · have k := pt.wa.sl j s q
        cases s with
        | emp => exact k
        | val d => exact k
        | own es =>
          obtain ⟨p, ws, a1, a2, a3, a4, a5⟩ := k
          refine ⟨p, ws, a1, a2, a3, ?_, a5⟩
          rw [upd_ne (fun z => nw.2.2 j (by rw [a1, z]; simp))]
          exact a4
        | st S =>
          obtain ⟨s, a1, a2⟩ := k
          exact ⟨s, a1, a2.keep (Same.refl _) fun a m o e => by
            rw [upd_ne (fun z => nw.2.2 j (by rw [← z]; exact m))]
            exact e⟩
      · by_cases ha : a = Dl
        · rw [ha, upd_same]; intro z; cases z
        · rw [upd_ne ha]; exact pt.gr.al a q
    | false =>
      show Inv (i + 1) H3
      have pu := Post.unwiped w2 pl e2' fr wb p3
      exact ⟨acc, _, F3, vs', q3.2 rfl, P2.trans pu, p3.gr.fr Dl (by rw [hH2]; intro z; cases z) hF2, p3.gr.kp Dl _ hH2 (nms _), ra.up (gr.ff.trans p3.gr.ff)⟩
  · have e : i = ds.length := by omega
    subst e
    exact .inl ⟨it.stop _ H' (P.gr.ff.trans P.wa.gr.fh) (Nat.le_refl _), z acc ρ' Dl vs' F' H' (done acc ρ' iv) (p1.trans P) hF hDH hH ra⟩
theorem et_yes {Q : Bool → Env → Prop} (q : Q true ρ) : ET tYes ρ Q := fun B ad σ F H w Z z => z true ρ F H q (Post.refl w)
/-- items that read off a list of one's own; nothing changes: the filter and the map -/
theorem eo_lcP {α : Type} {vs : List Nat} {Q : List D → Env → Prop} (f : α → Bool) (gg : α → D) (h : EI wi ρ fun ds ρ1 => ∃ (xs : List α) (enc : α → D), ds = xs.map enc ∧ xs.length < 1000000 ∧ Plain ρ1 vs ∧
    (∀ x ∈ xs, SG vs g (enc x) (wipeE ρ1 vs) fun ρ2 => unw vs ρ1 ρ2 = ρ1 ∧ ET tt ρ2 fun b ρ3 => b = f x ∧ ρ3 = ρ2 ∧ (f x = true → EX te ρ2 fun e ρ4 => e = gg x ∧ ρ4 = ρ2)) ∧ Q ((xs.filter f).map gg) ρ1) : EO (tLc wi g tt te vs) ρ Q := by
  refine eo_lc fun B ad σ F H w R z => h B ad σ F H w R fun ds ρ1 J F' H' q p it => z ds ρ1 J F' H' ?_ p it
  obtain ⟨xs, enc, rfl, hz, pl, turn, q⟩ := q
  refine ⟨fun k acc ρ' => ρ' = ρ1 ∧ acc = ((xs.take k).filter f).map gg, ⟨rfl, by simp⟩, ?_, ?_⟩
  · rintro k d acc ρ' e ⟨rfl, rfl⟩
    rw [List.getElem?_map] at e
    obtain ⟨x, ex, rfl⟩ : ∃ x, xs[k]? = some x ∧ enc x = d := by
      cases hx : xs[k]? with
      | none => rw [hx] at e; cases e
      | some x => rw [hx] at e; exact ⟨x, rfl, Option.some.inj e⟩
    have hm : x ∈ xs := List.mem_of_getElem? ex
    have hk : k < xs.length := (List.getElem?_eq_some_iff.mp ex).1
    have et : xs.take (k + 1) = xs.take k ++ [x] := by
      rw [List.take_succ, ex]; rfl
    refine ⟨pl, ?_, fun B ad σ F H v w hJ r Z z => turn x hm B ad σ F H v w hJ r Z fun ρ2 σ2 q w2 a b => z ρ2 σ2 (fun B ad σ F H w Z z => q.2 B ad σ F H w Z fun b ρ3 F' H' q2 p => z b ρ3 F' H' ⟨fun hb => ?_, fun hb => ?_⟩ p) w2 a b⟩
    · rw [List.length_map]
      exact Nat.lt_of_le_of_lt (Nat.le_trans (List.length_filter_le _ _) (by rw [List.length_take]; exact Nat.min_le_right _ _)) hz
    · obtain ⟨rfl, rfl, q2⟩ := q2
      refine (q2 hb).imp fun e ρ4 q => ?_
      obtain ⟨rfl, rfl⟩ := q
      exact ⟨‹_ ∧ _›.1, by rw [et, List.filter_append, List.map_append, List.filter_cons, if_pos hb]; rfl⟩
    · obtain ⟨rfl, rfl, q2⟩ := q2
      exact ⟨‹_ ∧ _›.1, by rw [et, List.filter_append, List.filter_cons, if_neg (by rw [hb]; exact Bool.false_ne_true), List.filter_nil, List.append_nil]⟩
  · rintro acc ρ' ⟨rfl, rfl⟩
    rw [List.length_map, List.take_length]
    exact q
end

/-! ### calls -/
/-- what a def of data promises: R tells of the arguments and of what is wanted of the answer -/
def spP (R : List D → (D → Prop) → Prop) : Sp := fun vs H Q _ => ∃ F ds Z, Same F H ∧ RpA F vs ds ∧ R ds Z ∧ ∀ d v F' H', Z d → Gr Non F H F' H' → Rp F' v d → Q v H'
/-- the same with a state ahead of the arguments -/
def spS (R : Stt → List D → (D → Stt → Prop) → Prop) : Sp := fun vs H Q _ => ∃ F s as S us ds Z, vs = .ref s :: us ∧ Same F H ∧ StAt F H S s as ∧ (∀ a ∈ as, F a = none) ∧ RpA F us ds ∧ R S ds Z ∧
  ∀ d S' v F' H', Z d S' → Gr (· ∈ as) F H F' H' → StAt F' H' S' s as → (∀ a ∈ as, F' a = none) → Rp F' v d → Q v H'
/-- a new state is handed back -/
def spN (R : List D → (Stt → Prop) → Prop) : Sp := fun vs H Q _ => ∃ F ds Z, Same F H ∧ RpA F vs ds ∧ R ds Z ∧ ∀ S s as F' H', Z S → Gr Non F H F' H' → StAt F' H' S s as → (∀ a ∈ as, F' a = none ∧ H a = none) → Q (.ref s) H'
section
variable {ρ ρ' : Env} {te : TE} {tt : TT} {t : TA} {E : XK}
theorem ex_call {R : List D → (D → Prop) → Prop} {Q : D → Env → Prop} (h : EA t ρ fun ds ρ1 => R ds fun d => Q d ρ1) : EX (tCall (spP R) [] E t) ρ Q := fun B ad σ F H w Z z =>
  h B ad σ F H w _ fun ds ρ1 vs F1 H1 q p r => by
    rw [List.append_nil]
    exact ⟨F1, ds, _, p.wa.gr.fh, r, q, fun d v F' H' zd g rv => z d ρ1 v F' H' zd (p.trans (Post.of p.wa g)) rv⟩
/-- f(state, ..) -/
theorem ex_callS {R : Stt → List D → (D → Stt → Prop) → Prop} {i : Nat} {S0 : Stt} {Q : D → Env → Prop} (h0 : ρ[i]? = some (.st S0)) (h : EA t ρ fun ds ρ1 => ∃ S, ρ1[i]? = some (.st S) ∧ R S ds fun d S' => Q d (ρ1.set i (.st S'))) :
    EX (tCall (spS R) [] E (tCons (tVar i) t)) ρ Q := fun B ad σ F H w Z z => by
  obtain ⟨s0, k0, _⟩ := w.sl i _ h0
  refine ⟨_, k0, h B ad σ F H w _ fun ds ρ1 vs F1 H1 q p r => ?_⟩
  obtain ⟨S, h1, q⟩ := q
  obtain ⟨s, k1, k2⟩ := p.wa.sl i _ h1
  rw [k0] at k1
  cases k1
  have hi : i < ρ1.length := (List.getElem?_eq_some_iff.mp h1).1
  rw [List.append_nil]
  refine ⟨F1, s0, ad i, S, vs, ds, _, rfl, p.wa.gr.fh, k2, fun a m => (p.wa.fz i a m).1, r, q, fun d S' v F' H' zd g st fn rv => ?_⟩
  have nm : ∀ j a, j ≠ i → a ∈ ad j → a ∉ ad i := fun j a hj m m' => hj (p.wa.dj j i a m m')
  refine z d _ v F' H' zd (p.trans ⟨⟨?_, ?_, fun j sl e => ?_, fun j a m => ?_, p.wa.dj, fun j e => p.wa.out j (get_set' e), p.wa.pin.to fun S2 e => by
    rcases get_set e with ⟨e0, _⟩ | ⟨hj, e⟩
    · exact ⟨⟨S, by rw [e0]; exact h1⟩, rfl, rfl⟩
    · exact ⟨⟨S2, e⟩, rfl, rfl⟩⟩, ⟨g.ff, g.fh, fun a o e m => g.kp a o e fun z => m ⟨i, S, h1, z⟩, g.al, g.fr⟩, fun j S'' e => ?_⟩) rv
  · refine ⟨p.wa.gr.ff.trans g.ff, g.fh, fun a o e m => g.kp a o (p.wa.gr.kp a o e m) fun z => ?_, fun a e => g.al a (p.wa.gr.al a e), fun a e z => g.fr a (p.wa.gr.al a e) (p.wa.gr.fr a e z)⟩
    rcases (p.wa.fz i a z).2 with q | q
    · rw [q] at e; cases e
    · exact m q.1
  · rw [List.length_set]; exact p.wa.len
  · rcases get_set e with ⟨rfl, rfl⟩ | ⟨hj, e⟩
    · exact ⟨s0, k0, st⟩
    · have k := p.wa.sl j sl e
      cases sl with
      | emp => exact k
      | val d =>
        obtain ⟨k, v, e, r⟩ := k
        exact ⟨k, v, e, r.up g.ff⟩
      | own es =>
        obtain ⟨q, ws, a1, a2, a3, a4, a5⟩ := k
        exact ⟨q, ws, a1, a2, a3, g.kp q _ a4 (nm j q hj (by rw [a1]; simp)), a5.up g.ff⟩
      | st S2 =>
        obtain ⟨s2, a1, a2⟩ := k
        exact ⟨s2, a1, a2.keep g.ff fun a m o e => g.kp a o e (nm j a hj m)⟩
  · refine ⟨?_, (p.wa.fz j a m).2⟩
    by_cases hj : j = i
    · subst hj; exact fn a m
    · exact g.fr a (p.wa.lv m) (p.wa.fz j a m).1
  · rcases get_set e with ⟨rfl, _⟩ | ⟨_, e⟩
    · exact ⟨S, h1⟩
    · exact ⟨S'', e⟩
/-- state = f(..) -/
theorem sx_asgN {R : List D → (Stt → Prop) → Prop} {i : Nat} {P : Po} (h00 : i ≠ 0) (h : EA t ρ fun ds ρ1 => R ds fun S => NX P (ρ1.set i (.st S))) : SX (tAsg (tCall (spN R) [] E t) (gName i)) ρ P := fun B σ F H w Dn n r b c => by
  obtain ⟨ad, w⟩ := w
  refine h B ad σ F H w _ fun ds ρ1 vs F1 H1 q p rv => ?_
  rw [List.append_nil]
  refine ⟨F1, ds, _, p.wa.gr.fh, rv, q, fun S s as F' H' zd g st fn => ?_⟩
  obtain ⟨ρ2, l, q⟩ := zd
  have w2 := p.wa.grow g
  have nw : ∀ a ∈ as, B.H0 a = none ∧ ∀ j, a ∉ ad j := fun a m => (p.wa.newp (fn a m).2).2
  refine n ρ2 _ F' H' q (W.weak ⟨fun k => if k = i then (if i < ρ1.length then as else []) else ad k, w2.gr, by rw [List.length_set, List.length_set]; exact w2.len, fun j sl e => ?_, fun j q m => ?_, fun j1 j2 q m1 m2 => ?_, fun j e => ?_, w2.pin.to fun S2 e => by
    rcases get_set e with ⟨e0, _⟩ | ⟨hj, e⟩
    · exact absurd e0.symm h00
    · exact ⟨⟨S2, e⟩, List.getElem?_set_ne (Ne.symm hj), if_neg hj⟩⟩ l)
  · rcases get_set e with ⟨rfl, rfl⟩ | ⟨hj, e'⟩
    · have hi : j < ρ1.length := by
        have := (List.getElem?_eq_some_iff.mp e).1
        rwa [List.length_set] at this
      exact ⟨s, List.getElem?_set_self (by rw [w2.len]; exact hi), by rw [if_pos rfl, if_pos hi]; exact st⟩
    · rw [if_neg hj, List.getElem?_set_ne (Ne.symm hj)]
      exact w2.sl j sl e'
  · by_cases hj : j = i
    · simp only [if_pos hj] at m
      by_cases hi : i < ρ1.length
      · simp only [if_pos hi] at m
        exact ⟨(fn q m).1, .inl (nw q m).1⟩
      · simp [if_neg hi] at m
    · simp only [if_neg hj] at m
      exact w2.fz j q m
  · have g : ∀ j, q ∈ (if j = i then (if i < ρ1.length then as else []) else ad j) → (j = i ∧ q ∈ as) ∨ (j ≠ i ∧ q ∈ ad j) := fun j m => by
      by_cases hj : j = i
      · simp only [if_pos hj] at m
        by_cases hi : i < ρ1.length
        · simp only [if_pos hi] at m
          exact .inl ⟨hj, m⟩
        · simp [if_neg hi] at m
      · simp only [if_neg hj] at m
        exact .inr ⟨hj, m⟩
    rcases g j1 m1 with ⟨a1, b1⟩ | ⟨a1, b1⟩ <;> rcases g j2 m2 with ⟨a2, b2⟩ | ⟨a2, b2⟩
    · rw [a1, a2]
    · exact absurd b2 ((nw q b1).2 j2)
    · exact absurd b1 ((nw q b2).2 j1)
    · exact w2.dj j1 j2 q b1 b2
  · show (if j = i then (if i < ρ1.length then as else []) else ad j) = []
    have e' := get_set' e
    by_cases hj : j = i
    · subst hj
      rw [if_pos rfl, if_neg (by rw [List.getElem?_eq_none_iff] at e'; omega)]
    · rw [if_neg hj]
      exact w2.out j e'
end

/-! ### defs -/
def startE (N : List Str) (ds : List D) : Env := ds.map .val ++ List.replicate (N.length - ds.length) .emp
section
variable {P : Program} {w : World} {K : PySem.W.Frag} {mg : Str → Option Value} {base : Heap} {x qual : Str} {st : Stmt} {f : Addr} {fd : FuncData} {N ps : List Str} {k : Nat}
theorem start_get {N : List Str} {us : List V} {i : Nat} {v : V} (h : us[i]? = some v) : (L2.start N us)[i]? = some (some v) := by
  unfold L2.start
  have hi := (List.getElem?_eq_some_iff.mp h).1
  rw [List.getElem?_append_left (by rw [List.length_map]; exact hi), List.getElem?_map, h]
  rfl
theorem startE_get {N : List Str} {ds : List D} {i : Nat} {s : Slot} (h : (startE N ds)[i]? = some s) : (∃ d, ds[i]? = some d ∧ s = .val d) ∨ s = .emp := by
  unfold startE at h
  by_cases hi : i < ds.length
  · rw [List.getElem?_append_left (by rw [List.length_map]; exact hi), List.getElem?_map] at h
    cases e : ds[i]? with
    | none => rw [e] at h; cases h
    | some d => rw [e] at h; exact .inl ⟨d, rfl, (Option.some.inj h).symm⟩
  · rw [List.getElem?_append_right (by rw [List.length_map]; omega)] at h
    exact .inr (List.eq_of_mem_replicate (List.mem_of_getElem? h))
theorem fn_pure {R : List D → (D → Prop) → Prop} (F : Fun K x qual st f fd) (S : FnScope N ps (defScope st)) (len : ∀ ds Z, R ds Z → ds.length = ps.length)
    (body : ∀ (cdv : Value) (A : Around) (outer : List PySem.Env) (s : Shared) (H : Hp) (E : XK), Room k (A.deeper (PyProof.Rows.envOfC qual (defScope st) s.heap.objs.size f cdv)) →
      ∃ t, PSs (cxOf CX0 P w K mg base N qual (defScope st) f cdv A outer s H E).nox (defBody st) t ∧ ∀ ds Z, R ds Z → SX t (startE N ds) { nx := fun _ => Z .none, rt := fun d _ => Z d }) :
    FnOk P w K mg base CX0 (k + 1) f fd ps (spP R) := by
  refine F.ok S (fun vs H Q E h => ?_) (fun cdv A outer s H vs Q E hr h => ?_)
  · obtain ⟨F, ds, Z, _, r, q, _⟩ := h
    rw [r.len]
    exact len ds Z q
  · obtain ⟨F0, ds, Z, fh, r, q, z⟩ := h
    obtain ⟨t, ht, hs⟩ := body cdv A outer s H E hr
    refine ⟨t, ht, hs ds Z q { F0 := F0, H0 := H, M := Non } (L2.start N vs) F0 H ⟨fun _ => [], Gr.refl fh, ?_, fun i s e => ?_, (fun i p m => by cases m), (fun i j p m => by cases m), fun _ _ => rfl, (fun s as e => by cases e)⟩ _ (fun ρ' σ' F' H' q w' => ?_) (fun d ρ' σ' v F' H' q w' rv => ?_) (fun _ _ _ _ q _ => q.elim) (fun _ _ _ _ q _ => q.elim)⟩
    · unfold L2.start startE
      rw [List.length_append, List.length_append, List.length_map, List.length_map, List.length_replicate, List.length_replicate, r.len]
    · rcases startE_get e with ⟨d, e2, rfl⟩ | rfl
      · obtain ⟨v, e1, rv⟩ := r.get e2
        exact ⟨rfl, v, start_get e1, rv⟩
      · rfl
    · obtain ⟨ad, w'⟩ := w'
      exact z .none .non F' H' q w'.gr .non
    · obtain ⟨ad, w'⟩ := w'
      exact z d v F' H' q w'.gr rv
/-- a def whose first parameter is a state -/
theorem fn_state {R : Stt → List D → (D → Stt → Prop) → Prop} (F : Fun K x qual st f fd) (S : FnScope N ps (defScope st)) (len : ∀ S ds Z, R S ds Z → ds.length + 1 = ps.length)
    (body : ∀ (cdv : Value) (A : Around) (outer : List PySem.Env) (s : Shared) (H : Hp) (E : XK), Room k (A.deeper (PyProof.Rows.envOfC qual (defScope st) s.heap.objs.size f cdv)) →
      ∃ t, PSs (cxOf CX0 P w K mg base N qual (defScope st) f cdv A outer s H E).nox (defBody st) t ∧ ∀ S ds Z, R S ds Z → SX t (.st S :: (ds.map .val ++ List.replicate (N.length - (ds.length + 1)) .emp)) { nx := fun ρ' => ∃ S', ρ'[0]? = some (.st S') ∧ Z .none S', rt := fun d ρ' => ∃ S', ρ'[0]? = some (.st S') ∧ Z d S' }) :
    FnOk P w K mg base CX0 (k + 1) f fd ps (spS R) := by
  refine F.ok S (fun vs H Q E h => ?_) (fun cdv A outer s H vs Q E hr h => ?_)
  · obtain ⟨F, s, as, S, us, ds, Z, rfl, _, _, _, r, q, _⟩ := h
    rw [List.length_cons, r.len]
    exact len S ds Z q
  · obtain ⟨F0, s0, as, S0, us, ds, Z, rfl, fh, sa, fn, r, q, z⟩ := h
    obtain ⟨t, ht, hs⟩ := body cdv A outer s H E hr
    have hm := sa.mem
    have hl : (L2.start N (.ref s0 :: us)).length = (Slot.st S0 :: (ds.map Slot.val ++ List.replicate (N.length - (ds.length + 1)) Slot.emp)).length := by
      unfold L2.start
      simp [r.len]
    have fin : ∀ (d : D) (ρ' : Env) (σ' : St) (v : V) (F' H' : Hp), (∃ S', ρ'[0]? = some (Slot.st S') ∧ Z d S') → W { F0 := F0, H0 := H, M := (· ∈ as), pin := some (s0, as) } ρ' σ' F' H' → Rp F' v d → Q v H' := fun d ρ' σ' v F' H' ⟨S', e, zd⟩ ⟨ad, w'⟩ rv => by
      obtain ⟨e1, e2⟩ := w'.pin s0 as rfl S' e
      obtain ⟨s1, k1, k2⟩ := w'.sl 0 _ e
      rw [e1] at k1
      cases k1
      rw [e2] at k2
      exact z d S' v F' H' zd w'.gr k2 (fun a m => (w'.fz 0 a (by rw [e2]; exact m)).1) rv
    refine ⟨t, ht, hs S0 ds Z q { F0 := F0, H0 := H, M := (· ∈ as), pin := some (s0, as) } (L2.start N (.ref s0 :: us)) F0 H ⟨fun i => if i = 0 then as else [], Gr.refl fh, hl, fun i sl e => ?_, fun i p m => ?_, fun i j p m1 m2 => ?_, fun i e => ?_, fun s as' e S _ => ?_⟩ _ (fun ρ' σ' F' H' q w' => fin .none ρ' σ' .non F' H' q w' .non) (fun d ρ' σ' v F' H' q w' rv => fin d ρ' σ' v F' H' q w' rv) (fun _ _ _ _ q _ => q.elim) (fun _ _ _ _ q _ => q.elim)⟩
    · cases i with
      | zero =>
        cases e
        exact ⟨s0, start_get (us := .ref s0 :: us) rfl, by rw [if_pos rfl]; exact sa⟩
      | succ i =>
        have e' : (startE (List.replicate (N.length - 1) "") ds)[i]? = some sl := by
          unfold startE
          rw [List.length_replicate, show N.length - 1 - ds.length = N.length - (ds.length + 1) by omega]
          exact e
        rw [if_neg (Nat.succ_ne_zero i)]
        rcases startE_get e' with ⟨d, e2, rfl⟩ | rfl
        · obtain ⟨v, e1, rv⟩ := r.get e2
          exact ⟨rfl, v, start_get (us := .ref s0 :: us) (by simpa using e1), rv⟩
        · rfl
    · by_cases hi : i = 0
      · rw [if_pos hi] at m
        exact ⟨fn p m, .inr ⟨m, hi⟩⟩
      · rw [if_neg hi] at m; cases m
    · by_cases hi : i = 0
      · by_cases hj : j = 0
        · rw [hi, hj]
        · rw [if_neg hj] at m2; cases m2
      · rw [if_neg hi] at m1; cases m1
    · by_cases hi : i = 0
      · subst hi; cases e
      · exact if_neg hi
    · cases e
      exact ⟨start_get (us := .ref s0 :: us) rfl, if_pos rfl⟩
end
end Pu
namespace Pu
open PySem L2

/-! ### what the defs call: built-ins, one another -/
/-- no name of a built-in is bound by the module -/
structure Bn (mg : Str → Option Value) : Prop where
  len_ : mg "len" = none
  range_ : mg "range" = none
  min_ : mg "min" = none
  max_ : mg "max" = none
  abs_ : mg "abs" = none
  sum_ : mg "sum" = none
  int_ : mg "int" = none
  list_ : mg "list" = none
  tuple_ : mg "tuple" = none
  sorted_ : mg "sorted" = none
  isinstance_ : mg "isinstance" = none
  enumerate_ : mg "enumerate" = none
  zip_ : mg "zip" = none
  set_ : mg "set" = none
  repr_ : mg "repr" = none
  all_ : mg "all" = none
  any_ : mg "any" = none
  dict_ : mg "dict" = none
  reversed_ : mg "reversed" = none
  str_ : mg "str" = none
/-- a def of the module that keeps a promise -/
inductive Cal (P : Program) (w : World) (K : PySem.W.Frag) (mg : Str → Option Value) (base : Heap) (x : Str) (ps : List Str) (sp : Sp) (k : Nat) : Prop
  | mk (f : Addr) (fd : FuncData) (ok : FnOk P w K mg base CX0 k f fd ps sp) (hm : mg x = some (.ref f)) (kp : PySem.W.keepIn K (.ref f) = true) (bd : Binds K fd ps []) : Cal P w K mg base x ps sp k
theorem pe_cal {X : Cx} {k : Nat} {ps : List Str} {sp : Sp} {x : Str} {p pos : Pos} {e : Expr} {es : List Expr} {t : TA} (C : Cal X.prog X.w X.K X.mg X.base x ps sp k) (hr : Room k X.A) (hg : Gl X x) (ha : PA X (e :: es) t)
    (hdb : (x == ("__debug__" : Str)) = false := by decide) (he : starEach (e :: es) X.env = (false, eval e X.env) :: starEach es X.env := by rfl) (hpl : (backTo pos (starEach es X.env)).any (·.1) = false := by rfl) :
    PE X (.Call (.Name x p) (e :: es) [] pos) (tCall sp [] E0 t) := by
  obtain ⟨f, fd, ok, hm, kp, bd⟩ := C
  exact pe_call ok hr hg hm kp bd .nil pass0 ha hdb he hpl
theorem Cal.imp {P : Program} {w : World} {K : PySem.W.Frag} {mg : Str → Option Value} {base : Heap} {x : Str} {ps : List Str} {sp sp' : Sp} {k : Nat} (C : Cal P w K mg base x ps sp k) (h : ∀ vs H Q E, sp' vs H Q E → sp vs H Q E) : Cal P w K mg base x ps sp' k := by
  obtain ⟨f, fd, ok, hm, kp, bd⟩ := C
  exact ⟨f, fd, ok.imp h, hm, kp, bd⟩
theorem Cal.mono {P : Program} {w : World} {K : PySem.W.Frag} {mg : Str → Option Value} {base : Heap} {x : Str} {ps : List Str} {sp : Sp} {j k : Nat} (C : Cal P w K mg base x ps sp j) (h : j ≤ k) : Cal P w K mg base x ps sp k := by
  obtain ⟨f, fd, ok, hm, kp, bd⟩ := C
  exact ⟨f, fd, ok.mono h, hm, kp, bd⟩

/-! ### reading data off the heap -/
section
variable {X : Cx} {pins : List (Addr × Obj)} {σ : St} {F H : Hp} {s : Shared} {d : D} {ds : List D} {v : V} {u : Value} {vs : List V} {us : List Value}
theorem rp_reads (I : Inv X pins σ H s) (e : Same F H) (r : Rp F v d) (ru : RelV v u) : ∃ as, Reads s.heap u d as := Dp.reads I d v u (r.dp e) ru
theorem rpa_reads (I : Inv X pins σ H s) (e : Same F H) (r : RpA F vs ds) (ru : Vals vs us) : ∃ as, ReadsAll s.heap us ds as := Dp.readsAll I ds vs us (r.dp e) ru
mutual
theorem Rp.plain : ∀ (d : D) {v : V}, Rp F v d → d.plain = true
  | .none, _, _ => by simp only [PyData.plain]
  | .bool _, _, _ => by simp only [PyData.plain]
  | .int _, _, _ => by simp only [PyData.plain]
  | .str _, _, _ => by simp only [PyData.plain]
  | .list ds, _, h => by
    cases h with
    | lst _ h => simp only [PyData.plain]; exact RpA.plain ds h
  | .tuple ds, _, h => by
    cases h with
    | tup _ h => simp only [PyData.plain]; exact RpA.plain ds h
  | .dict _, _, h => by cases h
theorem RpA.plain : ∀ (ds : List D) {vs : List V}, RpA F vs ds → PyData.plainAll ds = true
  | [], _, _ => by simp only [PyData.plainAll]
  | d :: ds, _, h => by
    cases h with
    | cons h1 h2 => simp only [PyData.plainAll, Bool.and_eq_true]; exact ⟨Rp.plain d h1, RpA.plain ds h2⟩
end
/-- at most so deep -/
def DpN (n : Nat) (d : D) : Prop := d.depth ≤ n
theorem dpn_int {n : Nat} {i : Int} : DpN n (.int i) := by simp [DpN, PyData.depth]
theorem dpn_bl {n : Nat} {b : Bool} : DpN n (.bool b) := by simp [DpN, PyData.depth]
theorem dpn_str {n : Nat} {x : Str} : DpN n (.str x) := by simp [DpN, PyData.depth]
theorem dpn_non {n : Nat} : DpN n .none := by simp [DpN, PyData.depth]
theorem depthAll_le {n : Nat} : ∀ {ds : List D}, (∀ d ∈ ds, DpN n d) → PyData.depthAll ds ≤ n
  | [], _ => by simp [PyData.depthAll]
  | d :: ds, h => by
    simp only [PyData.depthAll]
    exact Nat.max_le.mpr ⟨h d (by simp), depthAll_le fun e he => h e (by simp [he])⟩
theorem dpn_list {n : Nat} {ds : List D} (h : ∀ d ∈ ds, DpN n d) : DpN (n + 1) (.list ds) := by
  simp only [DpN, PyData.depth]
  exact Nat.succ_le_succ (depthAll_le h)
theorem dpn_tup {n : Nat} {ds : List D} (h : ∀ d ∈ ds, DpN n d) : DpN (n + 1) (.tuple ds) := by
  simp only [DpN, PyData.depth]
  exact Nat.succ_le_succ (depthAll_le h)
theorem dpn_map {α : Type} {n : Nat} {xs : List α} {f : α → D} (h : ∀ x ∈ xs, DpN n (f x)) : ∀ d ∈ xs.map f, DpN n d := fun d hd => by
  obtain ⟨x, hx, rfl⟩ := List.mem_map.mp hd
  exact h x hx
theorem dpn_nil {n : Nat} : ∀ d ∈ ([] : List D), DpN n d := fun d h => by cases h
theorem dpn_cons {n : Nat} {d : D} {ds : List D} (h : DpN n d) (hs : ∀ e ∈ ds, DpN n e) : ∀ e ∈ d :: ds, DpN n e := fun e he => by
  rcases List.mem_cons.mp he with rfl | he
  · exact h
  · exact hs e he
theorem DpN.up {n m : Nat} {d : D} (h : DpN n d) (k : n ≤ m) : DpN m d := Nat.le_trans h k
end

/-! ### ==, != of data at depth 64 -/
section
variable {X : Cx} {K : PySem.W.Frag} {d d1 d2 : D} {ds es : List D} {Q : D → Prop}
def rEqP (K : PySem.W.Frag) : R2 := fun x y H Q => ∃ d e, Dp K H x d ∧ Dp K H y e ∧ d.plain = true ∧ e.plain = true ∧ min d.depth e.depth ≤ 60 ∧ Q (.bl (PyData.eqv d e)) H
def rNeP (K : PySem.W.Frag) : R2 := fun x y H Q => ∃ d e, Dp K H x d ∧ Dp K H y e ∧ d.plain = true ∧ e.plain = true ∧ min d.depth e.depth ≤ 60 ∧ Q (.bl (!PyData.eqv d e)) H
theorem op_eqP (hu : X.A.units + 64 < cLine) : OpR X (compareOp .Eq) (rEqP X.K) := by
  rintro pins s σ H x y v u Q I rx ry ⟨d, e, hd, he, pd, pe, hz, q⟩
  obtain ⟨as, r1⟩ := Dp.reads I d x v hd rx
  obtain ⟨bs, r2⟩ := Dp.reads I e y u he ry
  exact PySem.SeqAt.eq_plain r1 r2 pd pe (by omega) ⟨.bl _, H, I, rfl, q⟩
theorem op_neP (hu : X.A.units + 64 < cLine) : OpR X (compareOp .NotEq) (rNeP X.K) := by
  rintro pins s σ H x y v u Q I rx ry ⟨d, e, hd, he, pd, pe, hz, q⟩
  obtain ⟨as, r1⟩ := Dp.reads I d x v hd rx
  obtain ⟨bs, r2⟩ := Dp.reads I e y u he ry
  exact PySem.SeqAt.ne_plain r1 r2 pd pe (by omega) ⟨.bl _, H, I, rfl, q⟩
theorem opd_eqP (h : min d1.depth d2.depth ≤ 60) (k : Q (.bool (PyData.eqv d1 d2))) : OpD (rEqP K) d1 d2 Q := fun F H x y e rx ry Z z => ⟨d1, d2, rx.dp e, ry.dp e, Rp.plain _ rx, Rp.plain _ ry, h, z _ _ F H k (Gr.refl e) (.bl _)⟩
theorem opd_neP (h : min d1.depth d2.depth ≤ 60) (k : Q (.bool (!PyData.eqv d1 d2))) : OpD (rNeP K) d1 d2 Q := fun F H x y e rx ry Z z => ⟨d1, d2, rx.dp e, ry.dp e, Rp.plain _ rx, Rp.plain _ ry, h, z _ _ F H k (Gr.refl e) (.bl _)⟩
theorem min_l {n m k : Nat} (h : n ≤ k) : min n m ≤ k := Nat.le_trans (Nat.min_le_left _ _) h
theorem min_r {n m k : Nat} (h : m ≤ k) : min n m ≤ k := Nat.le_trans (Nat.min_le_right _ _) h
/-! in, not in -/
def rInP (K : PySem.W.Frag) : R2 := fun x y H Q => ∃ d es, Dp K H x d ∧ (Dp K H y (.list es) ∨ Dp K H y (.tuple es)) ∧ d.plain = true ∧ PyData.plainAll es = true ∧ min (PyData.depthAll es) d.depth ≤ 60 ∧ Q (.bl (es.any fun y => PyData.eqv y d)) H
def rNinP (K : PySem.W.Frag) : R2 := fun x y H Q => ∃ d es, Dp K H x d ∧ (Dp K H y (.list es) ∨ Dp K H y (.tuple es)) ∧ d.plain = true ∧ PyData.plainAll es = true ∧ min (PyData.depthAll es) d.depth ≤ 60 ∧ Q (.bl (!es.any fun y => PyData.eqv y d)) H
theorem op_inP (hu : X.A.units + 64 < cLine) : OpR X (compareOp .In) (rInP X.K) := by
  rintro pins s σ H x y v u Q I rx ry ⟨d, es, hd, he, pd, pe, hz, q⟩
  obtain ⟨as, r1⟩ := Dp.reads I d x v hd rx
  rcases he with he | he
  · obtain ⟨bs, r2⟩ := Dp.reads I _ y u he ry
    exact PySem.SeqAt.in_list_data r2 r1 pe pd (by omega) ⟨.bl _, H, I, rfl, q⟩
  · obtain ⟨bs, r2⟩ := Dp.reads I _ y u he ry
    exact PySem.SeqAt.in_tuple_data r2 r1 pe pd (by omega) ⟨.bl _, H, I, rfl, q⟩
theorem op_ninP (hu : X.A.units + 64 < cLine) : OpR X (compareOp .NotIn) (rNinP X.K) := by
  rintro pins s σ H x y v u Q I rx ry ⟨d, es, hd, he, pd, pe, hz, q⟩
  obtain ⟨as, r1⟩ := Dp.reads I d x v hd rx
  rcases he with he | he
  · obtain ⟨bs, r2⟩ := Dp.reads I _ y u he ry
    exact PySem.SeqAt.notIn_list_data r2 r1 pe pd (by omega) ⟨.bl _, H, I, rfl, q⟩
  · obtain ⟨bs, r2⟩ := Dp.reads I _ y u he ry
    exact PySem.SeqAt.notIn_tuple_data r2 r1 pe pd (by omega) ⟨.bl _, H, I, rfl, q⟩
theorem opd_inL (h : min (PyData.depthAll es) d.depth ≤ 60) (k : Q (.bool (es.any fun y => PyData.eqv y d))) : OpD (rInP K) d (.list es) Q := fun F H x y e rx ry Z z =>
  ⟨d, es, rx.dp e, .inl (ry.dp e), Rp.plain _ rx, by have := Rp.plain _ ry; simpa only [PyData.plain] using this, h, z _ _ F H k (Gr.refl e) (.bl _)⟩
theorem opd_inT (h : min (PyData.depthAll es) d.depth ≤ 60) (k : Q (.bool (es.any fun y => PyData.eqv y d))) : OpD (rInP K) d (.tuple es) Q := fun F H x y e rx ry Z z =>
  ⟨d, es, rx.dp e, .inr (ry.dp e), Rp.plain _ rx, by have := Rp.plain _ ry; simpa only [PyData.plain] using this, h, z _ _ F H k (Gr.refl e) (.bl _)⟩
theorem opd_ninL (h : min (PyData.depthAll es) d.depth ≤ 60) (k : Q (.bool (!es.any fun y => PyData.eqv y d))) : OpD (rNinP K) d (.list es) Q := fun F H x y e rx ry Z z =>
  ⟨d, es, rx.dp e, .inl (ry.dp e), Rp.plain _ rx, by have := Rp.plain _ ry; simpa only [PyData.plain] using this, h, z _ _ F H k (Gr.refl e) (.bl _)⟩
theorem opd_ninT (h : min (PyData.depthAll es) d.depth ≤ 60) (k : Q (.bool (!es.any fun y => PyData.eqv y d))) : OpD (rNinP K) d (.tuple es) Q := fun F H x y e rx ry Z z =>
  ⟨d, es, rx.dp e, .inr (ry.dp e), Rp.plain _ rx, by have := Rp.plain _ ry; simpa only [PyData.plain] using this, h, z _ _ F H k (Gr.refl e) (.bl _)⟩
/-! min, max of a list of alike data -/
def rMnD (K : PySem.W.Frag) : List V → Hp → VK → Prop := fun vs H Q => ∃ (F : Hp) (a : Addr) (xs : List V) (d : D) (ds : List D), vs = [.ref a] ∧ Same F H ∧ Rd F a (.lst xs) ∧ RpA F xs (d :: ds) ∧ PySem.W.AlikeAll (d :: ds) ∧ PyData.depthAll (d :: ds) ≤ 60 ∧ ∀ v, Rp F v (PySem.W.minD d ds) → Q v H
def rMxD (K : PySem.W.Frag) : List V → Hp → VK → Prop := fun vs H Q => ∃ (F : Hp) (a : Addr) (xs : List V) (d : D) (ds : List D), vs = [.ref a] ∧ Same F H ∧ Rd F a (.lst xs) ∧ RpA F xs (d :: ds) ∧ PySem.W.AlikeAll (d :: ds) ∧ PyData.depthAll (d :: ds) ≤ 60 ∧ ∀ v, Rp F v (PySem.W.maxD d ds) → Q v H
theorem minD_mem (d : D) (ds : List D) : PySem.W.minD d ds ∈ d :: ds := by
  have : ∀ (es : List D) (a : D), es.foldl (fun a y => if PySem.W.dataLt y a then y else a) a ∈ a :: es := by
    intro es
    induction es with
    | nil => intro a; simp
    | cons e es ih =>
      intro a
      rw [List.foldl_cons]
      have q := ih (if PySem.W.dataLt e a then e else a)
      by_cases c : PySem.W.dataLt e a = true
      · rw [if_pos c] at q ⊢
        exact List.mem_cons_of_mem _ q
      · rw [if_neg c] at q ⊢
        rcases List.mem_cons.mp q with q | q
        · rw [q]; exact List.mem_cons_self
        · exact List.mem_cons_of_mem _ (List.mem_cons_of_mem _ q)
  exact this ds d
theorem maxD_mem (d : D) (ds : List D) : PySem.W.maxD d ds ∈ d :: ds := by
  have : ∀ (es : List D) (a : D), es.foldl (fun a y => if PySem.W.dataLt a y then y else a) a ∈ a :: es := by
    intro es
    induction es with
    | nil => intro a; simp
    | cons e es ih =>
      intro a
      rw [List.foldl_cons]
      have q := ih (if PySem.W.dataLt a e then e else a)
      by_cases c : PySem.W.dataLt a e = true
      · rw [if_pos c] at q ⊢
        exact List.mem_cons_of_mem _ q
      · rw [if_neg c] at q ⊢
        rcases List.mem_cons.mp q with q | q
        · rw [q]; exact List.mem_cons_self
        · exact List.mem_cons_of_mem _ (List.mem_cons_of_mem _ q)
  exact this ds d
theorem pick_rp {pins : List (Addr × Obj)} {σ : St} {F H : Hp} {s : Shared} {xs : List V} {its : List Value} {es : List D} {m : D} (I : Inv X pins σ H s) (e : Same F H) (ra : RpA F xs es) (rv : Vals xs its) (al : PySem.W.AlikeAll es) (hm : m ∈ es)
    {i : Nat} {v : Value} {h' : Heap} {bs : List Addr} (hi : its.toArray[i]? = some v) (rd : Reads h' v m bs) (hk : ∀ b o, s.heap.get? b = some o → h'.get? b = some o) : ∃ y, RelV y v ∧ Rp F y m := by
  have hi' : its[i]? = some v := by simpa using hi
  have hl : i < xs.length := by rw [rv.length]; exact (List.getElem?_eq_some_iff.mp hi').1
  obtain ⟨u, hu, ru⟩ := rv.get (List.getElem?_eq_getElem hl)
  rw [hi'] at hu
  cases hu
  obtain ⟨d, hd, rp⟩ := ra.get' (List.getElem?_eq_getElem hl)
  obtain ⟨as, r1⟩ := rp_reads I e rp ru
  have q : d = m := PySem.W.alike_unique d m v as bs (al.1 d (List.mem_of_getElem? hd) m hm) (PyProof.Rows.Reads.keeps hk r1) rd
  rw [q] at rp
  exact ⟨_, ru, rp⟩
theorem cb_minD (hc : X.calm = true) (hu : X.A.units + 64 < cLine) : CallR X (.builtin "min") (rMnD X.K) := by
  rintro pins s σ H vs us Q I r ⟨F, a, xs, d, ds, rfl, e, ha, ra, al, hz, q⟩
  obtain ⟨its, rv, hl, _⟩ := I.list (sqL_rd (K := X.K) ha e)
  obtain ⟨as, rr⟩ := rpa_reads I e ra rv
  rw [Vals.ref1 r]
  refine PySem.W.min_list_data (I.ok.hd hc) hl.isList (by simpa using rr) al (by omega) fun i v h' tk bs hi rd hk => ?_
  obtain ⟨y, ry, rp⟩ := pick_rp I e ra rv al (minD_mem d ds) hi rd hk
  exact ⟨y, H, I.kept hk, ry, q y rp⟩
theorem cb_maxD (hc : X.calm = true) (hu : X.A.units + 64 < cLine) : CallR X (.builtin "max") (rMxD X.K) := by
  rintro pins s σ H vs us Q I r ⟨F, a, xs, d, ds, rfl, e, ha, ra, al, hz, q⟩
  obtain ⟨its, rv, hl, _⟩ := I.list (sqL_rd (K := X.K) ha e)
  obtain ⟨as, rr⟩ := rpa_reads I e ra rv
  rw [Vals.ref1 r]
  refine PySem.W.max_list_data (I.ok.hd hc) hl.isList (by simpa using rr) al (by omega) fun i v h' tk bs hi rd hk => ?_
  obtain ⟨y, ry, rp⟩ := pick_rp I e ra rv al (maxD_mem d ds) hi rd hk
  exact ⟨y, H, I.kept hk, ry, q y rp⟩
theorem cbd_minD (al : PySem.W.AlikeAll (d :: ds)) (hz : PyData.depthAll (d :: ds) ≤ 60) (k : Q (PySem.W.minD d ds)) : CbD (rMnD K) [.list (d :: ds)] Q := fun F H vs e r Z z => by
  obtain ⟨v, rfl, rv⟩ := r.one
  obtain ⟨a, xs, rfl, h1, h2⟩ := rv.lst_inv
  exact ⟨F, a, xs, d, ds, rfl, e, h1, h2, al, hz, fun v rv => z _ _ F H k (Gr.refl e) rv⟩
theorem cbd_maxD (al : PySem.W.AlikeAll (d :: ds)) (hz : PyData.depthAll (d :: ds) ≤ 60) (k : Q (PySem.W.maxD d ds)) : CbD (rMxD K) [.list (d :: ds)] Q := fun F H vs e r Z z => by
  obtain ⟨v, rfl, rv⟩ := r.one
  obtain ⟨a, xs, rfl, h1, h2⟩ := rv.lst_inv
  exact ⟨F, a, xs, d, ds, rfl, e, h1, h2, al, hz, fun v rv => z _ _ F H k (Gr.refl e) rv⟩
theorem alike_ints (ns : List Int) : PySem.W.AlikeAll (ns.map PyData.int) := ⟨fun x hx y hy => by
  obtain ⟨a, _, rfl⟩ := List.mem_map.mp hx
  obtain ⟨b, _, rfl⟩ := List.mem_map.mp hy
  rfl, fun x hx => by
  obtain ⟨a, _, rfl⟩ := List.mem_map.mp hx
  intro z; cases z⟩
def foldMin : List Int → Int
  | [] => 0
  | n :: ns => ns.foldl min n
def foldMax : List Int → Int
  | [] => 0
  | n :: ns => ns.foldl max n
theorem cbd_minI {ns : List Int} (h : 0 < ns.length) (k : Q (.int (foldMin ns))) : CbD (rMnD K) [.list (ns.map .int)] Q := by
  cases ns with
  | nil => cases h
  | cons n ns =>
    refine cbd_minD (alike_ints (n :: ns)) ?_ ?_
    · exact depthAll_le (dpn_map (xs := n :: ns) fun x _ => dpn_int)
    · have e := PySem.W.minD_ints n ns
      show Q (PySem.W.minD (.int n) (ns.map .int))
      rw [e]
      exact k
theorem cbd_maxI {ns : List Int} (h : 0 < ns.length) (k : Q (.int (foldMax ns))) : CbD (rMxD K) [.list (ns.map .int)] Q := by
  cases ns with
  | nil => cases h
  | cons n ns =>
    refine cbd_maxD (alike_ints (n :: ns)) ?_ ?_
    · exact depthAll_le (dpn_map (xs := n :: ns) fun x _ => dpn_int)
    · have e := PySem.W.maxD_ints n ns
      show Q (PySem.W.maxD (.int n) (ns.map .int))
      rw [e]
      exact k
/-! sorted -/
abbrev sortD (ds : List D) : List D := ds.mergeSort (PySem.W.dataLe false id)
def rSrD (K : PySem.W.Frag) : List V → Hp → VK → Prop := fun vs H Q => ∃ (F : Hp) (a : Addr) (xs : List V) (ds : List D), vs = [.ref a] ∧ Same F H ∧ Rd F a (.lst xs) ∧ RpA F xs ds ∧ PySem.W.AllAlike ds ∧ PySem.W.Sortable ds ∧ PyData.depthAll ds ≤ 60 ∧
  ∀ p ys, H p = none → RpA F ys (sortD ds) → Q (.ref p) (upd H p (.lst ys))
theorem rpa_zip {F : Hp} : ∀ {xs : List V} {ds : List D}, RpA F xs ds → ∀ p ∈ xs.zip ds, Rp F p.1 p.2
  | _, [], h, p, hp => by cases h; cases hp
  | _, d :: ds, h, p, hp => by
    cases h with
    | cons h1 h2 =>
      rcases List.mem_cons.mp hp with rfl | hp
      · exact h1
      · exact rpa_zip h2 p hp
theorem rpa_of {F : Hp} : ∀ {zs : List (V × D)}, (∀ p ∈ zs, Rp F p.1 p.2) → RpA F (zs.map Prod.fst) (zs.map Prod.snd)
  | [], _ => .nil
  | z :: zs, h => .cons (h z (by simp)) (rpa_of fun p hp => h p (by simp [hp]))
theorem each_zip {F : Hp} : ∀ {xs : List V} {ds : List D} {its : List Value}, RpA F xs ds → Vals xs its → PySem.W.EachIs (fun v (b : V × D) => RelV b.1 v) its (xs.zip ds)
  | _, [], _, h, r => by cases h; cases r; exact .nil
  | _, d :: ds, _, h, r => by
    cases h with
    | cons h1 h2 =>
      cases r with
      | cons r1 r2 => exact .cons r1 (each_zip h2 r2)
theorem vals_each : ∀ {zs : List (V × D)} {out : List Value}, PySem.W.EachIs (fun v (b : V × D) => RelV b.1 v) out zs → Vals (zs.map Prod.fst) out
  | _, _, .nil => .nil
  | _, _, .cons h t => .cons h (vals_each t)
theorem each_reads {h : Heap} : ∀ {xs : List V} {ds : List D} {its : List Value} {as : List Addr}, xs.length = ds.length → ReadsAll h its ds as → PySem.W.EachIs (fun v (b : V × D) => ∃ as, Reads h v b.2 as) its (xs.zip ds)
  | [], [], _, _, _, r => by cases r; exact .nil
  | x :: xs, d :: ds, _, _, l, r => by
    cases r with
    | cons r1 r2 => exact .cons ⟨_, r1⟩ (each_reads (by simpa using l) r2)
  | [], _ :: _, _, _, l, _ => by simp at l
  | _ :: _, [], _, _, l, _ => by simp at l
theorem depth_mem : ∀ {ds : List D} {d : D}, d ∈ ds → d.depth ≤ PyData.depthAll ds
  | [], _, h => by cases h
  | e :: ds, d, h => by
    simp only [PyData.depthAll]
    rcases List.mem_cons.mp h with rfl | h
    · exact Nat.le_max_left _ _
    · exact Nat.le_trans (depth_mem h) (Nat.le_max_right _ _)
theorem cb_sortD (hu : X.A.units + 64 < cLine) : CallR X (.builtin "sorted") (rSrD X.K) := by
  rintro pins s σ H vs us Q I r ⟨F, a, xs, ds, rfl, e, ha, ra, al, so, hz, q⟩
  obtain ⟨its, rv, hl, hzl⟩ := I.list (sqL_rd (K := X.K) ha e)
  obtain ⟨as, rr⟩ := rpa_reads I e ra rv
  rw [Vals.ref1 r]
  have hmap : (xs.zip ds).map Prod.snd = ds := List.map_snd_zip (by rw [ra.len]; exact Nat.le_refl _)
  have hlen : (xs.zip ds).length = xs.length := by rw [List.length_zip, ra.len, Nat.min_self]
  refine PySem.W.sorted_data (bs := xs.zip ds) (enc := Prod.snd) hl.isList (each_zip ra rv) (each_reads ra.len rr) (by rw [hmap]; exact al) (by rw [hmap]; exact so) (by rw [hlen]; exact hzl)
    (fun b hb => ?_) fun out ho he => ?_
  · have hd : b.2 ∈ ds := by rw [← hmap]; exact List.mem_map_of_mem hb
    have := depth_mem hd
    omega
  · obtain ⟨ep, he'⟩ := PyProof.Rows.sortedAll_at s.heap its out.toArray
    have hv := vals_each he
    have hd : (List.mergeSort (xs.zip ds) (PySem.W.dataLe false Prod.snd)).map Prod.snd = sortD ds := by
      have q := PySem.W.sort_maps (r := PySem.W.dataLe false Prod.snd) (s := PySem.W.dataLe false id) (Prod.snd : V × D → D) (l := xs.zip ds) (fun a _ b _ => rfl)
      rw [q, hmap]
    have hr := rpa_of (F := F) (zs := List.mergeSort (xs.zip ds) (PySem.W.dataLe false Prod.snd)) fun p hp => rpa_zip ra p (List.mem_mergeSort.mp hp)
    rw [hd] at hr
    refine ⟨.ref _, upd H (s.heap.objs.size + 1) (.lst ((List.mergeSort (xs.zip ds) (PySem.W.dataLe false Prod.snd)).map Prod.fst)), I.laid (t' := s.toks) (fun _ _ => PyProof.Rows.sortedAll_old) (Nat.le_succ _) ⟨?_, out, ep, hv, he'⟩, rfl, q _ _ (I.hok.fresh (Nat.le_succ _)) hr⟩
    rw [List.length_map, List.length_mergeSort, hlen]
    exact hzl
theorem cbo_sortD {Q : List D → Prop} (al : PySem.W.AllAlike ds) (so : PySem.W.Sortable ds) (hz : PyData.depthAll ds ≤ 60) (k : Q (sortD ds)) : CbO (rSrD K) [.list ds] Q := fun F H vs e r Z z => by
  obtain ⟨v, rfl, rv⟩ := r.one
  obtain ⟨a, xs, rfl, h1, h2⟩ := rv.lst_inv
  exact ⟨F, a, xs, ds, rfl, e, h1, h2, al, so, hz, fun p ys hp rp => z _ p _ _ k (same_upd hp) hp upd_same rp⟩
/-! x.extend(ys) -/
def rExtR : V → List V → Hp → VK → Prop := fun x vs H Q => ∃ l b xs zs, x = .ref l ∧ vs = [.ref b] ∧ H l = some (.lst xs) ∧ Rd H b (.lst zs) ∧ xs.length + zs.length ≤ sizeLine ∧ Q .non (upd H l (.lst (xs ++ zs)))
theorem mt_extR : MtM X "list.extend" rExtR := by
  intro pins s σ H x vs v us Q I rx rv h
  obtain ⟨l, b, xs, zs, rfl, rfl, hH, hB, hz, q⟩ := h
  cases rx
  obtain ⟨u, rfl, ru⟩ := rv.one
  cases ru
  obtain ⟨z, its, n, r, hl, e⟩ := I.lstM hH
  obtain ⟨z2, its2, n2, r2, e2⟩ := hB.ok I.hok
  have hl2 := r2.length
  have k1 : its.toArray.size + its2.toArray.size ≤ sizeLine := by rw [List.size_toArray, List.size_toArray]; omega
  have k2 : ¬ (!its.toArray.isEmpty && Builtin.List.listTooLong (its.toArray.size + its2.toArray.size)) = true := by rw [notLongL k1, Bool.and_false]; exact Bool.false_ne_true
  refine call_meets F.slot_list_extend ⟨_, e, rfl⟩ F.entry_list_extend (F.args_list_extend_2 _ _) (AutoSeq1.list_extend_list_list_0 l its.toArray n b its2.toArray n2 k2 (by rw [List.size_toArray]; omega) (by omega)) ⟨e, e2, ?_⟩
  refine ⟨.non, _, I.lset (its' := its ++ its2) hH e (by simp) (r.append r2) ?_, rfl, q⟩
  rw [List.length_append]; omega
theorem sx_ext {ρ : Env} {P : Po} {te : TE} {i : Nat} {fs : List D} (h : ρ[i]? = some (.own fs)) (k : EX te ρ fun d ρ1 => ∃ ds es, d = .list es ∧ ρ1[i]? = some (.own ds) ∧ ds.length + es.length ≤ 1000000 ∧ NX P (ρ1.set i (.own (ds ++ es)))) : SX (tDrop (tBM K "list" rExtR (tVar i) (tCons te tNil))) ρ P := fun B σ F H w Dn n r b c => by
  obtain ⟨ad, w⟩ := w
  obtain ⟨p0, vs0, _, _, k1, k0, _⟩ := w.sl i _ h
  refine ⟨_, k1, .inl ⟨rfl, _, .inl (.inl k0)⟩, k B ad σ F H w _ fun d ρ1 v F1 H1 q1 p1 r1 => ?_⟩
  obtain ⟨ds, es, rfl, h1, hz, ρ', l, q⟩ := q1
  obtain ⟨p, vs, _, _, k2, k3, rr⟩ := p1.wa.sl i _ h1
  have e := k1.symm.trans k2
  cases e
  obtain ⟨a, ws, rfl, g1, g2⟩ := r1.lst_inv
  exact ⟨_, a, vs, ws, rfl, rfl, k3, rd_mono p1.wa.gr.fh g1, Nat.le_trans (by rw [rr.len, g2.len]; exact hz) (by decide), n ρ' σ F1 _ q ((p1.wa.mut h1 k2 (rr.app g2)).weak l)⟩
end

/-! ### short forms for a run -/
section
variable {K : PySem.W.Frag} {Q : D → Prop} {i j : Int} {d d1 d2 : D} {ds es : List D}
theorem Gr.frz {F H H' : Hp} {p : Addr} {vs : List V} (e : Same F H) (g : Same H H') (hn : H p = none) (hp : H' p = some (.lst vs)) : Gr Non F H (upd F p (.lst vs)) H' where
  ff := same_upd (e.free hn)
  fh := fun a u q => by
    by_cases ha : a = p
    · subst ha; rw [upd_same] at q; rw [hp]; exact q
    · rw [upd_ne ha] at q; exact g a u (e a u q)
  kp := fun a u q _ => g a u q
  al := fun a q => by
    cases z : H a with
    | none => exact absurd z q
    | some o => rw [g a o z]; intro z; cases z
  fr := fun a q z => by
    have ha : a ≠ p := fun z => q (z ▸ hn)
    rw [upd_ne ha]; exact z
theorem opd_ofO {r : R2} (h : OpO r d1 d2 fun ds => Q (.list ds)) : OpD r d1 d2 Q := fun F H x y e rx ry Z z => h F H x y e rx ry Z fun ds p vs H' q g hn hp rv =>
  z _ _ (upd F p (.lst vs)) H' q (Gr.frz e g hn hp) (.lst (.inl upd_same) (rv.up (Gr.frz e g hn hp).ff))
theorem cbd_ofO {r : List V → Hp → VK → Prop} (h : CbO r ds fun ds => Q (.list ds)) : CbD r ds Q := fun F H vs e rv Z z => h F H vs e rv Z fun ds p vs H' q g hn hp rv =>
  z _ _ (upd F p (.lst vs)) H' q (Gr.frz e g hn hp) (.lst (.inl upd_same) (rv.up (Gr.frz e g hn hp).ff))
theorem sld_ofO {r : V → Option Int → Option Int → Hp → VK → Prop} {lo hi : Option Int} (h : SlO r d lo hi fun ds => Q (.list ds)) : SlD r d lo hi Q := fun F H x e rx Z z => h F H x e rx Z fun ds p vs H' q g hn hp rv =>
  z _ _ (upd F p (.lst vs)) H' q (Gr.frz e g hn hp) (.lst (.inl upd_same) (rv.up (Gr.frz e g hn hp).ff))
theorem opd_plusL (hz : ds.length + es.length ≤ 1000000) (k : Q (.list (ds ++ es))) : OpD (rPlus K) (.list ds) (.list es) Q := opd_ofO (opo_plusL hz k)
theorem sld_L {lo hi : Option Int} (k : Q (.list (cutD ds lo hi))) : SlD (rSl K) (.list ds) lo hi Q := sld_ofO (slo_L k)
theorem cbd_listL (k : Q (.list ds)) : CbD (rList K) [.list ds] Q := cbd_ofO (cbo_listL k)
theorem cbd_listT (k : Q (.list ds)) : CbD (rList K) [.tuple ds] Q := cbd_ofO (cbo_listT k)
theorem cbd_sortD (al : PySem.W.AllAlike ds) (so : PySem.W.Sortable ds) (hz : PyData.depthAll ds ≤ 60) (k : Q (.list (sortD ds))) : CbD (rSrD K) [.list ds] Q := cbd_ofO (cbo_sortD al so hz k)
theorem opd_eqI (k : Q (.bool (decide (i = j)))) : OpD (rEqP K) (.int i) (.int j) Q := opd_eqP (min_l (by simp [PyData.depth])) (by
  have e : PyData.eqv (.int i) (.int j) = decide (i = j) := by simp only [PyData.eqv]; exact Bool.beq_eq_decide_eq i j
  rw [e]; exact k)
theorem opd_neI (k : Q (.bool (!decide (i = j)))) : OpD (rNeP K) (.int i) (.int j) Q := opd_neP (min_l (by simp [PyData.depth])) (by
  have e : PyData.eqv (.int i) (.int j) = decide (i = j) := by simp only [PyData.eqv]; exact Bool.beq_eq_decide_eq i j
  rw [e]; exact k)
theorem opd_eqS {x y : Str} (k : Q (.bool (decide (x = y)))) : OpD (rEqP K) (.str x) (.str y) Q := opd_eqP (min_l (by simp [PyData.depth])) (by
  have e : PyData.eqv (.str x) (.str y) = decide (x = y) := by simp only [PyData.eqv]; by_cases h : x = y <;> simp [h]
  rw [e]; exact k)
theorem opd_neS {x y : Str} (k : Q (.bool (!decide (x = y)))) : OpD (rNeP K) (.str x) (.str y) Q := opd_neP (min_l (by simp [PyData.depth])) (by
  have e : PyData.eqv (.str x) (.str y) = decide (x = y) := by simp only [PyData.eqv]; by_cases h : x = y <;> simp [h]
  rw [e]; exact k)
theorem atI_in {α : Type} {xs : List α} {k : Int} (h0 : 0 ≤ k) (h1 : k < xs.length) : atI xs k = some (xs[k.toNat]'(by omega)) := by
  obtain ⟨n, rfl⟩ : ∃ n : Nat, k = (n : Int) := ⟨k.toNat, by omega⟩
  exact atI_nat (by simp)
/-- an item of a mapped list, told by a default -/
theorem atI_map {α : Type} {xs : List α} {f : α → D} {k : Int} (a : α) (h0 : 0 ≤ k) (h1 : k < xs.length) : atI (xs.map f) k = some (f (xs.getD k.toNat a)) := by
  have hk : k.toNat < xs.length := by omega
  have e := atI_in (xs := xs.map f) h0 (by rw [List.length_map]; exact h1)
  rw [e, List.getElem_map, List.getD_eq_getElem?_getD, List.getElem?_eq_getElem hk]
  rfl
theorem opd_ixM {α : Type} {xs : List α} {f : α → D} {k : Int} (a : α) (h0 : 0 ≤ k) (h1 : k < xs.length) (q : Q (f (xs.getD k.toNat a))) : OpD (rIxA K) (.list (xs.map f)) (.int k) Q := opd_ixL (atI_map a h0 h1) q
end

theorem rng_at {lo : Int} {n k : Nat} {d : D} (h : ((rngI lo n).map PyData.int)[k]? = some d) : k < n ∧ d = .int (lo + (k : Int)) := by
  have hk : k < n := by
    have := (List.getElem?_eq_some_iff.mp h).1
    rw [List.length_map, rngI_len] at this
    exact this
  rw [List.getElem?_map, rngI_get hk] at h
  exact ⟨hk, (Option.some.inj h).symm⟩
theorem rng_size (lo : Int) (n : Nat) : ((rngI lo n).map PyData.int).length = n := by rw [List.length_map, rngI_len]
theorem map_at {α : Type} {xs : List α} {f : α → D} {k : Nat} {d : D} (h : (xs.map f)[k]? = some d) : ∃ x, xs[k]? = some x ∧ d = f x := by
  rw [List.getElem?_map] at h
  cases e : xs[k]? with
  | none => rw [e] at h; cases h
  | some x => rw [e] at h; exact ⟨x, rfl, (Option.some.inj h).symm⟩

/-- what a slot that holds data gives on -/
def VQ (s : Option Slot) (Q : D → Env → Prop) (ρ : Env) : Prop := match s with
  | some (.val d) => Q d ρ
  | _ => False
theorem ex_vr {ρ : Env} {i : Nat} {Q : D → Env → Prop} (h : VQ ρ[i]? Q ρ) : EX (tVar i) ρ Q := by
  unfold VQ at h
  split at h
  · rename_i d e
    exact ex_var e h
  · exact h.elim

section
variable {K : PySem.W.Frag} {Q : D → Prop} {d : D}
/-- two times the same datum -/
theorem opd_eqSelf (h : d.depth ≤ 60) (k : Q (.bool true)) : OpD (rEqP K) d d Q := fun F H x y e rx ry Z z => opd_eqP (Q := Q) (min_l h) (by rw [PySem.SeqAt.eqv_refl_plain d (Rp.plain d rx)]; exact k) F H x y e rx ry Z z
theorem opd_neSelf (h : d.depth ≤ 60) (k : Q (.bool false)) : OpD (rNeP K) d d Q := fun F H x y e rx ry Z z => opd_neP (Q := Q) (min_l h) (by rw [PySem.SeqAt.eqv_refl_plain d (Rp.plain d rx)]; exact k) F H x y e rx ry Z z
/-! pairs of ints -/
def ltP (a b : Int × Int) : Bool := decide (a.1 < b.1 ∨ a.1 = b.1 ∧ a.2 < b.2)
def encP (p : Int × Int) : D := .tuple [.int p.1, .int p.2]
theorem dataLt_P (a b : Int × Int) : PySem.W.dataLt (encP a) (encP b) = ltP a b := by
  unfold encP ltP
  rw [PySem.W.dataLt_pair rfl rfl]
  simp only [PyData.eqv, PySem.W.dataLt_int]
  by_cases h : a.1 = b.1
  · by_cases h2 : a.2 = b.2
    · simp [h, h2]
    · simp [h, h2]
  · simp [h]
def minPs : List (Int × Int) → Int × Int
  | [] => (0, 0)
  | p :: ps => ps.foldl (fun a y => if ltP y a = true then y else a) p
theorem minD_P (p : Int × Int) (ps : List (Int × Int)) : PySem.W.minD (encP p) (ps.map encP) = encP (minPs (p :: ps)) := by
  have h : ∀ (qs : List (Int × Int)) (a : Int × Int), (qs.map encP).foldl (fun a y => if PySem.W.dataLt y a then y else a) (encP a) = encP (qs.foldl (fun a y => if ltP y a = true then y else a) a) := by
    intro qs
    induction qs with
    | nil => intro a; rfl
    | cons q qs ih =>
      intro a
      simp only [List.map_cons, List.foldl_cons, dataLt_P]
      by_cases h : ltP q a = true
      · rw [if_pos h, if_pos h]; exact ih q
      · rw [if_neg h, if_neg h]; exact ih a
  exact h ps p
theorem alike_P (ps : List (Int × Int)) : PySem.W.AlikeAll (ps.map encP) := ⟨fun x hx y hy => by
  obtain ⟨a, _, rfl⟩ := List.mem_map.mp hx
  obtain ⟨b, _, rfl⟩ := List.mem_map.mp hy
  rfl, fun x hx => by
  obtain ⟨a, _, rfl⟩ := List.mem_map.mp hx
  intro z; cases z⟩
theorem cbd_minP {ps : List (Int × Int)} (h : 0 < ps.length) (k : Q (encP (minPs ps))) : CbD (rMnD K) [.list (ps.map encP)] Q := by
  cases ps with
  | nil => cases h
  | cons p ps =>
    refine cbd_minD (alike_P (p :: ps)) (depthAll_le (dpn_map (xs := p :: ps) fun x _ => dpn_tup (dpn_cons dpn_int (dpn_cons dpn_int dpn_nil)))) ?_
    have e := minD_P p ps
    show Q (PySem.W.minD (encP p) (ps.map encP))
    rw [e]
    exact k
theorem minPs_mem : ∀ {ps : List (Int × Int)}, 0 < ps.length → minPs ps ∈ ps
  | p :: ps, _ => by
    have : ∀ (qs : List (Int × Int)) (a : Int × Int), qs.foldl (fun a y => if ltP y a = true then y else a) a ∈ a :: qs := by
      intro qs
      induction qs with
      | nil => intro a; simp
      | cons e es ih =>
        intro a
        rw [List.foldl_cons]
        have q := ih (if ltP e a = true then e else a)
        by_cases c : ltP e a = true
        · rw [if_pos c] at q ⊢; exact List.mem_cons_of_mem _ q
        · rw [if_neg c] at q ⊢
          rcases List.mem_cons.mp q with q | q
          · rw [q]; exact List.mem_cons_self
          · exact List.mem_cons_of_mem _ (List.mem_cons_of_mem _ q)
    exact this ps p
end

/-! ### the ends: nothing asked, the law's own argument -/
section
variable {P : Program} {w : World} {K : PySem.W.Frag} {mg : Str → Option Value} {base : Heap} {f : Addr} {fd : FuncData} {k : Nat} {ps : List Str}
theorem fn_no {sp : Sp} (no : ∀ vs H Q E, ¬ sp vs H Q E) : FnOk P w K mg base CX0 k f fd ps sp := ⟨fun vs H Q E h => absurd h (no vs H Q E), fun A outer s H args us vs Q E _ _ _ _ h => absurd h (no vs H Q E)⟩
theorem fn_noP {R : List D → (D → Prop) → Prop} (no : ∀ ds Z, ¬ R ds Z) : FnOk P w K mg base CX0 k f fd ps (spP R) := fn_no fun vs H Q E h => by
  obtain ⟨F, ds, Z, _, _, q, _⟩ := h
  exact no ds Z q
theorem fn_noS {R : Stt → List D → (D → Stt → Prop) → Prop} (no : ∀ S ds Z, ¬ R S ds Z) : FnOk P w K mg base CX0 k f fd ps (spS R) := fn_no fun vs H Q E h => by
  obtain ⟨F, s, as, S, us, ds, Z, _, _, _, _, _, q, _⟩ := h
  exact no S ds Z q
/-- the written part holds no list -/
def noLs (K : PySem.W.Frag) : Bool := K.all fun p => match p.2.cls with
  | .type s => !(s == "list")
  | _ => true
theorem noLs_at {K : PySem.W.Frag} (h : noLs K = true) : ∀ {a : Addr} {o : Obj}, K.lookup a = some o → o.cls ≠ .type "list" := by
  intro a o e q
  unfold noLs at h
  induction K with
  | nil => cases e
  | cons p r ih =>
    obtain ⟨b, x⟩ := p
    simp only [List.all_cons, Bool.and_eq_true] at h
    simp only [List.lookup] at e
    split at e
    · cases e
      have h1 := h.1
      rw [q] at h1
      revert h1
      decide
    · exact ih h.2 e
theorem sqL_noK {H : Hp} {a : Addr} {xs : List V} (h : noLs K = true) (s : SqL K H a xs) : Rd H a (.lst xs) := by
  rcases s with s | ⟨o, its, n, e, c, _⟩
  · exact s
  · exact absurd c (noLs_at h e)
theorem rpa_ints {F : Hp} : ∀ ns : List Int, RpA F (ns.map V.int) (ns.map PyData.int)
  | [] => .nil
  | n :: ns => .cons (.int n) (rpa_ints ns)
theorem sp_law {R : List D → (D → Prop) → Prop} {H : Hp} {a : Addr} {ns : List Int} {E : XK} (nl : noLs K = true) (s : SqL K H a (ns.map V.int)) (hR : R [.list (ns.map .int)] fun d => d = .bool true) : spP R [.ref a] H (fun v _ => v = .bl true) E :=
  ⟨H, _, _, fun _ _ h => h, .cons (.lst (sqL_noK nl s) (rpa_ints ns)) .nil, hR, fun d v F' H' e _ rv => by
    subst e
    cases rv
    rfl⟩
end
end Pu
/-! the laws' drawing state: its making and its draws, once for all laws -/
namespace Pu
open PySem L2
def R_state : List D → (Stt → Prop) → Prop := fun ds Z => ∃ ns : List Int, ds = [.list (ns.map .int)] ∧ ∀ S, Ok S → Z S
/-- what is drawn: any number below the bound -/
def R_take : Stt → List D → (D → Stt → Prop) → Prop := fun S ds Z => ∃ m : Int, ds = [.int m] ∧ 1 ≤ m ∧ m < 1073741824 ∧ Ok S ∧ ∀ r S', 0 ≤ r → r < m → Ok S' → Z (.int r) S'
def T_state (K : PySem.W.Frag) : TS :=
    (tSeq (tAsg (tLc (iList K (tSl (rSl K) (tVar 0) tNoPart (tPart (tC (.int 63))))) (gName 2) tYes (tCB (rAbs) (tCons (tVar 2) tNil)) [2]) (gName 1))
    (tSeq (tIfS (tTest (tOp (rEqP K) (tCB (rLen K) (tCons (tVar 1) tNil)) (tC (.int 0))))
      (tAsg (tLst (tCons (tC (.int 0)) tNil)) (gName 1))
      tNext)
    (tRet (tLst (tCons (tC (.int 0)) (tCons (tVar 1) tNil))))))
def T_take (K : PySem.W.Frag) : TS :=
    (tSeq (tAsg (tOp (rIxA K) (tVar 0) (tC (.int 1))) (gName 2))
    (tSeq (tAsg (tOp (rI (fun _ j => 0 < j) fun i j => .int (i % j)) (tOp (rIxA K) (tVar 0) (tC (.int 0))) (tCB (rLen K) (tCons (tVar 2) tNil))) (gName 3))
    (tSeq (tAsg (tOp (rIxA K) (tVar 2) (tVar 3)) (gName 4))
    (tSeq (tIfS (tTest (tOp (rI0 fun i j => .bl (decide (j ≤ i))) (tVar 4) (tC (.int 1000000000000000000))))
      (tSeq (tAsg (tOp (rI CDiv fun i j => .int (i / j)) (tVar 4) (tVar 1)) (gSub (tVar 2) (tVar 3) rSetL))
    (tRet (tOp (rI (fun _ j => 0 < j) fun i j => .int (i % j)) (tVar 4) (tVar 1))))
      tNext)
    (tSeq (tAsg (tOp (rPlus K) (tOp (rIxA K) (tVar 0) (tC (.int 0))) (tC (.int 1))) (gSub (tVar 0) (tC (.int 0)) rSetL))
    (tSeq (tAsg (tOp (rI (fun _ j => 0 < j) fun i j => .int (i % j)) (tCB (rInt) (tCons (tOp (rPlus K) (tOp (rI CMul fun i j => .int (i * j)) (tVar 4) (tC (.int 48271))) (tOp (rI CMul fun i j => .int (i * j)) (tOp (rIxA K) (tVar 0) (tC (.int 0))) (tC (.int 69621)))) tNil)) (tC (.int 2147483647))) (gName 5))
    (tSeq (tAsg (tOp (rI (fun _ j => 0 < j) fun i j => .int (i % j)) (tCB (rInt) (tCons (tOp (rPlus K) (tOp (rI CMul fun i j => .int (i * j)) (tVar 5) (tC (.int 16807))) (tOp (rI CMul fun i j => .int (i * j)) (tOp (rIxA K) (tVar 0) (tC (.int 0))) (tC (.int 7919)))) tNil)) (tC (.int 1000000007))) (gName 5))
    (tRet (tOp (rI (fun _ j => 0 < j) fun i j => .int (i % j)) (tOp (rI CDiv fun i j => .int (i / j)) (tVar 5) (tC (.int 7))) (tVar 1))))))))))
theorem W.first {F H : Hp} {N : List Str} {vs : List V} {ds : List D} (fh : Same F H) (r : RpA F vs ds) : W { F0 := F, H0 := H, M := Non } (startE N ds) (L2.start N vs) F H := by
  refine ⟨fun _ => [], Gr.refl fh, ?_, fun i s e => ?_, (fun i p m => by cases m), (fun i j p m => by cases m), fun _ _ => rfl, (fun s as e => by cases e)⟩
  · unfold L2.start startE
    rw [List.length_append, List.length_append, List.length_map, List.length_map, List.length_replicate, List.length_replicate, r.len]
  · rcases startE_get e with ⟨d, e2, rfl⟩ | rfl
    · obtain ⟨v, e1, rv⟩ := r.get e2
      exact ⟨rfl, v, start_get e1, rv⟩
    · rfl
theorem mem_cut {xs : List D} {lo hi : Option Int} {x : D} (h : x ∈ cutD xs lo hi) : x ∈ xs := List.mem_of_mem_drop (List.mem_of_mem_take h)
theorem cut_map {α : Type} {f : α → D} (xs : List α) (lo hi : Option Int) : ∃ ys : List α, cutD (xs.map f) lo hi = ys.map f ∧ ys.length ≤ xs.length := by
  refine ⟨(xs.drop (HT.sIx (xs.map f).length 0 lo)).take (HT.sIx (xs.map f).length (xs.map f).length hi - HT.sIx (xs.map f).length 0 lo), ?_, ?_⟩
  · unfold cutD
    rw [← List.map_drop, ← List.map_take]
  · rw [List.length_take, List.length_drop]
    omega
theorem run_state {K : PySem.W.Frag} {vs : List V} {H : Hp} {Q : VK} {E : XK} (h : spN R_state vs H Q E) : T_state K { nx := fun _ H' => Q .non H', rt := Q } (L2.start ["script", "cells", "cell"] vs) H := by
  obtain ⟨F, ds, Z, fh, r, ⟨ns, rfl, hz⟩, z⟩ := h
  -- the cells, then the state
  have s1 : SX (tAsg (tLc (iList K (tSl (rSl K) (tVar 0) tNoPart (tPart (tC (.int 63))))) (gName 2) tYes (tCB (rAbs) (tCons (tVar 2) tNil)) [2]) (gName 1)) [.val (.list (ns.map .int)), .emp, .emp]
      { nx := fun ρ' => ∃ cs : List Int, (cs.length ≤ 63 ∧ ∀ c ∈ cs, 0 ≤ c) ∧ ρ' = [.val (.list (ns.map .int)), .own (cs.map .int), .emp], rt := fun _ _ => False } := by
    refine sx_asgO (eo_lcP (α := Int) (fun _ => true) (fun c => .int (c.natAbs : Int)) (ei_list (ex_of (eo_sl (ex_var rfl (ep_no (ep_some (ex_int ⟨63, rfl, slo_L ?_⟩))))))))
    obtain ⟨ys, ey, ly⟩ : ∃ ys : List Int, cutD (ns.map PyData.int) none (some 63) = ys.map PyData.int ∧ ys.length ≤ 63 := by
      refine ⟨(ns.drop (HT.sIx (ns.map PyData.int).length 0 none)).take (HT.sIx (ns.map PyData.int).length (ns.map PyData.int).length (some 63) - HT.sIx (ns.map PyData.int).length 0 none), ?_, ?_⟩
      · unfold cutD
        rw [← List.map_drop, ← List.map_take]
      · rw [List.length_take]
        refine Nat.le_trans (Nat.min_le_left _ _) ?_
        unfold HT.sIx
        simp
        omega
    refine ⟨_, rfl, ys, .int, ey, by omega, fun i hi => by simp at hi; subst hi; rfl, fun x _ => sg_name (by simp) ⟨rfl, et_yes ⟨rfl, rfl, fun _ => ex_cb (ea_cons (ex_var rfl (ea_nil (cbd_abs ⟨rfl, rfl⟩))))⟩⟩, ?_⟩
    refine nx_same ⟨ys.map fun c => (c.natAbs : Int), ⟨by rw [List.length_map]; exact ly, fun c hc => ?_⟩, ?_⟩
    · obtain ⟨x, _, rfl⟩ := List.mem_map.mp hc
      omega
    · rw [List.filter_eq_self.mpr (fun _ _ => rfl), List.map_map]
      rfl
  have s2 : ∀ cs : List Int, (cs.length ≤ 63 ∧ ∀ c ∈ cs, 0 ≤ c) → SX (tIfS (tTest (tOp (rEqP K) (tCB (rLen K) (tCons (tVar 1) tNil)) (tC (.int 0)))) (tAsg (tLst (tCons (tC (.int 0)) tNil)) (gName 1)) tNext) [.val (.list (ns.map .int)), .own (cs.map .int), .emp]
      { nx := fun ρ' => ∃ cs : List Int, (0 < cs.length ∧ cs.length ≤ 63 ∧ ∀ c ∈ cs, 0 ≤ c) ∧ ρ' = [.val (.list (ns.map .int)), .own (cs.map .int), .emp], rt := fun _ _ => False } := fun cs hcs => by
    refine sx_if (et_test (ex_op (ex_lenO rfl (ex_int (opd_eqP (min_l (by simp [PyData.depth])) ⟨_, rfl, fun hb => ?_, fun hb => ?_⟩)))))
    · exact sx_asgO (eo_lst (ea_cons (ex_int (ea_nil ⟨by simp, nx_same ⟨[0], by simp, rfl⟩⟩))))
    · refine sx_next (nx_same ⟨cs, ⟨?_, hcs⟩, rfl⟩)
      simp only [PyData.eqv, List.length_map, beq_eq_false_iff_ne, ne_eq] at hb
      omega
  have w0 := W.first (N := ["script", "cells", "cell"]) fh r
  refine s1 _ _ F H w0 _ (fun ρ1 σ1 F1 H1 q1 w1 => ?_) (fun _ _ _ _ _ _ q => q.elim) (fun _ _ _ _ q => q.elim) (fun _ _ _ _ q => q.elim)
  obtain ⟨cs, hcs, rfl⟩ := q1
  refine s2 cs hcs _ _ F1 H1 w1 _ (fun ρ2 σ2 F2 H2 q2 w2 => ?_) (fun _ _ _ _ _ _ q => q.elim) (fun _ _ _ _ q => q.elim) (fun _ _ _ _ q => q.elim)
  obtain ⟨cs, hcs, rfl⟩ := q2
  obtain ⟨ad, w2⟩ := w2
  obtain ⟨p, us, ka, k0, k1, k2, kr⟩ := w2.sl 1 _ rfl
  refine ⟨_, k1, by show 2 ≤ sizeLine; decide, fun q hq => ?_⟩
  have nq := w2.newp hq
  have npq : p ≠ q := ne_of_none k2 hq
  have g := w2.gr
  refine z (.cel 0 cs) q [q, p] F2 _ (hz _ ⟨hcs.1, by omega, Int.le_refl 0, hcs.2.2⟩) ⟨g.ff, g.fh.trans (same_upd hq), fun a o e m => same_upd hq _ _ (g.kp a o e m), fun a e => ?_, g.fr⟩ ⟨p, rfl, npq.symm, upd_same, ?_⟩ fun a ha => ?_
  · by_cases ha : a = q
    · rw [ha, upd_same]; intro z; cases z
    · rw [upd_ne ha]; exact g.al a e
  · rw [upd_ne npq, k2, kr.ints_inv]
  · have e : a = q ∨ a = p := by simpa using ha
    rcases e with e | e
    · rw [e]; exact ⟨nq.1, nq.2.1⟩
    · rw [e]; exact ⟨(w2.fz 1 p (by rw [ka]; simp)).1, k0⟩
theorem run_take {K : PySem.W.Frag} {vs : List V} {H : Hp} {Q : VK} {E : XK} (h : spS R_take vs H Q E) : T_take K { nx := fun _ H' => Q .non H', rt := Q } (L2.start ["state", "most", "cells", "at", "cell", "mixed"] vs) H := by
  obtain ⟨F, s, as, S, us, ds, Z, rfl, fh, sa, fn, r, ⟨m, rfl, hm1, hm2, ok, hz⟩, z⟩ := h
  obtain ⟨v, rfl, rv⟩ := r.one
  have ev := rv.int_inv
  subst ev
  cases S with
  | two a b => exact ok.elim
  | dct kvs => exact ok.elim
  | dbl ks => exact ok.elim
  | grd rows => exact ok.elim
  | obj C fs => exact ok.elim
  | dtt kvs => exact ok.elim
  | cel a cs =>
    obtain ⟨c, rfl, ne, hs, hc⟩ := sa
    obtain ⟨hl, hl2, ha, hcs⟩ := ok
    have hlen : (cs.map V.int).length = cs.length := List.length_map _
    have hi0 : 0 ≤ a % (cs.length : Int) := Int.emod_nonneg _ (by omega)
    have hi1 : a % (cs.length : Int) < (cs.length : Int) := Int.emod_lt_of_pos _ (by omega)
    obtain ⟨i, ei⟩ : ∃ i : Nat, a % (cs.length : Int) = (i : Int) := ⟨(a % (cs.length : Int)).toNat, by omega⟩
    have hi : i < cs.length := by omega
    -- cells = state[1]; at = state[0] % len(cells); cell = cells[at]
    refine ⟨_, rfl, .inl ⟨s, _, 1, .ref c, rfl, rfl, .inl (.inl hs), rfl, ?_⟩⟩
    refine ⟨_, rfl, .inl ⟨s, _, 0, .int a, rfl, rfl, .inl (.inl hs), rfl, ?_⟩⟩
    refine ⟨_, rfl, _, cs.length, rfl, .inl ⟨_, .inl (.inl hc), hlen.symm⟩, a, (cs.length : Int), rfl, rfl, by omega, ?_⟩
    refine ⟨_, rfl, _, rfl, .inl ⟨c, _, (i : Int), .int cs[i], rfl, congrArg V.int ei, .inl (.inl hc), atI_nat (by rw [List.getElem?_map, List.getElem?_eq_getElem hi]; rfl), ?_⟩⟩
    refine ⟨_, rfl, _, _, rfl, rfl, _, rfl, ?_⟩
    have gr : ∀ H', (∀ b o, H b = some o → b ≠ s → b ≠ c → H' b = some o) → (∃ o, H' s = some o) → (∃ o, H' c = some o) → Gr (· ∈ [s, c]) F H F H' := fun H' k1 k2 k3 => by
      have fs := fn s (by simp)
      have fc := fn c (by simp)
      refine ⟨Same.refl F, fun b o e => k1 b o (fh b o e) (fun q => by rw [q, fs] at e; cases e) (fun q => by rw [q, fc] at e; cases e), fun b o e m => k1 b o e (fun q => m (by simp [q])) (fun q => m (by simp [q])), fun b e => ?_, fun _ _ z => z⟩
      by_cases h1 : b = s
      · obtain ⟨o, k⟩ := k2
        rw [h1, k]; intro z; cases z
      · by_cases h2 : b = c
        · obtain ⟨o, k⟩ := k3
          rw [h2, k]; intro z; cases z
        · cases q : H b with
          | none => exact absurd q e
          | some o => rw [k1 b o q h1 h2]; intro z; cases z
    refine ite2 (fun hbig => ?_) (fun hsmall => ?_)
    · -- cells[at] = cell // most; return cell % most
      refine ⟨_, rfl, _, rfl, cs[i], m, rfl, rfl, ⟨by omega, by omega⟩, ?_⟩
      refine ⟨_, rfl, _, rfl, c, _, (i : Int), i, rfl, congrArg V.int ei, hc, ?_, ?_⟩
      · unfold ixN
        rw [hlen, if_pos (by omega), if_pos (by omega)]
        simp
      refine ⟨_, rfl, _, rfl, cs[i], m, rfl, rfl, by omega, ?_⟩
      have hd : 0 ≤ cs[i] := hcs _ (List.getElem_mem hi)
      refine z (.int (cs[i] % m)) (.cel a (cs.set i (cs[i] / m))) _ F _ (hz _ _ (Int.emod_nonneg _ (by omega)) (Int.emod_lt_of_pos _ (by omega)) ⟨by rw [List.length_set]; exact hl, by rw [List.length_set]; exact hl2, ha, fun x hx => ?_⟩) (gr _ (fun b o e h1 h2 => by rw [upd_ne h2]; exact e) ⟨_, by rw [upd_ne ne]; exact hs⟩ ⟨_, upd_same⟩) ⟨c, rfl, ne, by rw [upd_ne ne]; exact hs, by rw [upd_same, List.map_set]⟩ fn (.int _)
      rcases List.mem_or_eq_of_mem_set hx with h | h
      · exact hcs x h
      · rw [h]; exact Int.ediv_nonneg hd (by omega)
    · -- state[0] = state[0] + 1
      refine ⟨_, rfl, .inl ⟨s, _, 0, .int a, rfl, rfl, .inl (.inl hs), rfl, ?_⟩⟩
      refine .inl (.inl ⟨a, 1, rfl, rfl, ?_⟩)
      refine ⟨_, rfl, s, _, 0, 0, rfl, rfl, hs, rfl, ?_⟩
      have hs' : upd H s (.lst ([.int a, .ref c].set 0 (.int (a + 1)))) s = some (.lst [.int (a + 1), .ref c]) := upd_same
      -- mixed
      refine ⟨_, rfl, _, _, rfl, rfl, .inr ⟨by decide, by decide⟩, ?_⟩
      refine ⟨_, rfl, .inl ⟨s, _, 0, .int (a + 1), rfl, rfl, .inl (.inl hs'), rfl, ?_⟩⟩
      refine ⟨_, _, rfl, rfl, .inr ⟨by decide, by decide⟩, ?_⟩
      refine .inl (.inl ⟨_, _, rfl, rfl, ?_⟩)
      refine .inl ⟨_, rfl, ?_⟩
      refine ⟨_, _, rfl, rfl, (by decide : (0 : Int) < 2147483647), ?_⟩
      refine ⟨_, rfl, _, _, rfl, rfl, .inr ⟨by decide, by decide⟩, ?_⟩
      refine ⟨_, rfl, .inl ⟨s, _, 0, .int (a + 1), rfl, rfl, .inl (.inl hs'), rfl, ?_⟩⟩
      refine ⟨_, _, rfl, rfl, .inr ⟨by decide, by decide⟩, ?_⟩
      refine .inl (.inl ⟨_, _, rfl, rfl, ?_⟩)
      refine .inl ⟨_, rfl, ?_⟩
      refine ⟨_, _, rfl, rfl, (by decide : (0 : Int) < 1000000007), ?_⟩
      refine ⟨_, rfl, _, _, rfl, rfl, ⟨by decide, by decide⟩, ?_⟩
      refine ⟨_, rfl, _, _, rfl, rfl, by omega, ?_⟩
      exact z _ (.cel (a + 1) cs) _ F _ (hz _ _ (Int.emod_nonneg _ (by omega)) (Int.emod_lt_of_pos _ (by omega)) ⟨hl, hl2, by omega, hcs⟩) (gr _ (fun b o e h1 h2 => by rw [upd_ne h1]; exact e) ⟨_, upd_same⟩ ⟨_, by rw [upd_ne ne.symm]; exact hc⟩) ⟨c, rfl, ne, hs', by rw [upd_ne ne.symm]; exact hc⟩ fn (.int _)

section
variable {P : Program} {w : World} {K : PySem.W.Frag} {mg : Str → Option Value} {base : Heap} {f : Addr} {fd : FuncData} {k : Nat} {x qual : Str} {st : Stmt}
theorem fn_newstate (F : Fun K x qual st f fd) (S : FnScope ["script", "cells", "cell"] ["script"] (defScope st))
    (body : ∀ (cdv : Value) (A : Around) (outer : List PySem.Env) (s : Shared) (H : Hp) (E : XK), Room k (A.deeper (PyProof.Rows.envOfC qual (defScope st) s.heap.objs.size f cdv)) →
      PSs (cxOf CX0 P w K mg base ["script", "cells", "cell"] qual (defScope st) f cdv A outer s H E).nox (defBody st) (T_state K)) : FnOk P w K mg base CX0 (k + 1) f fd ["script"] (spN R_state) :=
  F.ok S (fun vs H Q E h => by
    obtain ⟨F, ds, Z, _, r, ⟨ns, rfl, _⟩, _⟩ := h
    rw [r.len]; rfl) fun cdv A outer s H vs Q E hr h => ⟨_, body cdv A outer s H E hr, run_state h⟩
theorem fn_take (F : Fun K x qual st f fd) (S : FnScope ["state", "most", "cells", "at", "cell", "mixed"] ["state", "most"] (defScope st))
    (body : ∀ (cdv : Value) (A : Around) (outer : List PySem.Env) (s : Shared) (H : Hp) (E : XK), Room k (A.deeper (PyProof.Rows.envOfC qual (defScope st) s.heap.objs.size f cdv)) →
      PSs (cxOf CX0 P w K mg base ["state", "most", "cells", "at", "cell", "mixed"] qual (defScope st) f cdv A outer s H E).nox (defBody st) (T_take K)) : FnOk P w K mg base CX0 (k + 1) f fd ["state", "most"] (spS R_take) :=
  F.ok S (fun vs H Q E h => by
    obtain ⟨F, s, as, S, us, ds, Z, rfl, _, _, _, r, ⟨m, rfl, _⟩, _⟩ := h
    rw [List.length_cons, r.len]; rfl) fun cdv A outer s H vs Q E hr h => ⟨_, body cdv A outer s H E hr, run_take h⟩
end
end Pu
/-! PuC: xs[::-1], xs.index(n), sorted rows -/
namespace Pu
open PySem L2
section
variable {ρ : Pu.Env} {te to : TE} {t : TA} {K : PySem.W.Frag} {Q : D → Pu.Env → Prop}
theorem ex_revL (h : EX te ρ fun d ρ1 => ∃ ds, d = .list ds ∧ Q (.list ds.reverse) ρ1) : EX (tRevL K te) ρ Q := fun B ad σ F H w Z z =>
  h B ad σ F H w _ fun d1 ρ1 x F1 H1 q1 p1 r1 => by
    obtain ⟨ds, rfl, q⟩ := q1
    obtain ⟨a, xs, rfl, h1, h2⟩ := r1.lst_inv
    refine ⟨a, xs, rfl, sqL_rd h1 p1.wa.gr.fh, fun p hp => ?_⟩
    have g := Gr.frz (F := F1) (H := H1) (H' := upd H1 p (.lst xs.reverse)) (p := p) (vs := xs.reverse) p1.wa.gr.fh (same_upd hp) hp upd_same
    exact z _ ρ1 _ _ _ q (p1.trans (Post.of p1.wa g)) (.lst (.inl upd_same) (h2.rev.up g.ff))
/-- a method that changes nothing -/
def MtD (r : V → List V → Hp → VK → Prop) (d : D) (es : List D) (Q : D → Prop) : Prop := ∀ (F H : Hp) (x : V) (vs : List V), Same F H → Rp F x d → RpA F vs es → ∀ Z : VK, (∀ e v F' H', Q e → Gr Non F H F' H' → Rp F' v e → Z v H') → r x vs H Z
theorem ex_bmL {r : V → List V → Hp → VK → Prop} (h : EX to ρ fun d ρ1 => ∃ ds, d = .list ds ∧ EA t ρ1 fun es ρ2 => MtD r (.list ds) es fun e => Q e ρ2) : EX (tBM K "list" r to t) ρ Q := fun B ad σ F H w Z z =>
  h B ad σ F H w _ fun d1 ρ1 x F1 H1 q1 p1 r1 => by
    obtain ⟨ds, rfl, q⟩ := q1
    obtain ⟨a, xs, rfl, h1, h2⟩ := r1.lst_inv
    refine ⟨?_, q B ad σ F1 H1 p1.wa _ fun es ρ2 vs F2 H2 q2 p2 r2 => ?_⟩
    · exact .inl ⟨rfl, xs, sqL_rd h1 p1.wa.gr.fh⟩
    · exact q2 F2 H2 (.ref a) vs p2.wa.gr.fh (r1.up p2.gr.ff) r2 Z fun e v F' H' k g rv => z e ρ2 v F' H' k ((p1.trans p2).trans (Post.of p2.wa g)) rv
theorem rpa_intsI {F : Hp} : ∀ {ns : List Int} {vs : List V}, RpA F vs (ns.map .int) → vs = ns.map V.int
  | [], _, h => by cases h; rfl
  | n :: ns, _, h => by
    cases h with
    | cons h1 h2 => rw [h1.int_inv, rpa_intsI h2]; rfl
theorem mtd_indexI {ns : List Int} {n : Int} {Q : D → Prop} (hn : n ∈ ns) (k : Q (.int (ns.idxOf n : Nat))) : MtD (rIndex K) (.list (ns.map .int)) [.int n] Q := fun F H x vs e r rv Z z => by
  obtain ⟨a, xs, rfl, h1, h2⟩ := r.lst_inv
  obtain ⟨v, rfl, rv1⟩ := rv.one
  have e1 := rv1.int_inv
  have e2 := rpa_intsI h2
  subst e1 e2
  have hl : ns.idxOf n < ns.length := List.idxOf_lt_length_iff.mpr hn
  refine ⟨a, ns.map V.int, .int n, ns.idxOf n, .int n, rfl, rfl, sqL_rd h1 e, rfl, ?_, ?_, ?_, fun m z' hm hz => ?_, z _ _ F H k (Gr.refl e) (.int _)⟩
  · rw [List.all_eq_true]
    intro x hx
    obtain ⟨i, _, rfl⟩ := List.mem_map.mp hx
    rfl
  · rw [List.getElem?_map, List.getElem?_eq_getElem hl, List.getElem_idxOf hl]; rfl
  · show (n == n) = true
    simp
  · rw [List.getElem?_map] at hz
    have hml : m < ns.length := by omega
    rw [List.getElem?_eq_getElem hml] at hz
    cases hz
    show (ns[m] == n) = false
    exact List.not_of_lt_findIdx (p := fun x => x == n) hm
end
/-! sorted -/
theorem uniq_of {α : Type} {le : α → α → Bool} (anti : ∀ a b, le a b = true → le b a = true → a = b) : ∀ {xs ys : List α}, xs.Perm ys → xs.Pairwise (fun a b => le a b = true) → ys.Pairwise (fun a b => le a b = true) → xs = ys
  | [], ys, p, _, _ => (List.nil_perm.mp p).symm
  | a :: xs, [], p, _, _ => absurd p.length_eq (by simp)
  | a :: xs, b :: ys, p, h1, h2 => by
    have e : a = b := by
      by_cases e : a = b
      · exact e
      · have ha : a ∈ ys := (List.mem_cons.mp (p.mem_iff.mp (by simp : a ∈ a :: xs))).resolve_left e
        have hb : b ∈ xs := (List.mem_cons.mp (p.mem_iff.mpr (by simp : b ∈ b :: ys))).resolve_left (fun q => e q.symm)
        exact anti a b ((List.pairwise_cons.mp h1).1 b hb) ((List.pairwise_cons.mp h2).1 a ha)
    subst e
    rw [uniq_of anti (p.cons_inv) (List.pairwise_cons.mp h1).2 (List.pairwise_cons.mp h2).2]
theorem sortD_of {α : Type} {enc : α → D} {xs ys : List α} {lt : α → α → Bool} (hlt : ∀ a b, PySem.W.dataLt (enc a) (enc b) = lt a b) (ntr : ∀ a b c, lt b a = false → lt c b = false → lt c a = false) (as : ∀ a b, lt a b = true → lt b a = false) (tot : ∀ a b, lt a b = false → lt b a = false → a = b)
    (hp : xs.Perm ys) (hs : ys.Pairwise fun a b => lt a b = true) : sortD (xs.map enc) = ys.map enc := by
  have e := PySem.W.sort_maps (r := fun a b => !lt b a) (s := PySem.W.dataLe false id) enc (l := xs) (fun a _ b _ => by
    show (!lt b a) = (!PySem.W.dataLt (enc b) (enc a))
    rw [hlt])
  show (xs.map enc).mergeSort (PySem.W.dataLe false id) = ys.map enc
  rw [← e]
  have u : xs.mergeSort (fun a b => !lt b a) = ys := uniq_of (le := fun a b => !lt b a) (fun a b h1 h2 => by
      simp only [Bool.not_eq_true'] at h1 h2
      exact tot a b h2 h1) ((List.mergeSort_perm _ _).trans hp) (List.pairwise_mergeSort (fun a b c h1 h2 => by
        simp only [Bool.not_eq_true'] at h1 h2 ⊢
        exact ntr a b c h1 h2) (fun a b => by
        cases h : lt b a with
        | false => rfl
        | true => simp [as _ _ h]) xs) (hs.imp fun {a b} h => by simp [as _ _ h])
  rw [u]
/-! ### dict(pairs of ints), d[k] -/
section
variable {ρ : Pu.Env} {ty : TE} {K : PySem.W.Frag} {Q : D → Pu.Env → Prop}
def kvOf (p : Int × Int) : Key × V := ((.inl p.1 : Key), V.int p.2)
/-- pairs with different keys -/
def R_dict : List D → (Stt → Prop) → Prop := fun ds Z => ∃ kvs : List (Int × Int), ds = [.list (kvs.map encP)] ∧ (kvs.map Prod.fst).Nodup ∧ Z (.dct kvs)
theorem merge_new : ∀ (more acc : List (Int × Int)), ((acc ++ more).map Prod.fst).Nodup → mergeK (acc.map kvOf) (more.map kvOf) = (acc ++ more).map kvOf
  | [], acc, _ => by simp [mergeK]
  | p :: more, acc, h => by
    have h2 : ((acc ++ [p] ++ more).map Prod.fst).Nodup := by simpa using h
    have ih := merge_new more (acc ++ [p]) h2
    have np : ∀ q ∈ acc, q.1 ≠ p.1 := fun q hq e => by
      have h3 : ((acc.map Prod.fst) ++ (p.1 :: more.map Prod.fst)).Nodup := by simpa using h
      exact (List.nodup_append.mp h3).2.2 q.1 (List.mem_map_of_mem hq) p.1 (by simp) e
    have e1 : ((acc.map kvOf).any fun kv => decide (kv.1 = (kvOf p).1)) = false := by
      rw [List.any_eq_false]
      intro x hx
      obtain ⟨q, hq, rfl⟩ := List.mem_map.mp hx
      simp only [decide_eq_true_eq, kvOf, Sum.inl.injEq]
      exact np q hq
    show mergeK (putK (acc.map kvOf) (kvOf p).1 (kvOf p).2) (more.map kvOf) = _
    unfold putK
    rw [e1, if_neg Bool.false_ne_true]
    have e2 : acc.map kvOf ++ [((kvOf p).1, (kvOf p).2)] = (acc ++ [p]).map kvOf := by simp
    rw [e2, ih]
    simp
theorem paired_of {H F : Hp} (e : Same F H) : ∀ {kvs : List (Int × Int)} {xs : List V}, RpA F xs (kvs.map encP) → ∃ ps : List Addr, xs = ps.map V.ref ∧ Paired (fun p kv => SqT K H p [kV kv.1, kv.2]) ps (kvs.map kvOf)
  | [], _, h => by cases h; exact ⟨[], rfl, .nil⟩
  | p :: kvs, _, h => by
    cases h with
    | cons h1 h2 =>
      obtain ⟨ps, rfl, hp⟩ := paired_of e h2
      obtain ⟨a, ys, rfl, g1, g2⟩ := h1.tup_inv
      obtain ⟨u, v, rfl, r1, r2⟩ := g2.two
      have e1 := r1.int_inv
      have e2 := r2.int_inv
      subst e1 e2
      exact ⟨a :: ps, rfl, .cons (sqT_rd g1 e) hp⟩
theorem dict_fits {H : Hp} {vs : List V} {Q : VK} {E : XK} (h : spN R_dict vs H Q E) : ∃ (a : Addr) (ps : List Addr) (kvs : List (Key × V)), vs = [.ref a] ∧ SqL K H a (ps.map V.ref) ∧ Paired (fun p kv => SqT K H p [kV kv.1, kv.2]) ps kvs ∧
    ∀ p, H p = none → Q (.ref p) (upd H p (.dK (mergeK [] kvs))) := by
  obtain ⟨F, ds, Z, e, r, ⟨kvs, rfl, nd, hz⟩, z⟩ := h
  obtain ⟨v, rfl, rv⟩ := r.one
  obtain ⟨a, xs, rfl, h1, h2⟩ := rv.lst_inv
  obtain ⟨ps, rfl, hp⟩ := paired_of (K := K) e h2
  refine ⟨a, ps, kvs.map kvOf, rfl, sqL_rd h1 e, hp, fun p hn => ?_⟩
  have em : mergeK [] (kvs.map kvOf) = kvs.map kvOf := merge_new kvs [] nd
  rw [em]
  exact z (.dct kvs) p [p] F _ hz (Gr.heap e (same_upd hn)) ⟨rfl, upd_same⟩ fun b hb => by
    rw [List.mem_singleton.mp hb]
    refine ⟨?_, hn⟩
    cases q : F p with
    | none => rfl
    | some o => rw [e p o q] at hn; cases hn
theorem cb_dictN {X : Cx} (hcalm : X.calm = true) : CallR X (.type "dict") fun vs H Q => spN R_dict (vs ++ []) H Q E0 := fun pins s σ H vs us Q I r h => call_dictP hcalm pins s σ H vs us Q I r (dict_fits (E := E0) (by have h : spN R_dict (vs ++ []) H Q E0 := h; rw [List.append_nil] at h; exact h))
theorem valV_int : ∀ {kvs : List (Int × Int)} {k v : Int}, kvs.lookup k = some v → valV (kvs.map kvOf) (.inl k : Key) = some (V.int v)
  | [], _, _, h => by cases h
  | p :: kvs, k, v, h => by
    obtain ⟨a, b⟩ := p
    by_cases c : a = k
    · subst c
      simp only [List.lookup, beq_self_eq_true] at h
      cases h
      exact valV_pos rfl
    · have c2 : (k == a) = false := beq_eq_false_iff_ne.mpr (fun q => c q.symm)
      simp only [List.lookup, c2] at h
      rw [List.map_cons, valV_neg (by simp [kvOf, c])]
      exact valV_int h
theorem ex_dget {i : Nat} {S0 : Stt} (h0 : ρ[i]? = some (.st S0)) (h : EX ty ρ fun d ρ1 => ∃ k v kvs, d = .int k ∧ ρ1[i]? = some (.st (.dct kvs)) ∧ kvs.lookup k = some v ∧ Q (.int v) ρ1) : EX (tDGet (tVar i) ty) ρ Q := fun B ad σ F H w Z z => by
  obtain ⟨s0, k0, _⟩ := w.sl i _ h0
  refine ⟨_, k0, h B ad σ F H w _ fun d ρ1 y F1 H1 q1 p1 r1 => ?_⟩
  obtain ⟨k, v, kvs, rfl, h1, hl, q⟩ := q1
  obtain ⟨s1, k1, st1⟩ := p1.wa.sl i _ h1
  have e := k0.symm.trans k1
  cases e
  have ey := r1.int_inv
  subst ey
  have g := DGet.k (k := (.inl k : Key)) st1.2
  have ev := valV_int hl
  have g' : DGet H1 s0 (.int k) (some (.int v)) := by
    have e2 : (kvs.map fun p => ((.inl p.1 : Key), V.int p.2)) = kvs.map kvOf := rfl
    rw [e2, ev] at g
    exact g
  exact ⟨s0, .int v, rfl, g', z (.int v) ρ1 (.int v) F1 H1 q p1 (.int v)⟩
end
/-! ### a op b op c op d, as a test -/
section
open PyProof.Rows
def tCh3 (r r' r'' : R2) (ta tb tc td : TE) : TT := fun σ H Q => ta σ H fun x H1 => tb σ H1 fun y H2 => r x y H2 fun z H3 => ∃ k, z = .bl k ∧
  (if k = true then tc σ H3 fun x3 H4 => r' y x3 H4 fun z2 H5 => ∃ k2, z2 = .bl k2 ∧ (if k2 = true then td σ H5 fun x4 H6 => r'' x3 x4 H6 fun z3 H7 => ∃ k3, z3 = .bl k3 ∧ Q k3 H7 else Q false H5) else Q false H3)
theorem pt_chain3 {X : Cx} {a b c d : Expr} {ta tb tc td : TE} {pos : Pos} {op op' op'' : CmpOp} {r r' r'' : R2} (ho : OpR X (compareOp op) r) (ho' : OpR X (compareOp op') r') (ho'' : OpR X (compareOp op'') r'') (ha : PE X a ta) (hb : PE X b tb) (hc : PE X c tc) (hd : PE X d td)
    (hm : lastMarks [op, op', op''] [b, c, d] = false := by with_unfolding_all rfl) : PT X (.Compare a [op, op', op''] [b, c, d] pos) (tCh3 r r' r'' ta tb tc td) := by
  refine ⟨fun pins s σ H Q I h => ?_⟩
  refine isTrue_chain (thn (ha.run pins s σ H _ I h) fun v s1 ⟨x, H1, I1, r1, q1⟩ => test_link (thn (hb.run pins s1 σ H1 _ I1 q1) fun u s2 ⟨y, H2, I2, r2, q2⟩ => thn (ho pins s2 σ H2 x y v u _ I2 r1 r2 q2) fun _ s3 ⟨z, H3, I3, r3, k, e, q3⟩ => ?_)) hm
  subst e
  cases r3
  refine wpAny_truthy_bool ?_
  cases k with
  | false => exact ite_ff ⟨H3, I3, q3⟩
  | true =>
    refine ite_tt (test_link (thn (hc.run pins s3 σ H3 _ I3 q3) fun u3 s4 ⟨x3, H4, I4, r4, q4⟩ => thn (ho' pins s4 σ H4 y x3 u u3 _ I4 r2 r4 q4) fun _ s5 ⟨z2, H5, I5, r5, k2, e2, q5⟩ => ?_))
    subst e2
    cases r5
    refine wpAny_truthy_bool ?_
    cases k2 with
    | false => exact ite_ff ⟨H5, I5, q5⟩
    | true =>
      refine ite_tt (test_last (thn (hd.run pins s5 σ H5 _ I5 q5) fun u4 s6 ⟨x4, H6, I6, r6, q6⟩ => thn (ho'' pins s6 σ H6 x3 x4 u3 u4 _ I6 r4 r6 q6) fun _ s7 ⟨z3, H7, I7, r7, k3, e3, q7⟩ => ?_))
      subst e3
      cases r7
      exact wpAny_truthy_bool ⟨H7, I7, q7⟩
theorem et_ch3 {ρ : Pu.Env} {r r' r'' : R2} {ta tb tc td : TE} {Q : Bool → Pu.Env → Prop} (h : EX ta ρ fun d1 ρ1 => EX tb ρ1 fun d2 ρ2 => OpD r d1 d2 fun d => ∃ b, d = .bool b ∧ (b = true → EX tc ρ2 fun d3 ρ3 => OpD r' d2 d3 fun d => ∃ b2, d = .bool b2 ∧
    (b2 = true → EX td ρ3 fun d4 ρ4 => OpD r'' d3 d4 fun d => ∃ b3, d = .bool b3 ∧ Q b3 ρ4) ∧ (b2 = false → Q false ρ3)) ∧ (b = false → Q false ρ2)) : ET (tCh3 r r' r'' ta tb tc td) ρ Q := fun B ad σ F H w Z z =>
  h B ad σ F H w _ fun d1 ρ1 x F1 H1 q1 p1 r1 => q1 B ad σ F1 H1 p1.wa _ fun d2 ρ2 y F2 H2 q2 p2 r2 => q2 F2 H2 x y p2.wa.gr.fh (r1.up p2.gr.ff) r2 _ fun d v F3 H3 kd g rv => by
    obtain ⟨b, rfl, k1, k2⟩ := kd
    refine ⟨b, rv.bl_inv, ?_⟩
    have p3 := (p1.trans p2).trans (Post.of p2.wa g)
    cases b with
    | false => exact z false ρ2 F3 H3 (k2 rfl) p3
    | true =>
      show tc σ H3 _
      refine k1 rfl B ad σ F3 H3 p3.wa _ fun d3 ρ3 u F4 H4 q4 p4 r4 => q4 F4 H4 y u p4.wa.gr.fh ((r2.up g.ff).up p4.gr.ff) r4 _ fun d v F5 H5 kd2 g2 rv2 => ?_
      obtain ⟨b2, rfl, m1, m2⟩ := kd2
      refine ⟨b2, rv2.bl_inv, ?_⟩
      have p5 := (p3.trans p4).trans (Post.of p4.wa g2)
      cases b2 with
      | false => exact z false ρ3 F5 H5 (m2 rfl) p5
      | true =>
        show td σ H5 _
        refine m1 rfl B ad σ F5 H5 p5.wa _ fun d4 ρ4 u4 F6 H6 q6 p6 r6 => q6 F6 H6 u u4 p6.wa.gr.fh ((r4.up g2.ff).up p6.gr.ff) r6 _ fun d v F7 H7 kd3 g3 rv3 => ?_
        obtain ⟨b3, rfl, q⟩ := kd3
        exact ⟨b3, rv3.bl_inv, z b3 ρ4 F7 H7 q ((p5.trans p6).trans (Post.of p6.wa g3))⟩
end
/-! ### a list times an int -/
section
open PyProof.Rows
def rRepR : R2 := fun x y H Q => ∃ l k xs, x = .ref l ∧ y = .int k ∧ Rd H l (.lst xs) ∧ (-1000000 ≤ k ∧ k ≤ 1000000) ∧ xs.length * k.toNat ≤ sizeLine ∧ ∀ p, H p = none → Q (.ref p) (upd H p (.lst (List.replicate k.toNat xs).flatten))
theorem op_repR {X : Cx} : OpR X (binaryOp .Mult) rRepR := by
  rintro pins sh σ H x y v u Q I rx ry ⟨l, k, xs, rfl, rfl, hd, ⟨k1, k2⟩, room, q⟩
  cases rx
  obtain ⟨t, rfl⟩ := ry
  obtain ⟨z, its, n, rv, ob⟩ := hd.ok I.hok
  have ln := rv.length
  have sz : its.toArray.size * k.toNat ≤ sizeLine := by rw [List.size_toArray, ← ln]; exact room
  have fits : ¬ (!Builtin.List.listFitsIndex k) = true := by
    rw [fitsIndex_both (by omega) (by omega)]
    decide
  have cap : ¬ its.toArray.size * k.toNat > (2 ^ 63 - 1) / 8 := Nat.not_lt.mpr (Nat.le_trans sz (by decide))
  have long : ¬ Builtin.List.listTooLong (its.toArray.size * k.toNat) = true := by
    rw [notLongL sz]
    decide
  have flat : ∀ m : Nat, List.foldl (fun a b => a ++ b) #[] (List.replicate m its.toArray) = (List.replicate m its).flatten.toArray := fun m => by
    have f := foldl_rep its m []
    rwa [List.nil_append] at f
  have made : List.foldl (fun a b => a ++ b) #[] (List.replicate (if its.toArray.isEmpty = true then 0 else k.toNat) its.toArray) = (List.replicate k.toNat its).flatten.toArray := by
    rw [flat]
    cases its with
    | nil => simp
    | cons a r => rw [if_neg (by simp)]
  refine wpAny_binaryOp_repeat_ref (U := "int") (T := "list") (by decide) ⟨_, ob, rfl⟩ (fun g => typeIs_int g k t) noFill_list_mul F.fills_int_mul F.slot_int_rmul repeat_list F.slot_int_index.lookup (call_meets F.slot_int_rmul (typeIs_int sh k t) F.entry_int_rmul (F.args_int_rmul_2 _ _) (int___rmul___int_list k t l its.toArray n) ⟨ob, rfl, ⟨_, ob, rfl⟩, call_meets F.slot_list_mul ⟨_, ob, rfl⟩ F.entry_list_mul (F.args_list_mul_2 _ _) (AutoListH.list___mul___list_int_3 l its.toArray n k t fits cap long) ⟨ob, ?_⟩⟩)
  rw [made]
  exact ⟨.ref _, _, I.lnew (t' := sh.toks) (rv.rep k.toNat) (by rw [PyProof.Rows.lm_len_rep_flat, Nat.mul_comm]; exact room), rfl, q _ I.fresh⟩
theorem RpA.rep {F : Hp} {vs : List V} {ds : List D} (h : RpA F vs ds) : ∀ k : Nat, RpA F (List.replicate k vs).flatten (List.replicate k ds).flatten
  | 0 => .nil
  | k + 1 => by
    rw [List.replicate_succ, List.replicate_succ, List.flatten_cons, List.flatten_cons]
    exact h.app (RpA.rep h k)
theorem opo_rep {ds : List D} {k : Int} {Q : List D → Prop} (hk : -1000000 ≤ k ∧ k ≤ 1000000) (hz : ds.length * k.toNat ≤ 1000000) (q : Q (List.replicate k.toNat ds).flatten) : OpO rRepR (.list ds) (.int k) Q := fun F H x y e rx ry Z z => by
  obtain ⟨a, xs, rfl, h1, h2⟩ := rx.lst_inv
  exact ⟨a, k, xs, rfl, ry.int_inv, rd_mono e h1, hk, Nat.le_trans (by rw [h2.len]; exact hz) (by decide), fun p hp => z _ p _ _ q (same_upd hp) hp upd_same (h2.rep _)⟩
theorem opd_rep {ds : List D} {k : Int} {Q : D → Prop} (hk : -1000000 ≤ k ∧ k ≤ 1000000) (hz : ds.length * k.toNat ≤ 1000000) (q : Q (.list (List.replicate k.toNat ds).flatten)) : OpD rRepR (.list ds) (.int k) Q := opd_ofO (opo_rep hk hz q)
end
end Pu
/-! PuG: the law's def at the claim's caller alone, where no repr is under way; so repr of data may be told -/
namespace Pu
open PySem L2 PySem.Spec PyProof.Rows
section
variable {P : Program} {w : World} {K : PySem.W.Frag} {mg mb : Str → Option Value} {base : Heap} {f : Addr} {fd : FuncData} {k : Nat} {x qual : Str} {st : Stmt} {N ps : List Str}
/-- room at the claim's caller -/
abbrev RoomTop (k : Nat) : Prop := Room k callerA
/-- the promise of the law's def when the claim's caller calls it -/
def TopOk (P : Program) (w : World) (K : PySem.W.Frag) (mg : Str → Option Value) (base : Heap) (f : Addr) (fd : FuncData) (ps : List Str) (sp : Sp) : Prop :=
  ∀ (sh : Shared) (G : Hp) (args : Args) (us : List Value) (ws : List V) (Z : VK) (E : XK), Env0 P w K mg base callerA [] sh G → BindsTo sh fd args (ps.zip us) → Vals ws us → sp ws G Z E →
    codeAny (model P w) callerA (.call (.ref f) args) (CR CX0 [] P w G sh Z E) sh
theorem top_of {sp : Sp} (F : Fun K x qual st f fd) (S : FnScope N ps (defScope st)) (len : ∀ vs H Q E, sp vs H Q E → vs.length = ps.length) (room : Room (k + 1) callerA)
    (body : ∀ (cdv : Value) (sh : Shared) (G : Hp) (ws : List V) (Z : VK) (E : XK), Room k (callerA.deeper (envOfC qual (defScope st) sh.heap.objs.size f cdv)) → sp ws G Z E →
      ∃ t, PSs (cxOf CX0 P w K mg base N qual (defScope st) f cdv callerA [] sh G E).nox (defBody st) t ∧ t { nx := fun _ G' => Z .non G', rt := Z } (L2.start N ws) G) : TopOk P w K mg base f fd ps sp := by
  obtain ⟨oc, od, kV, doc, pm, an, cdv, ct, osl, rfl, lk, hcd⟩ := F.ex
  intro sh G args us ws Z E e0 hb rv hz
  have hlen := len _ _ _ _ hz
  have kin : K.In sh.heap := e0.mod.kin.keeps fun b o q => (e0.bs b o q).1
  have nolim : sh.heap.NoLimit := e0.mod.nolimit.keeps fun b o q => (e0.bs b o q).1
  have kinds : ∀ z ∈ ps.zip us, (defScope st).names.lookup z.1 = some .local ∨ ((defScope st).names.lookup z.1 = some .cell ∧ ((cellsFrom (sh.heap.objs.size + 1) (defScope st).names []).lookup z.1).isSome = true) := fun ⟨n, u⟩ hz => by
    have hn := S.par n (List.of_mem_zip hz).1
    exact hn.imp id fun q => ⟨q, PySem.W.cellsFrom_some _ _ _ (.inl q)⟩
  refine codeAny_call_function room.depth (kin _ _ lk) rfl S.co S.gen rfl (PySem.W.codeRec_of kin hcd) (hb _ _ _ _ (wpAny_newFunctionEnv_cells S.kind kinds fun env he s1 inc => ?_))
  subst he
  refine ⟨nolim.keeps inc.toInCall.keep, codeAny_func ?_⟩
  obtain ⟨t, ht, hq⟩ := body cdv sh G ws Z E (room.deeper _) hz
  have I0 : Inv (cxOf CX0 P w K mg base N qual (defScope st) f cdv callerA [] sh G E) [] (L2.start N ws) G s1 := inv_start S room.hd e0 hlen rv inc
  refine wpAny_mono (ht.nox.run [] s1 (L2.start N ws) G _ I0 hq) (fun fl s' hs => ?_) fun _ _ hs => hs
  cases fl with
  | ret u =>
    obtain ⟨v, σ', H', J, r, q⟩ := hs
    exact ⟨v, H', J.os, J.bare, J.base, J.hok, r, q⟩
  | next =>
    obtain ⟨σ', H', J, q⟩ := hs
    exact ⟨V.non, H', J.os, J.bare, J.base, J.hok, rfl, q⟩
  | brk => exact hs.elim fun _ hs => hs.elim fun _ hs => (hs.2 : False).elim
  | cont => exact hs.elim fun _ hs => hs.elim fun _ hs => (hs.2 : False).elim
/-- the script as it stands ahead of the call: one frozen list -/
def scriptH (a : Addr) (vs : List Value) (ns : List Int) : Hp := fun b => if b = a then some (.frz { cls := .type "list", data := .seq vs.toArray } (.lst (ns.map V.int))) else none
theorem scriptH_at (a : Addr) (vs : List Value) (ns : List Int) : scriptH a vs ns a = some (.frz { cls := .type "list", data := .seq vs.toArray } (.lst (ns.map V.int))) := if_pos rfl
theorem scriptH_no {a b : Addr} {vs : List Value} {ns : List Int} (h : b ≠ a) : scriptH a vs ns b = none := if_neg h
theorem top_call {fa a : Addr} {sh : Shared} {vs : List Value} {ns : List Int} {R : List D → (D → Prop) → Prop} (kin : K.In sh.heap) (gl : sh.heap.Ns mainGlobals mg) (bl : sh.heap.Ns builtinsNs mb) (bb : ∀ y : Str, y ≠ "__name__" → mb y = bootBuiltins y) (nolim : sh.heap.NoLimit) (gens : sh.gens = #[])
    (hs : sh.heap.get? a = some { cls := .type "list", data := .seq vs.toArray }) (hi : IntsAre vs ns) (hl : ns.length ≤ sizeLine) (nl : noLs K = true)
    (F : ∀ base : Heap, K.In base → base.Ns mainGlobals mg → TopOk P w K mg base fa fd [x] (spP R)) (hbind : ∀ (s : Shared) (u : Value), BindsTo s fd ⟨[u], []⟩ [(x, u)]) (hR : R [.list (ns.map .int)] fun d => d = .bool true) :
    codeAny (model P w) callerA (.call (.ref fa) ⟨[.ref a], []⟩) (fun r s' => r = .ok (.ret (.bool true)) ∧ OldK sh.heap s'.heap ∧ s'.os = sh.os ∧ AllBare s'.gens) sh := by
  let G := scriptH a vs ns
  have gAt : G a = some (.frz { cls := .type "list", data := .seq vs.toArray } (.lst (ns.map V.int))) := scriptH_at a vs ns
  have gNo : ∀ {b : Addr}, b ≠ a → G b = none := fun h => scriptH_no h
  have keep : ∀ {b : Addr} {o : Obj}, sh.heap.get? b = some o → b ≠ a → (hidT sh.heap G).get? b = some o := fun e h => hidT_get e (gNo h)
  have notDict : ∀ {b : Addr} {o : Obj} {es : Array DictEntry} {ep : Nat}, sh.heap.get? b = some o → o.data = .dict es ep → b ≠ a := fun {b o es ep} e d q => by
    subst q
    rw [hs] at e
    cases e
    cases d
  have nsOf : ∀ {b : Addr} {m : Str → Option Value}, sh.heap.Ns b m → (hidT sh.heap G).Ns b m := fun {b m} ⟨o, es, ep, e, d, r⟩ => ⟨o, es, ep, keep e (notDict e d), d, r⟩
  have kin' : K.In (hidT sh.heap G) := fun b o e => keep (kin b o e) fun q => by
    subst q
    have z := kin b o e
    rw [hs] at z
    cases z
    exact noLs_at nl e rfl
  have md : Mod K mg (hidT sh.heap G) := ⟨kin', nsOf gl, ⟨mb, nsOf bl, bb⟩, nolim.elim fun mc h => ⟨mc, nsOf h.1, h.2⟩⟩
  have vals := vals_ints hi
  have gok : HOk P w G sh.heap := fun b u z => by
    by_cases q : b = a
    · subst q
      rw [gAt] at z
      cases z
      exact ⟨hs, by rw [List.length_map]; exact hl, vs, _, vals, hs⟩
    · rw [gNo q] at z; cases z
  have e0 : Env0 P w K mg (hidT sh.heap G) callerA [] sh G := ⟨rfl, md, fun b o e => of_hidT e, Nat.le_of_eq (hidT_size _ _), trivial, fun b hb => (by cases hb), gok, .of_eq gens⟩
  have spec : spP R [.ref a] G (fun v _ => v = .bl true) fun _ _ _ => False := sp_law nl (.inl (.inr ⟨_, gAt⟩)) hR
  refine codeAny_mono (F _ kin' (nsOf gl) sh G ⟨[.ref a], []⟩ [.ref a] [.ref a] _ _ e0 (hbind sh (.ref a)) (.cons rfl .nil) spec) fun r s' h => ?_
  cases r with
  | error e => exact (show False from h).elim
  | ok fl =>
    cases fl with
    | next => exact h.elim
    | brk => exact h.elim
    | cont => exact h.elim
    | ret u =>
      obtain ⟨v, G', os, bare, un, gok', rv, q⟩ := h
      have q : v = .bl true := q
      subst q
      have rv : u = Value.bool true := rv
      subst rv
      refine ⟨rfl, OldK.of_keep fun b o e => ?_, os, bare⟩
      by_cases hb : b = a
      · subst hb
        have z := un.frzs b _ _ gAt
        have e1 := (gok b _ gAt).1
        rw [e] at e1
        cases e1
        exact (gok' b _ z).1
      · exact un.keep b o e (gNo hb) (fun z => by cases z) (fun z => by cases z)
/-- a law's def whose argument is the script -/
theorem top_pure {R : List D → (D → Prop) → Prop} (F : Fun K x qual st f fd) (S : FnScope N ps (defScope st)) (len : ∀ ds Z, R ds Z → ds.length = ps.length) (room : Room (k + 1) callerA)
    (body : ∀ (cdv : Value) (s : Shared) (H : Hp) (E : XK), Room k (callerA.deeper (envOfC qual (defScope st) s.heap.objs.size f cdv)) →
      ∃ t, PSs (cxOf CX0 P w K mg base N qual (defScope st) f cdv callerA [] s H E).nox (defBody st) t ∧ ∀ ds Z, R ds Z → SX t (startE N ds) { nx := fun _ => Z .none, rt := fun d _ => Z d }) :
    TopOk P w K mg base f fd ps (spP R) := by
  refine top_of F S (fun vs H Q E h => ?_) room (fun cdv s H vs Q E hr h => ?_)
  · obtain ⟨F, ds, Z, _, r, q, _⟩ := h
    rw [r.len]
    exact len ds Z q
  · obtain ⟨F0, ds, Z, fh, r, q, z⟩ := h
    obtain ⟨t, ht, hs⟩ := body cdv s H E hr
    refine ⟨t, ht, hs ds Z q { F0 := F0, H0 := H, M := Non } (L2.start N vs) F0 H ⟨fun _ => [], Gr.refl fh, ?_, fun i s e => ?_, (fun i p m => by cases m), (fun i j p m => by cases m), fun _ _ => rfl, (fun s as e => by cases e)⟩ _ (fun ρ' σ' F' H' q w' => ?_) (fun d ρ' σ' v F' H' q w' rv => ?_) (fun _ _ _ _ q _ => q.elim) (fun _ _ _ _ q _ => q.elim)⟩
    · unfold L2.start startE
      rw [List.length_append, List.length_append, List.length_map, List.length_map, List.length_replicate, List.length_replicate, r.len]
    · rcases startE_get e with ⟨d, e2, rfl⟩ | rfl
      · obtain ⟨v, e1, rv⟩ := r.get e2
        exact ⟨rfl, v, start_get e1, rv⟩
      · rfl
    · obtain ⟨ad, w'⟩ := w'
      exact z .none .non F' H' q w'.gr .non
    · obtain ⟨ad, w'⟩ := w'
      exact z d v F' H' q w'.gr rv
/-- the law's statement out of the law's def at the claim's caller -/
theorem walk_top {l : PySem.W.OpenLaw} {n : Nat} {q : Program} {loose : List Str} {XP : (Str → Option Value) → Heap → Prop} {YP : World → Heap → Prop} {d : DefRec} {K : Params → PySem.W.Frag} {R : List D → (D → Prop) → Prop} {x : Str} (hn : l.most = some n) (hn2 : n ≤ sizeLine) (hdf : d.params.defaults = [])
    (hY : ∀ (w : World) (h : Heap), YP w h → (K w.params).In h) (nl : ∀ w : World, noLs (K w.params) = true)
    (F : ∀ (w : World) (mg : Str → Option Value) (fa : Addr) (h : Heap), (K w.params).In h → h.Ns mainGlobals mg → mg d.name = some (.ref fa) →
      ∃ fd : FuncData, (∀ (s : Shared) (u : Value), BindsTo s fd ⟨[u], []⟩ [(x, u)]) ∧ ∀ base : Heap, (K w.params).In base → base.Ns mainGlobals mg → TopOk l.prog w (K w.params) mg base fa fd [x] (spP R))
    (hR : ∀ ns : List Int, ns.length ≤ n → R [.list (ns.map .int)] fun d => d = .bool true) : PySem.W.WalkO q loose XP YP l.row.toRowW d [] (fun f vs => PySem.call f vs) := by
  refine Att.attach_call hn hdf fun w s₀ s₁ mg mb fa o pm cd doc a vs ns G Y ho hd hcd hm hs hi hlen hg => ?_
  obtain ⟨fd, hb, hF⟩ := F w mg fa _ (hY w _ Y) G.T.g hm
  exact top_call (hY w _ Y) G.T.g G.T.b G.T.builtins G.T.nolimit hg hs hi (Nat.le_trans hlen hn2) (nl w) hF hb (hR ns hlen)
end
/-! ### repr of data -/
theorem textFrom_le : ∀ (ts : List Str) (k n : Nat) (acc : Str), (∀ t ∈ ts, t.length ≤ n) → (textFrom k acc ts).length ≤ acc.length + ts.length * (n + 2)
  | [], k, n, acc, _ => by
    show acc.length ≤ _
    omega
  | t :: r, k, n, acc, h => by
    have ih := textFrom_le r (k + 1) n (acc ++ (if k > 0 then ", " else "" : String) ++ t) fun u hu => h u (by simp [hu])
    have ht := h t (by simp)
    have hl : (acc ++ (if k > 0 then ", " else "" : String) ++ t : Str).length ≤ acc.length + 2 + t.length := by
      rw [Str.length_append, Str.length_append]
      by_cases c : k > 0
      · rw [if_pos c]
        have e : (Str.ofString ", ").length = 2 := by decide +kernel
        have e2 : (", " : Str).length = 2 := e
        omega
      · rw [if_neg c]
        have e : (Str.ofString "").length = 0 := by decide +kernel
        have e2 : ("" : Str).length = 0 := e
        omega
    show (textFrom (k + 1) (acc ++ (if k > 0 then ", " else "" : String) ++ t) r).length ≤ _
    rw [List.length_cons, Nat.succ_mul]
    omega
theorem listText_le {ts : List Str} {n : Nat} (h : ∀ t ∈ ts, t.length ≤ n) : (listText ts).length ≤ ts.length * (n + 2) + 2 := by
  unfold listText
  rw [Str.length_append]
  have q := textFrom_le ts 0 n "[" h
  have e1 : ("[" : Str).length = 1 := (by decide +kernel : (Str.ofString "[").length = 1)
  have e2 : ("]" : Str).length = 1 := (by decide +kernel : (Str.ofString "]").length = 1)
  omega
theorem piled_le : ∀ {ts : List Str} {n : Nat}, (∀ t ∈ ts, t.length ≤ n) → piled ts ≤ ts.length * (n + 2)
  | [], n, _ => by simp [piled]
  | t :: ts, n, h => by
    have h1 := h t (by simp)
    have h2 := piled_le (ts := ts) fun u hu => h u (by simp [hu])
    rw [piled_cons, List.length_cons, Nat.succ_mul]
    omega
theorem tupleText_le {ts : List Str} {n : Nat} (h : ∀ t ∈ ts, t.length ≤ n) : (tupleText ts).length ≤ ts.length * (n + 2) + 4 := by
  unfold tupleText
  rw [Str.length_append, Str.length_append]
  have e1 : ("(" : Str).length = 1 := (by decide +kernel : (Str.ofString "(").length = 1)
  have e2 : ((if ts.length == 1 then ",)" else ")" : String) : Str).length ≤ 2 := by
    split
    · exact (by decide +kernel : (Str.ofString ",)").length ≤ 2)
    · exact (by decide +kernel : (Str.ofString ")").length ≤ 2)
  have e3 : (Str.join ", " ts).length ≤ ts.length * (n + 2) := by
    cases ts with
    | nil =>
      have e : (Str.join (Str.ofString ", ") []).length = 0 := by decide +kernel
      have e' : (Str.join ", " []).length = 0 := e
      omega
    | cons t ts =>
      have q := join_length_add (t :: ts) (by simp)
      have p := piled_le h
      omega
  omega
/-- text that can be shown, of at most so many signs -/
structure Sh (n : Nat) (d : D) : Prop where
  sh : d.showable = true
  nd : d.hasDict = false
  ln : d.shown.length ≤ n
theorem sh_int {i : Int} (h : i.natAbs < 2 ^ 64) : Sh 2000 (.int i) where
  sh := by
    simp only [PyData.showable, decide_eq_true_eq]
    rcases Nat.eq_zero_or_pos i.natAbs with z | z
    · rw [z]; decide
    · exact Nat.lt_of_lt_of_le ((Nat.log2_lt (by omega)).mpr h) (by decide)
  nd := by simp only [PyData.hasDict]
  ln := by
    simp only [PyData.shown]
    refine Nat.le_trans (int_text_len_1921 ?_) (by decide)
    rcases Nat.eq_zero_or_pos i.natAbs with z | z
    · rw [z]; decide
    · exact Nat.lt_of_lt_of_le ((Nat.log2_lt (by omega)).mpr h) (by decide)
theorem sh_non : Sh 2000 .none := ⟨by simp only [PyData.showable], by simp only [PyData.hasDict], by simp only [PyData.shown]; decide +kernel⟩
theorem sh_all {n : Nat} : ∀ {ds : List D}, (∀ d ∈ ds, Sh n d) → PyData.showableAll ds = true ∧ PyData.hasDictAll ds = false ∧ (∀ t ∈ PyData.shownAll ds, t.length ≤ n) ∧ (PyData.shownAll ds).length = ds.length
  | [], _ => ⟨by simp only [PyData.showableAll], by simp only [PyData.hasDictAll], (fun t ht => by simp [PyData.shownAll] at ht), by simp [PyData.shownAll]⟩
  | d :: ds, h => by
    have h1 := h d (by simp)
    obtain ⟨a, b, c, e⟩ := sh_all (ds := ds) fun x hx => h x (by simp [hx])
    refine ⟨by simp only [PyData.showableAll, h1.sh, a, Bool.and_self], by simp only [PyData.hasDictAll, h1.nd, b, Bool.or_self], fun t ht => ?_, by simp [PyData.shownAll, e]⟩
    simp only [PyData.shownAll, List.mem_cons] at ht
    rcases ht with rfl | ht
    · exact h1.ln
    · exact c t ht
theorem sh_list {n m : Nat} {ds : List D} (h : ∀ d ∈ ds, Sh n d) (hm : ds.length ≤ m) : Sh (m * (n + 2) + 4) (.list ds) := by
  obtain ⟨a, b, c, e⟩ := sh_all h
  refine ⟨by simp only [PyData.showable]; exact a, by simp only [PyData.hasDict]; exact b, ?_⟩
  simp only [PyData.shown]
  have q := listText_le c
  rw [e] at q
  have q2 : ds.length * (n + 2) ≤ m * (n + 2) := Nat.mul_le_mul_right _ hm
  omega
theorem sh_tup {n m : Nat} {ds : List D} (h : ∀ d ∈ ds, Sh n d) (hm : ds.length ≤ m) : Sh (m * (n + 2) + 4) (.tuple ds) := by
  obtain ⟨a, b, c, e⟩ := sh_all h
  refine ⟨by simp only [PyData.showable]; exact a, by simp only [PyData.hasDict]; exact b, ?_⟩
  simp only [PyData.shown]
  have q := tupleText_le c
  rw [e] at q
  have q2 : ds.length * (n + 2) ≤ m * (n + 2) := Nat.mul_le_mul_right _ hm
  omega
theorem Sh.up {n m : Nat} {d : D} (h : Sh n d) (k : n ≤ m) : Sh m d := ⟨h.sh, h.nd, Nat.le_trans h.ln k⟩
theorem sh_map {α : Type} {n : Nat} {xs : List α} {f : α → D} (h : ∀ x ∈ xs, Sh n (f x)) : ∀ d ∈ xs.map f, Sh n d := fun d hd => by
  obtain ⟨x, hx, rfl⟩ := List.mem_map.mp hd
  exact h x hx
theorem sh_nil {n : Nat} : ∀ d ∈ ([] : List D), Sh n d := fun d h => by cases h
theorem sh_cons {n : Nat} {d : D} {ds : List D} (h : Sh n d) (hs : ∀ e ∈ ds, Sh n e) : ∀ e ∈ d :: ds, Sh n e := fun e he => by
  rcases List.mem_cons.mp he with rfl | he
  · exact h
  · exact hs e he
def rRepr (_ : PySem.W.Frag) : List V → Hp → VK → Prop := fun vs H Q => ∃ (F : Hp) (v : V) (d : D), vs = [v] ∧ Same F H ∧ Rp F v d ∧ Sh sizeLine d ∧ d.depth ≤ 60 ∧ Q (.str d.shown) H
theorem cb_repr {X : Cx} (hu : X.A.units + 64 < cLine) (hg : X.A.guards = some []) : CallR X (.builtin "repr") (rRepr X.K) := by
  rintro pins s σ H vs us Q I r ⟨F, v, d, rfl, e, rp, ⟨hs, hnd, hl⟩, hz, q⟩
  obtain ⟨u, rfl, ru⟩ := r.one
  obtain ⟨as, rd⟩ := rp_reads I e rp ru
  have disp : isDisplay d = true → wpAny (model X.prog X.w) X.A (call (.builtin "repr") [u]) (EP X pins σ Q) X.xe s := fun hd => by
    obtain ⟨a, rfl⟩ := isRef_of_reads rd hd
    exact repr_of_reads' rd hs (PyData.noDict_hsm hnd) hg (by omega) (fun _ _ e => e) (fun h' u tk hk => ⟨.str d.shown, H, I.kept hk, ⟨u, rfl⟩, q⟩) hl
  cases d with
  | none =>
    cases rp
    have ru : u = Value.none := ru
    subst ru
    simp only [PyData.shown] at q
    exact PySem.P.repr_of_none ⟨.str "None", H, I.tok _, ⟨_, rfl⟩, q⟩
  | bool b =>
    cases rp
    have ru : u = Value.bool b := ru
    subst ru
    simp only [PyData.shown] at q
    exact PySem.P.repr_of_bool ⟨.str _, H, I.tok _, ⟨_, rfl⟩, q⟩
  | int i =>
    cases rp
    obtain ⟨t, rfl⟩ := ru
    simp only [PyData.shown] at q
    simp only [PyData.showable, decide_eq_true_eq] at hs
    exact PySem.P.repr_of_int hs ⟨.str _, H, I.tok _, ⟨_, rfl⟩, q⟩
  | str x =>
    cases rp
    obtain ⟨t, rfl⟩ := ru
    simp only [PyData.shown] at q hl
    exact PySem.P.repr_of_str ⟨.str _, H, I.tok _, ⟨_, rfl⟩, q⟩ hl
  | list xs => exact disp rfl
  | tuple xs => exact disp rfl
  | dict xs => simp only [PyData.hasDict] at hnd; cases hnd
theorem cbd_repr {K : PySem.W.Frag} {d : D} {n : Nat} {Q : D → Prop} (h : Sh n d) (hn : n ≤ sizeLine) (hz : d.depth ≤ 60) (k : Q (.str d.shown)) : CbD (rRepr K) [d] Q := fun F H vs e r Z z => by
  obtain ⟨v, rfl, rv⟩ := r.one
  exact ⟨F, v, d, rfl, e, rv, h.up hn, hz, z _ _ F H k (Gr.refl e) (.str _)⟩
end Pu
/-! PuT: for k, x in enumerate(t), t a tuple -/
namespace Pu
open PySem L2 PySem.Spec PyProof.Rows
section
open Sem (wp)
open AutoSeq1 (wpAny_loadPart')
/-- enumerate(t) of a tuple makes its iterator, then itself -/
theorem meets_enumT (t : Addr) (items : Array Value) (n : Nat) (dct : Option Addr) (sl : Array (Option Value)) :
    Meets (Builtin.«enumerate.__new__» ⟨[.type "enumerate", .ref t], []⟩) (fun _ R sh => sh.heap.get? t = some { cls := .type "tuple", dict := dct, data := .seq items n, slots := sl } ∧
      R (.ok (.ret (.ref (sh.heap.push { cls := .type "tuple_iterator", data := .fields #[.ref t, .int 0 0] }).objs.size)))
        { sh with heap := (sh.heap.push { cls := .type "tuple_iterator", data := .fields #[.ref t, .int 0 0] }).push { cls := .type "enumerate", data := .fields #[.none, .bool false, .ref sh.heap.objs.size, rawInt 0, .none, .none] } }) :=
  .of_wp fun prog w A R sh hyp => by
    obtain ⟨hp, gg, dd, tk, os⟩ := sh
    obtain ⟨ht, hyp⟩ := hyp
    have su := sub_enumerate
    have tup : Heap.IsTuple (Shared.heap ⟨hp, gg, dd, tk, os⟩) t items := ⟨_, ht, rfl, n, rfl⟩
    wp_walk using wpAny_loadPart' ht
    refine wpAny_stack_any fun _ => wpAny_pure ?_
    split
    · rename_i c _ _ _ _ _
      cases (c == Value.type "enumerate")
      · wp_walk using wpAny_loadPart' ht, wpAny_pyIter_tuple tup
        exact ⟨_, rfl, hyp⟩
      · wp_walk using wpAny_loadPart' ht, wpAny_pyIter_tuple tup
        exact ⟨_, rfl, hyp⟩
    · wp_walk using wpAny_loadPart' ht, wpAny_pyIter_tuple tup
      exact ⟨_, rfl, hyp⟩
theorem call_enumT {prog : Program} {w : World} {A : Around} {E : Value → Shared → Prop} {sh : Shared} {t : Addr} {items : Array Value} {Q : Value → Shared → Prop} (ht : sh.heap.IsTuple t items)
    (k : ∀ g, IsEnum g (sh.heap.objs.size + 1) sh.heap.objs.size 0 .none → g.IsTupleIter sh.heap.objs.size t 0 → (∀ b o, sh.heap.get? b = some o → g.get? b = some o) → Q (.ref (sh.heap.objs.size + 1)) { sh with heap := g }) :
    wpAny (model prog w) A (call (.type "enumerate") [.ref t]) Q E sh := by
  obtain ⟨⟨cl, dct, dat, sl⟩, he, hc, n, hd⟩ := ht
  have hc : cl = .type "tuple" := hc
  have hd : dat = .seq items n := hd
  subst hc hd
  refine callType_new F.called_enumerate (by decide) (F.typeCall_enumerate_1 _) (F.newCall_enumerate_1 _) (fun ob => F.args_object_init_2 ob _) F.entry_enumerate_new (meets_enumT t items n dct sl) ⟨he, ?_⟩
  have size : (sh.heap.push { cls := .type "tuple_iterator", data := .fields #[.ref t, .int 0 0] }).objs.size = sh.heap.objs.size + 1 := Heap.size_push ..
  show _ ∧ _
  rw [size]
  have isE : IsEnum ((sh.heap.push { cls := .type "tuple_iterator", data := .fields #[.ref t, .int 0 0] }).push { cls := .type "enumerate", data := .fields #[.none, .bool false, .ref sh.heap.objs.size, rawInt 0, .none, .none] }) (sh.heap.objs.size + 1) sh.heap.objs.size 0 .none := by
    have g := Heap.get?_push_size (sh.heap.push { cls := .type "tuple_iterator", data := .fields #[.ref t, .int 0 0] }) (o := { cls := .type "enumerate", data := .fields #[.none, .bool false, .ref sh.heap.objs.size, rawInt 0, .none, .none] }) rfl
    rw [size] at g
    exact g
  exact ⟨⟨_, isE, rfl⟩, k _ isE ⟨_, Heap.get?_push_of_some _ (Heap.get?_push_size _ rfl), rfl, rfl⟩ fun b o x => Heap.get?_push_of_some _ (Heap.get?_push_of_some _ x)⟩
/-- the tuple at a, each item in a new pair -/
def ItT (K : PySem.W.Frag) (a : Addr) : It :=
  ⟨fun i H => ∃ (xs : List V) (x : V), SqT K H a xs ∧ xs[i]? = some x, fun i H v G => ∃ T x, v = .ref T ∧ H T = none ∧ G = upd H T (.tup [.int (i : Nat), x]) ∧ ∀ xs, SqT K H a xs → xs[i]? = some x, fun i H => ∃ xs : List V, SqT K H a xs ∧ xs.length ≤ i⟩
theorem enum_ne_tup {h : Heap} {e it a : Addr} {i : Int} {old : Value} {items : Array Value} (he : IsEnum h e it i old) (ht : h.IsTuple a items) : e ≠ a := fun q => by
  subst q
  obtain ⟨o, ho, hc, _⟩ := ht
  have z := ho.symm.trans he
  cases z
  exact absurd hc (by simp)
theorem iter_ne_tup {h : Heap} {it a b : Addr} {i : Nat} {items : Array Value} (hi : h.IsTupleIter it b i) (ht : h.IsTuple a items) : a ≠ it := fun q => by
  subst q
  obtain ⟨o, ho, hc, _⟩ := ht
  obtain ⟨o2, ho2, hc2, _⟩ := hi
  have z := ho.symm.trans ho2
  cases z
  rw [hc] at hc2
  exact absurd hc2 (by simp)
theorem turn_enumT {P : Program} {w : World} {K : PySem.W.Frag} {elts : List Expr} {kk : Nat} {tpos : Pos} (a e it : Addr) :
    Turn P w K (.Tuple elts kk tpos) (ItT K a) [e, it] e (fun i g => (∃ old, IsEnum g e it ((i : Nat) : Int) old) ∧ g.IsTupleIter it a i ∧ e ≠ it) where
  mem := by simp
  obj := fun i g st b hb => by
    obtain ⟨⟨old, en⟩, ⟨o, ho, hc, hd⟩, _⟩ := st
    rcases (by simpa using hb : b = e ∨ b = it) with z | z
    · rw [z]; exact ⟨_, en, fun v q => nomatch q⟩
    · rw [z]; exact ⟨o, ho, fun v q => by rw [hd] at q; cases q⟩
  keep := fun i g g' st k => let ⟨⟨old, en⟩, ti, ne⟩ := st; ⟨⟨old, k e (by simp) _ en⟩, ti.at fun o q => k it (by simp) o q, ne⟩
  item := by
    intro X hP hw hK hc i pins sh σ H E I hf st hg
    subst hP hw hK
    obtain ⟨⟨old, en⟩, ti, ne⟩ := st
    obtain ⟨xs, x, hq, hx⟩ := hg
    obtain ⟨its, rv, tp, hz⟩ := I.tuple hq
    have tp : sh.heap.IsTuple a its.toArray := tp
    obtain ⟨u, hu, ru⟩ := rv.get hx
    have live_e : e < sh.heap.objs.size := Heap.lt_size en
    have live_i : it < sh.heap.objs.size := by obtain ⟨_, q, _⟩ := ti; exact Heap.lt_size q
    have ilt : i < its.toArray.size := by
      have := (List.getElem?_eq_some_iff.mp hu).1
      simpa using this
    have D := PySem.Draws.tuple (prog := X.prog) (w := X.w) (A := X.A.in1) (I.ok.hd hc) it a (iter_ne_tup ti tp) its.toArray
    refine wpAny_pyNext_enum_itemD D en ⟨ti, tp⟩ ilt ne (by simp [ne, enum_ne_tup en tp]) fun y g tk hy ho st' hT hsz hk => ?_
    have ey : y = u := by
      have h1 : its.toArray[i]? = some u := by simpa using hu
      exact Option.some.inj (hy.symm.trans h1)
    subst ey
    refine ⟨_, rfl, wpAny_letOwnedTupleGo_enum (s := { sh with heap := g, toks := tk + 1 }) ho fun g2 en2 sb => ?_⟩
    have atT : g2.get? sh.heap.objs.size = some { cls := .type "tuple", data := .seq #[.int i tk, y] } := (sb.2 _ (Nat.ne_of_gt live_e)).trans hT
    have newT : ObjOk X.prog X.w (upd H sh.heap.objs.size (.tup [.int (i : Nat), x])) g2 sh.heap.objs.size (.tup [.int (i : Nat), x]) :=
      ⟨by show 2 ≤ sizeLine; decide, [.int i tk, y], .cons ⟨_, rfl⟩ (.cons ru .nil), ⟨_, atT, rfl, _, rfl⟩⟩
    have J : Inv X pins σ (upd H sh.heap.objs.size (.tup [.int (i : Nat), x])) { sh with heap := g2, toks := tk + 1 } :=
      I.turnedNew (ch := [e, it]) (fun b ob hb q => (sb.2 b (fun z => hb (by simp [z]))).trans (hk b ob (fun z => hb (by simp [z])) (fun z => hb (by simp [z])) q)) hf (Nat.le_refl _) newT
    refine ⟨.ref sh.heap.objs.size, _, J, rfl, ⟨_, x, rfl, I.hok.fresh (Nat.le_refl _), rfl, fun ys hy => by rw [I.tuple_inj hy hq]; exact hx⟩, ⟨⟨y, ?_⟩, st'.1.at fun o q => (sb.2 it (Ne.symm ne)).trans q, ne⟩, fun b hb => ?_⟩
    · have up : ((i + 1 : Nat) : Int) = (i : Int) + 1 := by omega
      rw [up]; exact en2
    · have lt : b < sh.heap.objs.size := by
        rcases (by simpa using hb : b = e ∨ b = it) with z | z
        · rw [z]; exact live_e
        · rw [z]; exact live_i
      rw [upd_ne (Nat.ne_of_lt lt)]
      exact (hf b hb).1
  done := by
    intro X hP hw hK hc i pins sh σ H E I hf st hg
    subst hP hw hK
    obtain ⟨⟨old, en⟩, ti, ne⟩ := st
    obtain ⟨xs, hq, hx⟩ := hg
    obtain ⟨its, rv, tp, hz⟩ := I.tuple hq
    have tp : sh.heap.IsTuple a its.toArray := tp
    obtain ⟨f0, f1, f2, f3, f4, f5⟩ := hf it (by simp)
    have ll := rv.length
    have out : its.toArray[i]? = none := by simp; omega
    have tyE : sh.TypeIs (.ref e) "enumerate" := ⟨_, en, rfl⟩
    unfold pyNext
    refine wpAny_bind (wpAny_attempt (wpAny_callSpecial?_slot (name := Str.ofString "__next__") tyE F.slot_enumerate_next (wpAny_call_entry F.slot_enumerate_next tyE F.entry_enumerate_next ?_ (F.args_enumerate_next_1 _))))
    show wpAny _ _ (field (.ref e) 2 >>= _) _ _ sh
    refine wpAny_bind (wpAny_field en rfl (x := .ref it) rfl (wpAny_bind (wpAny_nextOf_tuple_end (I.ok.hd hc) ti tp out fun g y gb hy => ?_)))
    obtain ⟨o, ho, hcl⟩ := hy
    refine wpAny_bind (wpAny_isInstance (b := true) (T := "StopIteration") ⟨o, ho, hcl⟩ isSubtype_stop (wpAny_pure ?_))
    exact ⟨rfl, I.turned (t' := sh.toks) (fun b o hb q => gb b o hb q) f0 f1 f3 f4 f5⟩
  self := fun A i sh Q E st k => let ⟨⟨_, en⟩, _⟩ := st; wpAny_pyIter_enum en k
/-- the items of enumerate(t) -/
def iEnumT (K : PySem.W.Frag) (ta : TA) : TI := fun σ H R => ta σ H fun vs H1 => ∃ a xs, vs = [.ref a] ∧ SqT K H1 a xs ∧ R (ItT K a) H1
theorem pi_enumT {X : Cx} {e : Expr} {ta : TA} {p pos tpos : Pos} {elts : List Expr} {kk : Nat} (hg : Gl X "enumerate") (hm : X.mg "enumerate" = none) (ha : PA X [e] ta) (hs : starEach [e] X.env = [(false, eval e X.env)] := by rfl) :
    PI X (.Tuple elts kk tpos) (.Call (.Name "enumerate" p) [e] [] pos) (iEnumT X.K ta) := by
  refine ⟨fun pins sh σ H R I hyp => Call_ (ld_blt I hg hm boot_enumerate (PyProof.Rows.callWith_type1 (thn (ha.run pos pins sh σ H _ I hyp) fun us s1 ⟨vs, H1, I1, r1, q1⟩ => ?_) hs rfl))⟩
  obtain ⟨a, xs, ex, hq, q⟩ := q1
  subst ex
  cases r1 with
  | cons r rr =>
    cases rr
    cases r
    obtain ⟨its, rv, tp, hz⟩ := I1.tuple hq
    have tp : s1.heap.IsTuple a its.toArray := tp
    refine call_enumT tp fun g en ti hk => wpAny_pyIter_enum en ?_
    have I2 : Inv X pins σ H1 { s1 with heap := g } := I1.kept (t' := s1.toks) hk
    refine ⟨s1.heap.objs.size + 1, [s1.heap.objs.size + 1, s1.heap.objs.size], _, _, H1, rfl, I2, turn_enumT a (s1.heap.objs.size + 1) s1.heap.objs.size, ⟨⟨.none, en⟩, ti, Nat.succ_ne_self _⟩, fun b hb => ?_, q⟩
    have le : s1.heap.objs.size ≤ b := by
      rcases (by simpa using hb : b = s1.heap.objs.size + 1 ∨ b = s1.heap.objs.size) with z | z
      · rw [z]; exact Nat.le_add_right _ _
      · rw [z]; exact Nat.le_refl _
    exact I1.fpOk le (I1.hok.fresh le)
theorem ei_enumT {K : PySem.W.Frag} {t : TA} {ρ : Pu.Env} {Q : List D → Pu.Env → Prop} (h : EA t ρ fun es ρ1 => ∃ ds, es = [.tuple ds] ∧ Q (enumD 0 ds) ρ1) : EI (iEnumT K t) ρ Q := fun B ad σ F H w R z =>
  h B ad σ F H w _ fun es ρ1 vs F1 H1 q p r => by
    obtain ⟨ds, rfl, q⟩ := q
    obtain ⟨v, rfl, rv⟩ := r.one
    obtain ⟨a, xs, rfl, h1, h2⟩ := rv.tup_inv
    refine ⟨a, xs, rfl, sqT_rd h1 p.wa.gr.fh, z _ ρ1 _ F1 H1 q p ⟨fun i H' e hi => ?_, fun i H' e hi => ?_, fun i H' x H2 F2 e1 e2 y hi => ?_⟩⟩
    · rw [enumD_len] at hi
      exact ⟨xs, xs[i]'(by rw [h2.len]; exact hi), sqT_rd h1 e, by simp⟩
    · rw [enumD_len] at hi
      exact ⟨xs, sqT_rd h1 e, by rw [h2.len]; exact hi⟩
    · obtain ⟨T, x, rfl, hT, rfl, y⟩ := y
      obtain ⟨d, hd, rd⟩ := h2.get' (y xs (sqT_rd h1 (e1.trans e2)))
      have g := Gr.new (o := .tup [.int (i : Nat), x]) e2 hT
      refine ⟨_, upd F2 T (.tup [.int (i : Nat), x]), enumD_get ds 0 i hd, g, .tup upd_same (.cons ?_ (.cons ((rd.up e1).up g.ff) .nil))⟩
      rw [Nat.zero_add]
      exact .int _
end
end Pu
/-! PuD: the drawing state of the laws k00 .. k45: a list of two ints, read and written by its owner -/
namespace Pu
open PySem L2
section
variable {ρ : Pu.Env} {te : TE} {K : PySem.W.Frag} {Q : D → Pu.Env → Prop} {P : Po} {i : Nat}
theorem WA.stp {B : Base} {ad : Nat → List Addr} {σ : St} {F H F' H' : Hp} {s : Addr} {S S' : Stt} (w : WA B ad ρ σ F H) (h1 : ρ[i]? = some (.st S)) (k0 : σ[i]? = some (some (.ref s))) (g : Gr (· ∈ ad i) F H F' H') (st : StAt F' H' S' s (ad i)) (fn : ∀ a ∈ ad i, F' a = none) : WA B ad (ρ.set i (.st S')) σ F' H' := by
  have nm : ∀ j a, j ≠ i → a ∈ ad j → a ∉ ad i := fun j a hj m m' => hj (w.dj j i a m m')
  refine ⟨⟨w.gr.ff.trans g.ff, g.fh, fun a o e m => g.kp a o (w.gr.kp a o e m) fun z => ?_, fun a e => g.al a (w.gr.al a e), fun a e z => g.fr a (w.gr.al a e) (w.gr.fr a e z)⟩, by rw [List.length_set]; exact w.len, fun j sl e => ?_, fun j a m => ⟨?_, (w.fz j a m).2⟩, w.dj, fun j e => w.out j (get_set' e), w.pin.to fun S2 e => by
    rcases get_set e with ⟨e0, _⟩ | ⟨hj, e⟩
    · exact ⟨⟨S, by rw [e0]; exact h1⟩, rfl, rfl⟩
    · exact ⟨⟨S2, e⟩, rfl, rfl⟩⟩
  · rcases (w.fz i a z).2 with q | q
    · rw [q] at e; cases e
    · exact m q.1
  · rcases get_set e with ⟨rfl, rfl⟩ | ⟨hj, e⟩
    · exact ⟨s, k0, st⟩
    · have k := w.sl j sl e
      cases sl with
      | emp => exact k
      | val d =>
        obtain ⟨k, v, e, r⟩ := k
        exact ⟨k, v, e, r.up g.ff⟩
      | own es =>
        obtain ⟨q, ws, a1, a2, a3, a4, a5⟩ := k
        exact ⟨q, ws, a1, a2, a3, g.kp q _ a4 (nm j q hj (by rw [a1]; simp)), a5.up g.ff⟩
      | st S2 =>
        obtain ⟨s2, a1, a2⟩ := k
        exact ⟨s2, a1, a2.keep g.ff fun a m o e => g.kp a o e (nm j a hj m)⟩
  · by_cases hj : j = i
    · subst hj; exact fn a m
    · exact g.fr a (w.lv m) (w.fz j a m).1
/-- a fresh list of two ints is the state from now on -/
theorem W.toTwo {B : Base} {σ : St} {F H : Hp} {a b : Int} (h00 : i ≠ 0) (h : ρ[i]? = some (.own [.int a, .int b])) (w : W B ρ σ F H) : W B (ρ.set i (.st (.two a b))) σ F H := by
  obtain ⟨ad, w⟩ := w
  obtain ⟨p, vs, hp, a1, a2, a3, rr⟩ := w.sl i _ h
  obtain ⟨u, v, rfl, r1, r2⟩ := rr.two
  have e1 := r1.int_inv
  have e2 := r2.int_inv
  subst e1 e2
  refine ⟨ad, w.gr, by rw [List.length_set]; exact w.len, fun j sl e => ?_, w.fz, w.dj, fun j e => w.out j (get_set' e), w.pin.to fun S2 e => by
    rcases get_set e with ⟨e0, _⟩ | ⟨hj, e⟩
    · exact absurd e0.symm h00
    · exact ⟨⟨S2, e⟩, rfl, rfl⟩⟩
  rcases get_set e with ⟨rfl, rfl⟩ | ⟨hj, e⟩
  · exact ⟨p, a2, hp, a3⟩
  · exact w.sl j sl e
theorem sx_toTwo {t : TS} {a b : Int} (h00 : i ≠ 0) (h : ρ[i]? = some (.own [.int a, .int b])) (k : SX t (ρ.set i (.st (.two a b))) P) : SX t ρ P := fun B σ F H w Dn n r bk c => k B σ F H (W.toTwo h00 h w) Dn n r bk c
theorem ex_st0 {a b : Int} (h : ρ[i]? = some (.st (.two a b))) (q : Q (.int a) ρ) : EX (tOp (rIxA K) (tVar i) (tC (.int 0))) ρ Q := fun B ad σ F H w Z z => by
  obtain ⟨s, k0, _, hs⟩ := w.sl i _ h
  exact ⟨_, k0, .inl ⟨s, [.int a, .int b], 0, .int a, rfl, rfl, .inl (.inl hs), rfl, z (.int a) ρ (.int a) F H q (Post.refl w) (.int a)⟩⟩
theorem ex_st1 {a b : Int} (h : ρ[i]? = some (.st (.two a b))) (q : Q (.int b) ρ) : EX (tOp (rIxA K) (tVar i) (tC (.int 1))) ρ Q := fun B ad σ F H w Z z => by
  obtain ⟨s, k0, _, hs⟩ := w.sl i _ h
  exact ⟨_, k0, .inl ⟨s, [.int a, .int b], 1, .int b, rfl, rfl, .inl (.inl hs), rfl, z (.int b) ρ (.int b) F H q (Post.refl w) (.int b)⟩⟩
theorem two_grow {F H : Hp} {s : Addr} {a b c d : Int} {as : List Addr} (ha : as = [s]) (fh : Same F H) (hs : H s = some (.lst [.int a, .int b])) (fn : ∀ x ∈ as, F x = none) : Gr (· ∈ as) F H F (upd H s (.lst [.int c, .int d])) := by
  subst ha
  have fs := fn s (by simp)
  refine ⟨Same.refl F, fun x o e => ?_, fun x o e m => ?_, fun x e => ?_, fun _ _ z => z⟩
  · have ne : x ≠ s := fun q => by rw [q, fs] at e; cases e
    rw [upd_ne ne]; exact fh x o e
  · rw [upd_ne (fun q => m (by simp [q]))]; exact e
  · by_cases q : x = s
    · rw [q, upd_same]; intro z; cases z
    · rw [upd_ne q]; exact e
theorem sx_st0 (h : EX te ρ fun d ρ1 => ∃ v a b, d = .int v ∧ ρ1[i]? = some (.st (.two a b)) ∧ NX P (ρ1.set i (.st (.two v b)))) : SX (tAsg te (gSub (tVar i) (tC (.int 0)) rSetL)) ρ P := fun B σ F H w Dn n r bk c => by
  obtain ⟨ad, w⟩ := w
  refine h B ad σ F H w _ fun d ρ1 v F1 H1 q1 p1 r1 => ?_
  obtain ⟨x, a, b, rfl, h1, ρ', l, q⟩ := q1
  have ev := r1.int_inv
  subst ev
  obtain ⟨s, k0, as, hs⟩ := p1.wa.sl i _ h1
  have g := two_grow (c := x) (d := b) as p1.wa.gr.fh hs fun y hy => (p1.wa.fz i y hy).1
  exact ⟨_, k0, s, [.int a, .int b], 0, 0, rfl, rfl, hs, rfl, n ρ' σ F1 _ q (W.weak ⟨ad, p1.wa.stp (S' := .two x b) h1 k0 g ⟨as, upd_same⟩ fun y hy => (p1.wa.fz i y hy).1⟩ l)⟩
theorem sx_st1 (h : EX te ρ fun d ρ1 => ∃ v a b, d = .int v ∧ ρ1[i]? = some (.st (.two a b)) ∧ NX P (ρ1.set i (.st (.two a v)))) : SX (tAsg te (gSub (tVar i) (tC (.int 1)) rSetL)) ρ P := fun B σ F H w Dn n r bk c => by
  obtain ⟨ad, w⟩ := w
  refine h B ad σ F H w _ fun d ρ1 v F1 H1 q1 p1 r1 => ?_
  obtain ⟨x, a, b, rfl, h1, ρ', l, q⟩ := q1
  have ev := r1.int_inv
  subst ev
  obtain ⟨s, k0, as, hs⟩ := p1.wa.sl i _ h1
  have g := two_grow (c := a) (d := x) as p1.wa.gr.fh hs fun y hy => (p1.wa.fz i y hy).1
  exact ⟨_, k0, s, [.int a, .int b], 1, 1, rfl, rfl, hs, rfl, n ρ' σ F1 _ q (W.weak ⟨ad, p1.wa.stp (S' := .two a x) h1 k0 g ⟨as, upd_same⟩ fun y hy => (p1.wa.fz i y hy).1⟩ l)⟩
end
def T_draw (K : PySem.W.Frag) : TS :=
    (tSeq (tIfS (tTest (tOp (rEqP K) (tOp (rIxA K) (tVar 0) (tC (.int 1))) (tC (.int 0))))
      (tSeq (tAsg (tC (.int 0)) (gName 3))
    (tSeq (tIfS (tTest (tOp (rI0 fun i j => .bl (decide (j < i))) (tCB (rLen K) (tCons (tVar 1) tNil)) (tC (.int 0))))
      (tAsg (tOp (rIxA K) (tVar 1) (tOp (rI (fun _ j => 0 < j) fun i j => .int (i % j)) (tOp (rIxA K) (tVar 0) (tC (.int 0))) (tCB (rLen K) (tCons (tVar 1) tNil)))) (gName 3))
      tNext)
    (tSeq (tIfS (tTest (tOp (rI0 fun i j => .bl (decide (i < j))) (tVar 3) (tC (.int 0))))
      (tAsg (tOp (rI0 fun i j => .int (i - j)) (tC (.int 1)) (tOp (rI CMul fun i j => .int (i * j)) (tC (.int 2)) (tVar 3))) (gName 3))
      tNext)
    (tSeq (tAsg (tOp (rI (fun _ j => 0 < j) fun i j => .int (i % j)) (tCB (rInt) (tCons (tOp (rI CMul fun i j => .int (i * j)) (tOp (rPlus K) (tOp (rPlus K) (tVar 3) (tOp (rI CMul fun i j => .int (i * j)) (tOp (rIxA K) (tVar 0) (tC (.int 0))) (tC (.int 7919)))) (tC (.int 1))) (tC (.int 48271))) tNil)) (tC (.int 2147483647))) (gName 4))
    (tSeq (tAsg (tOp (rI (fun _ j => 0 < j) fun i j => .int (i % j)) (tCB (rInt) (tCons (tOp (rPlus K) (tOp (rI CMul fun i j => .int (i * j)) (tVar 4) (tC (.int 69621))) (tOp (rI CMul fun i j => .int (i * j)) (tOp (rIxA K) (tVar 0) (tC (.int 0))) (tC (.int 104729)))) tNil)) (tC (.int 4294967291))) (gSub (tVar 0) (tC (.int 1)) rSetL))
    (tSeq (tIfS (tAnd (tTest (tOp (rI0 fun i j => .bl (decide (j ≤ i))) (tVar 3) (tOp (rI CPow fun i j => .int (i ^ j.toNat)) (tC (.int 10)) (tC (.int 18))))) (tTest (tOp (rI0 fun i j => .bl (decide (i < j))) (tOp (rIxA K) (tVar 0) (tC (.int 0))) (tCB (rLen K) (tCons (tVar 1) tNil)))))
      (tAsg (tVar 3) (gSub (tVar 0) (tC (.int 1)) rSetL))
      tNext)
    (tAsg (tOp (rPlus K) (tOp (rIxA K) (tVar 0) (tC (.int 0))) (tC (.int 1))) (gSub (tVar 0) (tC (.int 0)) rSetL))))))))
      tNext)
    (tSeq (tAsg (tOp (rI (fun _ j => 0 < j) fun i j => .int (i % j)) (tCB (rInt) (tCons (tOp (rIxA K) (tVar 0) (tC (.int 1))) tNil)) (tVar 2)) (gName 5))
    (tSeq (tAsg (tOp (rI CDiv fun i j => .int (i / j)) (tOp (rIxA K) (tVar 0) (tC (.int 1))) (tVar 2)) (gSub (tVar 0) (tC (.int 1)) rSetL))
    (tRet (tVar 5)))))
def T_dr3 (K : PySem.W.Frag) : TS :=
    (tSeq (tAsg (tOp (rI (fun _ j => 0 < j) fun i j => .int (i % j)) (tCB (rInt) (tCons (tOp (rIxA K) (tVar 0) (tC (.int 1))) tNil)) (tVar 2)) (gName 5))
    (tSeq (tAsg (tOp (rI CDiv fun i j => .int (i / j)) (tOp (rIxA K) (tVar 0) (tC (.int 1))) (tVar 2)) (gSub (tVar 0) (tC (.int 1)) rSetL))
    (tRet (tVar 5))))
def T_dr4 (K : PySem.W.Frag) : TS :=
    (tSeq (tAsg (tOp (rI (fun _ j => 0 < j) fun i j => .int (i % j)) (tCB (rInt) (tCons (tOp (rI CMul fun i j => .int (i * j)) (tOp (rPlus K) (tOp (rPlus K) (tVar 3) (tOp (rI CMul fun i j => .int (i * j)) (tOp (rIxA K) (tVar 0) (tC (.int 0))) (tC (.int 7919)))) (tC (.int 1))) (tC (.int 48271))) tNil)) (tC (.int 2147483647))) (gName 4))
    (tSeq (tAsg (tOp (rI (fun _ j => 0 < j) fun i j => .int (i % j)) (tCB (rInt) (tCons (tOp (rPlus K) (tOp (rI CMul fun i j => .int (i * j)) (tVar 4) (tC (.int 69621))) (tOp (rI CMul fun i j => .int (i * j)) (tOp (rIxA K) (tVar 0) (tC (.int 0))) (tC (.int 104729)))) tNil)) (tC (.int 4294967291))) (gSub (tVar 0) (tC (.int 1)) rSetL))
    (tSeq (tIfS (tAnd (tTest (tOp (rI0 fun i j => .bl (decide (j ≤ i))) (tVar 3) (tOp (rI CPow fun i j => .int (i ^ j.toNat)) (tC (.int 10)) (tC (.int 18))))) (tTest (tOp (rI0 fun i j => .bl (decide (i < j))) (tOp (rIxA K) (tVar 0) (tC (.int 0))) (tCB (rLen K) (tCons (tVar 1) tNil)))))
      (tAsg (tVar 3) (gSub (tVar 0) (tC (.int 1)) rSetL))
      tNext)
    (tAsg (tOp (rPlus K) (tOp (rIxA K) (tVar 0) (tC (.int 0))) (tC (.int 1))) (gSub (tVar 0) (tC (.int 0)) rSetL)))))
def T_dr2 (K : PySem.W.Frag) : TS :=
    (tSeq (tIfS (tTest (tOp (rI0 fun i j => .bl (decide (i < j))) (tVar 3) (tC (.int 0))))
      (tAsg (tOp (rI0 fun i j => .int (i - j)) (tC (.int 1)) (tOp (rI CMul fun i j => .int (i * j)) (tC (.int 2)) (tVar 3))) (gName 3))
      tNext)
    (T_dr4 K))
def R_draw : Stt → List D → (D → Stt → Prop) → Prop := fun S ds Z => ∃ (ns : List Int) (m : Int), ds = [.list (ns.map .int), .int m] ∧ (1 ≤ m ∧ m < 1073741824) ∧ Ok2 S ∧ ∀ (r : Int) (S' : Stt), 0 ≤ r → r < m → Ok2 S' → Z (.int r) S'
local macro_rules | `(tactic| walk_at "e") => `(tactic| first
  | ((with_reducible refine nx_seq ?_); (try dsimp only [List.set_cons_succ, List.set_cons_zero]))
  | ((with_reducible refine ex_vr ?_); dsimp only [VQ, List.set_cons_succ, List.set_cons_zero, List.getElem?_cons_zero, List.getElem?_cons_succ]; (fail_if_success (with_reducible show False)))
  | (with_reducible refine sx_seq ?_)
  | (with_reducible refine sx_if ?_)
  | (with_reducible refine sx_next ?_)
  | (with_reducible refine sx_ret ?_)
  | ((fail_if_success (with_reducible refine sx_asgO (eo_lst ?_))); (with_reducible refine sx_asg ?_))
  | (with_reducible refine ex_int ?_)
  | (with_reducible refine ex_str ?_)
  | (with_reducible refine ex_bl ?_)
  | (with_reducible refine ex_non ?_)
  | (with_reducible refine ex_op ?_)
  | (with_reducible refine ex_un ?_)
  | (with_reducible refine ex_chain ?_)
  | (with_reducible refine ex_call ?_)
  | (with_reducible refine ex_isT ?_)
  | (with_reducible refine ex_cb ?_)
  | (with_reducible refine ex_sl ?_)
  | (with_reducible refine ex_tup ?_)
  | (with_reducible refine ex_if ?_)
  | (with_reducible refine ex_of (eo_lst ?_))
  | (with_reducible refine ex_notV ?_)
  | (with_reducible refine ea_nil ?_)
  | (with_reducible refine ea_cons ?_)
  | (with_reducible refine ep_no ?_)
  | (with_reducible refine ep_some ?_)
  | (with_reducible refine et_test ?_)
  | (with_reducible refine et_B ?_)
  | (with_reducible refine et_and ?_)
  | (with_reducible refine et_or ?_)
  | (with_reducible refine et_not ?_)
  | (with_reducible refine et_yes ?_)
  | (with_reducible refine opd_plusI ?_)
  | (with_reducible refine opd_I0 ?_)
  | (with_reducible refine opd_B0 ?_)
  | (with_reducible refine opd_eqI ?_)
  | (with_reducible refine opd_neI ?_)
  | (with_reducible refine opd_eqS ?_)
  | (with_reducible refine opd_neS ?_)
  | (with_reducible refine opd_is ?_)
  | (with_reducible refine opd_isnt ?_)
  | (with_reducible refine opd_ixT rfl ?_)
  | (with_reducible refine opd_ixL rfl ?_)
  | (with_reducible refine und_neg ?_)
  | (with_reducible refine cbd_lenL ?_)
  | (with_reducible refine cbd_lenT ?_)
  | (with_reducible refine cbd_min2 ?_)
  | (with_reducible refine cbd_max2 ?_)
  | (with_reducible refine cbd_abs ?_)
  | (with_reducible refine cbd_int ?_)
  | (with_reducible refine cbd_tupL ?_)
  | (with_reducible refine cbd_listL ?_)
  | (with_reducible refine cbd_listT ?_)
  | (with_reducible refine cbd_sum ?_)
  | (with_reducible refine sld_T ?_)
  | (with_reducible refine sld_L ?_)
  | (with_reducible refine ex_revL ?_)
  | (with_reducible refine ex_bmL ?_)
  | (with_reducible refine ex_andV ?_)
  | (with_reducible refine ei_list ?_)
  | (with_reducible refine ei_rng1 ?_)
  | (with_reducible refine ei_rng2 ?_)
  | (with_reducible refine ei_enum ?_)
  | (with_reducible refine ei_enumT ?_)
  | (with_reducible refine ei_zip ?_)
  | (with_reducible refine sx_par ?_)
  | (with_reducible refine Exists.intro _ (And.intro rfl ?_))
  | (with_reducible refine Exists.intro _ (Exists.intro _ (And.intro rfl ?_)))
  | ((with_reducible show EX (tCall (spS _) [] _ (tCons (tVar _) _)) _ _); refine ex_callS rfl ?_)
  | ((with_reducible refine And.intro (show (_ : Nat) ≤ 100000 from ?_) ?_); (focus (simp; done)))
  | ((with_reducible refine opd_I ?_ ?_); focus (first | omega | (show CDiv _ _; exact ⟨by omega, by omega⟩) | (show CMul _ _; first | exact Or.inl ⟨by omega, by omega⟩ | exact Or.inr ⟨by omega, by omega⟩))))
local macro_rules | `(tactic| walk_at "es") => `(tactic| repeat walk_at "e")
local macro_rules | `(tactic| walk_at "w") => `(tactic| try dsimp only [wipeE, List.foldl_cons, List.foldl_nil, List.set_cons_succ, List.set_cons_zero])
local macro_rules | `(tactic| walk_at "le") => `(tactic| repeat' first | exact LeE.nil | (refine LeE.eq rfl ?_) | (refine LeE.emp ?_) | (refine LeE.eq ?_ ?_))
local macro_rules | `(tactic| walk_at "no") => `(tactic| ((refine And.intro (fun hb => absurd hb ?_) (fun _ => ?_)); (focus (first | (exact Bool.false_ne_true) | (simp; done) | (simp; omega) | (simp only [decide_eq_true_eq]; omega)))))
local macro_rules | `(tactic| walk_at "yes") => `(tactic| ((refine And.intro (fun _ => ?_) (fun hb => absurd hb ?_)); (rotate_left); (focus (first | (exact Bool.noConfusion) | (simp; done) | (simp; omega) | (simp only [decide_eq_false_iff_not]; omega)))))
local macro_rules | `(tactic| walk_at "e") => `(tactic| first
  | ((with_reducible show EX (tOp (rIxA _) (tVar 0) (tC (.int 0))) _ _); refine ex_st0 rfl ?_)
  | ((with_reducible show EX (tOp (rIxA _) (tVar 0) (tC (.int 1))) _ _); refine ex_st1 rfl ?_))
theorem sx_draw (K : PySem.W.Frag) (S : Stt) (ds : List D) (Z : D → Stt → Prop) (h : R_draw S ds Z) :
    SX (T_draw K) (.st S :: (ds.map .val ++ List.replicate (6 - (ds.length + 1)) .emp)) { nx := fun ρ' => ∃ S', ρ'[0]? = some (.st S') ∧ Z .none S', rt := fun d ρ' => ∃ S', ρ'[0]? = some (.st S') ∧ Z d S' } := by
  obtain ⟨ns, m, rfl, ⟨m1, m2⟩, ok, z⟩ := h
  cases S with
  | cel a cs => exact ok.elim
  | dct kvs => exact ok.elim
  | dbl ks => exact ok.elim
  | grd rows => exact ok.elim
  | obj C fs => exact ok.elim
  | dtt kvs => exact ok.elim
  | two a b =>
  obtain ⟨a0, b0⟩ := ok
  show SX (T_draw K) [.st (.two a b), .val (.list (ns.map .int)), .val (.int m), .emp, .emp, .emp] _
  have fin : ∀ (a b : Int) (s3 s4 : Slot), 0 ≤ a → 0 ≤ b → SX (T_dr3 K) [.st (.two a b), .val (.list (ns.map .int)), .val (.int m), s3, s4, .emp] { nx := fun ρ' => ∃ S', ρ'[0]? = some (.st S') ∧ Z .none S', rt := fun d ρ' => ∃ S', ρ'[0]? = some (.st S') ∧ Z d S' } := fun a b s3 s4 a0 b0 => by
    unfold T_dr3
    refine sx_seq (sx_asg (ex_op (ex_cb (ea_cons (ex_st1 rfl (ea_nil (cbd_int ?_)))))))
    walk_at "es"
    refine sx_st1 (ex_op (ex_st1 rfl ?_))
    walk_at "es"
    refine ⟨_, a, b, rfl, rfl, ?_⟩
    walk_at "es"
    exact z _ _ (Int.emod_nonneg _ (by omega)) (Int.emod_lt_of_pos _ (by omega)) ⟨a0, Int.ediv_nonneg b0 (by omega)⟩
  have fill : ∀ (cell : Int), SX (T_dr4 K) [.st (.two a b), .val (.list (ns.map .int)), .val (.int m), .val (.int cell), .emp, .emp] (({ nx := fun ρ' => ∃ S', ρ'[0]? = some (.st S') ∧ Z .none S', rt := fun d ρ' => ∃ S', ρ'[0]? = some (.st S') ∧ Z d S' } : Po).seq (T_dr3 K)) := fun cell => by
    unfold T_dr4
    walk_at "es"
    have v0 : ∀ x : Int, 0 ≤ x % 4294967291 := fun x => Int.emod_nonneg _ (by decide)
    refine sx_st1 ?_
    walk_at "es"
    refine ⟨_, a, b, rfl, rfl, ?_⟩
    walk_at "es"
    have last : ∀ (b' : Int) (s4 : Slot), 0 ≤ b' → SX (tAsg (tOp (rPlus K) (tOp (rIxA K) (tVar 0) (tC (.int 0))) (tC (.int 1))) (gSub (tVar 0) (tC (.int 0)) rSetL)) [.st (.two a b'), .val (.list (ns.map .int)), .val (.int m), .val (.int cell), s4, .emp] (({ nx := fun ρ' => ∃ S', ρ'[0]? = some (.st S') ∧ Z .none S', rt := fun d ρ' => ∃ S', ρ'[0]? = some (.st S') ∧ Z d S' } : Po).seq (T_dr3 K)) := fun b' s4 hb' => by
      refine sx_st0 ?_
      walk_at "es"
      refine ⟨_, a, b', rfl, rfl, ?_⟩
      exact nx_seq (fin _ _ _ _ (by omega) hb')
    refine opd_I (C := CPow) ⟨by decide, by decide, by decide⟩ ?_
    walk_at "es"
    refine ⟨fun hc => ?_, fun hc => ?_⟩
    · have hc := of_decide_eq_true hc
      have h18 : (0 : Int) ≤ 10 ^ (18 : Int).toNat := by decide
      walk_at "es"
      refine ⟨fun hd => ?_, fun hd => ?_⟩
      · refine sx_st1 ?_
        walk_at "es"
        refine ⟨_, a, _, rfl, rfl, ?_⟩
        exact nx_seq (last _ _ (by omega))
      · exact sx_next (nx_seq (last _ _ (v0 _)))
    · refine ⟨(fun q => by cases q), fun _ => ?_⟩
      exact sx_next (nx_seq (last _ _ (v0 _)))
  have second : ∀ (cell : Int), SX (T_dr2 K) [.st (.two a b), .val (.list (ns.map .int)), .val (.int m), .val (.int cell), .emp, .emp] (({ nx := fun ρ' => ∃ S', ρ'[0]? = some (.st S') ∧ Z .none S', rt := fun d ρ' => ∃ S', ρ'[0]? = some (.st S') ∧ Z d S' } : Po).seq (T_dr3 K)) := fun cell => by
    unfold T_dr2
    refine sx_seq (sx_if (et_test (ex_op ?_)))
    walk_at "es"
    refine ⟨fun hc => ?_, fun hc => ?_⟩
    · refine sx_asg (ex_op (ex_int (ex_op (ex_int ?_))))
      walk_at "es"
      exact fill _
    · exact sx_next (nx_seq (fill _))
  unfold T_draw
  walk_at "es"
  refine ⟨fun hb => ?_, fun hb => ?_⟩
  · walk_at "es"
    refine ⟨fun hc => ?_, fun hc => ?_⟩
    · have hc := of_decide_eq_true hc
      rw [List.length_map] at hc
      refine sx_asg (ex_op ?_)
      walk_at "es"
      rw [List.length_map]
      refine opd_I (C := fun _ j => 0 < j) hc ?_
      refine opd_ixM 0 (Int.emod_nonneg _ (by omega)) (Int.emod_lt_of_pos _ hc) ?_
      exact nx_seq (second _)
    · exact sx_next (nx_seq (second _))
  · exact sx_next (nx_seq (fin _ _ _ _ a0 b0))
end Pu
/-! Comprehensions of two clauses over data. -/
namespace Pu
open PySem L2
section
variable {B : Base} {ad : Nat → List Addr} {ρ ρ' : Pu.Env} {σ : St} {F H F' H' F1 H1 : Hp}
theorem WA.updD (w : WA B ad ρ σ F H) {p : Addr} {o : HO} (nb : B.H0 p = none) (nad : ∀ i, p ∉ ad i) (hF : F p = none) : WA B ad ρ σ F (upd H p o) := by
  have neF : ∀ a o, F a = some o → a ≠ p := fun a o q z => by rw [z, hF] at q; cases q
  refine ⟨⟨w.gr.ff, fun a o q => by rw [upd_ne (neF a o q)]; exact w.gr.fh a o q, fun a o q m => ?_, fun a q => ?_, w.gr.fr⟩, w.len, fun j s q => ?_, w.fz, w.dj, w.out, w.pin⟩
  · rw [upd_ne (fun z => by rw [z, nb] at q; cases q)]
    exact w.gr.kp a o q m
  · by_cases ha : a = p
    · rw [ha, upd_same]; intro z; cases z
    · rw [upd_ne ha]; exact w.gr.al a q
  · have k := w.sl j s q
    cases s with
    | emp => exact k
    | val d => exact k
    | own es =>
      obtain ⟨p', ws, a1, a2, a3, a4, a5⟩ := k
      refine ⟨p', ws, a1, a2, a3, ?_, a5⟩
      rw [upd_ne (fun z => nad j (by rw [a1, z]; simp))]
      exact a4
    | st S =>
      obtain ⟨s, a1, a2⟩ := k
      exact ⟨s, a1, a2.keep (Same.refl _) fun a m o e => by
        rw [upd_ne (fun z => nad j (by rw [← z]; exact m))]
        exact e⟩
theorem Post.updD (pt : Post B ad σ ρ F1 H1 ρ' F H) {p : Addr} {o : HO} (hD : H1 p = none) (nb : B.H0 p = none) (nad : ∀ i, p ∉ ad i) (hF : F p = none) : Post B ad σ ρ F1 H1 ρ' F (upd H p o) := by
  have ne1 : ∀ a o, H1 a = some o → a ≠ p := fun a o q z => by rw [z, hD] at q; cases q
  have neF : ∀ a o, F a = some o → a ≠ p := fun a o q z => by rw [z, hF] at q; cases q
  refine ⟨pt.wa.updD nb nad hF, ⟨pt.gr.ff, fun a o q => by rw [upd_ne (neF a o q)]; exact pt.gr.fh a o q, fun a o q m => by rw [upd_ne (ne1 a o q)]; exact pt.gr.kp a o q m, fun a q => ?_, pt.gr.fr⟩, pt.sh⟩
  by_cases ha : a = p
  · rw [ha, upd_same]; intro z; cases z
  · rw [upd_ne ha]; exact pt.gr.al a q
end
/-- a value's truth as a test -/
def tTru (K : PySem.W.Frag) (te : TE) : TT := fun σ H Q => te σ H fun x H' => ∃ k, TruV K x H' k ∧ Q k H'
theorem pt_tru {X : Cx} {a : Expr} {te : TE} (h : PT X a (fun σ H Q => te σ H fun x H' => ∃ k, TruV X.K x H' k ∧ Q k H')) : PT X a (tTru X.K te) := h
theorem et_truL {K : PySem.W.Frag} {ρ : Pu.Env} {te : TE} {Q : Bool → Pu.Env → Prop} (h : EX te ρ fun d ρ1 => ∃ ds, d = .list ds ∧ Q (!ds.isEmpty) ρ1) : ET (tTru K te) ρ Q := fun B ad σ F H w Z z =>
  h B ad σ F H w _ fun d ρ1 v F1 H1 q1 p1 r1 => by
    obtain ⟨ds, rfl, q⟩ := q1
    obtain ⟨a, xs, rfl, h1, h2⟩ := r1.lst_inv
    refine ⟨!ds.isEmpty, .inl ⟨xs, sqL_rd h1 p1.wa.gr.fh, ?_⟩, z _ ρ1 F1 H1 q p1⟩
    have e := h2.len
    cases xs <;> cases ds <;> simp at e <;> rfl
section
variable {ρ : Pu.Env} {wi wi1 : TI} {g g1 : TG} {tt tt1 : TT} {te : TE}
def lc2L {α β : Type} (f : α → Bool) (ys : α → List β) (f1 : α → β → Bool) (gg : α → β → D) (xs : List α) : List D := (xs.filter f).flatMap fun x => ((ys x).filter (f1 x)).map (gg x)
theorem lc2L_snoc {α β : Type} {f : α → Bool} {ys : α → List β} {f1 : α → β → Bool} {gg : α → β → D} {xs : List α} {x : α} : lc2L f ys f1 gg (xs ++ [x]) = lc2L f ys f1 gg xs ++ (if f x = true then ((ys x).filter (f1 x)).map (gg x) else []) := by
  unfold lc2L
  rw [List.filter_append, List.flatMap_append]
  cases h : f x <;> simp [List.filter_cons, h]
theorem lc2L_le {α β : Type} {f : α → Bool} {ys : α → List β} {f1 : α → β → Bool} {gg : α → β → D} {xs : List α} {k : Nat} {x : α} (hx : xs[k]? = some x) (hf : f x = true) (j : Nat) :
    (lc2L f ys f1 gg (xs.take k) ++ (((ys x).take j).filter (f1 x)).map (gg x)).length ≤ (lc2L f ys f1 gg xs).length := by
  have hk : k < xs.length := (List.getElem?_eq_some_iff.mp hx).1
  have e : xs = xs.take k ++ [x] ++ xs.drop (k + 1) := by
    have h1 : xs.take k ++ [x] = xs.take (k + 1) := by rw [List.take_add_one, hx]; rfl
    rw [h1, List.take_append_drop]
  have e2 : lc2L f ys f1 gg xs = lc2L f ys f1 gg (xs.take k) ++ (((ys x).filter (f1 x)).map (gg x) ++ lc2L f ys f1 gg (xs.drop (k + 1))) := by
    conv => lhs; rw [e]
    have : lc2L f ys f1 gg (xs.take k ++ [x] ++ xs.drop (k + 1)) = lc2L f ys f1 gg (xs.take k ++ [x]) ++ lc2L f ys f1 gg (xs.drop (k + 1)) := by
      unfold lc2L; rw [List.filter_append, List.flatMap_append]
    rw [this, lc2L_snoc, if_pos hf, List.append_assoc]
  rw [e2]
  simp only [List.length_append, List.length_map]
  have : (((ys x).take j).filter (f1 x)).length ≤ ((ys x).filter (f1 x)).length := (List.Sublist.filter _ (List.take_sublist _ _)).length_le
  omega
/-- [e for target in .. if .. for target1 in .. if ..], nothing changes -/
theorem eo_lc2P {α β : Type} {vs vs1 : List Nat} {Q : List D → Pu.Env → Prop} (f : α → Bool) (ys : α → List β) (f1 : α → β → Bool) (enc1 : α → β → D) (gg : α → β → D) (h : EI wi ρ fun ds ρ1 => ∃ (xs : List α) (enc : α → D), ds = xs.map enc ∧ (lc2L f ys f1 gg xs).length < 1000000 ∧ Plain ρ1 vs ∧
    (∀ x ∈ xs, SG vs g (enc x) (wipeE ρ1 vs) fun ρ2 => unw vs ρ1 ρ2 = ρ1 ∧ Plain ρ2 vs1 ∧ ET tt ρ2 fun b ρ3 => b = f x ∧ ρ3 = ρ2 ∧ (f x = true → EI wi1 ρ2 fun ds1 ρ4 => ds1 = (ys x).map (enc1 x) ∧ ρ4 = ρ2 ∧
      ∀ y ∈ ys x, SG vs1 g1 (enc1 x y) (wipeE ρ2 vs1) fun ρ5 => unw vs1 ρ2 ρ5 = ρ2 ∧ ET tt1 ρ5 fun b ρ6 => b = f1 x y ∧ ρ6 = ρ5 ∧ (f1 x y = true → EX te ρ5 fun e ρ7 => e = gg x y ∧ ρ7 = ρ5))) ∧ Q (lc2L f ys f1 gg xs) ρ1) : EO (tLc2 wi g tt wi1 g1 tt1 te vs vs1) ρ Q := fun B ad σ F H w Z z => by
  refine h B ad σ F H w _ fun ds ρ1 J F1 H1 q1 p1 it => ?_
  obtain ⟨xs, enc, rfl, hz, pl, turn, done⟩ := q1
  intro Dl hD
  have hDH : H Dl = none := by
    cases q : H Dl with
    | none => rfl
    | some o => exact absurd hD (p1.gr.al Dl (by rw [q]; intro z; cases z))
  have nw := p1.wa.newp hD
  have nms : ∀ (ρ2 : Pu.Env), ¬ MS ad ρ2 Dl := fun ρ2 ⟨j, S, _, m⟩ => nw.2.2 j m
  let Inv := fun (i : Nat) (H' : Hp) => ∃ F' vs', Post B ad σ ρ1 F1 H1 ρ1 F' H' ∧ F' Dl = none ∧ H' Dl = some (.lst vs') ∧ RpA F' vs' (lc2L f ys f1 gg (xs.take i))
  refine ⟨fun i m H' => m = (xs.map enc).length - i ∧ i ≤ (xs.map enc).length ∧ Inv i H', ⟨_, rfl, Nat.zero_le _, F1, [], Post.of p1.wa (Gr.heap p1.wa.gr.fh (same_upd hD)), nw.1, upd_same, .nil⟩, ?_⟩
  rintro i m H' ⟨rfl, hi, F', vs', P, hF, hH, ra⟩
  by_cases hlt : i < (xs.map enc).length
  · refine .inr ⟨it.go i H' (P.gr.ff.trans P.wa.gr.fh) hlt, fun H2 => Inv (i + 1) H2, fun H2 k => ⟨(xs.map enc).length - (i + 1), by omega, rfl, hlt, k⟩, fun x H2 y => ?_⟩
    obtain ⟨d, F2, e, gr, rx⟩ := it.yld i H' x H2 F' P.gr.ff P.wa.gr.fh y hlt
    rw [List.getElem?_map] at e
    obtain ⟨a, ex, rfl⟩ : ∃ a, xs[i]? = some a ∧ enc a = d := by
      cases hx : xs[i]? with
      | none => rw [hx] at e; cases e
      | some a => rw [hx] at e; exact ⟨a, rfl, Option.some.inj e⟩
    have hm : a ∈ xs := List.mem_of_getElem? ex
    have et : xs.take (i + 1) = xs.take i ++ [a] := by rw [List.take_add_one, ex]; rfl
    have P2 := P.trans (Post.of P.wa gr)
    have w2 := P.wa.grow gr
    have hF2 : F2 Dl = none := gr.fr Dl (by rw [hH]; intro z; cases z) hF
    have hH2 : H2 Dl = some (.lst vs') := gr.kp Dl _ hH id
    refine turn a hm B ad (wipe σ vs) F2 H2 x (w2.wiped pl) (pl.ad w2) rx _ fun ρ2 σ2 q wb e2 fr => ?_
    obtain ⟨un2, pl1, q⟩ := q
    have e2' : wipe σ2 vs = wipe σ vs := by
      rw [e2]
      apply List.ext_getElem?
      intro j
      rw [wipe_get, wipe_get, wipe_length]
      split
      · rfl
      · first | rfl | rw [wipe_get, if_neg (by assumption)]
    refine ⟨e2', q B ad σ2 F2 H2 wb _ fun b ρ3 F3 H3 q3 p3 => ?_⟩
    obtain ⟨rfl, rfl, q3⟩ := q3
    cases hb : f a with
    | false =>
      show Inv (i + 1) H3
      have pu := Post.unwiped w2 pl e2' fr wb p3
      rw [un2] at pu
      refine ⟨F3, vs', P2.trans pu, p3.gr.fr Dl (by rw [hH2]; intro z; cases z) hF2, p3.gr.kp Dl _ hH2 (nms _), ?_⟩
      rw [et, lc2L_snoc, if_neg (by rw [hb]; decide), List.append_nil]
      exact ra.up (gr.ff.trans p3.gr.ff)
    | true =>
      show wi1 σ2 H3 _
      refine q3 hb B ad σ2 F3 H3 p3.wa _ fun ds1 ρ4 J1 F4 H4 q4 p4 it1 => ?_
      obtain ⟨rfl, rfl, turn1⟩ := q4
      have p34 := p3.trans p4
      have pu := Post.unwiped w2 pl e2' fr wb p34
      rw [un2] at pu
      let Inv1 := fun (j : Nat) (H' : Hp) => ∃ F' vs', Post B ad σ ρ1 F1 H1 ρ1 F' H' ∧ WA B ad ρ4 σ2 F' H' ∧ Same F4 F' ∧ F' Dl = none ∧ H' Dl = some (.lst vs') ∧ RpA F' vs' (lc2L f ys f1 gg (xs.take i) ++ (((ys a).take j).filter (f1 a)).map (gg a))
      refine ⟨fun j k H' => k = ((ys a).map (enc1 a)).length - j ∧ j ≤ ((ys a).map (enc1 a)).length ∧ Inv1 j H', ⟨_, rfl, Nat.zero_le _, F4, vs', P2.trans pu, p34.wa, Same.refl F4, p34.gr.fr Dl (by rw [hH2]; intro z; cases z) hF2, p34.gr.kp Dl _ hH2 (nms _), by
        show RpA F4 vs' (lc2L f ys f1 gg (xs.take i) ++ [])
        rw [List.append_nil]; exact ra.up (gr.ff.trans p34.gr.ff)⟩, ?_⟩
      rintro j k H5 ⟨rfl, hj, F5, vs5, P5, w5, f45, hF5, hH5, ra5⟩
      by_cases hl1 : j < ((ys a).map (enc1 a)).length
      · refine .inr ⟨it1.go j H5 (f45.trans w5.gr.fh) hl1, fun H6 => Inv1 (j + 1) H6, fun H6 k => ⟨((ys a).map (enc1 a)).length - (j + 1), by omega, rfl, hl1, k⟩, fun x1 H6 y1 => ?_⟩
        obtain ⟨d1, F6, e1, gr1, rx1⟩ := it1.yld j H5 x1 H6 F5 f45 w5.gr.fh y1 hl1
        rw [List.getElem?_map] at e1
        obtain ⟨c, ec, rfl⟩ : ∃ c, (ys a)[j]? = some c ∧ enc1 a c = d1 := by
          cases hx : (ys a)[j]? with
          | none => rw [hx] at e1; cases e1
          | some c => rw [hx] at e1; exact ⟨c, rfl, Option.some.inj e1⟩
        have hc : c ∈ ys a := List.mem_of_getElem? ec
        have et1 : (ys a).take (j + 1) = (ys a).take j ++ [c] := by rw [List.take_add_one, ec]; rfl
        have P6 := P5.trans (Post.of P5.wa gr1)
        have w6 := w5.grow gr1
        have hF6 : F6 Dl = none := gr1.fr Dl (by rw [hH5]; intro z; cases z) hF5
        have hH6 : H6 Dl = some (.lst vs5) := gr1.kp Dl _ hH5 id
        refine turn1 c hc B ad (wipe σ2 vs1) F6 H6 x1 (w6.wiped pl1) (pl1.ad w6) rx1 _ fun ρ5 σ5 q wb5 e5 fr5 => ?_
        obtain ⟨un5, q⟩ := q
        have e5' : wipe σ5 vs1 = wipe σ2 vs1 := by
          rw [e5]
          apply List.ext_getElem?
          intro j
          rw [wipe_get, wipe_get, wipe_length]
          split
          · rfl
          · first | rfl | rw [wipe_get, if_neg (by assumption)]
        refine ⟨e5', q B ad σ5 F6 H6 wb5 _ fun b ρ6 F7 H7 q6 p6 => ?_⟩
        obtain ⟨rfl, rfl, q6⟩ := q6
        have low : ∀ {F8 H8 : Hp}, Post B ad σ5 ρ6 F6 H6 ρ6 F8 H8 → Post B ad σ2 ρ4 F6 H6 ρ4 F8 H8 ∧ Post B ad σ ρ1 F6 H6 ρ1 F8 H8 := fun p => by
          have a1 := Post.unwiped w6 pl1 e5' fr5 wb5 p
          rw [un5] at a1
          have a2 := Post.unwiped P6.wa pl e2' fr w6 a1
          rw [un2] at a2
          exact ⟨a1, a2⟩
        cases hb1 : f1 a c with
        | false =>
          show Inv1 (j + 1) H7
          obtain ⟨a1, a2⟩ := low p6
          refine ⟨F7, vs5, P6.trans a2, a1.wa, f45.trans (gr1.ff.trans p6.gr.ff), p6.gr.fr Dl (by rw [hH6]; intro z; cases z) hF6, p6.gr.kp Dl _ hH6 (nms _), ?_⟩
          rw [et1, List.filter_append, List.filter_cons, if_neg (by rw [hb1]; decide), List.filter_nil, List.append_nil]
          exact ra5.up (gr1.ff.trans p6.gr.ff)
        | true =>
          show te σ5 H7 _
          refine q6 hb1 B ad σ5 F7 H7 p6.wa _ fun e ρ7 v F8 H8 q7 p7 rv => ?_
          obtain ⟨rfl, rfl⟩ := q7
          obtain ⟨a1, a2⟩ := low (p6.trans p7)
          have p67 := p6.trans p7
          have hF8 : F8 Dl = none := p67.gr.fr Dl (by rw [hH6]; intro z; cases z) hF6
          have hH8 : H8 Dl = some (.lst vs5) := p67.gr.kp Dl _ hH6 (nms _)
          have ra8 := (ra5.up (gr1.ff.trans p67.gr.ff)).app (.cons rv .nil)
          refine ⟨vs5, hH8, Nat.lt_of_lt_of_le (by rw [ra5.len]; exact Nat.lt_of_le_of_lt (lc2L_le ex hb j) hz) (by decide), ?_⟩
          show Inv1 (j + 1) _
          refine ⟨F8, vs5 ++ [v], (P6.trans a2).updD hD nw.2.1 nw.2.2 hF8, a1.wa.updD nw.2.1 nw.2.2 hF8, f45.trans (gr1.ff.trans p67.gr.ff), hF8, upd_same, ?_⟩
          rw [et1, List.filter_append, List.map_append, List.filter_cons, if_pos hb1, List.filter_nil, ← List.append_assoc]
          exact ra8
      · have e : j = (ys a).length := by rw [List.length_map] at hl1 hj; omega
        subst e
        rw [List.take_length] at ra5
        refine .inl ⟨it1.stop _ H5 (f45.trans w5.gr.fh) (by rw [List.length_map]; exact Nat.le_refl _), ?_⟩
        show Inv (i + 1) H5
        refine ⟨F5, vs5, P5, hF5, hH5, ?_⟩
        rw [et, lc2L_snoc, if_pos hb]
        exact ra5
  · have e : i = xs.length := by rw [List.length_map] at hlt hi; omega
    subst e
    rw [List.take_length] at ra
    exact .inl ⟨it.stop _ H' (P.gr.ff.trans P.wa.gr.fh) (by rw [List.length_map]; exact Nat.le_refl _), z _ ρ1 Dl vs' F' H' done (p1.trans P) hF hDH hH ra⟩
end
end Pu
namespace Pu
open PySem L2
theorem ex_val {te : TE} {ρ : Pu.Env} {Q : D → Pu.Env → Prop} (d0 : D) (h : EX te ρ fun d ρ' => d = d0 ∧ ρ' = ρ) (q : Q d0 ρ) : EX te ρ Q := h.imp fun d ρ' e => by rw [e.1, e.2]; exact q
theorem et_val {tt : TT} {ρ : Pu.Env} {Q : Bool → Pu.Env → Prop} (b0 : Bool) (h : ET tt ρ fun b ρ' => b = b0 ∧ ρ' = ρ) (q : Q b0 ρ) : ET tt ρ Q := et_imp h fun b ρ' e => by rw [e.1, e.2]; exact q
theorem sx_mid {t u : TS} {ρ : Pu.Env} {P : Po} (ρ1 : Pu.Env) (h : SX t ρ { nx := fun ρ' => ρ' = ρ1, rt := fun _ _ => False }) (k : SX u ρ1 P) : SX (tSeq t u) ρ P := sx_seq fun B σ F H w Dn n r b c =>
  h B σ F H w Dn (fun ρ' σ' F' H' e w' => n ρ' σ' F' H' (by rw [e]; exact k) w') (fun _ _ _ _ _ _ q => q.elim) (fun _ _ _ _ q => q.elim) (fun _ _ _ _ q => q.elim)
/-- the same with what holds of the slots behind t -/
theorem sx_midP {t u : TS} {ρ : Pu.Env} {P : Po} (J : Pu.Env → Prop) (h : SX t ρ { nx := J, rt := fun _ _ => False }) (k : ∀ ρ1, J ρ1 → SX u ρ1 P) : SX (tSeq t u) ρ P := sx_seq fun B σ F H w Dn n r b c =>
  h B σ F H w Dn (fun ρ' σ' F' H' e w' => n ρ' σ' F' H' (k ρ' e) w') (fun _ _ _ _ _ _ q => q.elim) (fun _ _ _ _ q => q.elim) (fun _ _ _ _ q => q.elim)
theorem cbd_intB {b : Bool} {Q : D → Prop} (k : Q (.int (if b then 1 else 0))) : CbD rInt [.bool b] Q := fun F H vs e r Z z => by
  obtain ⟨v, rfl, rv⟩ := r.one
  cases rv.bl_inv
  exact .inr ⟨_, rfl, z _ _ F H k (Gr.refl e) (.int _)⟩
theorem last_at (ds : List D) (d : D) : atI (ds ++ [d]) (-1) = some d := by
  have e : ixN (ds.length + 1) (-1) = some ds.length := by
    unfold ixN
    simp
    omega
  simp [atI, e]
theorem enum_zip {α : Type} (f : α → D) : ∀ (k : Nat) (xs : List α), enumD k (xs.map f) = (xs.zipIdx k).map fun p => .tuple [.int (p.2 : Int), f p.1]
  | _, [] => rfl
  | k, x :: xs => by
    rw [List.map_cons, List.zipIdx_cons, List.map_cons, ← enum_zip f (k + 1) xs]
    rfl
theorem enum_at {α : Type} {f : α → D} {xs : List α} {k : Nat} {d : D} (h : (enumD 0 (xs.map f))[k]? = some d) : ∃ x, xs[k]? = some x ∧ d = .tuple [.int (k : Int), f x] := by
  rw [enum_zip, List.getElem?_map, List.getElem?_zipIdx] at h
  cases e : xs[k]? with
  | none => rw [e] at h; simp at h
  | some x =>
    rw [e] at h
    simp at h
    exact ⟨x, rfl, h.symm⟩
theorem enum_len {α : Type} {f : α → D} {xs : List α} : (enumD 0 (xs.map f)).length = xs.length := by rw [enum_zip, List.length_map, List.length_zipIdx]
theorem find_first {α : Type} {g : Nat → Option α} {n k : Nat} {d : α} (hk : k < n) (h : ∀ j, j < k → g j = none) (e : g k = some d) : (List.range n).findSome? g = some d := by
  obtain ⟨m, rfl⟩ : ∃ m, n = k + 1 + m := ⟨n - (k + 1), by omega⟩
  rw [List.range_add, List.range_succ, List.findSome?_append, List.findSome?_append]
  have : (List.range k).findSome? g = none := List.findSome?_eq_none_iff.mpr fun x hx => h x (List.mem_range.mp hx)
  rw [this]
  simp [e]
theorem find_no {α : Type} {g : Nat → Option α} {n : Nat} (h : ∀ j, j < n → g j = none) : (List.range n).findSome? g = none := List.findSome?_eq_none_iff.mpr fun x hx => h x (List.mem_range.mp hx)
theorem fmin_all : ∀ (ns : List Int) (a : Int), ns.foldl min a ≤ a ∧ (∀ x ∈ ns, ns.foldl min a ≤ x) ∧ (ns.foldl min a = a ∨ ns.foldl min a ∈ ns)
  | [], a => ⟨Int.le_refl _, ⟨(fun _ h => by cases h), Or.inl rfl⟩⟩
  | n :: ns, a => by
    obtain ⟨h1, h2, h3⟩ := fmin_all ns (min a n)
    rw [List.foldl_cons]
    refine ⟨by omega, fun x hx => ?_, ?_⟩
    · rcases List.mem_cons.mp hx with rfl | q
      · omega
      · exact h2 x q
    · rcases h3 with q | q
      · rcases (show min a n = a ∨ min a n = n by omega) with z | z
        · left; rw [q, z]
        · right; rw [q, z]; simp
      · right; exact List.mem_cons_of_mem _ q
theorem foldMin_is {ns : List Int} {m : Int} (hm : m ∈ ns) (h : ∀ x ∈ ns, m ≤ x) : foldMin ns = m := by
  cases ns with
  | nil => cases hm
  | cons n ns =>
    show ns.foldl min n = m
    obtain ⟨h1, h2, h3⟩ := fmin_all ns n
    have a : ns.foldl min n ≤ m := by
      rcases List.mem_cons.mp hm with rfl | q
      · exact h1
      · exact h2 m q
    have b : m ≤ ns.foldl min n := by
      rcases h3 with q | q
      · rw [q]; exact h n (by simp)
      · exact h _ (List.mem_cons_of_mem _ q)
    omega
theorem foldMin_le {ns : List Int} {x : Int} (hm : x ∈ ns) : foldMin ns ≤ x := by
  cases ns with
  | nil => cases hm
  | cons n ns =>
    show ns.foldl min n ≤ x
    obtain ⟨h1, h2, h3⟩ := fmin_all ns n
    rcases List.mem_cons.mp hm with rfl | q
    · exact h1
    · exact h2 x q
theorem foldMin_mem {ns : List Int} (h : 0 < ns.length) : foldMin ns ∈ ns := by
  cases ns with
  | nil => simp at h
  | cons n ns =>
    show ns.foldl min n ∈ n :: ns
    rcases (fmin_all ns n).2.2 with q | q
    · rw [q]; simp
    · exact List.mem_cons_of_mem _ q
theorem take_snoc' {α : Type} {l : List α} {k : Nat} {x : α} (h : l[k]? = some x) : l.take (k + 1) = l.take k ++ [x] := by rw [List.take_add_one, h]; rfl
theorem get_D {α : Type} {l : List α} {k : Nat} {a : α} (h : k < l.length) : l[k]? = some (l.getD k a) := by rw [List.getD_eq_getElem?_getD]; simp [h]
theorem mem_D {α : Type} {l : List α} {k : Nat} {a : α} (h : k < l.length) : l.getD k a ∈ l := List.mem_of_getElem? (get_D h)
theorem flat_snoc' {α β : Type} {l : List α} {x : α} {f : α → List β} : (l ++ [x]).flatMap f = l.flatMap f ++ f x := by simp
theorem eqv_encP (u v : Int × Int) : PyData.eqv (encP u) (encP v) = decide (u = v) := by
  show PyData.eqvAll [.int u.1, .int u.2] [.int v.1, .int v.2] = _
  simp only [PyData.eqvAll, PyData.eqv, Bool.and_true]
  by_cases h : u = v
  · subst h; simp
  · rw [decide_eq_false h]
    by_cases h1 : u.1 = v.1
    · have h2 : u.2 ≠ v.2 := fun q => h (Prod.ext h1 q)
      simp [h2]
    · simp [h1]
theorem any_encP (ws : List (Int × Int)) (w : Int × Int) : ((ws.map encP).any fun y => PyData.eqv y (encP w)) = decide (w ∈ ws) := by
  rw [Bool.eq_iff_iff, List.any_eq_true, decide_eq_true_eq]
  constructor
  · rintro ⟨x, hx, e⟩
    obtain ⟨u, hu, rfl⟩ := List.mem_map.mp hx
    rw [eqv_encP, decide_eq_true_eq] at e
    rwa [← e]
  · intro h
    exact ⟨encP w, List.mem_map.mpr ⟨w, h, rfl⟩, by rw [eqv_encP]; simp⟩
theorem eqv_listP : ∀ (xs ys : List (Int × Int)), PyData.eqvAll (xs.map encP) (ys.map encP) = decide (xs = ys)
  | [], [] => by simp [PyData.eqvAll]
  | [], _ :: _ => by simp [PyData.eqvAll]
  | _ :: _, [] => by simp [PyData.eqvAll]
  | x :: xs, y :: ys => by
    rw [List.map_cons, List.map_cons, PyData.eqvAll, eqv_encP, eqv_listP xs ys]
    by_cases h1 : x = y <;> by_cases h2 : xs = ys <;> simp [h1, h2]
theorem eqv_LP (xs ys : List (Int × Int)) : PyData.eqv (.list (xs.map encP)) (.list (ys.map encP)) = decide (xs = ys) := by
  show PyData.eqvAll _ _ = _
  exact eqv_listP xs ys
/-- l.index(x) of data -/
theorem mtd_indexD {K : PySem.W.Frag} {ds : List D} {d z : D} {j : Nat} {Q : D → Prop} (s1 : PySem.SeqAt.shaped (.list ds) = true) (s2 : PySem.SeqAt.shaped d = true) (hz : ds[j]? = some z) (he : PyData.eqv z d = true)
    (hno : ∀ (m : Nat) (z' : D), m < j → ds[m]? = some z' → PyData.eqv z' d = false) (k : Q (.int (j : Nat))) : MtD (rIndexD K) (.list ds) [d] Q := fun F H x vs e r rv Z z' => by
  obtain ⟨v, rfl, rv1⟩ := rv.one
  have r' := r.dp (K := K) e
  obtain ⟨a, xs, rfl, h1, h2⟩ := r.lst_inv
  exact ⟨a, v, d, ds, j, z, rfl, rfl, r', rv1.dp e, s1, s2, hz, he, hno, z' _ _ F H k (Gr.refl e) (.int _)⟩
theorem lay_encP (xs : List (Int × Int)) : PyData.canLayAll0 (xs.map encP) = true := by
  induction xs with
  | nil => simp [PyData.canLayAll0]
  | cons x xs ih => rw [List.map_cons, PyData.canLayAll0, ih]; simp [encP, PyData.canLay0, PyData.canLayAll0]
theorem mtd_indexP {K : PySem.W.Frag} {ws : List (Int × Int)} {w : Int × Int} {Q : D → Prop} (hw : w ∈ ws) (k : Q (.int (ws.idxOf w : Nat))) : MtD (rIndexD K) (.list (ws.map encP)) [encP w] Q := by
  have hl : ws.idxOf w < ws.length := List.idxOf_lt_length_iff.mpr hw
  have d1 : (PyData.list (ws.map encP)).depth ≤ 64 := by
    have h : DpN 3 (PyData.list (ws.map encP)) := dpn_list (dpn_map fun x _ => dpn_tup (dpn_cons dpn_int (dpn_cons dpn_int dpn_nil)))
    exact Nat.le_trans h (by decide)
  have d2 : (encP w).depth ≤ 64 := by
    have h : DpN 2 (encP w) := dpn_tup (dpn_cons dpn_int (dpn_cons dpn_int dpn_nil))
    exact Nat.le_trans h (by decide)
  refine mtd_indexD (z := encP w) (j := ws.idxOf w) ?_ ?_ ?_ ?_ (fun m z' hm hz => ?_) k
  · unfold PySem.SeqAt.shaped
    rw [decide_eq_true d1, Bool.and_true]
    show PyData.canLayAll0 _ = true
    exact lay_encP ws
  · unfold PySem.SeqAt.shaped
    rw [decide_eq_true d2, Bool.and_true]
    simp [encP, PyData.canLay0, PyData.canLayAll0]
  · rw [List.getElem?_map, List.getElem?_eq_getElem hl, List.getElem_idxOf hl]; rfl
  · rw [eqv_encP]; simp
  · rw [List.getElem?_map, List.getElem?_eq_getElem (by omega)] at hz
    cases hz
    rw [eqv_encP, decide_eq_false_iff_not]
    have := List.not_of_lt_findIdx (p := fun x => x == w) hm
    simpa using this
theorem enum_rng {α : Type} {f : α → D} (a : α) (xs : List α) : enumD 0 (xs.map f) = (rngI 0 xs.length).map fun k => .tuple [.int k, f (xs.getD k.toNat a)] := by
  refine List.ext_getElem? fun k => ?_
  rw [enum_zip, List.getElem?_map, List.getElem?_zipIdx, List.getElem?_map]
  by_cases h : k < xs.length
  · rw [rngI_get h, get_D (a := a) h]
    simp
  · rw [List.getElem?_eq_none (by omega), List.getElem?_eq_none (by rw [rngI_len]; omega)]
    rfl
theorem units65 {k : Nat} {A : Around} (r : Room k A) : A.units + 65 < cLine := by have := r.un; omega
end Pu
/-! PuN: a list of lists of ints and None that is changed within: a state (Stt.grd) from a comprehension [list(x) for x in ..], read, changed, frozen. -/
namespace Pu
open PySem L2
def optD : Option Int → D
  | none => .none
  | some i => .int i
def rowD (row : List (Option Int)) : D := .list (row.map optD)
theorem rp_ov (F : Hp) (x : Option Int) : Rp F (ov x) (optD x) := by
  cases x with
  | none => exact .non
  | some i => exact .int i
theorem ov_inv {F : Hp} {v : V} {x : Option Int} (h : Rp F v (optD x)) : v = ov x := by
  cases x with
  | none => exact h.non_inv
  | some i => exact h.int_inv
theorem rpa_ov (F : Hp) : ∀ row : List (Option Int), RpA F (row.map ov) (row.map optD)
  | [] => .nil
  | x :: row => .cons (rp_ov F x) (rpa_ov F row)
theorem ovs_inv {F : Hp} : ∀ {row : List (Option Int)} {vs : List V}, RpA F vs (row.map optD) → vs = row.map ov
  | [], _, h => by cases h; rfl
  | x :: row, _, h => by
    cases h with
    | cons h1 h2 => rw [ov_inv h1, ovs_inv h2]; rfl
theorem GrA.len {H : Hp} : ∀ {qs : List Addr} {rows : List (List (Option Int))}, GrA H qs rows → qs.length = rows.length
  | [], [], _ => rfl
  | q :: qs, r :: rows, h => by rw [List.length_cons, List.length_cons, GrA.len h.2]
  | [], _ :: _, h => h.elim
  | _ :: _, [], h => h.elim
theorem GrA.get {H : Hp} : ∀ {qs : List Addr} {rows : List (List (Option Int))} {i : Nat} {r : List (Option Int)}, GrA H qs rows → rows[i]? = some r → ∃ q, qs[i]? = some q ∧ H q = some (.lst (r.map ov))
  | q :: qs, r :: rows, 0, _, h, e => by
    cases e
    exact ⟨q, rfl, h.1⟩
  | q :: qs, r :: rows, i + 1, r', h, e => by
    have := GrA.get h.2 (show rows[i]? = some r' by simpa using e)
    simpa using this
  | [], [], _, _, _, e => by simp at e
  | [], _ :: _, _, _, h, _ => h.elim
  | _ :: _, [], _, _, h, _ => h.elim
theorem GrA.app {H : Hp} {l : Addr} {r : List (Option Int)} (hl : H l = some (.lst (r.map ov))) : ∀ {qs : List Addr} {rows : List (List (Option Int))}, GrA H qs rows → GrA H (qs ++ [l]) (rows ++ [r])
  | [], [], _ => ⟨hl, trivial⟩
  | q :: qs, s :: rows, h => ⟨h.1, GrA.app hl h.2⟩
  | [], _ :: _, h => h.elim
  | _ :: _, [], h => h.elim
theorem GrA.out {H : Hp} {p : Addr} {o : HO} : ∀ {qs : List Addr} {rows : List (List (Option Int))}, p ∉ qs → GrA H qs rows → GrA (upd H p o) qs rows
  | [], [], _, _ => trivial
  | q :: qs, r :: rows, hn, h => ⟨by rw [upd_ne (fun e => hn (by rw [e]; simp))]; exact h.1, GrA.out (fun m => hn (by simp [m])) h.2⟩
  | [], _ :: _, _, h => h.elim
  | _ :: _, [], _, h => h.elim
theorem GrA.set {H : Hp} {r' : List (Option Int)} : ∀ {qs : List Addr} {rows : List (List (Option Int))} {i : Nat} {q : Addr}, qs.Nodup → GrA H qs rows → qs[i]? = some q → GrA (upd H q (.lst (r'.map ov))) qs (rows.set i r')
  | p :: qs, r :: rows, 0, _, nd, h, e => by
    cases e
    rw [List.nodup_cons] at nd
    exact ⟨upd_same, GrA.out nd.1 h.2⟩
  | p :: qs, r :: rows, i + 1, q, nd, h, e => by
    rw [List.nodup_cons] at nd
    have e : qs[i]? = some q := by simpa using e
    refine ⟨?_, GrA.set nd.2 h.2 e⟩
    rw [upd_ne (fun z => nd.1 (by rw [z]; exact List.mem_of_getElem? e))]
    exact h.1
  | [], [], _, _, _, _, e => by simp at e
  | [], _ :: _, _, _, _, h, _ => h.elim
  | _ :: _, [], _, _, _, h, _ => h.elim
/-- an expression that makes a state -/
def EN (te : TE) (ρ : Pu.Env) (Q : Stt → Pu.Env → Prop) : Prop := ∀ B ad σ F H, WA B ad ρ σ F H → ∀ Z : VK,
  (∀ S s as ρ1 F1 H1 F' H', Q S ρ1 → Post B ad σ ρ F H ρ1 F1 H1 → Gr Non F1 H1 F' H' → StAt F' H' S s as → (∀ a ∈ as, F' a = none ∧ H1 a = none) → Z (.ref s) H') → te σ H Z
section
variable {ρ : Pu.Env} {P : Po} {te tb tc : TE} {t : TS} {K : PySem.W.Frag}
theorem WA.setVal2 {B : Base} {ad : Nat → List Addr} {ρ : Pu.Env} {σ : St} {F H : Hp} (w : WA B ad ρ σ F H) (i : Nat) {d : D} {v : V} (r : Rp F v d) : WA B (fun k => if k = i then [] else ad k) (ρ.set i (.val d)) (σ.set i (some v)) F H := by
  refine ⟨w.gr, by rw [List.length_set, List.length_set]; exact w.len, fun j s e => ?_, fun j p m => ?_, fun j1 j2 q m1 m2 => ?_, fun j e => ?_, w.pin.to fun S e => by
    rcases get_set e with ⟨_, q⟩ | ⟨hj, e⟩
    · cases q
    · exact ⟨⟨S, e⟩, List.getElem?_set_ne (Ne.symm hj), if_neg hj⟩⟩
  · rcases get_set e with ⟨rfl, rfl⟩ | ⟨hj, e'⟩
    · have hi : j < σ.length := by
        have := (List.getElem?_eq_some_iff.mp e).1
        rw [List.length_set] at this
        rw [w.len]; exact this
      exact ⟨if_pos rfl, v, List.getElem?_set_self hi, r⟩
    · rw [if_neg hj, List.getElem?_set_ne (Ne.symm hj)]
      exact w.sl j s e'
  · by_cases hj : j = i
    · simp [hj] at m
    · simp only [if_neg hj] at m
      exact w.fz j p m
  · by_cases h1 : j1 = i
    · simp [h1] at m1
    · by_cases h2 : j2 = i
      · simp [h2] at m2
      · simp only [if_neg h1] at m1
        simp only [if_neg h2] at m2
        exact w.dj j1 j2 q m1 m2
  · show (if j = i then [] else ad j) = []
    by_cases hj : j = i
    · rw [if_pos hj]
    · rw [if_neg hj]
      exact w.out j (get_set' e)
theorem WA.setOwn2 {B : Base} {ad : Nat → List Addr} {ρ : Pu.Env} {σ : St} {F H : Hp} (w : WA B ad ρ σ F H) (i : Nat) {ds : List D} {p : Addr} {vs : List V} (hF : F p = none) (h0 : B.H0 p = none) (hn : ∀ i, p ∉ ad i) (hp : H p = some (.lst vs)) (r : RpA F vs ds) :
    WA B (fun k => if k = i then (if i < ρ.length then [p] else []) else ad k) (ρ.set i (.own ds)) (σ.set i (some (.ref p))) F H := by
  refine ⟨w.gr, by rw [List.length_set, List.length_set]; exact w.len, fun j s e => ?_, fun j q m => ?_, fun j1 j2 q m1 m2 => ?_, fun j e => ?_, w.pin.to fun S e => by
    rcases get_set e with ⟨_, q⟩ | ⟨hj, e⟩
    · cases q
    · exact ⟨⟨S, e⟩, List.getElem?_set_ne (Ne.symm hj), if_neg hj⟩⟩
  · rcases get_set e with ⟨rfl, rfl⟩ | ⟨hj, e'⟩
    · have hi : j < ρ.length := by
        have := (List.getElem?_eq_some_iff.mp e).1
        rwa [List.length_set] at this
      exact ⟨p, vs, by rw [if_pos rfl, if_pos hi], h0, List.getElem?_set_self (by rw [w.len]; exact hi), hp, r⟩
    · rw [if_neg hj, List.getElem?_set_ne (Ne.symm hj)]
      exact w.sl j s e'
  · by_cases hj : j = i
    · simp only [if_pos hj] at m
      by_cases hi : i < ρ.length
      · simp only [if_pos hi, List.mem_singleton] at m
        subst m
        exact ⟨hF, .inl h0⟩
      · simp [if_neg hi] at m
    · simp only [if_neg hj] at m
      exact w.fz j q m
  · have g : ∀ j, q ∈ (if j = i then (if i < ρ.length then [p] else []) else ad j) → (j = i ∧ q = p) ∨ (j ≠ i ∧ q ∈ ad j) := fun j m => by
      by_cases hj : j = i
      · simp only [if_pos hj] at m
        by_cases hi : i < ρ.length
        · simp only [if_pos hi, List.mem_singleton] at m
          exact .inl ⟨hj, m⟩
        · simp [if_neg hi] at m
      · simp only [if_neg hj] at m
        exact .inr ⟨hj, m⟩
    rcases g j1 m1 with ⟨a1, b1⟩ | ⟨a1, b1⟩ <;> rcases g j2 m2 with ⟨a2, b2⟩ | ⟨a2, b2⟩
    · rw [a1, a2]
    · exact absurd (b1 ▸ b2) (hn j2)
    · exact absurd (b2 ▸ b1) (hn j1)
    · exact w.dj j1 j2 q b1 b2
  · show (if j = i then (if i < ρ.length then [p] else []) else ad j) = []
    have e' := get_set' e
    by_cases hj : j = i
    · subst hj
      rw [if_pos rfl, if_neg (by rw [List.getElem?_eq_none_iff] at e'; omega)]
    · rw [if_neg hj]
      exact w.out j e'
theorem WA.setSt2 {B : Base} {ad : Nat → List Addr} {ρ : Pu.Env} {σ : St} {F H : Hp} {S : Stt} {s : Addr} {as : List Addr} (w : WA B ad ρ σ F H) (i : Nat) (h00 : i ≠ 0) (st : StAt F H S s as) (hF : ∀ a ∈ as, F a = none) (nw : ∀ a ∈ as, B.H0 a = none ∧ ∀ j, a ∉ ad j) :
    WA B (fun k => if k = i then (if i < ρ.length then as else []) else ad k) (ρ.set i (.st S)) (σ.set i (some (.ref s))) F H := by
  refine ⟨w.gr, by rw [List.length_set, List.length_set]; exact w.len, fun j sl e => ?_, fun j q m => ?_, fun j1 j2 q m1 m2 => ?_, fun j e => ?_, w.pin.to fun S2 e => by
    rcases get_set e with ⟨e0, _⟩ | ⟨hj, e⟩
    · exact absurd e0.symm h00
    · exact ⟨⟨S2, e⟩, List.getElem?_set_ne (Ne.symm hj), if_neg hj⟩⟩
  · rcases get_set e with ⟨rfl, rfl⟩ | ⟨hj, e'⟩
    · have hi : j < ρ.length := by
        have := (List.getElem?_eq_some_iff.mp e).1
        rwa [List.length_set] at this
      exact ⟨s, List.getElem?_set_self (by rw [w.len]; exact hi), by rw [if_pos rfl, if_pos hi]; exact st⟩
    · rw [if_neg hj, List.getElem?_set_ne (Ne.symm hj)]
      exact w.sl j sl e'
  · by_cases hj : j = i
    · simp only [if_pos hj] at m
      by_cases hi : i < ρ.length
      · simp only [if_pos hi] at m
        exact ⟨hF q m, .inl (nw q m).1⟩
      · simp [if_neg hi] at m
    · simp only [if_neg hj] at m
      exact w.fz j q m
  · have g : ∀ j, q ∈ (if j = i then (if i < ρ.length then as else []) else ad j) → (j = i ∧ q ∈ as) ∨ (j ≠ i ∧ q ∈ ad j) := fun j m => by
      by_cases hj : j = i
      · simp only [if_pos hj] at m
        by_cases hi : i < ρ.length
        · simp only [if_pos hi] at m
          exact .inl ⟨hj, m⟩
        · simp [if_neg hi] at m
      · simp only [if_neg hj] at m
        exact .inr ⟨hj, m⟩
    rcases g j1 m1 with ⟨a1, b1⟩ | ⟨a1, b1⟩ <;> rcases g j2 m2 with ⟨a2, b2⟩ | ⟨a2, b2⟩
    · rw [a1, a2]
    · exact absurd b2 ((nw q b1).2 j2)
    · exact absurd b1 ((nw q b2).2 j1)
    · exact w.dj j1 j2 q b1 b2
  · show (if j = i then (if i < ρ.length then as else []) else ad j) = []
    have e' := get_set' e
    by_cases hj : j = i
    · subst hj
      rw [if_pos rfl, if_neg (by rw [List.getElem?_eq_none_iff] at e'; omega)]
    · rw [if_neg hj]
      exact w.out j e'
theorem sx_asgE {i : Nat} (h00 : i ≠ 0) (h : EN te ρ fun S ρ1 => NX P (ρ1.set i (.st S))) : SX (tAsg te (gName i)) ρ P := fun B σ F H w Dn n r b c => by
  obtain ⟨ad, w⟩ := w
  refine h B ad σ F H w _ fun S s as ρ1 F1 H1 F' H' q p g st fn => ?_
  obtain ⟨ρ2, l, q⟩ := q
  exact n ρ2 _ F' H' q (W.weak ⟨_, (p.wa.grow g).setSt2 i h00 st (fun a m => (fn a m).1) fun a m => (p.wa.newp (fn a m).2).2⟩ l)
theorem wipe_twice (σ : St) (vs : List Nat) : wipe (wipe σ vs) vs = wipe σ vs := by
  apply List.ext_getElem?
  intro j
  rw [wipe_get, wipe_get, wipe_length]
  split
  · rfl
  · first | rfl | rw [wipe_get, if_neg (by assumption)]
/-- [list(x) for x in ..]: the lists that it makes are a state -/
theorem en_grid {r : Nat} {Q : Stt → Pu.Env → Prop} (h : EX te ρ fun d ρ1 => ∃ rows, d = .list (rows.map rowD) ∧ rows.length < 1000000 ∧ r < ρ1.length ∧ Q (.grd rows) ρ1) :
    EN (tLc (iList K te) (gName r) tYes (tCB (rList K) (tCons (tVar r) tNil)) [r]) ρ Q := fun B ad σ F H w Z z => by
  have hi : EI (iList K te) ρ fun ds ρ1 => ∃ rows : List (List (Option Int)), ds = rows.map rowD ∧ rows.length < 1000000 ∧ r < ρ1.length ∧ Q (.grd rows) ρ1 := ei_list (h.imp fun d ρ1 e => by
    obtain ⟨rows, e, k⟩ := e
    exact ⟨_, e, rows, rfl, k⟩)
  refine hi B ad σ F H w _ fun ds ρ1 J F1 H1 q1 p1 it => ?_
  obtain ⟨rows, rfl, hz, hr, q⟩ := q1
  intro Dl hD
  have hrs : r < σ.length := by rw [p1.wa.len]; exact hr
  have nF1 : F1 Dl = none := (p1.wa.newp hD).1
  let Inv := fun (k : Nat) (H' : Hp) => ∃ qs F', Gr Non F1 H1 F' H' ∧ (Dl :: qs).Nodup ∧ (∀ a ∈ Dl :: qs, F' a = none ∧ H1 a = none) ∧ H' Dl = some (.lst (qs.map V.ref)) ∧ GrA H' qs (rows.take k) ∧ qs.length = k
  refine ⟨fun i m H' => m = (rows.map rowD).length - i ∧ i ≤ (rows.map rowD).length ∧ Inv i H', ⟨_, rfl, Nat.zero_le _, [], F1, Gr.heap p1.wa.gr.fh (same_upd hD), by simp, fun a ha => ?_, upd_same, trivial, rfl⟩, ?_⟩
  · have e : a = Dl := by simpa using ha
    rw [e]
    exact ⟨nF1, hD⟩
  rintro i m H' ⟨rfl, hi, qs, F', g, nd, fn, hl, hg, ql⟩
  by_cases hlt : i < (rows.map rowD).length
  · refine .inr ⟨it.go i H' (g.ff.trans g.fh) hlt, fun H2 => Inv (i + 1) H2, fun H2 k => ⟨(rows.map rowD).length - (i + 1), by omega, rfl, hlt, k⟩, fun x H2 y => ?_⟩
    obtain ⟨d, F2, e, gr, rx⟩ := it.yld i H' x H2 F' g.ff g.fh y hlt
    rw [List.getElem?_map] at e
    obtain ⟨row, ex, rfl⟩ : ∃ row, rows[i]? = some row ∧ rowD row = d := by
      cases hx : rows[i]? with
      | none => rw [hx] at e; cases e
      | some a => rw [hx] at e; exact ⟨a, rfl, Option.some.inj e⟩
    obtain ⟨p, xs, rfl, h1, h2⟩ := rx.lst_inv
    have hxs := ovs_inv h2
    subst hxs
    have g2 : Gr Non F1 H1 F2 H2 := g.trans gr (fun _ _ z => z) fun _ _ z => z
    have alive : ∀ a ∈ Dl :: qs, H' a ≠ none := fun a ha => by
      rcases List.mem_cons.mp ha with rfl | ha
      · rw [hl]; intro z; cases z
      · exact hg.mem a ha
    have hl2 : H2 Dl = some (.lst (qs.map V.ref)) := gr.kp _ _ hl id
    have hg2 : GrA H2 qs (rows.take i) := hg.keep fun a _ o e => gr.kp a o e id
    refine ⟨?_, ?_⟩
    · rw [wipe_set (by simp), wipe_twice]
    show tCB (rList K) (tCons (tVar r) tNil) _ H2 _
    refine ⟨_, List.getElem?_set_self (by rw [wipe_length]; exact hrs), p, row.map ov, rfl, .inl (sqL_rd h1 gr.fh), fun l hl0 => ?_⟩
    have ne : l ≠ Dl := fun z => by rw [z, hl2] at hl0; cases hl0
    have lout : ∀ a ∈ Dl :: qs, a ≠ l := fun a ha z => gr.al a (alive a ha) (by rw [z]; exact hl0)
    have F2l : F2 l = none := by
      cases q : F2 l with
      | none => rfl
      | some o => rw [g2.fh l o q] at hl0; cases hl0
    have H1l : H1 l = none := by
      cases q : H1 l with
      | none => rfl
      | some o => exact absurd hl0 (g2.al l (by rw [q]; intro z; cases z))
    have F2D : ∀ a ∈ Dl :: qs, F2 a = none := fun a ha => gr.fr a (alive a ha) (fn a ha).1
    refine ⟨qs.map V.ref, by rw [upd_ne (Ne.symm ne)]; exact hl2, ?_, ?_⟩
    · rw [List.length_map, ql]
      have : i < rows.length := by rw [List.length_map] at hlt; exact hlt
      exact Nat.lt_trans (Nat.lt_trans this hz) (by decide)
    show Inv (i + 1) _
    have nf : ∀ a o, F2 a = some o → a ≠ l ∧ a ≠ Dl := fun a o e => ⟨(fun z => by rw [z, F2l] at e; cases e), (fun z => by rw [z, F2D Dl (by simp)] at e; cases e)⟩
    have n1 : ∀ a, H1 a ≠ none → a ≠ l ∧ a ≠ Dl := fun a e => ⟨fun z => e (by rw [z]; exact H1l), fun z => e (by rw [z]; exact hD)⟩
    refine ⟨qs ++ [l], F2, ⟨g2.ff, fun a o e => ?_, fun a o e m => ?_, fun a e => ?_, g2.fr⟩, ?_, ?_, ?_, ?_, by simp [ql]⟩
    · rw [upd_ne (nf a o e).2, upd_ne (nf a o e).1]
      exact g2.fh a o e
    · have na := n1 a (by rw [e]; intro z; cases z)
      rw [upd_ne na.2, upd_ne na.1]
      exact g2.kp a o e m
    · have na := n1 a e
      rw [upd_ne na.2, upd_ne na.1]
      exact g2.al a e
    · rw [List.nodup_cons] at nd ⊢
      refine ⟨fun m => ?_, ?_⟩
      · rcases List.mem_append.mp m with m | m
        · exact nd.1 m
        · exact ne (List.mem_singleton.mp m).symm
      · refine List.nodup_append.mpr ⟨nd.2, by simp, fun a ha b hb e => ?_⟩
        rw [List.mem_singleton.mp hb] at e
        exact lout a (by simp [ha]) e
    · intro a ha
      rcases List.mem_cons.mp ha with rfl | ha
      · exact ⟨F2D _ (by simp), hD⟩
      · rcases List.mem_append.mp ha with ha | ha
        · exact ⟨F2D a (by simp [ha]), (fn a (by simp [ha])).2⟩
        · rw [List.mem_singleton.mp ha]; exact ⟨F2l, H1l⟩
    · rw [upd_same, List.map_append]; rfl
    · rw [take_snoc' ex]
      refine GrA.out (fun m => ?_) (GrA.app upd_same (GrA.out (fun m => lout l (by simp [m]) rfl) hg2))
      rcases List.mem_append.mp m with m | m
      · exact (List.nodup_cons.mp nd).1 m
      · exact ne (List.mem_singleton.mp m).symm
  · have e : i = rows.length := by rw [List.length_map] at hlt hi; omega
    subst e
    rw [List.take_length] at hg
    exact .inl ⟨it.stop _ H' (g.ff.trans g.fh) (by rw [List.length_map]; exact Nat.le_refl _), z (.grd rows) Dl (Dl :: qs) ρ1 F1 H1 F' H' q p1 g ⟨qs, rfl, nd, hl, hg⟩ fn⟩
/-- x[a][b] of such a state -/
theorem ex_grd {i : Nat} {rows0 : List (List (Option Int))} {Q : D → Pu.Env → Prop} (h : ρ[i]? = some (.st (.grd rows0))) (k : EX tb ρ fun d ρ1 => ∃ a m rows1 r1, d = .int a ∧ ρ1[i]? = some (.st (.grd rows1)) ∧ ixN rows1.length a = some m ∧ rows1[m]? = some r1 ∧
    EX tc ρ1 fun e ρ2 => ∃ b rows r x, e = .int b ∧ ρ2[i]? = some (.st (.grd rows)) ∧ rows[m]? = some r ∧ atI r b = some x ∧ Q (optD x) ρ2) : EX (tOp (rIxA K) (tOp (rIxA K) (tVar i) tb) tc) ρ Q := fun B ad σ F H w Z z => by
  obtain ⟨s, k0, qs0, has0, _, _, _⟩ := w.sl i _ h
  refine ⟨_, k0, k B ad σ F H w _ fun d ρ1 y F1 H1 q1 p1 ry => ?_⟩
  obtain ⟨a, m, rows1, r1, rfl, h1, hm, hr1, q1⟩ := q1
  obtain ⟨s1, k1, qs1, has1, nd1, hs1, hg1⟩ := p1.wa.sl i _ h1
  rw [k0] at k1
  cases k1
  obtain ⟨q, hq, _⟩ := hg1.get hr1
  have hat : atI (qs1.map V.ref) a = some (V.ref q) := by
    unfold atI
    rw [List.length_map, hg1.len, hm]
    show (qs1.map V.ref)[m]? = _
    rw [List.getElem?_map, hq]
    rfl
  refine .inl ⟨s, qs1.map V.ref, a, .ref q, rfl, ry.int_inv, .inl (.inl hs1), hat, ?_⟩
  refine q1 B ad σ F1 H1 p1.wa _ fun e ρ2 u F2 H2 q2 p2 ru => ?_
  obtain ⟨b, rows, r, x, rfl, h2, hr, hx, q2⟩ := q2
  obtain ⟨s2, k2, qs2, has2, nd2, hs2, hg2⟩ := p2.wa.sl i _ h2
  rw [k0] at k2
  cases k2
  have eq : qs2 = qs1 := by
    have := has2.symm.trans has1
    simpa using this
  subst eq
  obtain ⟨q', hq', hH⟩ := hg2.get hr
  rw [hq] at hq'
  cases hq'
  have hx' : atI (r.map ov) b = some (ov x) := by
    unfold atI at hx ⊢
    rw [List.length_map]
    cases e : ixN r.length b with
    | none => rw [e] at hx; cases hx
    | some j =>
      rw [e] at hx
      show (r.map ov)[j]? = _
      rw [List.getElem?_map, show r[j]? = some x from hx]
      rfl
  exact .inl ⟨q, r.map ov, b, ov x, rfl, ru.int_inv, .inl (.inl hH), hx', z _ ρ2 _ F2 H2 q2 (p1.trans p2) (rp_ov F2 x)⟩
theorem ex_lenG {i : Nat} {rows : List (List (Option Int))} {Q : D → Pu.Env → Prop} (h : ρ[i]? = some (.st (.grd rows))) (q : Q (.int (rows.length : Int)) ρ) : EX (tCB (rLen K) (tCons (tVar i) tNil)) ρ Q := fun B ad σ F H w Z z => by
  obtain ⟨s, k0, qs, _, _, hs, hg⟩ := w.sl i _ h
  exact ⟨_, k0, _, rows.length, rfl, .inl ⟨qs.map V.ref, .inl (.inl hs), by rw [List.length_map, hg.len]⟩, z _ ρ _ F H q (Post.refl w) (.int _)⟩
theorem ex_lenG1 {i : Nat} {rows0 : List (List (Option Int))} {Q : D → Pu.Env → Prop} (h : ρ[i]? = some (.st (.grd rows0))) (k : EX tb ρ fun d ρ1 => ∃ a m rows r, d = .int a ∧ ρ1[i]? = some (.st (.grd rows)) ∧ ixN rows.length a = some m ∧ rows[m]? = some r ∧ Q (.int (r.length : Int)) ρ1) :
    EX (tCB (rLen K) (tCons (tOp (rIxA K) (tVar i) tb) tNil)) ρ Q := fun B ad σ F H w Z z => by
  obtain ⟨s, k0, qs0, has0, _, _, _⟩ := w.sl i _ h
  refine ⟨_, k0, k B ad σ F H w _ fun d ρ1 y F1 H1 q1 p1 ry => ?_⟩
  obtain ⟨a, m, rows1, r1, rfl, h1, hm, hr1, q1⟩ := q1
  obtain ⟨s1, k1, qs1, has1, nd1, hs1, hg1⟩ := p1.wa.sl i _ h1
  rw [k0] at k1
  cases k1
  obtain ⟨q, hq, hH⟩ := hg1.get hr1
  have hat : atI (qs1.map V.ref) a = some (V.ref q) := by
    unfold atI
    rw [List.length_map, hg1.len, hm]
    show (qs1.map V.ref)[m]? = _
    rw [List.getElem?_map, hq]
    rfl
  refine .inl ⟨s, qs1.map V.ref, a, .ref q, rfl, ry.int_inv, .inl (.inl hs1), hat, ?_⟩
  exact ⟨_, r1.length, rfl, .inl ⟨r1.map ov, .inl (.inl hH), by rw [List.length_map]⟩, z _ ρ1 _ F1 H1 q1 p1 (.int _)⟩
/-- x[a][b] = e -/
theorem sx_setG {i : Nat} (h : EX te ρ fun d ρ1 => ∃ x rows1, d = optD x ∧ ρ1[i]? = some (.st (.grd rows1)) ∧ EX tb ρ1 fun a' ρ2 => ∃ a m rows2 r2, a' = .int a ∧ ρ2[i]? = some (.st (.grd rows2)) ∧ ixN rows2.length a = some m ∧ rows2[m]? = some r2 ∧
    EX tc ρ2 fun b' ρ3 => ∃ b j rows r, b' = .int b ∧ ρ3[i]? = some (.st (.grd rows)) ∧ rows[m]? = some r ∧ ixN r.length b = some j ∧ NX P (ρ3.set i (.st (.grd (rows.set m (r.set j x)))))) :
    SX (tAsg te (gSub (tOp (rIxA K) (tVar i) tb) tc rSetL)) ρ P := fun B σ F H w Dn n rt bk ct => by
  obtain ⟨ad, w⟩ := w
  refine h B ad σ F H w _ fun d ρ1 v F1 H1 q1 p1 rv => ?_
  obtain ⟨x, rows1, rfl, h1, q1⟩ := q1
  have ev := ov_inv rv
  obtain ⟨s, k0, qs0, has0, _, _, _⟩ := p1.wa.sl i _ h1
  refine ⟨_, k0, q1 B ad σ F1 H1 p1.wa _ fun a' ρ2 y F2 H2 q2 p2 ry => ?_⟩
  obtain ⟨a, m, rows2, r2, rfl, h2, hm, hr2, q2⟩ := q2
  obtain ⟨s1, k1, qs1, has1, nd1, hs1, hg1⟩ := p2.wa.sl i _ h2
  rw [k0] at k1
  cases k1
  obtain ⟨q, hq, _⟩ := hg1.get hr2
  have hat : atI (qs1.map V.ref) a = some (V.ref q) := by
    unfold atI
    rw [List.length_map, hg1.len, hm]
    show (qs1.map V.ref)[m]? = _
    rw [List.getElem?_map, hq]
    rfl
  refine .inl ⟨s, qs1.map V.ref, a, .ref q, rfl, ry.int_inv, .inl (.inl hs1), hat, ?_⟩
  refine q2 B ad σ F2 H2 p2.wa _ fun b' ρ3 u F3 H3 q3 p3 ru => ?_
  obtain ⟨b, j, rows, r, rfl, h3, hr, hj, ρ', l, q3⟩ := q3
  have st3 := p3.wa.sl i _ h3
  obtain ⟨s2, k2, qs2, has2, nd2, hs2, hg2⟩ := st3
  rw [k0] at k2
  cases k2
  have eq : qs2 = qs1 := by
    have := has2.symm.trans has1
    simpa using this
  subst eq
  obtain ⟨q', hq', hH⟩ := hg2.get hr
  rw [hq] at hq'
  cases hq'
  have hqm : q ∈ qs2 := List.mem_of_getElem? hq
  have hqa : q ∈ ad i := by rw [has2]; simp [hqm]
  have hFq : F3 q = none := (p3.wa.fz i q hqa).1
  have hsq : s ≠ q := fun e => (List.nodup_cons.mp nd2).1 (by rw [e]; exact hqm)
  refine ⟨q, r.map ov, b, j, rfl, ru.int_inv, hH, by rw [List.length_map]; exact hj, ?_⟩
  have eset : (r.map ov).set j v = (r.set j x).map ov := by rw [ev, List.map_set]
  rw [eset]
  have g : Gr (· ∈ ad i) F3 H3 F3 (upd H3 q (.lst ((r.set j x).map ov))) := ⟨Same.refl F3, fun a o e => by
      rw [upd_ne (fun z => by rw [z, hFq] at e; cases e)]
      exact p3.wa.gr.fh a o e, fun a o e mm => by
      rw [upd_ne (fun z => mm (by rw [z]; exact hqa))]
      exact e, fun a e => by
      by_cases ha : a = q
      · rw [ha, upd_same]; intro z; cases z
      · rw [upd_ne ha]; exact e, fun _ _ z => z⟩
  refine n ρ' σ F3 _ q3 (W.weak ⟨ad, p3.wa.stp (S' := .grd (rows.set m (r.set j x))) h3 k0 g ⟨qs2, has2, nd2, ?_, ?_⟩ fun a ha => (p3.wa.fz i a ha).1⟩ l)
  · rw [upd_ne hsq]; exact hs2
  · exact GrA.set (List.nodup_cons.mp nd2).2 hg2 hq
/-- the lists are data from now on -/
theorem rpa_grd {F : Hp} : ∀ {qs : List Addr} {rows : List (List (Option Int))}, GrA F qs rows → RpA F (qs.map V.ref) (rows.map rowD)
  | [], [], _ => .nil
  | q :: qs, r :: rows, h => .cons (.lst (.inl h.1) (rpa_ov F r)) (rpa_grd h.2)
  | [], _ :: _, h => h.elim
  | _ :: _, [], h => h.elim
theorem sx_frzG (i : Nat) (h00 : i ≠ 0) {rows : List (List (Option Int))} (h : ρ[i]? = some (.st (.grd rows))) (k : SX t (ρ.set i (.val (.list (rows.map rowD)))) P) : SX t ρ P := fun B σ F H w => by
  obtain ⟨ad, w⟩ := w
  obtain ⟨s, k0, qs, has, nd, hs, hg⟩ := w.sl i _ h
  have hn : ∀ p ∈ ad i, B.H0 p = none := fun p m => by
    rcases (w.fz i p m).2 with q | q
    · exact q
    · exact absurd q.2 h00
  have up : Same F (fun a => if a ∈ ad i then H a else F a) := fun a o e => by
    have : a ∉ ad i := fun m => by rw [(w.fz i a m).1] at e; cases e
    show (if a ∈ ad i then H a else F a) = some o
    rw [if_neg this]; exact e
  have at1 : ∀ a ∈ ad i, (if a ∈ ad i then H a else F a) = H a := fun a m => if_pos m
  refine k B σ (fun a => if a ∈ ad i then H a else F a) H ⟨fun j => if j = i then [] else ad j, ⟨w.gr.ff.trans up, fun a o e => ?_, w.gr.kp, w.gr.al, fun a e z => ?_⟩, by rw [List.length_set]; exact w.len, fun j sl e => ?_, fun j q m => ?_, fun j1 j2 q m1 m2 => ?_, fun j e => ?_, w.pin.to fun S2 e => by
    rcases get_set e with ⟨e0, _⟩ | ⟨hj, e⟩
    · exact absurd e0.symm h00
    · exact ⟨⟨S2, e⟩, rfl, if_neg hj⟩⟩
  · have e : (if a ∈ ad i then H a else F a) = some o := e
    by_cases m : a ∈ ad i
    · rw [at1 a m] at e; exact e
    · skip
      rw [if_neg m] at e; exact w.gr.fh a o e
  · have m : a ∉ ad i := fun m => e (hn a m)
    show (if a ∈ ad i then H a else F a) = none
    rw [if_neg m]
    exact w.gr.fr a e z
  · rcases get_set e with ⟨rfl, rfl⟩ | ⟨hj, e⟩
    · refine ⟨if_pos rfl, .ref s, k0, .lst (xs := qs.map V.ref) (.inl ?_) (rpa_grd (hg.keep fun q hq o e => ?_))⟩
      · exact (at1 s (by rw [has]; simp)).trans hs
      · exact (at1 q (by rw [has]; simp [hq])).trans e
    · rw [if_neg hj]
      have k := w.sl j sl e
      cases sl with
      | emp => exact k
      | val d =>
        obtain ⟨k, v, e, r⟩ := k
        exact ⟨k, v, e, r.up up⟩
      | own es =>
        obtain ⟨q, ws, a1, a2, a3, a4, a5⟩ := k
        exact ⟨q, ws, a1, a2, a3, a4, a5.up up⟩
      | st S2 =>
        obtain ⟨s2, a1, a2⟩ := k
        exact ⟨s2, a1, a2.keep up fun _ _ _ e => e⟩
  · by_cases hj : j = i
    · simp only [if_pos hj] at m; cases m
    · simp only [if_neg hj] at m
      have : q ∉ ad i := fun m' => hj (w.dj j i q m m')
      refine ⟨?_, (w.fz j q m).2⟩
      show (if q ∈ ad i then H q else F q) = none
      rw [if_neg this]
      exact (w.fz j q m).1
  · by_cases h1 : j1 = i
    · simp only [if_pos h1] at m1; cases m1
    · by_cases h2 : j2 = i
      · simp only [if_pos h2] at m2; cases m2
      · simp only [if_neg h1] at m1
        simp only [if_neg h2] at m2
        exact w.dj j1 j2 q m1 m2
  · show (if j = i then [] else ad j) = []
    by_cases hj : j = i
    · rw [if_pos hj]
    · rw [if_neg hj]; exact w.out j (get_set' e)
/-- a, b, c = (an own list), (data), (a state): a tuple that nobody keeps -/
theorem sx_parOVN {K : PySem.W.Frag} {a b c : Nat} {te1 te2 te3 : TE} (h00 : c ≠ 0) (h : EO te1 ρ fun ds1 ρ1 => EX te2 ρ1 fun d2 ρ2 => EN te3 ρ2 fun S ρ3 => NX P (((ρ3.set a (.own ds1)).set b (.val d2)).set c (.st S))) :
    SX (tAsg (tTup (tCons te1 (tCons te2 (tCons te3 tNil)))) (gTup K 3 (gCons (gName a) (gCons (gName b) (gCons (gName c) gNil))))) ρ P := fun B σ F H w Dn n r bk ct => by
  obtain ⟨ad, w⟩ := w
  refine h B ad σ F H w _ fun ds1 ρ1 p1 vs1 F1 H1 q1 P1 hF1 hH1 hp1 rv1 => ?_
  refine q1 B ad σ F1 H1 P1.wa _ fun d2 ρ2 v2 F2 H2 q2 P2 rv2 => ?_
  refine q2 B ad σ F2 H2 P2.wa _ fun S s as ρ3 F4 H4 F3 H3 q3 P4 g st fn => ?_
  obtain ⟨ρ', l, q⟩ := q3
  refine ⟨by show 3 ≤ sizeLine; decide, fun T hT => ?_⟩
  have P3 := P4.trans (Post.of P4.wa g)
  have n1 := w.newp hH1
  have nms : ∀ (ρ2 : Pu.Env), ¬ MS ad ρ2 p1 := fun ρ2 ⟨j, S, _, m⟩ => n1.2.2 j m
  have hp2 : H2 p1 = some (.lst vs1) := P2.gr.kp p1 _ hp1 (nms _)
  have hp4 : H4 p1 = some (.lst vs1) := P4.gr.kp p1 _ hp2 (nms _)
  have hp1' : H3 p1 = some (.lst vs1) := P3.gr.kp p1 _ hp2 (nms _)
  have hF1' : F3 p1 = none := P3.gr.fr p1 (by rw [hp2]; intro z; cases z) (P2.gr.fr p1 (by rw [hp1]; intro z; cases z) hF1)
  have nT := P3.wa.newp hT
  have ne1 : p1 ≠ T := fun e => by rw [e, hT] at hp1'; cases hp1'
  have nas : ∀ x ∈ as, x ≠ T := fun x hx e => (st.mem.2 x hx) (by rw [e]; exact hT)
  have nap : ∀ x ∈ as, x ≠ p1 := fun x hx e => by have := (fn x hx).2; rw [e, hp4] at this; cases this
  have w4 := P3.wa.updD (o := .tup [.ref p1, v2, .ref s]) nT.2.1 nT.2.2 nT.1
  have w5 := w4.setOwn2 a hF1' n1.2.1 n1.2.2 (by rw [upd_ne ne1]; exact hp1') (rv1.up (P2.gr.ff.trans P3.gr.ff))
  have w6 := w5.setVal2 b (rv2.up P3.gr.ff)
  have w7 := w6.setSt2 c (S := S) (s := s) (as := as) h00 (st.keep (Same.refl _) fun x hx o e => by rw [upd_ne (nas x hx)]; exact e) (fun x hx => (fn x hx).1) fun x hx => ⟨(P4.wa.newp (fn x hx).2).2.1, fun i m => by
    by_cases hb : i = b
    · simp only [if_pos hb] at m; cases m
    · simp only [if_neg hb] at m
      by_cases ha : i = a
      · simp only [if_pos ha] at m
        split at m
        · exact nap x hx (List.mem_singleton.mp m)
        · cases m
      · simp only [if_neg ha] at m
        exact (P4.wa.newp (fn x hx).2).2.2 i m⟩
  refine ⟨T, [.ref p1, v2, .ref s], rfl, .inl (.inl upd_same), rfl, _, _, rfl, _, _, rfl, _, _, rfl, rfl, ?_⟩
  exact n ρ' _ F3 _ q (W.weak ⟨_, w7⟩ l)
/-- a, b, c = (an own list), (data), (a state), plain local names -/
theorem sx_par3N {a b c : Nat} {te1 te2 te3 : TE} (h00 : c ≠ 0) (h : EO te1 ρ fun ds1 ρ1 => EX te2 ρ1 fun d2 ρ2 => EN te3 ρ2 fun S ρ3 => NX P (((ρ3.set a (.own ds1)).set b (.val d2)).set c (.st S))) :
    SX (tPar3 a b c (tCons te1 (tCons te2 (tCons te3 tNil)))) ρ P := fun B σ F H w Dn n r bk ct => by
  obtain ⟨ad, w⟩ := w
  refine h B ad σ F H w _ fun ds1 ρ1 p1 vs1 F1 H1 q1 P1 hF1 hH1 hp1 rv1 => ?_
  refine q1 B ad σ F1 H1 P1.wa _ fun d2 ρ2 v2 F2 H2 q2 P2 rv2 => ?_
  refine q2 B ad σ F2 H2 P2.wa _ fun S s as ρ3 F4 H4 F3 H3 q3 P4 g st fn => ?_
  obtain ⟨ρ', l, q⟩ := q3
  have P3 := P4.trans (Post.of P4.wa g)
  have n1 := w.newp hH1
  have nms : ∀ (ρ2 : Pu.Env), ¬ MS ad ρ2 p1 := fun ρ2 ⟨j, S, _, m⟩ => n1.2.2 j m
  have hp2 : H2 p1 = some (.lst vs1) := P2.gr.kp p1 _ hp1 (nms _)
  have hp4 : H4 p1 = some (.lst vs1) := P4.gr.kp p1 _ hp2 (nms _)
  have hp1' : H3 p1 = some (.lst vs1) := P3.gr.kp p1 _ hp2 (nms _)
  have hF1' : F3 p1 = none := P3.gr.fr p1 (by rw [hp2]; intro z; cases z) (P2.gr.fr p1 (by rw [hp1]; intro z; cases z) hF1)
  have nap : ∀ x ∈ as, x ≠ p1 := fun x hx e => by have := (fn x hx).2; rw [e, hp4] at this; cases this
  have w5 := P3.wa.setOwn2 a hF1' n1.2.1 n1.2.2 hp1' (rv1.up (P2.gr.ff.trans P3.gr.ff))
  have w6 := w5.setVal2 b (rv2.up P3.gr.ff)
  have w7 := w6.setSt2 c (S := S) (s := s) (as := as) h00 st (fun x hx => (fn x hx).1) fun x hx => ⟨(P4.wa.newp (fn x hx).2).2.1, fun i m => by
    by_cases hb : i = b
    · simp only [if_pos hb] at m; cases m
    · simp only [if_neg hb] at m
      by_cases ha : i = a
      · simp only [if_pos ha] at m
        split at m
        · exact nap x hx (List.mem_singleton.mp m)
        · cases m
      · simp only [if_neg ha] at m
        exact (P4.wa.newp (fn x hx).2).2.2 i m⟩
  refine ⟨.ref p1, v2, .ref s, rfl, ?_⟩
  exact n ρ' _ F3 _ q (W.weak ⟨_, w7⟩ l)
theorem eo_if {tt : TT} {ta tb : TE} {Q : List D → Pu.Env → Prop} (h : ET tt ρ fun b ρ1 => (b = true → EO ta ρ1 Q) ∧ (b = false → EO tb ρ1 Q)) : EO (tIf tt ta tb) ρ Q := fun B ad σ F H w Z z =>
  h B ad σ F H w _ fun b ρ1 F1 H1 q1 p1 => by
    have up : ∀ p, H1 p = none → H p = none := fun p h => by
      cases q : H p with
      | none => rfl
      | some o => exact absurd h (p1.gr.al p (by rw [q]; intro z; cases z))
    cases b with
    | true =>
      show ta σ H1 Z
      exact q1.1 rfl B ad σ F1 H1 p1.wa Z fun ds ρ' p vs F' H' q pp a b c r => z ds ρ' p vs F' H' q (p1.trans pp) a (up p b) c r
    | false =>
      show tb σ H1 Z
      exact q1.2 rfl B ad σ F1 H1 p1.wa Z fun ds ρ' p vs F' H' q pp a b c r => z ds ρ' p vs F' H' q (p1.trans pp) a (up p b) c r
end
/-- l, l - 1, .., n of them -/
def dnI (l : Int) (n : Nat) : List Int := (List.range n).map fun k : Nat => l - (k : Int)
theorem dnI_len (l : Int) (n : Nat) : (dnI l n).length = n := by simp [dnI]
theorem dnI_get {l : Int} {n k : Nat} (h : k < n) : (dnI l n)[k]? = some (l - (k : Int)) := by simp [dnI, h]
theorem itd_dn {F : Hp} (l : Int) (n : Nat) : ItD (Itc l (-1) n) F ((dnI l n).map .int) where
  go := fun i H _ h => by rw [List.length_map, dnI_len] at h; exact h
  stop := fun i H _ h => by rw [List.length_map, dnI_len] at h; exact h
  yld := fun i H x H' F1 _ e2 y h => by
    rw [List.length_map, dnI_len] at h
    obtain ⟨rfl, rfl⟩ := y
    refine ⟨.int (l - (i : Int)), F1, by rw [List.getElem?_map, dnI_get h]; rfl, Gr.refl e2, ?_⟩
    have e : l + ((i : Nat) : Int) * (-1) = l - (i : Int) := by omega
    rw [e]
    exact .int _
theorem ei_rngD {ρ : Pu.Env} {t : TA} {Q : List D → Pu.Env → Prop} (h : EA t ρ fun ds ρ1 => ∃ l n, ds = [.int l, .int n, .int (-1)] ∧ (-1000000000000 ≤ l ∧ l ≤ 1000000000000 ∧ -1000000000000 ≤ n ∧ n ≤ 1000000000000) ∧ Q ((dnI l (l - n).toNat).map .int) ρ1) : EI (iRng3 t) ρ Q := fun B ad σ F H w R z =>
  h B ad σ F H w _ fun ds ρ1 vs F1 H1 q p r => by
    obtain ⟨l, n, rfl, ⟨hl1, hl2, hn1, hn2⟩, q⟩ := q
    cases r with
    | cons r1 r =>
      cases r with
      | cons r2 r =>
        cases r with
        | cons r3 r =>
          cases r
          exact ⟨l, n, -1, (l - n).toNat, by rw [r1.int_inv, r2.int_inv, r3.int_inv], RgC.neg (by omega) (by omega) (by omega) (by omega), z _ ρ1 _ F1 H1 q p (itd_dn l _)⟩
end Pu
/-! PuU: set(a list of ints), sorted and len of it; all and any of a list of truth values. -/
namespace Pu
open PySem PySem.Spec PyProof.Rows L2
abbrev newSet (w : World) : Obj := { cls := .type "set", dict := none, data := .set #[] 0 (.fresh 0 0 (!w.params.followText "set-order")) }
section
variable {P : Program} {w : World} {A : Around} {E : Value → Shared → Prop} {s : Shared}
set_option maxHeartbeats 8000000 in
theorem call_set_lstI {l : Addr} {items : Array Value} (ns : List Int) {Q : Value → Shared → Prop} (hh : A.handled = none) (hl : s.heap.IsList l items) (hit : IntsAre items.toList ns) (hb : ns.length + 1 < scanBound)
    (h : ∀ (h' : Heap) (tk c : Nat), SetR w h' s.heap.objs.size (fun j => decide (j ∈ ns)) c → c ≤ ns.length → (∀ b o, s.heap.get? b = some o → h'.get? b = some o) → Q (.ref s.heap.objs.size) { s with heap := h', toks := tk }) :
    wpAny (model P w) A (call (.type "set") [.ref l]) Q E s := by
  have hisz : items.size = ns.length := by
    have q := IntsAre.length hit
    rwa [Array.length_toList] at q
  obtain ⟨c, tl, hmro⟩ := F.called_set.mro
  have hmade := F.called_set.made
  have hsub := F.called_set.sub
  refine wpAny_call (codeAny_of_tree ?_)
  show wpAny _ _ (callAny (.type "set") _) _ _ _
  refine wpAny_pure ⟨Code.quiet_builtin _ (by decide +kernel), codeAny_builtin F.entry_type_call ?_⟩
  rw [Around.under_plain (weight_type_call_type "set" [.ref l] []) rfl]
  have h1 := F.called_set.notType
  have h2 := F.called_set.canCreate
  have hct := F.typeCall_set_1 (.ref l)
  repeat (any_goals (first | assumption | wp_step))

  refine codeAny_mono (code_set_led1 (.ref l) (E := E) (Q₁ := fun obj s₁ => obj = .ref s.heap.objs.size ∧ s₁ = { s with heap := s.heap.push (newSet w) }) ⟨rfl, rfl⟩) fun r s₁ hr => ?_
  cases r with
  | error e => exact hr
  | ok fl =>
    cases fl with
    | ret obj =>
      obtain ⟨rfl, rfl⟩ := hr
      have hS : (s.heap.push (newSet w)).get? s.heap.objs.size = some (newSet w) := Heap.get?_push_size _ rfl
      have hT : Shared.TypeIs { s with heap := s.heap.push (newSet w) } (.ref s.heap.objs.size) "set" := ⟨_, hS, rfl⟩
      have hli := F.called_set.init.lookup
      have hbi := F.called_set.init.bind (.ref s.heap.objs.size)
      repeat (any_goals (first | assumption | wp_step))

      refine codeAny_mono (codeAny_call_builtin (R := wants (fun r s₂ => r = .none ∧ ∃ h' tk c, s₂ = { s with heap := h', toks := tk } ∧ SetR w h' s.heap.objs.size (fun j => decide (j ∈ ns)) c ∧ c ≤ ns.length ∧
          (∀ b o, s.heap.get? b = some o → h'.get? b = some o)) E) F.called_set.init.plain F.entry_set_init (check_set_init_1 hT ?_)) fun r₂ s₂ hr₂ => ?_
      · obtain ⟨ol, hol, hcl, nl, hdl⟩ := hl
        obtain ⟨ocls, odict, odata, oslots⟩ := ol
        simp only at hcl hdl
        subst hcl; subst hdl
        have hol' : (s.heap.push (newSet w)).get? l = some { cls := .type "list", dict := odict, data := .seq items nl, slots := oslots } := Heap.get?_push_of_some _ hol
        have hsls := F.sub_list_set
        have hslf := F.sub_list_frozenset
        have hne : (Value.type "list" == Value.type "dict") = false := by decide
        have hl1 : (s.heap.push (newSet w)).IsList l items := ⟨_, hol', rfl, nl, rfl⟩
        unfold Builtin.«set.__init__» noKeywords Builtin.Frozenset.updateFrom
        generalize hPI : pyIter = PI
        wp_walk
        subst hPI

        refine wpAny_pyIter_list hl1 ?_
        refine wpAny_bind (wpAny_runValue ?_)
        have hlS : l < s.heap.objs.size := Heap.lt_size hol
        have hh3 : A.in1.in1.in1.handled = none := by simp [hh]
        have hneI : l ≠ (s.heap.push (newSet w)).objs.size := by
          rw [Heap.size_push]; exact Nat.ne_of_lt (Nat.lt_succ_of_lt hlS)
        have hSf : s.heap.objs.size ∉ [(s.heap.push (newSet w)).objs.size, l] := by
          rw [Heap.size_push]; simp only [List.mem_cons, List.not_mem_nil, or_false, not_or]
          exact ⟨Nat.ne_of_lt (Nat.lt_succ_self _), Nat.ne_of_gt hlS⟩
        have hval : ∀ (i : Nat) (v : Value), items[i]? = some v → ∃ k t, ns[i]? = some k ∧ v = .int k t := fun i v hv => by
          have hi : i < ns.length := by rw [← hisz]; exact (Array.getElem?_eq_some_iff.mp hv).1
          obtain ⟨t, e⟩ := PyProof.Rows.IntsAre.int_at hit i v (by rw [Array.getElem?_toList]; exact hv)
          refine ⟨ns[i], t, List.getElem?_eq_getElem hi, ?_⟩
          rw [e, List.getD_eq_getElem?_getD, List.getElem?_eq_getElem hi] <;> rfl
        refine set_update_ints ((Walks.list hh3 _ l hneI items).toS) s.heap.objs.size hSf ns hisz hb hval (items.size - 0) 0 _ (by omega) (Nat.zero_le _) ⟨⟨_, Heap.get?_push_size _ rfl, rfl, rfl⟩, (hl1.push _)⟩ ⟨0, Nat.le_refl 0, setR_new_at (Heap.get?_push_of_some _ hS)⟩ ?_
        intro s' c' hm hc' hS'
        obtain ⟨h', g2, d', tk', os'⟩ := s'
        have eg : g2 = s.gens := hm.gens
        have ed : d' = s.drawn := hm.drawn
        have eo : os' = s.os := hm.os
        subst eg; subst ed; subst eo
        show wpAny _ _ _ _ _ _
        refine wpAny_pure ?_
        show wpAny _ _ (ret Value.none) _ _ _
        rw [hisz] at hc'
        refine wpAny_pure ⟨rfl, h', tk', c', rfl, hS', hc', fun b o e => ?_⟩
        have hb0 : b < s.heap.objs.size := Heap.lt_size e
        have hb1 : b ≠ s.heap.objs.size := Nat.ne_of_lt hb0
        have hb2 : b ≠ (s.heap.push (newSet w)).objs.size := by
          rw [Heap.size_push]; exact Nat.ne_of_lt (Nat.lt_succ_of_lt hb0)
        exact hm.heap b o (by simp only [List.mem_cons, List.not_mem_nil, or_false, not_or]; exact ⟨hb1, hb2⟩) (Heap.get?_push_of_some _ (Heap.get?_push_of_some _ e))

      · cases r₂ with
        | error e => exact hr₂
        | ok fl₂ =>
          cases fl₂ with
          | ret r =>
            obtain ⟨rfl, h', tk, c', rfl, hS', hc', hk'⟩ := hr₂
            repeat (any_goals (first | assumption | wp_step))
            exact h _ _ _ hS' hc' hk'
          | _ => exact hr₂.elim
    | _ => exact hr.elim
end
theorem few_in : ∀ (m : Nat) {l : List Int} {lo : Int}, l.Nodup → (∀ x ∈ l, lo ≤ x ∧ x < lo + (m : Int)) → l.length ≤ m
  | 0, l, lo, _, h => by
    cases l with
    | nil => exact Nat.le_refl _
    | cons x l => have := h x (by simp); omega
  | m + 1, l, lo, nd, h => by
    have k := few_in m (l := l.erase (lo + (m : Int))) (lo := lo) (nd.erase _) fun x hx => by
      have q := (List.Nodup.mem_erase_iff nd).mp hx
      have := h x q.2
      have := q.1
      omega
    rw [List.length_erase] at k
    split at k <;> omega
theorem setR_few {w : World} {h : Heap} {a : Addr} {ns : List Int} {c : Nat} (R : SetR w h a (fun j => decide (j ∈ ns)) c) (hc : c ≤ ns.length) (hb : ns.length < 64 ∨ ∃ lo : Int, ∀ x ∈ ns, lo ≤ x ∧ x < lo + 63) : c < 64 := by
  rcases hb with hb | ⟨lo, hb⟩
  · omega
  · obtain ⟨o, es, ep, t, _, _, _, _, nd, hm, _, _, hs, _⟩ := R
    have k := few_in 63 (lo := lo) nd fun x hx => by
      have := (hm x).mpr hx
      rw [decide_eq_true_eq] at this
      exact hb x this
    rw [List.length_map, Array.length_toList] at k
    omega
section
variable {X : Cx}
/-- sorted(set(a list of ints)): a new list -/
def tSS (K : PySem.W.Frag) (te : TE) : TE := fun σ H Q => te σ H fun x H1 => ∃ (a : Addr) (ns : List Int), x = .ref a ∧ SqL K H1 a (ns.map V.int) ∧ (ns.length < 4000 ∧ (ns.length < 64 ∨ ∃ lo : Int, ∀ x ∈ ns, lo ≤ x ∧ x < lo + 63)) ∧
  ∀ (us : List Int) (H2 : Hp) (p : Addr), us.Pairwise (· < ·) → (∀ k, k ∈ us ↔ k ∈ ns) → us.length ≤ ns.length → Same H1 H2 → H2 p = none → Q (.ref p) (upd H2 p (.lst (us.map V.int)))
theorem pe_sortSet {a : Expr} {ta : TE} {p p2 q pos : Pos} (hc : X.calm = true) (hg : Gl X "sorted") (hm : X.mg "sorted" = none) (hg2 : Gl X "set") (hm2 : X.mg "set" = none) (ha : PE X a ta)
    (na : starEach [a] X.env = (false, eval a X.env) :: starEach [] X.env := by rfl) : PE X (.Call (.Name "sorted" p) [.Call (.Name "set" p2) [a] [] q] [] pos) (tSS X.K ta) := by
  refine ⟨fun pins s σ H Q I h => ?_⟩
  refine Call_ (ld_blt I hg hm boot_sorted ?_)
  refine PyProof.Rows.callWith_builtin1 (PyProof.Rows.args_cons ?_ rfl) rfl rfl
  refine Call_ (ld_blt I hg2 hm2 PyProof.Rows.boot_set ?_)
  refine PyProof.Rows.callWith_type1 (PyProof.Rows.args_cons (thn (ha.run pins s σ H _ I h) fun v s1 ⟨x, H1, I1, r1, q1⟩ => PyProof.Rows.args_nil ?_) na) na rfl
  obtain ⟨l, ns, rfl, hq, ⟨hl, hfew⟩, q1⟩ := q1
  cases r1
  obtain ⟨its, rv, hil, hzl⟩ := I1.list hq
  have hi : IntsAre its.toArray.toList ns := ints_of_vals rv
  refine call_set_lstI ns (I1.ok.hd hc) hil.isList hi (by unfold scanBound; omega) fun h' tk c R hcn k => PyProof.Rows.args_nil ?_
  have I2 : Inv X pins σ H1 { s1 with heap := h', toks := tk } := I1.kept k
  refine sorted_set R (I2.ok.hd hc) (setR_few R hcn hfew) fun s' p out c2 us k2 g o hp hg hus hs hm hul => ?_
  have hlen : (us.map V.int).length ≤ sizeLine := by rw [List.length_map, hul, sizeLine_eq]; omega
  have hn : H1 p = none := I2.hok.fresh hp
  have J : Inv X pins σ (upd H1 p (.lst (us.map V.int))) { { s1 with heap := h', toks := tk } with heap := s'.heap, gens := s'.gens, drawn := s'.drawn, toks := s'.toks } :=
    I2.call (ch := []) (Un.laid k2 hp hn) (I2.hok.laid k2 hp ⟨hlen, out.toList, c2, vals_of_ints hus, hg⟩) (by rw [g]; exact I2.bare) (fun _ z => nomatch z)
  have e : s' = { { s1 with heap := h', toks := tk } with heap := s'.heap, gens := s'.gens, drawn := s'.drawn, toks := s'.toks } := by
    cases s'
    cases s1
    cases o
    rfl
  rw [e]
  exact ⟨.ref p, _, J, rfl, q1 us H1 p hs (fun k => by rw [hm k, decide_eq_true_eq]) (by omega) (fun _ _ z => z) hn⟩
theorem eo_sortSetB {K : PySem.W.Frag} {ρ : Pu.Env} {te : TE} {Q : List D → Pu.Env → Prop} (h : EX te ρ fun d ρ1 => ∃ ns : List Int, d = .list (ns.map .int) ∧ (ns.length < 4000 ∧ (ns.length < 64 ∨ ∃ lo : Int, ∀ x ∈ ns, lo ≤ x ∧ x < lo + 63)) ∧ ∀ us : List Int, us.Pairwise (· < ·) → (∀ k, k ∈ us ↔ k ∈ ns) → us.length ≤ ns.length → Q (us.map .int) ρ1) : EO (tSS K te) ρ Q := fun B ad σ F H w Z z =>
  h B ad σ F H w _ fun d ρ1 v F1 H1 q1 p1 rv => by
    obtain ⟨ns, rfl, hl, q⟩ := q1
    obtain ⟨a, xs, rfl, h1, h2⟩ := rv.lst_inv
    have e := h2.ints_inv
    subst e
    refine ⟨a, ns, rfl, sqL_rd h1 p1.wa.gr.fh, hl, fun us H2 p hs hm hle sm hp => ?_⟩
    have hH1 : H1 p = none := by
      cases e : H1 p with
      | none => rfl
      | some o => rw [sm p o e] at hp; cases hp
    have hH : H p = none := by
      cases e : H p with
      | none => rfl
      | some o => exact absurd hH1 (p1.gr.al p (by rw [e]; intro z; cases z))
    have g : Same H1 (upd H2 p (.lst (us.map V.int))) := sm.trans (same_upd hp)
    exact z (us.map .int) ρ1 p (us.map V.int) F1 _ (q us hs hm hle) (p1.trans (Post.of p1.wa (Gr.heap p1.wa.gr.fh g))) (p1.wa.newp hH1).1 hH upd_same (RpA.ints us)
theorem eo_sortSet {K : PySem.W.Frag} {ρ : Pu.Env} {te : TE} {Q : List D → Pu.Env → Prop} (h : EX te ρ fun d ρ1 => ∃ ns : List Int, d = .list (ns.map .int) ∧ ns.length < 64 ∧ ∀ us : List Int, us.Pairwise (· < ·) → (∀ k, k ∈ us ↔ k ∈ ns) → us.length ≤ ns.length → Q (us.map .int) ρ1) : EO (tSS K te) ρ Q :=
  eo_sortSetB (h.imp fun d ρ1 q => by
    obtain ⟨ns, e, hl, q⟩ := q
    exact ⟨ns, e, ⟨by omega, .inl hl⟩, q⟩)
/-- all, any of truth values -/
def rAllB (K : PySem.W.Frag) : List V → Hp → VK → Prop := fun vs H Q => ∃ (F : Hp) (a : Addr) (xs : List V) (bs : List Bool), vs = [.ref a] ∧ Same F H ∧ Rd F a (.lst xs) ∧ RpA F xs (bs.map .bool) ∧ Q (.bl (bs.all id)) H
def rAnyB (K : PySem.W.Frag) : List V → Hp → VK → Prop := fun vs H Q => ∃ (F : Hp) (a : Addr) (xs : List V) (bs : List Bool), vs = [.ref a] ∧ Same F H ∧ Rd F a (.lst xs) ∧ RpA F xs (bs.map .bool) ∧ Q (.bl (bs.any id)) H
theorem plain_bools : ∀ bs : List Bool, PyData.plainAll (bs.map PyData.bool) = true
  | [] => rfl
  | b :: bs => by rw [List.map_cons, PyData.plainAll, plain_bools bs]; rfl
theorem cb_all (hc : X.calm = true) : CallR X (.builtin "all") (rAllB X.K) := by
  rintro pins s σ H vs us Q I r ⟨F, a, xs, bs, rfl, e, ha, ra, q⟩
  obtain ⟨its, rv, hl, hzl⟩ := I.list (sqL_rd (K := X.K) ha e)
  obtain ⟨as, rr⟩ := rpa_reads I e ra rv
  rw [Vals.ref1 r]
  refine PySem.W.all_list_data (I.ok.hd hc) hl.isList (by simpa using rr) (plain_bools bs) (fun x hx => by
    obtain ⟨b, _, rfl⟩ := List.mem_map.mp hx
    exact trivial) fun h' tk k => ?_
  refine ⟨.bl (bs.all id), H, I.kept k, ?_, q⟩
  rw [List.all_map]
  rfl
theorem cb_any (hc : X.calm = true) : CallR X (.builtin "any") (rAnyB X.K) := by
  rintro pins s σ H vs us Q I r ⟨F, a, xs, bs, rfl, e, ha, ra, q⟩
  obtain ⟨its, rv, hl, hzl⟩ := I.list (sqL_rd (K := X.K) ha e)
  obtain ⟨as, rr⟩ := rpa_reads I e ra rv
  rw [Vals.ref1 r]
  refine PySem.W.any_list_data (I.ok.hd hc) hl.isList (by simpa using rr) (plain_bools bs) (fun x hx => by
    obtain ⟨b, _, rfl⟩ := List.mem_map.mp hx
    exact trivial) fun h' tk k => ?_
  refine ⟨.bl (bs.any id), H, I.kept k, ?_, q⟩
  rw [List.any_map]
  rfl
theorem cbd_all {K : PySem.W.Frag} {bs : List Bool} {Q : D → Prop} (k : Q (.bool (bs.all id))) : CbD (rAllB K) [.list (bs.map .bool)] Q := fun F H vs e r Z z => by
  obtain ⟨v, rfl, rv⟩ := r.one
  obtain ⟨a, xs, rfl, h1, h2⟩ := rv.lst_inv
  exact ⟨F, a, xs, bs, rfl, e, h1, h2, z _ _ F H k (Gr.refl e) (.bl _)⟩
theorem cbd_any {K : PySem.W.Frag} {bs : List Bool} {Q : D → Prop} (k : Q (.bool (bs.any id))) : CbD (rAnyB K) [.list (bs.map .bool)] Q := fun F H vs e r Z z => by
  obtain ⟨v, rfl, rv⟩ := r.one
  obtain ⟨a, xs, rfl, h1, h2⟩ := rv.lst_inv
  exact ⟨F, a, xs, bs, rfl, e, h1, h2, z _ _ F H k (Gr.refl e) (.bl _)⟩
end
/-- two rising lists with the same members are one -/
theorem ris_eq : ∀ {xs ys : List Int}, xs.Pairwise (· < ·) → ys.Pairwise (· < ·) → (∀ k, k ∈ xs ↔ k ∈ ys) → xs = ys
  | [], [], _, _, _ => rfl
  | [], y :: ys, _, _, h => absurd ((h y).mpr (by simp)) (by simp)
  | x :: xs, [], _, _, h => absurd ((h x).mp (by simp)) (by simp)
  | x :: xs, y :: ys, hx, hy, h => by
    rw [List.pairwise_cons] at hx hy
    have e : x = y := by
      rcases List.mem_cons.mp ((h x).mp (by simp)) with q | q
      · exact q
      · rcases List.mem_cons.mp ((h y).mpr (by simp)) with q2 | q2
        · exact q2.symm
        · have := hx.1 y q2
          have := hy.1 x q
          omega
    subst e
    refine congrArg (x :: ·) (ris_eq hx.2 hy.2 fun k => ?_)
    constructor
    · intro hk
      rcases List.mem_cons.mp ((h k).mp (List.mem_cons_of_mem _ hk)) with q | q
      · have := hx.1 k hk; omega
      · exact q
    · intro hk
      rcases List.mem_cons.mp ((h k).mpr (List.mem_cons_of_mem _ hk)) with q | q
      · have := hy.1 k hk; omega
      · exact q
end Pu
/-! PuV: list(range(..)); (a, b) = a list; [list(x) for x in tuples] as a state. -/
namespace Pu
open PySem L2
def rowT (row : List (Option Int)) : D := .tuple (row.map optD)
section
variable {ρ : Pu.Env} {P : Po} {te ta tb tc : TE} {t : TS} {K : PySem.W.Frag}
/-- list(range(n)), list(range(a, b)) -/
theorem rgV_is (i j : Int) : rgV i j = (rngI i (j - i).toNat).map V.int := by
  unfold rgV rngI
  rw [List.map_map]
  rfl
theorem eo_listRg {te : St → Hp → (Int → Int → Hp → Prop) → Prop} {Q : List D → Pu.Env → Prop} (h : ∀ B ad σ F H, WA B ad ρ σ F H → ∀ Z : Int → Int → Hp → Prop, (∀ i j ρ' F' H', ((-1000000 ≤ i ∧ i ≤ 1000000 ∧ -1000000 ≤ j ∧ j ≤ 1000000) ∧ Q ((rngI i (j - i).toNat).map .int) ρ') → Post B ad σ ρ F H ρ' F' H' → Z i j H') → te σ H Z) : EO (tLstRg te) ρ Q := fun B ad σ F H w Z z =>
  h B ad σ F H w _ fun i j ρ' F' H' q p => by
    obtain ⟨⟨b1, b2, b3, b4⟩, q⟩ := q
    refine ⟨⟨by omega, by omega, by omega, by omega, by omega⟩, fun l hl => ?_⟩
    have hH : H l = none := by
      cases e : H l with
      | none => rfl
      | some o => exact absurd hl (p.gr.al l (by rw [e]; intro z; cases z))
    rw [rgV_is]
    exact z _ ρ' l _ F' _ q (p.trans (Post.of p.wa (Gr.heap p.wa.gr.fh (same_upd hl)))) (p.wa.newp hl).1 hH upd_same (RpA.ints _)
theorem eo_listRg1 {Q : List D → Pu.Env → Prop} (h : EX ta ρ fun d ρ1 => ∃ n, d = .int n ∧ (-1000000 ≤ n ∧ n ≤ 1000000) ∧ Q ((rngI 0 n.toNat).map .int) ρ1) : EO (tLstRg (tRg1 ta)) ρ Q := eo_listRg fun B ad σ F H w Z z =>
  h B ad σ F H w _ fun d ρ1 v F1 H1 q p rv => by
    obtain ⟨n, rfl, ⟨h1, h2⟩, q⟩ := q
    exact ⟨n, rv.int_inv, z 0 n ρ1 F1 H1 ⟨⟨by omega, by omega, h1, h2⟩, by rw [Int.sub_zero]; exact q⟩ p⟩
theorem eo_listRg2 {Q : List D → Pu.Env → Prop} (h : EX ta ρ fun d ρ1 => EX tb ρ1 fun e ρ2 => ∃ i j, d = .int i ∧ e = .int j ∧ (-1000000 ≤ i ∧ i ≤ 1000000 ∧ -1000000 ≤ j ∧ j ≤ 1000000) ∧ Q ((rngI i (j - i).toNat).map .int) ρ2) : EO (tLstRg (tRg2 ta tb)) ρ Q := eo_listRg fun B ad σ F H w Z z =>
  h B ad σ F H w _ fun d ρ1 v F1 H1 q1 p1 rv => q1 B ad σ F1 H1 p1.wa _ fun e ρ2 u F2 H2 q2 p2 ru => by
    obtain ⟨i, j, rfl, rfl, hb, q⟩ := q2
    exact ⟨i, j, rv.int_inv, ru.int_inv, z i j ρ2 F2 H2 ⟨hb, q⟩ (p1.trans p2)⟩
/-- (a, b) = a list -/
theorem sg_unl {J : List Nat} {n : Nat} {gs : TGs} {ds : List D} {Qn : Pu.Env → Prop} (hn : ds.length = n) (h : SGs J gs ds ρ Qn) : SG J (gUnl K n gs) (.list ds) ρ Qn := fun B ad σ F H v w hJ r Z z => by
  obtain ⟨a, xs, rfl, h1, h2⟩ := r.lst_inv
  exact ⟨a, xs, rfl, sqL_rd h1 w.gr.fh, h2.len.trans hn, h B ad σ F H xs w hJ h2 Z z⟩
/-- the same over tuples -/
theorem en_gridT {r : Nat} {Q : Stt → Pu.Env → Prop} (h : EX te ρ fun d ρ1 => ∃ rows, d = .list (rows.map rowT) ∧ rows.length < 1000000 ∧ r < ρ1.length ∧ Q (.grd rows) ρ1) :
    EN (tLc (iList K te) (gName r) tYes (tCB (rList K) (tCons (tVar r) tNil)) [r]) ρ Q := fun B ad σ F H w Z z => by
  have hi : EI (iList K te) ρ fun ds ρ1 => ∃ rows : List (List (Option Int)), ds = rows.map rowT ∧ rows.length < 1000000 ∧ r < ρ1.length ∧ Q (.grd rows) ρ1 := ei_list (h.imp fun d ρ1 e => by
    obtain ⟨rows, e, k⟩ := e
    exact ⟨_, e, rows, rfl, k⟩)
  refine hi B ad σ F H w _ fun ds ρ1 J F1 H1 q1 p1 it => ?_
  obtain ⟨rows, rfl, hz, hr, q⟩ := q1
  intro Dl hD
  have hrs : r < σ.length := by rw [p1.wa.len]; exact hr
  have nF1 : F1 Dl = none := (p1.wa.newp hD).1
  let Inv := fun (k : Nat) (H' : Hp) => ∃ qs F', Gr Non F1 H1 F' H' ∧ (Dl :: qs).Nodup ∧ (∀ a ∈ Dl :: qs, F' a = none ∧ H1 a = none) ∧ H' Dl = some (.lst (qs.map V.ref)) ∧ GrA H' qs (rows.take k) ∧ qs.length = k
  refine ⟨fun i m H' => m = (rows.map rowT).length - i ∧ i ≤ (rows.map rowT).length ∧ Inv i H', ⟨_, rfl, Nat.zero_le _, [], F1, Gr.heap p1.wa.gr.fh (same_upd hD), by simp, fun a ha => ?_, upd_same, trivial, rfl⟩, ?_⟩
  · have e : a = Dl := by simpa using ha
    rw [e]
    exact ⟨nF1, hD⟩
  rintro i m H' ⟨rfl, hi, qs, F', g, nd, fn, hl, hg, ql⟩
  by_cases hlt : i < (rows.map rowT).length
  · refine .inr ⟨it.go i H' (g.ff.trans g.fh) hlt, fun H2 => Inv (i + 1) H2, fun H2 k => ⟨(rows.map rowT).length - (i + 1), by omega, rfl, hlt, k⟩, fun x H2 y => ?_⟩
    obtain ⟨d, F2, e, gr, rx⟩ := it.yld i H' x H2 F' g.ff g.fh y hlt
    rw [List.getElem?_map] at e
    obtain ⟨row, ex, rfl⟩ : ∃ row, rows[i]? = some row ∧ rowT row = d := by
      cases hx : rows[i]? with
      | none => rw [hx] at e; cases e
      | some a => rw [hx] at e; exact ⟨a, rfl, Option.some.inj e⟩
    obtain ⟨p, xs, rfl, h1, h2⟩ := rx.tup_inv
    have hxs := ovs_inv h2
    subst hxs
    have g2 : Gr Non F1 H1 F2 H2 := g.trans gr (fun _ _ z => z) fun _ _ z => z
    have alive : ∀ a ∈ Dl :: qs, H' a ≠ none := fun a ha => by
      rcases List.mem_cons.mp ha with rfl | ha
      · rw [hl]; intro z; cases z
      · exact hg.mem a ha
    have hl2 : H2 Dl = some (.lst (qs.map V.ref)) := gr.kp _ _ hl id
    have hg2 : GrA H2 qs (rows.take i) := hg.keep fun a _ o e => gr.kp a o e id
    refine ⟨?_, ?_⟩
    · rw [wipe_set (by simp), wipe_twice]
    show tCB (rList K) (tCons (tVar r) tNil) _ H2 _
    refine ⟨_, List.getElem?_set_self (by rw [wipe_length]; exact hrs), p, row.map ov, rfl, .inr (sqT_rd h1 gr.fh), fun l hl0 => ?_⟩
    have ne : l ≠ Dl := fun z => by rw [z, hl2] at hl0; cases hl0
    have lout : ∀ a ∈ Dl :: qs, a ≠ l := fun a ha z => gr.al a (alive a ha) (by rw [z]; exact hl0)
    have F2l : F2 l = none := by
      cases q : F2 l with
      | none => rfl
      | some o => rw [g2.fh l o q] at hl0; cases hl0
    have H1l : H1 l = none := by
      cases q : H1 l with
      | none => rfl
      | some o => exact absurd hl0 (g2.al l (by rw [q]; intro z; cases z))
    have F2D : ∀ a ∈ Dl :: qs, F2 a = none := fun a ha => gr.fr a (alive a ha) (fn a ha).1
    refine ⟨qs.map V.ref, by rw [upd_ne (Ne.symm ne)]; exact hl2, ?_, ?_⟩
    · rw [List.length_map, ql]
      have : i < rows.length := by rw [List.length_map] at hlt; exact hlt
      exact Nat.lt_trans (Nat.lt_trans this hz) (by decide)
    show Inv (i + 1) _
    have nf : ∀ a o, F2 a = some o → a ≠ l ∧ a ≠ Dl := fun a o e => ⟨(fun z => by rw [z, F2l] at e; cases e), (fun z => by rw [z, F2D Dl (by simp)] at e; cases e)⟩
    have n1 : ∀ a, H1 a ≠ none → a ≠ l ∧ a ≠ Dl := fun a e => ⟨fun z => e (by rw [z]; exact H1l), fun z => e (by rw [z]; exact hD)⟩
    refine ⟨qs ++ [l], F2, ⟨g2.ff, fun a o e => ?_, fun a o e m => ?_, fun a e => ?_, g2.fr⟩, ?_, ?_, ?_, ?_, by simp [ql]⟩
    · rw [upd_ne (nf a o e).2, upd_ne (nf a o e).1]
      exact g2.fh a o e
    · have na := n1 a (by rw [e]; intro z; cases z)
      rw [upd_ne na.2, upd_ne na.1]
      exact g2.kp a o e m
    · have na := n1 a e
      rw [upd_ne na.2, upd_ne na.1]
      exact g2.al a e
    · rw [List.nodup_cons] at nd ⊢
      refine ⟨fun m => ?_, ?_⟩
      · rcases List.mem_append.mp m with m | m
        · exact nd.1 m
        · exact ne (List.mem_singleton.mp m).symm
      · refine List.nodup_append.mpr ⟨nd.2, by simp, fun a ha b hb e => ?_⟩
        rw [List.mem_singleton.mp hb] at e
        exact lout a (by simp [ha]) e
    · intro a ha
      rcases List.mem_cons.mp ha with rfl | ha
      · exact ⟨F2D _ (by simp), hD⟩
      · rcases List.mem_append.mp ha with ha | ha
        · exact ⟨F2D a (by simp [ha]), (fn a (by simp [ha])).2⟩
        · rw [List.mem_singleton.mp ha]; exact ⟨F2l, H1l⟩
    · rw [upd_same, List.map_append]; rfl
    · rw [take_snoc' ex]
      refine GrA.out (fun m => ?_) (GrA.app upd_same (GrA.out (fun m => lout l (by simp [m]) rfl) hg2))
      rcases List.mem_append.mp m with m | m
      · exact (List.nodup_cons.mp nd).1 m
      · exact ne (List.mem_singleton.mp m).symm
  · have e : i = rows.length := by rw [List.length_map] at hlt hi; omega
    subst e
    rw [List.take_length] at hg
    exact .inl ⟨it.stop _ H' (g.ff.trans g.fh) (by rw [List.length_map]; exact Nat.le_refl _), z (.grd rows) Dl (Dl :: qs) ρ1 F1 H1 F' H' q p1 g ⟨qs, rfl, nd, hl, hg⟩ fn⟩

/-! sorted lists of pairs -/
def leP (a b : Int × Int) : Bool := !ltP b a
theorem sortD_P (xs : List (Int × Int)) : sortD (xs.map encP) = (xs.mergeSort leP).map encP := by
  have e := PySem.W.sort_maps (r := leP) (s := PySem.W.dataLe false id) encP (l := xs) (fun a _ b _ => by
    show (!ltP b a) = (!PySem.W.dataLt (encP b) (encP a))
    rw [dataLt_P])
  exact e.symm
theorem alike_PP (xs : List (Int × Int)) : PySem.W.AllAlike (xs.map encP) := fun x hx y hy => by
  obtain ⟨a, _, rfl⟩ := List.mem_map.mp hx
  obtain ⟨b, _, rfl⟩ := List.mem_map.mp hy
  rfl
theorem sortable_P (xs : List (Int × Int)) : PySem.W.Sortable (xs.map encP) := .inl fun x hx => by
  obtain ⟨a, _, rfl⟩ := List.mem_map.mp hx
  exact ⟨_, _, rfl⟩
theorem deep_P (xs : List (Int × Int)) : PyData.depthAll (xs.map encP) ≤ 60 := depthAll_le (dpn_map fun x _ => dpn_tup (dpn_cons dpn_int (dpn_cons dpn_int dpn_nil)))
theorem cbd_sortP {xs : List (Int × Int)} {Q : D → Prop} (k : Q (.list ((xs.mergeSort leP).map encP))) : CbD (rSrD K) [.list (xs.map encP)] Q := cbd_sortD (alike_PP xs) (sortable_P xs) (deep_P xs) (by rw [sortD_P]; exact k)
theorem leP_trans (a b c : Int × Int) (h1 : leP a b = true) (h2 : leP b c = true) : leP a c = true := by
  simp only [leP, ltP, Bool.not_eq_true', decide_eq_false_iff_not] at *
  omega
theorem leP_total (a b : Int × Int) : (leP a b || leP b a) = true := by
  simp only [leP, ltP, Bool.or_eq_true, Bool.not_eq_true', decide_eq_false_iff_not]
  omega
theorem rng_nodup (n : Nat) : (rngI 0 n).Nodup := by
  unfold rngI
  exact List.pairwise_map.mpr (List.nodup_range.imp fun h e => h (by omega))
/-! one item less, one more -/
theorem getD_setN {α : Type} {l : List α} {i j : Nat} {x a : α} (hi : i < l.length) : (l.set i x).getD j a = if j = i then x else l.getD j a := by
  rw [List.getD_eq_getElem?_getD, List.getD_eq_getElem?_getD]
  by_cases e : j = i
  · rw [if_pos e, e, List.getElem?_set_self hi]; rfl
  · rw [if_neg e, List.getElem?_set_ne (Ne.symm e)]
theorem sum_setI : ∀ {P : List Int} {k : Nat} {x : Int}, k < P.length → (P.set k x).sum = P.sum - P.getD k 0 + x
  | p :: P, 0, x, _ => by simp; omega
  | p :: P, k + 1, x, h => by
    have := sum_setI (P := P) (k := k) (x := x) (by simpa using h)
    simp only [List.set_cons_succ, List.sum_cons, List.getD_cons_succ]
    omega
/-! rows of two as a state -/
def tab2 (n : Nat) (f : Nat → Int × Int) : List (List (Option Int)) := (List.range n).map fun k => [some (f k).1, some (f k).2]
theorem tab2_len (n : Nat) (f : Nat → Int × Int) : (tab2 n f).length = n := by unfold tab2; simp
theorem tab2_at {n : Nat} {f : Nat → Int × Int} {k : Nat} (h : k < n) : (tab2 n f)[k]? = some [some (f k).1, some (f k).2] := by
  unfold tab2
  rw [List.getElem?_map, List.getElem?_range h]; rfl
theorem tab2_set {n : Nat} {f g : Nat → Int × Int} {k : Nat} {r : List (Option Int)} (h : k < n) (hr : r = [some (g k).1, some (g k).2]) (ho : ∀ j, j < n → j ≠ k → f j = g j) : (tab2 n f).set k r = tab2 n g := by
  apply List.ext_getElem?
  intro j
  by_cases hj : j < n
  · by_cases e : j = k
    · subst e
      rw [List.getElem?_set_self (by rw [tab2_len]; exact hj), tab2_at hj, hr]
    · rw [List.getElem?_set_ne (Ne.symm e), tab2_at hj, tab2_at hj, ho j hj e]
  · rw [List.getElem?_eq_none (by rw [List.length_set, tab2_len]; omega), List.getElem?_eq_none (by rw [tab2_len]; omega)]
theorem tab2_congr {n : Nat} {f g : Nat → Int × Int} (h : ∀ j, j < n → f j = g j) : tab2 n f = tab2 n g := by
  unfold tab2
  refine List.map_congr_left fun k hk => ?_
  rw [h k (List.mem_range.mp hk)]
theorem ixN_nat {n k : Nat} (h : k < n) : ixN n (k : Int) = some k := by
  unfold ixN
  rw [if_pos (by omega), if_pos (by omega), Int.toNat_natCast]

/-! an own list lent to what makes a new list of scalars or tuples of these -/
mutual
def flatD : D → Bool
  | .none => true
  | .bool _ => true
  | .int _ => true
  | .str _ => true
  | .tuple ds => flatAll ds
  | _ => false
def flatAll : List D → Bool
  | [] => true
  | d :: ds => flatD d && flatAll ds
end
def cutF (F : Hp) (p : Addr) : Hp := fun q => if q = p then none else F q
mutual
theorem flat_rp {F : Hp} {p : Addr} {ws : List V} (hp : F p = some (.lst ws)) : ∀ (d : D) {v : V}, flatD d = true → Rp F v d → Rp (cutF F p) v d
  | .none, _, _, h => by cases h; exact .non
  | .bool b, _, _, h => by cases h; exact .bl b
  | .int i, _, _, h => by cases h; exact .int i
  | .str x, _, _, h => by cases h; exact .str x
  | .list ds, _, f, _ => by simp [flatD] at f
  | .dict _, _, f, _ => by simp [flatD] at f
  | .tuple ds, _, f, h => by
    cases h with
    | @tup a xs _ h1 h2 =>
      have ne : a ≠ p := fun e => by rw [e, hp] at h1; cases h1
      exact .tup (show cutF F p a = _ by unfold cutF; rw [if_neg ne]; exact h1) (flat_rpa hp ds (by simpa [flatD] using f) h2)
theorem flat_rpa {F : Hp} {p : Addr} {ws : List V} (hp : F p = some (.lst ws)) : ∀ (ds : List D) {vs : List V}, flatAll ds = true → RpA F vs ds → RpA (cutF F p) vs ds
  | [], _, _, h => by cases h; exact .nil
  | d :: ds, _, f, h => by
    cases h with
    | cons h1 h2 =>
      simp only [flatAll, Bool.and_eq_true] at f
      exact .cons (flat_rp hp d f.1 h1) (flat_rpa hp ds f.2 h2)
end
theorem WA.back2 {B : Base} {ad : Nat → List Addr} {σ : St} {F H F' H' : Hp} (w : WA B ad ρ σ F H) {i : Nat} {ds : List D} (h : ρ[i]? = some (.own ds)) {p : Addr} {vs : List V} (hp : ad i = [p]) (hF : F p = none) (hHp : H p = some (.lst vs)) (h0 : B.H0 p = none) {ad1 : Nat → List Addr} {ρ1 : Pu.Env} (e1 : ρ1 = ρ.set i (.val (.list ds))) (ea : ad1 = fun k => if k = i then [] else ad k)
    (P : Post B ad1 σ ρ1 (upd F p (.lst vs)) H ρ1 F' H') (no : NoOb ρ) : Post B ad σ ρ F H ρ (cutF F' p) H' := by
  subst e1 ea
  have ms : ∀ a, MS (fun k => if k = i then [] else ad k) (ρ.set i (.val (.list ds))) a → MS ad ρ a := fun a ⟨j, S, e, m⟩ => by
    rcases get_set e with ⟨_, q⟩ | ⟨hj, e⟩
    · cases q
    · simp only [if_neg hj] at m
      exact ⟨j, S, e, m⟩
  have ff : Same F (cutF F' p) := fun q o e => by
    have ne : q ≠ p := fun z => by rw [z, hF] at e; cases e
    unfold cutF
    rw [if_neg ne]
    exact P.gr.ff q o (by rw [upd_ne ne]; exact e)
  have fh : Same (cutF F' p) H' := fun q o e => by
    unfold cutF at e
    by_cases ne : q = p
    · rw [if_pos ne] at e; cases e
    · rw [if_neg ne] at e; exact P.gr.fh q o e
  have cutn : ∀ q, F' q = none → cutF F' p q = none := fun q e => by
    unfold cutF
    split
    · rfl
    · exact e
  have frq : ∀ a, H a ≠ none → F a = none → cutF F' p a = none := fun a e z => by
    by_cases ne : a = p
    · unfold cutF; rw [if_pos ne]
    · exact cutn a (P.gr.fr a e (by rw [upd_ne ne]; exact z))
  have nms : ∀ j q, q ∈ ad j → (∀ S, ρ[j]? ≠ some (Slot.st S)) → ¬ MS ad ρ q := fun j q m hj ⟨j', S, e, m'⟩ => by
    have := w.dj j j' q m m'
    subst this
    exact hj S e
  refine ⟨⟨⟨w.gr.ff.trans ff, fh, P.wa.gr.kp, P.wa.gr.al, fun a e z => frq a (w.gr.al a e) (w.gr.fr a e z)⟩, w.len, fun j s e => ?_, fun j q m => ⟨frq q (w.lv m) (w.fz j q m).1, (w.fz j q m).2⟩, w.dj, w.out, w.pin⟩, ⟨ff, fh, fun a o e m => P.gr.kp a o e fun z => m (ms a z), P.gr.al, frq⟩, fun j S e => ⟨S, e⟩⟩
  have k := w.sl j s e
  cases s with
  | emp => exact k
  | val d =>
    obtain ⟨k, v, e, r⟩ := k
    exact ⟨k, v, e, r.up ff⟩
  | own es =>
    obtain ⟨q, ws, k, k0, k1, k2, r⟩ := k
    exact ⟨q, ws, k, k0, k1, P.gr.kp q _ k2 fun z => nms j q (by rw [k]; simp) (fun S z => by rw [e] at z; cases z) (ms q z), r.up ff⟩
  | st S =>
    have hj : j ≠ i := fun z => by subst z; rw [h] at e; cases e
    have k' := P.wa.sl j (.st S) (by rw [List.getElem?_set_ne (Ne.symm hj)]; exact e)
    simp only [if_neg hj] at k'
    obtain ⟨s, k1, k2⟩ := k'
    exact ⟨s, k1, k2.down (no _ (List.mem_of_getElem? e))⟩
theorem eo_lend (i : Nat) {ds : List D} {Q : List D → Pu.Env → Prop} (h : ρ[i]? = some (.own ds)) (k : EO te (ρ.set i (.val (.list ds))) fun es ρ' => ρ' = ρ.set i (.val (.list ds)) ∧ flatAll es = true ∧ Q es ρ) (no : NoOb ρ := by first | (refine noob_of ?_; simp only [noObP, and_true]; done) | (refine noob_of ?_; simp only [noObP, and_true]; rfl) | (refine noob_of ?_; simp only [noObP, and_true]; exact Ok2.nob (by assumption)) | (refine noob_of ?_; simp only [noObP, and_true]; exact Ok.nob (by assumption))) : EO te ρ Q := fun B ad σ F H w Z z => by
  obtain ⟨p, vs, k1, k2, k3, k4, k5, k6, w2⟩ := w.lend h
  refine k B _ σ _ H w2 Z fun es ρ' q us F' H' hq P hF hH hl r => ?_
  obtain ⟨rfl, fl, hq⟩ := hq
  have hp : F' p = some (.lst vs) := P.gr.ff p _ upd_same
  exact z es ρ q us (cutF F' p) H' hq (w.back2 h k1 k2 k3 k5 rfl rfl P no) (by
    unfold cutF
    split
    · rfl
    · exact hF) hH hl (flat_rpa hp es fl r)
/-! items of rows of two -/
theorem ex_tabA {i n : Nat} {f : Nat → Int × Int} {Q : D → Pu.Env → Prop} (m : Nat) (h : ρ[i]? = some (.st (.grd (tab2 n f)))) (hm : m < n) (k : EX tb ρ fun d ρ1 => d = .int (m : Int) ∧ ρ1 = ρ) (q : Q (.int (f m).1) ρ) : EX (tOp (rIxA K) (tOp (rIxA K) (tVar i) tb) (tC (.int 0))) ρ Q :=
  ex_grd h (k.imp fun d ρ1 ⟨e1, e2⟩ => by
    subst e1 e2
    exact ⟨_, m, _, _, rfl, h, by rw [tab2_len]; exact ixN_nat hm, tab2_at hm, ex_int ⟨_, _, _, _, rfl, h, tab2_at hm, rfl, q⟩⟩)
theorem ex_tabB {i n : Nat} {f : Nat → Int × Int} {Q : D → Pu.Env → Prop} (m : Nat) (h : ρ[i]? = some (.st (.grd (tab2 n f)))) (hm : m < n) (k : EX tb ρ fun d ρ1 => d = .int (m : Int) ∧ ρ1 = ρ) (q : Q (.int (f m).2) ρ) : EX (tOp (rIxA K) (tOp (rIxA K) (tVar i) tb) (tC (.int 1))) ρ Q :=
  ex_grd h (k.imp fun d ρ1 ⟨e1, e2⟩ => by
    subst e1 e2
    exact ⟨_, m, _, _, rfl, h, by rw [tab2_len]; exact ixN_nat hm, tab2_at hm, ex_int ⟨_, _, _, _, rfl, h, tab2_at hm, rfl, q⟩⟩)
theorem sx_tabA {i n : Nat} {f : Nat → Int × Int} (m : Nat) (x : Int) (h : ρ[i]? = some (.st (.grd (tab2 n f)))) (hm : m < n) (e : EX te ρ fun d ρ1 => d = .int x ∧ ρ1 = ρ) (k : EX tb ρ fun d ρ1 => d = .int (m : Int) ∧ ρ1 = ρ) (q : NX P (ρ.set i (.st (.grd (tab2 n fun j => if j = m then (x, (f j).2) else f j))))) :
    SX (tAsg te (gSub (tOp (rIxA K) (tVar i) tb) (tC (.int 0)) rSetL)) ρ P := sx_setG (e.imp fun d ρ1 ⟨e1, e2⟩ => by
  subst e1 e2
  refine ⟨some x, _, rfl, h, k.imp fun d ρ1 ⟨e1, e2⟩ => ?_⟩
  subst e1 e2
  refine ⟨_, m, _, _, rfl, h, by rw [tab2_len]; exact ixN_nat hm, tab2_at hm, ex_int ⟨_, 0, _, _, rfl, h, tab2_at hm, rfl, ?_⟩⟩
  rw [tab2_set (g := fun j => if j = m then (x, (f j).2) else f j) hm (by simp) fun j _ hj => by rw [if_neg hj]]
  exact q)
theorem sx_tabB {i n : Nat} {f : Nat → Int × Int} (m : Nat) (x : Int) (h : ρ[i]? = some (.st (.grd (tab2 n f)))) (hm : m < n) (e : EX te ρ fun d ρ1 => d = .int x ∧ ρ1 = ρ) (k : EX tb ρ fun d ρ1 => d = .int (m : Int) ∧ ρ1 = ρ) (q : NX P (ρ.set i (.st (.grd (tab2 n fun j => if j = m then ((f j).1, x) else f j))))) :
    SX (tAsg te (gSub (tOp (rIxA K) (tVar i) tb) (tC (.int 1)) rSetL)) ρ P := sx_setG (e.imp fun d ρ1 ⟨e1, e2⟩ => by
  subst e1 e2
  refine ⟨some x, _, rfl, h, k.imp fun d ρ1 ⟨e1, e2⟩ => ?_⟩
  subst e1 e2
  refine ⟨_, m, _, _, rfl, h, by rw [tab2_len]; exact ixN_nat hm, tab2_at hm, ex_int ⟨_, 1, _, _, rfl, h, tab2_at hm, rfl, ?_⟩⟩
  rw [tab2_set (g := fun j => if j = m then ((f j).1, x) else f j) hm (by simp) fun j _ hj => by rw [if_neg hj]]
  exact q)
/-! small words -/
theorem last_M {α : Type} {f : α → D} {xs : List α} (a : α) (h : 0 < xs.length) : atI (xs.map f) (-1) = some (f (xs.getD (xs.length - 1) a)) := by
  have e : ixN (xs.map f).length (-1) = some (xs.length - 1) := by
    rw [List.length_map]
    unfold ixN
    rw [if_neg (by omega), if_pos (by omega)]
    congr 1
    omega
  unfold atI
  rw [e]
  show (xs.map f)[xs.length - 1]? = _
  rw [List.getElem?_map, get_D (a := a) (by omega)]
  rfl
theorem opd_int {gs : List Int} {k : Nat} {Q : D → Prop} (h : k < gs.length) (q : Q (.int (gs.getD k 0))) : OpD (rIxA K) (.list (gs.map .int)) (.int (k : Int)) Q := opd_ixM (f := PyData.int) 0 (by omega) (by omega) (by rw [Int.toNat_natCast]; exact q)
theorem cut_n {α : Type} (f : α → D) (xs : List α) (n : Nat) : cutD (xs.map f) none (some (n : Int)) = (xs.take n).map f := by
  unfold cutD
  simp only [HT.sIx]
  rw [if_neg (by omega), List.length_map, List.map_take]
  show List.take (min ((n : Int)).toNat xs.length - 0) (List.map f xs) = _
  rw [Nat.sub_zero, Int.toNat_natCast]
  by_cases h : n ≤ xs.length
  · rw [Nat.min_eq_left h]
  · rw [Nat.min_eq_right (by omega), List.take_of_length_le (by rw [List.length_map]; exact Nat.le_refl _), List.take_of_length_le (by rw [List.length_map]; omega)]
theorem cut_drop {α : Type} (f : α → D) (xs : List α) (n : Nat) : cutD (xs.map f) (some (n : Int)) none = (xs.drop n).map f := by
  unfold cutD
  rw [List.length_map, List.map_drop]
  simp only [HT.sIx]
  rw [if_neg (by omega), Int.toNat_natCast]
  rcases Nat.lt_or_ge xs.length n with q | q
  · rw [Nat.min_eq_right (by omega), Nat.sub_self, List.take_zero, List.drop_of_length_le (by rw [List.length_map]; omega)]
  · rw [Nat.min_eq_left q]
    exact List.take_of_length_le (by rw [List.length_drop, List.length_map]; omega)
theorem zip_enc : ∀ (ls hs : List Int), List.zipWith (fun d f => PyData.tuple [d, f]) (ls.map PyData.int) (hs.map PyData.int) = (ls.zip hs).map encP
  | [], _ => by simp
  | _ :: _, [] => by simp
  | a :: ls, b :: hs => by
    simp only [List.map_cons, List.zipWith_cons_cons, List.zip_cons_cons, zip_enc ls hs]
    rfl
theorem opd_neB {a b : Bool} {Q : D → Prop} (k : Q (.bool (!decide (a = b)))) : OpD (rNeP K) (.bool a) (.bool b) Q := opd_neP (min_l (by simp [PyData.depth])) (by
  have e : PyData.eqv (.bool a) (.bool b) = decide (a = b) := by cases a <;> cases b <;> rfl
  rw [e]; exact k)
theorem dec_lt (a b : Nat) : decide ((a : Int) < (b : Int)) = decide (a < b) := by
  by_cases h : a < b
  · rw [decide_eq_true h, decide_eq_true (by omega)]
  · rw [decide_eq_false h, decide_eq_false (by omega)]
theorem dec_0 (a : Nat) : decide ((a : Int) = 0) = decide (a = 0) := by
  by_cases h : a = 0
  · rw [decide_eq_true h, decide_eq_true (by omega)]
  · rw [decide_eq_false h, decide_eq_false (by omega)]
theorem dec_p (a : Nat) : decide (0 < (a : Int)) = decide (0 < a) := by
  by_cases h : 0 < a
  · rw [decide_eq_true h, decide_eq_true (by omega)]
  · rw [decide_eq_false h, decide_eq_false (by omega)]
theorem SX.into {t : TS} {X : Pu.Env → Prop} (h : SX t ρ { nx := X, rt := fun _ _ => False }) (k : ∀ ρ', X ρ' → P.nx ρ') : SX t ρ P := fun B σ F H w Dn n r b c =>
  h B σ F H w Dn (fun ρ' σ' F' H' q w' => n ρ' σ' F' H' (k ρ' q) w') (fun _ _ _ _ _ _ q _ _ => q.elim) (fun _ _ _ _ q _ => q.elim) (fun _ _ _ _ q _ => q.elim)
/-- a comprehension over data, no filter -/
theorem filt_all {α β : Type} (xs : List α) (g : α → β) : (xs.filter fun _ => true).map g = xs.map g := by rw [List.filter_eq_self.mpr (fun _ _ => rfl)]
end
end Pu
/-! PuW: data >= data; triples of whole numbers, sorted -/
namespace Pu
open PySem L2
section
variable {X : Cx} {K : PySem.W.Frag} {d1 d2 : D} {Q : D → Prop}
def rGeD (K : PySem.W.Frag) : R2 := fun x y H Q => ∃ d e, Dp K H x d ∧ Dp K H y e ∧ PySem.W.alike d e = true ∧ d ≠ .none ∧ min d.depth e.depth ≤ 60 ∧ Q (.bl (!PySem.W.dataLt d e)) H
theorem op_geD (hu : X.A.units + 64 < cLine) : OpR X (compareOp .GtE) (rGeD X.K) := by
  rintro pins s σ H x y v u Q I rx ry ⟨d, e, hd, he, pd, pe, hz, q⟩
  obtain ⟨as, r1⟩ := Dp.reads I d x v hd rx
  obtain ⟨bs, r2⟩ := Dp.reads I e y u he ry
  exact PySem.W.ge_data r1 r2 pd pe (by omega) ⟨.bl _, H, I, rfl, q⟩
theorem opd_geD (al : PySem.W.alike d1 d2 = true) (hn : d1 ≠ .none) (h : min d1.depth d2.depth ≤ 60) (k : Q (.bool (!PySem.W.dataLt d1 d2))) : OpD (rGeD K) d1 d2 Q := fun F H x y e rx ry Z z => ⟨d1, d2, rx.dp e, ry.dp e, al, hn, h, z _ _ F H k (Gr.refl e) (.bl _)⟩
theorem opd_geP {p q : Int × Int} (k : Q (.bool (!ltP p q))) : OpD (rGeD K) (encP p) (encP q) Q := opd_geD rfl (by unfold encP; simp) (min_l (by simp [encP, PyData.depth, PyData.depthAll])) (by rw [dataLt_P]; exact k)
abbrev Rw := Int × Int × Int
def encR (r : Rw) : D := .tuple [.int r.1, .int r.2.1, .int r.2.2]
def ltR (a b : Rw) : Bool := decide (a.1 < b.1 ∨ a.1 = b.1 ∧ (a.2.1 < b.2.1 ∨ a.2.1 = b.2.1 ∧ a.2.2 < b.2.2))
theorem dataLt_R (a b : Rw) : PySem.W.dataLt (encR a) (encR b) = ltR a b := by
  unfold encR ltR
  rw [PySem.W.dataLt_tuple, PySem.W.dataLt_cons rfl, PySem.W.dataLt_cons rfl, PySem.W.dataLt_cons rfl]
  have e : PyProof.Rows.lexLt PyProof.Rows.itemOrd (PySem.W.keyToksAll []) (PySem.W.keyToksAll []) = false := PyProof.Rows.lex_irrefl _
  rw [e]
  simp only [PyData.eqv, PySem.W.dataLt_int, beq_iff_eq]
  by_cases h : a.1 = b.1 <;> by_cases h2 : a.2.1 = b.2.1 <;> by_cases h3 : a.2.2 = b.2.2 <;> simp [h, h2, h3]
def leR (a b : Rw) : Bool := !ltR b a
theorem sortD_R (xs : List Rw) : sortD (xs.map encR) = (xs.mergeSort leR).map encR := by
  have e := PySem.W.sort_maps (r := leR) (s := PySem.W.dataLe false id) encR (l := xs) (fun a _ b _ => by
    show (!ltR b a) = (!PySem.W.dataLt (encR b) (encR a))
    rw [dataLt_R])
  exact e.symm
theorem alike_RR (xs : List Rw) : PySem.W.AllAlike (xs.map encR) := fun x hx y hy => by
  obtain ⟨a, _, rfl⟩ := List.mem_map.mp hx
  obtain ⟨b, _, rfl⟩ := List.mem_map.mp hy
  rfl
theorem sortable_R (xs : List Rw) : PySem.W.Sortable (xs.map encR) := .inl fun x hx => by
  obtain ⟨a, _, rfl⟩ := List.mem_map.mp hx
  exact ⟨_, _, rfl⟩
theorem deep_R (xs : List Rw) : PyData.depthAll (xs.map encR) ≤ 60 := depthAll_le (dpn_map fun x _ => dpn_tup (dpn_cons dpn_int (dpn_cons dpn_int (dpn_cons dpn_int dpn_nil))))
theorem cbd_sortR {xs : List Rw} {Q : D → Prop} (k : Q (.list ((xs.mergeSort leR).map encR))) : CbD (rSrD K) [.list (xs.map encR)] Q := cbd_sortD (alike_RR xs) (sortable_R xs) (deep_R xs) (by rw [sortD_R]; exact k)
theorem leR_trans (a b c : Rw) (h1 : leR a b = true) (h2 : leR b c = true) : leR a c = true := by
  unfold leR ltR at *
  simp only [Bool.not_eq_true', decide_eq_false_iff_not] at *
  omega
theorem leR_total (a b : Rw) : (leR a b || leR b a) = true := by
  unfold leR ltR
  simp only [Bool.or_eq_true, Bool.not_eq_true', decide_eq_false_iff_not]
  omega
/-! a if c else b, as a test; range of three -/
def tIfT (t ta tb : TT) : TT := fun σ H Q => t σ H fun c H1 => if c = true then ta σ H1 Q else tb σ H1 Q
theorem pt_ifExp {a b c : Expr} {pos : Pos} {tA tB tC : TT} (hc : PT X c tA) (ha : PT X a tB) (hb : PT X b tC) : PT X (.IfExp c a b pos) (tIfT tA tB tC) := by
  refine ⟨fun pins s σ H Q I h => ?_⟩
  refine PyProof.Rows.isTrue_IfExp (L2.thn (hc.run pins s σ H _ I h) fun d s1 ⟨H1, I1, q1⟩ => ?_)
  cases d with
  | true => exact ha.run pins s1 σ H1 Q I1 q1
  | false => exact hb.run pins s1 σ H1 Q I1 q1
theorem et_ifT {ρ : Pu.Env} {tt tu tv : TT} {Q : Bool → Pu.Env → Prop} (h : ET tt ρ fun b ρ1 => (b = true → ET tu ρ1 Q) ∧ (b = false → ET tv ρ1 Q)) : ET (tIfT tt tu tv) ρ Q := fun B ad σ F H w Z z =>
  h B ad σ F H w _ fun b ρ1 F1 H1 q1 p1 => by
    cases b with
    | true =>
      show tu σ H1 Z
      exact q1.1 rfl B ad σ F1 H1 p1.wa Z fun b ρ' F' H' q p => z b ρ' F' H' q (p1.trans p)
    | false =>
      show tv σ H1 Z
      exact q1.2 rfl B ad σ F1 H1 p1.wa Z fun b ρ' F' H' q p => z b ρ' F' H' q (p1.trans p)
def stpI (l c : Int) (n : Nat) : List Int := (List.range n).map fun k : Nat => l + (k : Int) * c
theorem stpI_len (l c : Int) (n : Nat) : (stpI l c n).length = n := by simp [stpI]
theorem stpI_get {l c : Int} {n k : Nat} (h : k < n) : (stpI l c n)[k]? = some (l + (k : Int) * c) := by simp [stpI, h]
theorem itd_stp {F : Hp} (l c : Int) (n : Nat) : ItD (Itc l c n) F ((stpI l c n).map .int) where
  go := fun i H _ h => by rw [List.length_map, stpI_len] at h; exact h
  stop := fun i H _ h => by rw [List.length_map, stpI_len] at h; exact h
  yld := fun i H x H' F1 _ e2 y h => by
    rw [List.length_map, stpI_len] at h
    obtain ⟨rfl, rfl⟩ := y
    exact ⟨.int (l + (i : Int) * c), F1, by rw [List.getElem?_map, stpI_get h]; rfl, Gr.refl e2, .int _⟩
theorem ei_rng3 {ρ : Pu.Env} {t : TA} {Q : List D → Pu.Env → Prop} (h : EA t ρ fun ds ρ1 => ∃ l n c m, ds = [.int l, .int n, .int c] ∧ RgC l n c m ∧ Q ((stpI l c m).map .int) ρ1) : EI (iRng3 t) ρ Q := fun B ad σ F H w R z =>
  h B ad σ F H w _ fun ds ρ1 vs F1 H1 q p r => by
    obtain ⟨l, n, c, m, rfl, rg, q⟩ := q
    cases r with
    | cons r1 r =>
      cases r with
      | cons r2 r =>
        cases r with
        | cons r3 r =>
          cases r
          exact ⟨l, n, c, m, by rw [r1.int_inv, r2.int_inv, r3.int_inv], rg, z _ ρ1 _ F1 H1 q p (itd_stp l c m)⟩
end
end Pu
/-! PuX: xs.remove(n), xs an own list of ints -/
namespace Pu
open PySem L2
section
variable {ρ : Pu.Env} {te : TE} {K : PySem.W.Frag} {P : Po}
theorem erase_find : ∀ (ns : List Int) (x : Int), x ∈ ns → ∃ j : Nat, ns[j]? = some x ∧ (∀ m : Nat, m < j → ns[m]? ≠ some x) ∧ ns.eraseIdx j = ns.erase x
  | n :: ns, x, h => by
    by_cases c : n = x
    · subst c
      exact ⟨0, rfl, fun m hm => absurd hm (Nat.not_lt_zero _), by simp⟩
    · obtain ⟨j, h1, h2, h3⟩ := erase_find ns x ((List.mem_cons.mp h).resolve_left fun e => c e.symm)
      refine ⟨j + 1, by simpa using h1, fun m hm => ?_, ?_⟩
      · cases m with
        | zero => simpa using c
        | succ m => simpa using h2 m (by omega)
      · rw [List.eraseIdx_cons_succ, h3, List.erase_cons_tail (by simpa using c)]
/-- xs.remove(n), xs an own list of ints -/
theorem sx_rem {i : Nat} {es : List D} (h : ρ[i]? = some (.own es)) (k : EX te ρ fun d ρ1 => ∃ (ns : List Int) (x : Int), ρ1[i]? = some (.own (ns.map .int)) ∧ d = .int x ∧ x ∈ ns ∧ NX P (ρ1.set i (.own ((ns.erase x).map .int)))) : SX (tDrop (tBM K "list" rRemI (tVar i) (tCons te tNil))) ρ P := fun B σ F H w Dn n r b c => by
  obtain ⟨ad, w⟩ := w
  obtain ⟨p0, vs0, _, _, k1, k0, _⟩ := w.sl i _ h
  refine ⟨_, k1, .inl ⟨rfl, _, .inl (.inl k0)⟩, k B ad σ F H w _ fun d ρ1 v F1 H1 q1 p1 r1 => ?_⟩
  obtain ⟨ns, x, h1, rfl, hx, ρ', l, q⟩ := q1
  obtain ⟨p, vs, _, _, k2, k3, rr⟩ := p1.wa.sl i _ h1
  have e := k1.symm.trans k2
  cases e
  have ev := rr.ints_inv
  subst ev
  have ex := r1.int_inv
  subst ex
  obtain ⟨j, j1, j2, j3⟩ := erase_find ns x hx
  refine ⟨_, ns, x, j, rfl, rfl, k3, j1, j2, ?_⟩
  rw [j3]
  exact n ρ' σ F1 _ q ((p1.wa.mut h1 k2 (RpA.ints _)).weak l)
end
end Pu
/-! PuY: a dict {k: True for k in ints}, k in it; a op b op c op d as a value; data < data -/
namespace Pu
open PySem L2 PyProof.Rows
/-! ### a op b op c op d, as a value -/
section
def tChain3 (r r' r'' : R2) (ta tb tc td : TE) : TE := fun σ H Q => ta σ H fun x H1 => tb σ H1 fun y H2 => r x y H2 fun z H3 => ∃ k, z = .bl k ∧
  (if k = true then tc σ H3 fun x3 H4 => r' y x3 H4 fun z2 H5 => ∃ k2, z2 = .bl k2 ∧ (if k2 = true then td σ H5 fun x4 H6 => r'' x3 x4 H6 Q else Q (.bl false) H5) else Q (.bl false) H3)
theorem pe_chain3 {X : Cx} {a b c d : Expr} {ta tb tc td : TE} {pos : Pos} {op op' op'' : CmpOp} {r r' r'' : R2} (ho : OpR X (compareOp op) r) (ho' : OpR X (compareOp op') r') (ho'' : OpR X (compareOp op'') r'') (ha : PE X a ta) (hb : PE X b tb) (hc : PE X c tc) (hd : PE X d td)
    (hm : lastMarks [op, op', op''] [b, c, d] = false := by with_unfolding_all rfl) : PE X (.Compare a [op, op', op''] [b, c, d] pos) (tChain3 r r' r'' ta tb tc td) := by
  refine ⟨fun pins s σ H Q I h => ?_⟩
  refine Compare_chain (thn (ha.run pins s σ H _ I h) fun v s1 ⟨x, H1, I1, r1, q1⟩ => chain_link (thn (hb.run pins s1 σ H1 _ I1 q1) fun u s2 ⟨y, H2, I2, r2, q2⟩ =>
    thn (ho pins s2 σ H2 x y v u _ I2 r1 r2 q2) fun d s3 ⟨z, H3, I3, r3, k, e, q3⟩ => ?_)) hm
  subst e
  cases r3
  refine wpAny_truthy_bool ?_
  cases k with
  | false => exact ite_ff ⟨.bl false, H3, I3, rfl, q3⟩
  | true =>
    refine ite_tt (chain_link (thn (hc.run pins s3 σ H3 _ I3 q3) fun u3 s4 ⟨x3, H4, I4, r4, q4⟩ => thn (ho' pins s4 σ H4 y x3 u u3 _ I4 r2 r4 q4) fun _ s5 ⟨z2, H5, I5, r5, k2, e2, q5⟩ => ?_))
    subst e2
    cases r5
    refine wpAny_truthy_bool ?_
    cases k2 with
    | false => exact ite_ff ⟨.bl false, H5, I5, rfl, q5⟩
    | true => exact ite_tt (chain_last (thn (hd.run pins s5 σ H5 _ I5 q5) fun u4 s6 ⟨x4, H6, I6, r6, q6⟩ => ho'' pins s6 σ H6 x3 x4 u3 u4 Q I6 r4 r6 q6))
theorem ex_ch3 {ρ : Pu.Env} {r r' r'' : R2} {ta tb tc td : TE} {Q : D → Pu.Env → Prop} (h : EX ta ρ fun d1 ρ1 => EX tb ρ1 fun d2 ρ2 => OpD r d1 d2 fun d => ∃ b, d = .bool b ∧ (b = true → EX tc ρ2 fun d3 ρ3 => OpD r' d2 d3 fun d => ∃ b2, d = .bool b2 ∧
    (b2 = true → EX td ρ3 fun d4 ρ4 => OpD r'' d3 d4 fun d => Q d ρ4) ∧ (b2 = false → Q (.bool false) ρ3)) ∧ (b = false → Q (.bool false) ρ2)) : EX (tChain3 r r' r'' ta tb tc td) ρ Q := fun B ad σ F H w Z z =>
  h B ad σ F H w _ fun d1 ρ1 x F1 H1 q1 p1 r1 => q1 B ad σ F1 H1 p1.wa _ fun d2 ρ2 y F2 H2 q2 p2 r2 => q2 F2 H2 x y p2.wa.gr.fh (r1.up p2.gr.ff) r2 _ fun d v F3 H3 kd g rv => by
    obtain ⟨b, rfl, k1, k2⟩ := kd
    refine ⟨b, rv.bl_inv, ?_⟩
    have p3 := (p1.trans p2).trans (Post.of p2.wa g)
    cases b with
    | false => exact z _ ρ2 _ F3 H3 (k2 rfl) p3 (.bl false)
    | true =>
      show tc σ H3 _
      refine k1 rfl B ad σ F3 H3 p3.wa _ fun d3 ρ3 u F4 H4 q4 p4 r4 => q4 F4 H4 y u p4.wa.gr.fh ((r2.up g.ff).up p4.gr.ff) r4 _ fun d v F5 H5 kd2 g2 rv2 => ?_
      obtain ⟨b2, rfl, m1, m2⟩ := kd2
      refine ⟨b2, rv2.bl_inv, ?_⟩
      have p5 := (p3.trans p4).trans (Post.of p4.wa g2)
      cases b2 with
      | false => exact z _ ρ3 _ F5 H5 (m2 rfl) p5 (.bl false)
      | true =>
        show td σ H5 _
        refine m1 rfl B ad σ F5 H5 p5.wa _ fun d4 ρ4 u4 F6 H6 q6 p6 r6 => q6 F6 H6 u u4 p6.wa.gr.fh ((r4.up g2.ff).up p6.gr.ff) r6 _ fun d v F7 H7 kd3 g3 rv3 => ?_
        exact z d ρ4 v F7 H7 kd3 ((p5.trans p6).trans (Post.of p6.wa g3)) rv3
end
/-! ### data < data -/
section
variable {X : Cx} {K : PySem.W.Frag} {d1 d2 : D} {Q : D → Prop}
def rLtD (K : PySem.W.Frag) : R2 := fun x y H Q => ∃ d e, Dp K H x d ∧ Dp K H y e ∧ PySem.W.alike d e = true ∧ d ≠ .none ∧ min d.depth e.depth ≤ 60 ∧ Q (.bl (PySem.W.dataLt d e)) H
theorem op_ltD (hu : X.A.units + 64 < cLine) : OpR X (compareOp .Lt) (rLtD X.K) := by
  rintro pins s σ H x y v u Q I rx ry ⟨d, e, hd, he, pd, pe, hz, q⟩
  obtain ⟨as, r1⟩ := Dp.reads I d x v hd rx
  obtain ⟨bs, r2⟩ := Dp.reads I e y u he ry
  exact PySem.W.lt_data r1 r2 pd pe (by omega) ⟨.bl _, H, I, rfl, q⟩
theorem opd_ltD (al : PySem.W.alike d1 d2 = true) (hn : d1 ≠ .none) (h : min d1.depth d2.depth ≤ 60) (k : Q (.bool (PySem.W.dataLt d1 d2))) : OpD (rLtD K) d1 d2 Q := fun F H x y e rx ry Z z => ⟨d1, d2, rx.dp e, ry.dp e, al, hn, h, z _ _ F H k (Gr.refl e) (.bl _)⟩
end
/-! ### {k: True for k in ints} -/
section
variable {X : Cx}
theorem ps_setDc {i : Nat} {y : Str} {py : Pos} {kx vx tg iter : Expr} {ifs : List Expr} {scope : Scope} {own : List (Str × Nat)} {pos spos : Pos} {wi : TI} {g : TG} {tt : TT} {tk tv : TE} (hc : X.calm = true) (hN : X.N.Nodup) (hy : X.N[i]? = some y) (hyl : X.env.scope.names.lookup y = some .local)
    (hsw : swapsWith (.DictComp kx vx [⟨tg, iter, ifs, 0⟩] scope pos) (some (.Name y py)) spos.line X.env = pure true) (hi : PI X tg iter wi) (ok : BlkOk X.N X.env.scope scope own)
    (hg : ∀ (s : Shared) (H : Hp) (C : Addr) (cl : List (Str × Addr)) (fp : List Addr), PG (X.blk s H scope (compEnvC scope cl C X.env) fp) tg g) (ht : ∀ (s : Shared) (H : Hp) (C : Addr) (cl : List (Str × Addr)) (fp : List Addr), PTs (X.blk s H scope (compEnvC scope cl C X.env) fp) ifs tt)
    (hk : ∀ (s : Shared) (H : Hp) (C : Addr) (cl : List (Str × Addr)) (fp : List Addr), PE (X.blk s H scope (compEnvC scope cl C X.env) fp) kx tk)
    (he : ∀ (s : Shared) (H : Hp) (C : Addr) (cl : List (Str × Addr)) (fp : List Addr), PE (X.blk s H scope (compEnvC scope cl C X.env) fp) vx tv) (hs : ∀ x, foldedSetIterable iter X.env x = pure x := by intro _; rfl) :
    PS X (.Assign [.Name y py] (.DictComp kx vx [⟨tg, iter, ifs, 0⟩] scope pos) spos) (tAsg (tDc wi g tt tk tv (own.map (·.2))) (gName i)) := by
  refine ⟨fun pins s σ H D I h => ?_⟩
  rw [exec_Assign_Name_used _ _ _ _ hsw]
  refine wpAny_bind (wpAny_standAt (wpAny_bind ?_))
  show wpAny _ X.A (do let _ ← comprehension (.DictComp kx vx [⟨tg, iter, ifs, 0⟩] scope pos) scope X.env (firstIterPos [⟨tg, iter, ifs, 0⟩] pos) newDict false (eval iter X.env) (some (assign (.Name y py) X.env))) _ _ s
  have h : tDc wi g tt tk tv (own.map (·.2)) σ H (fun x H1 => gName i x σ H1 D.nx) := h
  refine wpAny_bind (thn (dc_core (Qf := fun _ s' => SP X pins D .next s') hc hN I hi ok hg ht hk he hs h fun L C s' m H' I' q hn f => ?_) fun _ s' hq => wpAny_pure (wpAny_pure hq))
  show wpAny _ _ (assign (.Name y py) X.env (.ref L)) _ _ _
  refine wpAny_assign_Name (store_ok2 (v := V.ref L) I' hN hy (.inl hyl) rfl (fun s2 I2 ⟨a, sb, ha⟩ => ?_) (.inr hyl))
  obtain ⟨f0, f1, f2, f3, f4, f5⟩ := f
  have haC : C ≠ a := by
    rcases ha with z | z
    · rw [z]; exact f1
    · exact fun e => f4 y a z e.symm
  refine ⟨m, hn.sameBut sb haC, fun h3 sb3 => ?_⟩
  exact ⟨_, H', I2.turned (t' := s2.toks) (fun b o hb e => (sb3.2 b hb).trans e) f0 f1 f3 f4 f5, q⟩
theorem sw_trueD {kx vx : Expr} {gs : List Comprehension} {scope : Scope} {pos py : Pos} {y : Str} {l : Nat} {env : PySem.Env} (hk : env.scope.kind = .function) (hy : env.scope.names.lookup y = some .local) (hl : (py.line == pos.line) = true)
    (ha : (scope.names.any fun (n, k) => n == y && (k == .local || k == .cell)) = false) : swapsWith (.DictComp kx vx gs scope pos) (some (.Name y py)) l env = pure true := by
  have ky : env.kindOf y = some .local := hy
  have hb : env.blockKind = .function := by unfold Env.blockKind; rw [hk]; rfl
  unfold swapsWith
  simp only [hb, ky, ha, Expr.pos, hl]
  rfl
end
section
variable {ρ : Pu.Env} {P : Po} {wi : TI} {g : TG} {tt : TT} {tk tv : TE} {vs : List Nat} {i : Nat}
def kb (x : Int) : Key × V := ((.inl x : Key), V.bl true)
theorem put_kb {xs : List Int} {x : Int} (h : x ∉ xs) : putK (xs.map kb) (.inl x : Key) (V.bl true) = (xs ++ [x]).map kb := by
  have e1 : ((xs.map kb).any fun kv => decide (kv.1 = (.inl x : Key))) = false := by
    rw [List.any_eq_false]
    intro y hy
    obtain ⟨q, hq, rfl⟩ := List.mem_map.mp hy
    simp only [decide_eq_true_eq, kb, Sum.inl.injEq]
    exact fun e => h (e ▸ hq)
  unfold putK
  rw [e1, if_neg Bool.false_ne_true]
  simp [kb]
theorem sx_dcSet (h00 : i ≠ 0) (h : EI wi ρ fun ds ρ1 => ∃ xs : List Int, ds = xs.map .int ∧ xs.Nodup ∧ xs.length < 1000000 ∧ Plain ρ1 vs ∧
    (∀ x ∈ xs, SG vs g (.int x) (wipeE ρ1 vs) fun ρ2 => unw vs ρ1 ρ2 = ρ1 ∧ ET tt ρ2 fun b ρ3 => b = true ∧ ρ3 = ρ2 ∧ EX tk ρ2 fun e ρ4 => e = .int x ∧ ρ4 = ρ2 ∧ EX tv ρ2 fun e ρ5 => e = .bool true ∧ ρ5 = ρ2) ∧ NX P (ρ1.set i (.st (.dbl xs)))) : SX (tAsg (tDc wi g tt tk tv vs) (gName i)) ρ P := fun B σ F H w Dn n r bk ct => by
  obtain ⟨ad, w⟩ := w
  refine h B ad σ F H w _ fun ds ρ1 J F1 H1 q1 p1 it => ?_
  obtain ⟨xs, rfl, nd, hz, pl, turn, done⟩ := q1
  intro Dl hD
  have nw := p1.wa.newp hD
  have lenX : (xs.map PyData.int).length = xs.length := List.length_map _
  let Inv := fun (i : Nat) (H' : Hp) => ∃ F', Post B ad σ ρ1 F1 H1 ρ1 F' H' ∧ F' Dl = none ∧ H' Dl = some (.dK ((xs.take i).map kb))
  refine ⟨fun i m H' => m = xs.length - i ∧ i ≤ xs.length ∧ Inv i H', ⟨_, rfl, Nat.zero_le _, F1, Post.of p1.wa (Gr.heap p1.wa.gr.fh (same_upd hD)), nw.1, upd_same⟩, ?_⟩
  rintro i m H' ⟨rfl, hi, F', P', hF, hH⟩
  by_cases hlt : i < xs.length
  · refine .inr ⟨it.go i H' (P'.gr.ff.trans P'.wa.gr.fh) (by rw [lenX]; exact hlt), fun H2 => Inv (i + 1) H2, fun H2 k => ⟨xs.length - (i + 1), by omega, rfl, hlt, k⟩, fun x H2 y => ?_⟩
    obtain ⟨d, F2, e, gr, rx⟩ := it.yld i H' x H2 F' P'.gr.ff P'.wa.gr.fh y (by rw [lenX]; exact hlt)
    rw [List.getElem?_map, List.getElem?_eq_getElem hlt] at e
    cases e
    have hx : xs[i] ∈ xs := List.getElem_mem hlt
    have hnx : xs[i] ∉ xs.take i := fun hm => by
      obtain ⟨j, hj⟩ := List.getElem?_of_mem hm
      have hj2 := (List.getElem?_eq_some_iff.mp hj).1
      rw [List.length_take] at hj2
      rw [List.getElem?_take] at hj
      split at hj
      · have := (List.getElem?_eq_some_iff.mp hj).2
        have := (List.getElem_inj nd).mp this
        omega
      · cases hj
    have P2 := P'.trans (Post.of P'.wa gr)
    have w2 := P'.wa.grow gr
    have hF2 : F2 Dl = none := gr.fr Dl (by rw [hH]; intro z; cases z) hF
    have hH2 : H2 Dl = some (.dK ((xs.take i).map kb)) := gr.kp Dl _ hH id
    have nms : ∀ (ρ2 : Env), ¬ MS ad ρ2 Dl := fun ρ2 ⟨j, S, _, m⟩ => nw.2.2 j m
    refine turn _ hx B ad (wipe σ vs) F2 H2 x (w2.wiped pl) (pl.ad w2) rx _ fun ρ2 σ2 q wb e2 fr => ?_
    obtain ⟨eu, q⟩ := q
    have e2' : wipe σ2 vs = wipe σ vs := by
      rw [e2]
      apply List.ext_getElem?
      intro j
      rw [wipe_get, wipe_get, wipe_length]
      split
      · rfl
      · first | rfl | rw [wipe_get, if_neg (by assumption)]
    refine ⟨e2', q B ad σ2 F2 H2 wb _ fun b ρ3 F3 H3 q3 p3 => ?_⟩
    obtain ⟨rfl, rfl, q3⟩ := q3
    show tk σ2 H3 _
    refine q3 B ad σ2 F3 H3 p3.wa _ fun e ρ4 v F4 H4 q4 p4 rv => ?_
    obtain ⟨rfl, rfl, q4⟩ := q4
    have ev := rv.int_inv
    subst ev
    refine q4 B ad σ2 F4 H4 p4.wa _ fun e ρ5 v F5 H5 q5 p5 rv2 => ?_
    obtain ⟨rfl, rfl⟩ := q5
    have ev2 := rv2.bl_inv
    subst ev2
    have p34 := (p3.trans p4).trans p5
    have pu := Post.unwiped w2 pl e2' fr wb p34
    rw [eu] at pu
    have hH4 : H5 Dl = some (.dK ((xs.take i).map kb)) := p34.gr.kp Dl _ hH2 (nms _)
    have hF4 : F5 Dl = none := p34.gr.fr Dl (by rw [hH2]; intro z; cases z) hF2
    refine ⟨_, (.inl xs[i] : Key), rfl, hH4, Nat.lt_of_lt_of_le (by rw [List.length_map, List.length_take]; omega) (show 1000000 ≤ sizeLine by decide), F5, ?_, hF4, ?_⟩
    · have pt := P2.trans pu
      have ne1 : ∀ a o, H1 a = some o → a ≠ Dl := fun a o q z => by rw [z, hD] at q; cases q
      have neF : ∀ a o, F5 a = some o → a ≠ Dl := fun a o q z => by rw [z, hF4] at q; cases q
      refine ⟨⟨⟨pt.wa.gr.ff, fun a o q => by rw [upd_ne (neF a o q)]; exact pt.wa.gr.fh a o q, fun a o q m => ?_, fun a q => ?_, pt.wa.gr.fr⟩, pt.wa.len, fun j s q => ?_, pt.wa.fz, pt.wa.dj, pt.wa.out, pt.wa.pin⟩, ⟨pt.gr.ff, fun a o q => by rw [upd_ne (neF a o q)]; exact pt.gr.fh a o q, fun a o q m => by rw [upd_ne (ne1 a o q)]; exact pt.gr.kp a o q m, fun a q => ?_, pt.gr.fr⟩, pt.sh⟩
      · rw [upd_ne (fun z => by rw [z, nw.2.1] at q; cases q)]
        exact pt.wa.gr.kp a o q m
      · by_cases ha : a = Dl
        · rw [ha, upd_same]; intro z; cases z
        · rw [upd_ne ha]; exact pt.wa.gr.al a q
      · have k := pt.wa.sl j s q
        cases s with
        | emp => exact k
        | val d => exact k
        | own es =>
          obtain ⟨p, ws, a1, a2, a3, a4, a5⟩ := k
          refine ⟨p, ws, a1, a2, a3, ?_, a5⟩
          rw [upd_ne (fun z => nw.2.2 j (by rw [a1, z]; simp))]
          exact a4
        | st S =>
          obtain ⟨s, a1, a2⟩ := k
          exact ⟨s, a1, a2.keep (Same.refl _) fun a m o e => by
            rw [upd_ne (fun z => nw.2.2 j (by rw [← z]; exact m))]
            exact e⟩
      · by_cases ha : a = Dl
        · rw [ha, upd_same]; intro z; cases z
        · rw [upd_ne ha]; exact pt.gr.al a q
    · rw [upd_same, put_kb hnx, List.take_add_one, List.getElem?_eq_getElem hlt]
      rfl
  · have e : i = xs.length := by omega
    subst e
    refine .inl ⟨it.stop _ H' (P'.gr.ff.trans P'.wa.gr.fh) (by rw [lenX]; exact Nat.le_refl _), ?_⟩
    rw [List.take_length] at hH
    obtain ⟨ρ2, l, q⟩ := done
    have wf := P'.wa
    refine n ρ2 _ F' H' q (W.weak ⟨fun k => if k = i then (if i < ρ1.length then [Dl] else []) else ad k, wf.gr, by rw [List.length_set, List.length_set]; exact wf.len, fun j sl e => ?_, fun j q m => ?_, fun j1 j2 q m1 m2 => ?_, fun j e => ?_, wf.pin.to fun S2 e => by
      rcases get_set e with ⟨e0, _⟩ | ⟨hj, e⟩
      · exact absurd e0.symm h00
      · exact ⟨⟨S2, e⟩, List.getElem?_set_ne (Ne.symm hj), if_neg hj⟩⟩ l)
    · rcases get_set e with ⟨rfl, rfl⟩ | ⟨hj, e'⟩
      · have hi : j < ρ1.length := by
          have := (List.getElem?_eq_some_iff.mp e).1
          rwa [List.length_set] at this
        exact ⟨Dl, List.getElem?_set_self (by rw [wf.len]; exact hi), by rw [if_pos rfl, if_pos hi]; exact ⟨rfl, hH⟩⟩
      · rw [if_neg hj, List.getElem?_set_ne (Ne.symm hj)]
        exact wf.sl j sl e'
    · by_cases hj : j = i
      · simp only [if_pos hj] at m
        by_cases hi : i < ρ1.length
        · simp only [if_pos hi] at m
          have eq : q = Dl := by simpa using m
          rw [eq]
          exact ⟨hF, .inl nw.2.1⟩
        · simp [if_neg hi] at m
      · simp only [if_neg hj] at m
        exact wf.fz j q m
    · have g : ∀ j, q ∈ (if j = i then (if i < ρ1.length then [Dl] else []) else ad j) → (j = i ∧ q = Dl) ∨ (j ≠ i ∧ q ∈ ad j) := fun j m => by
        by_cases hj : j = i
        · simp only [if_pos hj] at m
          by_cases hi : i < ρ1.length
          · simp only [if_pos hi] at m
            exact .inl ⟨hj, by simpa using m⟩
          · simp [if_neg hi] at m
        · simp only [if_neg hj] at m
          exact .inr ⟨hj, m⟩
      rcases g j1 m1 with ⟨a1, b1⟩ | ⟨a1, b1⟩ <;> rcases g j2 m2 with ⟨a2, b2⟩ | ⟨a2, b2⟩
      · rw [a1, a2]
      · exact absurd b2 (by rw [b1]; exact nw.2.2 j2)
      · exact absurd b1 (by rw [b2]; exact nw.2.2 j1)
      · exact wf.dj j1 j2 q b1 b2
    · show (if j = i then (if i < ρ1.length then [Dl] else []) else ad j) = []
      have e' := get_set' e
      by_cases hj : j = i
      · subst hj
        rw [if_pos rfl, if_neg (by rw [List.getElem?_eq_none_iff] at e'; omega)]
      · rw [if_neg hj]
        exact wf.out j e'
/-- k in such a dict -/
theorem val_kb : ∀ (ks : List Int) (k : Int), (valV (ks.map kb) (.inl k : Key)).isSome = decide (k ∈ ks)
  | [], k => rfl
  | a :: ks, k => by
    by_cases c : a = k
    · subst c
      rw [List.map_cons, show valV (kb a :: ks.map kb) (.inl a : Key) = some (V.bl true) from valV_pos (p := kb a) rfl]
      simp
    · rw [List.map_cons, valV_neg (by simp [kb, c]), val_kb ks k]
      have : k ≠ a := fun e => c e.symm
      by_cases h : k ∈ ks <;> simp [h, this]
theorem ex_inDbl {ty : TE} {Q : D → Pu.Env → Prop} {j : Nat} (h : EX ty ρ fun d ρ1 => ∃ k ks, d = .int k ∧ ρ1[j]? = some (.st (.dbl ks)) ∧ Q (.bool (decide (k ∈ ks))) ρ1) : EX (tDIn ty (tVar j)) ρ Q := fun B ad σ F H w Z z => by
  refine h B ad σ F H w _ fun d ρ1 y F1 H1 q1 p1 r1 => ?_
  obtain ⟨k, ks, rfl, h1, q⟩ := q1
  obtain ⟨s1, k1, st1⟩ := p1.wa.sl j _ h1
  have ey := r1.int_inv
  subst ey
  refine ⟨_, k1, s1, _, rfl, DGet.k (k := (.inl k : Key)) st1.2, ?_⟩
  have e := val_kb ks k
  show Z (.bl (valV (ks.map kb) (.inl k : Key)).isSome) H1
  rw [e]
  exact z _ ρ1 _ F1 H1 q p1 (.bl _)
end
end Pu
/-! PuO: instances of own classes whose attributes are data -/
namespace Pu
open PySem L2 PyProof.Rows
/-! ### attributes by name -/
def putD (f : Str) (d : D) : List (Str × D) → List (Str × D)
  | [] => [(f, d)]
  | (g, x) :: r => if g = f then (g, d) :: r else (g, x) :: putD f d r
theorem putD_nil (f : Str) (d : D) : putD f d [] = [(f, d)] := rfl
theorem putD_eq (f : Str) (d x : D) (r : List (Str × D)) : putD f d ((f, x) :: r) = (f, d) :: r := if_pos rfl
theorem putD_ne {f g : Str} (h : ¬ g = f) (d x : D) (r : List (Str × D)) : putD f d ((g, x) :: r) = (g, x) :: putD f d r := if_neg h
theorem lk_nil (f : Str) : List.lookup f ([] : List (Str × D)) = none := rfl
theorem lk_eq {α : Type} (f : Str) (x : α) (r : List (Str × α)) : List.lookup f ((f, x) :: r) = some x := by simp [List.lookup]
theorem lk_ne {α : Type} {f g : Str} (h : ¬ g = f) (x : α) (r : List (Str × α)) : List.lookup f ((g, x) :: r) = List.lookup f r := by
  have hb : (f == g) = false := beq_eq_false_iff_ne.mpr fun e => h e.symm
  simp only [List.lookup, hb]
section
variable {F : Hp}
theorem FldA.get : ∀ {vs : List (Str × V)} {fs : List (Str × D)} {f : Str} {d : D}, FldA F vs fs → fs.lookup f = some d → ∃ v, vs.lookup f = some v ∧ Rp F v d
  | [], [], _, _, _, e => by cases e
  | (g, v) :: vs, (g', x) :: fs, f, d, h, e => by
    obtain ⟨rfl, r, h⟩ := h
    by_cases q : g = f
    · subst q
      rw [lk_eq] at e
      cases e
      exact ⟨v, lk_eq _ _ _, r⟩
    · rw [lk_ne q] at e
      obtain ⟨u, a, b⟩ := FldA.get h e
      exact ⟨u, by rw [lk_ne q]; exact a, b⟩
  | [], _ :: _, _, _, h, _ => h.elim
  | _ :: _, [], _, _, h, _ => h.elim
theorem FldA.no : ∀ {vs : List (Str × V)} {fs : List (Str × D)} {f : Str}, FldA F vs fs → fs.lookup f = none → vs.lookup f = none
  | [], [], _, _, _ => rfl
  | (g, v) :: vs, (g', x) :: fs, f, h, e => by
    obtain ⟨rfl, r, h⟩ := h
    by_cases q : g = f
    · subst q
      rw [lk_eq] at e
      cases e
    · rw [lk_ne q] at e ⊢
      exact FldA.no h e
  | [], _ :: _, _, h, _ => h.elim
  | _ :: _, [], _, h, _ => h.elim
theorem FldA.len : ∀ {vs : List (Str × V)} {fs : List (Str × D)}, FldA F vs fs → vs.length = fs.length
  | [], [], _ => rfl
  | (g, v) :: vs, (g', x) :: fs, h => by rw [List.length_cons, List.length_cons, FldA.len h.2.2]
  | [], _ :: _, h => h.elim
  | _ :: _, [], h => h.elim
theorem FldA.put : ∀ {vs : List (Str × V)} {fs : List (Str × D)} {f : Str} {v : V} {d : D}, FldA F vs fs → Rp F v d → FldA F (putF f v vs) (putD f d fs)
  | [], [], f, v, d, _, r => ⟨rfl, r, trivial⟩
  | (g, u) :: vs, (g', x) :: fs, f, v, d, h, r => by
    obtain ⟨rfl, ru, h⟩ := h
    unfold putF putD
    by_cases q : g = f
    · rw [if_pos q, if_pos q]; exact ⟨rfl, r, h⟩
    · rw [if_neg q, if_neg q]; exact ⟨rfl, ru, FldA.put h r⟩
  | [], _ :: _, _, _, _, h, _ => h.elim
  | _ :: _, [], _, _, _, h, _ => h.elim
end
/-! ### readings and rules -/
/-- what of the text an object's class must have: C is plain, none of the names is the class's own -/
structure ObF (K : PySem.W.Frag) (C : Addr) (ns : List Str) : Prop where
  cl : Cls K C
  no : ∀ f ∈ ns, NoAttr K C f
/-- o.f -/
def tFldC (C : Addr) (ta : TE) (f : Str) : TE := fun σ H Q => ta σ H fun x H1 => ∃ a dx fs v, x = .ref a ∧ H1 a = some (.ins C dx fs) ∧ fs.lookup f = some v ∧ Q v H1
/-- o.f = value -/
def sFldC (C : Addr) (ta tv : TE) (f : Str) : TS := fun D σ H => tv σ H fun y H1 => ta σ H1 fun x H2 => ∃ a dx fs, x = .ref a ∧ H2 a = some (.ins C dx fs) ∧ fs.length < 1000 ∧ D.nx σ (upd H2 a (.ins C dx (putF f y fs)))
section
variable {X : Cx} {o e value : Expr} {f : Str} {pos pos' : Pos} {ta tv : TE} {C : Addr} {ns : List Str}
theorem pe_fldC (c : ObF X.K C ns) (hf : f ∈ ns) (he : PE X e ta) (hb : attributeBase e f X.env (eval e X.env) = eval e X.env) : PE X (.Attribute e f pos) (tFldC C ta f) := by
  refine ⟨fun pins s σ H Q I h => ?_⟩
  refine attr_of hb (thn (he.run pins s σ H _ I h) fun u s1 ⟨x, H1, I1, rx, a, dx, fs, v, ex, ea, l, q⟩ => ?_)
  subst ex
  obtain rfl : u = Value.ref a := rx
  exact getattr_ok I1 ea c.cl (c.no f hf) l fun u' s2 I2 ru => ⟨v, H1, I2, ru, q⟩
theorem ps_fldC (c : ObF X.K C ns) (hf : f ∈ ns) (ha : PE X o ta) (hv : PE X value tv) (hs : swapsWith value (some (.Attribute o f pos')) pos.line X.env = pure false) : PS X (.Assign [.Attribute o f pos'] value pos) (sFldC C ta tv f) := by
  refine ⟨fun pins s σ H D I h => ?_⟩
  refine plainObj_wpAny_Assign_Attribute (thn (hv.run pins s σ H _ I h) fun u s1 ⟨y, H1, I1, ry, q⟩ => thn (ha.run pins s1 σ H1 _ I1 q) fun ov s2 ⟨x, H2, I2, rx, a, dx, fs, ex, ea, l, q2⟩ => ?_) hs
  subst ex
  obtain rfl : ov = Value.ref a := rx
  exact setattr_ok I2 ea c.cl (c.no f hf) l ry fun s3 I3 => ⟨σ, _, I3, q2⟩
end
/-- a method that keeps a promise -/
inductive CalM (P : Program) (w : World) (K : PySem.W.Frag) (mg : Str → Option Value) (base : Heap) (C : Addr) (m : Str) (ps : List Str) (sp : Sp) (k : Nat) : Prop
  | mk (f : Addr) (fd : FuncData) (ok : FnOk P w K mg base CX0 k f fd ps sp) (hm : Meth K C m f) (bd : Binds K fd ps []) : CalM P w K mg base C m ps sp k
/-- a class whose __init__ keeps a promise -/
inductive CalC (P : Program) (w : World) (K : PySem.W.Frag) (mg : Str → Option Value) (base : Heap) (C : Addr) (x : Str) (ps : List Str) (sp : Sp) (k : Nat) : Prop
  | mk (f : Addr) (fd : FuncData) (ok : FnOk P w K mg base CX0 k f fd ps sp) (hm : mg x = some (.ref C)) (mk : Mk K C f) (bd : Binds K fd ps []) : CalC P w K mg base C x ps sp k
section
variable {X : Cx} {k : Nat} {C : Addr} {ns : List Str} {ps : List Str} {sp : Sp} {x m : Str} {p pos apos : Pos} {e o : Expr} {es : List Expr} {t : TA} {ta : TE}
theorem pe_calM {pl : Sem Bool} (M : CalM X.prog X.w X.K X.mg X.base C m ps sp k) (c : ObF X.K C ns) (hr : Room k X.A) (he : PE X o ta) (ha : PA X (e :: es) t)
    (hst : starEach (e :: es) X.env = (false, eval e X.env) :: starEach es X.env := by rfl) (hpl : (backTo pos (starEach es X.env)).any (·.1) = false := by rfl)
    (ht : eval (.Call (.Attribute o m apos) (e :: es) [] pos) X.env = (do
      let ov ← eval o X.env
      standAt apos.atName
      let (f, first) ← holding [ov] (getMethod ov m pl)
      callWith pos f first (backTo pos (starEach (e :: es) X.env)) (backToKw pos (keywordEach [] X.env))) := by rfl) :
    PE X (.Call (.Attribute o m apos) (e :: es) [] pos) (tMeth C m sp [] E0 ta t) := by
  obtain ⟨f, fd, ok, hm, bd⟩ := M
  exact pe_meth he c.cl hm ok hr bd .nil pass0 ha hst hpl ht
theorem pe_calM0 {pl : Sem Bool} (M : CalM X.prog X.w X.K X.mg X.base C m ps sp k) (c : ObF X.K C ns) (hr : Room k X.A) (he : PE X o ta)
    (ht : eval (.Call (.Attribute o m apos) [] [] pos) X.env = (do
      let ov ← eval o X.env
      standAt apos.atName
      let (f, first) ← holding [ov] (getMethod ov m pl)
      callWith pos f first (backTo pos (starEach [] X.env)) (backToKw pos (keywordEach [] X.env))) := by rfl) :
    PE X (.Call (.Attribute o m apos) [] [] pos) (tMeth C m sp [] E0 ta tNil) := by
  obtain ⟨f, fd, ok, hm, bd⟩ := M
  exact pe_meth0 he c.cl hm ok hr bd .nil pass0 ht
theorem pe_mkC (M : CalC X.prog X.w X.K X.mg X.base C x ps sp k) (hr : Room (k + 1) X.A) (hg : Gl X x) (ha : PA X (e :: es) t) (hdb : (x == ("__debug__" : Str)) = false := by decide)
    (he : starEach (e :: es) X.env = (false, eval e X.env) :: starEach es X.env := by rfl) (hpl : (backTo pos (starEach es X.env)).any (·.1) = false := by rfl) :
    PE X (.Call (.Name x p) (e :: es) [] pos) (tMake C sp [] E0 t) := by
  obtain ⟨f, fd, ok, hm, mk, bd⟩ := M
  exact pe_make mk ok hr hg hm bd .nil pass0 ha hdb he hpl
end
/-! ### over slots -/
section
variable {ρ : Pu.Env} {i : Nat} {C : Addr} {f m : Str} {t : TA} {tv : TE} {E : XK} {P : Po}
theorem ex_fld {fs : List (Str × D)} {d : D} {Q : D → Pu.Env → Prop} (h : ρ[i]? = some (.st (.obj C fs))) (hl : fs.lookup f = some d) (k : Q d ρ) : EX (tFldC C (tVar i) f) ρ Q := fun B ad σ F H w Z z => by
  obtain ⟨s, k0, dx, vs, has, hs, hf⟩ := w.sl i _ h
  obtain ⟨v, hv, r⟩ := hf.get hl
  exact ⟨_, k0, s, dx, vs, v, rfl, hs, hv, z d ρ v F H k (Post.refl w) r⟩
theorem sx_fld {fs0 : List (Str × D)} (h0 : ρ[i]? = some (.st (.obj C fs0))) (h : EX tv ρ fun d ρ1 => ∃ fs, ρ1[i]? = some (.st (.obj C fs)) ∧ fs.length < 1000 ∧ NX P (ρ1.set i (.st (.obj C (putD f d fs))))) : SX (sFldC C (tVar i) tv f) ρ P := fun B σ F H w Dn n r b c => by
  obtain ⟨ad, w⟩ := w
  refine h B ad σ F H w _ fun d ρ1 v F1 H1 q p rv => ?_
  obtain ⟨fs, h1, hlen, ρ2, l, q⟩ := q
  obtain ⟨s, k0, dx, vs, has, hs, hf⟩ := p.wa.sl i _ h1
  refine ⟨_, k0, s, dx, vs, rfl, hs, by rw [hf.len]; exact hlen, ?_⟩
  have fs0 : F1 s = none := (p.wa.fz i s (by rw [has]; simp)).1
  have neF : ∀ a o, F1 a = some o → a ≠ s := fun a o e z => by rw [z, fs0] at e; cases e
  have w2 := p.wa.stp (S' := .obj C (putD f d fs)) (F' := F1) (H' := upd H1 s (.ins C dx (putF f v vs))) h1 k0 ⟨Same.refl F1, fun a o e => by rw [upd_ne (neF a o e)]; exact p.wa.gr.fh a o e, fun a o e ha => by rw [upd_ne (fun z => ha (by rw [has, z]; simp))]; exact e, fun a e => by
    by_cases z : a = s
    · rw [z, upd_same]; intro q; cases q
    · rw [upd_ne z]; exact e, fun a e z => z⟩ (by rw [has]; exact ⟨dx, _, rfl, upd_same, hf.put rv⟩) (fun a ha => (p.wa.fz i a ha).1)
  exact n ρ2 _ F1 _ q (W.weak ⟨_, w2⟩ l)
theorem ex_meth {R : Stt → List D → (D → Stt → Prop) → Prop} {fs : List (Str × D)} {Q : D → Pu.Env → Prop} (h0 : ρ[i]? = some (.st (.obj C fs))) (hm : fs.lookup m = none) (h : EA t ρ fun ds ρ1 => ∃ S, ρ1[i]? = some (.st S) ∧ R S ds fun d S' => Q d (ρ1.set i (.st S'))) :
    EX (tMeth C m (spS R) [] E (tVar i) t) ρ Q := fun B ad σ F H w Z z => by
  obtain ⟨s, k0, dx, vs, has, hs, hf⟩ := w.sl i _ h0
  obtain ⟨v, e, q⟩ := (ex_callS (E := E) h0 h B ad σ F H w Z z : tCall (spS R) [] E (tCons (tVar i) t) σ H Z)
  rw [k0] at e
  cases e
  exact ⟨_, k0, s, dx, vs, rfl, hs, hf.no hm, q⟩
theorem sx_make {R : Stt → List D → (D → Stt → Prop) → Prop} (h00 : i ≠ 0) (h : EA t ρ fun ds ρ1 => R (.obj C []) ds fun d S => d = .none ∧ NX P (ρ1.set i (.st S))) : SX (tAsg (tMake C (spS R) [] E t) (gName i)) ρ P := fun B σ F H w Dn n r b c => by
  obtain ⟨ad, w⟩ := w
  refine h B ad σ F H w _ fun ds ρ1 vs F1 H1 q p rv => ?_
  intro x dx hx hdx ne
  rw [List.append_nil]
  have nx := p.wa.newp hx
  have keep : ∀ a o, H1 a = some o → upd (upd H1 dx (.own x)) x (.ins C dx []) a = some o := fun a o e => by rw [upd_ne (ne_of_none e hx), upd_ne (ne_of_none e hdx)]; exact e
  refine ⟨F1, x, [x], .obj C [], vs, ds, _, rfl, fun a o e => keep a o (p.wa.gr.fh a o e), ⟨dx, [], rfl, upd_same, trivial⟩, fun a ha => by rw [List.mem_singleton.mp ha]; exact nx.1, rv, q, fun d S v F' H' zd g st fn rv' => ?_⟩
  obtain ⟨rfl, ρ2, l, q⟩ := zd
  refine ⟨rv'.non_inv, ?_⟩
  have some_of : ∀ a, H1 a ≠ none → ∃ o, H1 a = some o := fun a e => by
    cases q : H1 a with
    | none => exact absurd q e
    | some o => exact ⟨o, rfl⟩
  have up : ∀ a, H1 a ≠ none → upd (upd H1 dx (.own x)) x (.ins C dx []) a ≠ none := fun a e => by
    obtain ⟨o, ho⟩ := some_of a e
    rw [keep a o ho]; intro z; cases z
  have g2 : Gr Non F1 H1 F' H' := ⟨g.ff, g.fh, fun a o e _ => g.kp a o (keep a o e) (fun z => by
    rw [List.mem_singleton.mp z, hx] at e; cases e), fun a e => g.al a (up a e), fun a e z => g.fr a (up a e) z⟩
  have w2 := (p.wa.grow g2).setSt2 i h00 st fn fun a ha => by rw [List.mem_singleton.mp ha]; exact nx.2
  exact n ρ2 _ F' H' q (W.weak ⟨_, w2⟩ l)
end
end Pu
/-! PuA: `not xs` as a value; isinstance(x, tuple); rows = [list(x) for x in ..] + ([[]] if c else []), rows[i].append(x). -/
namespace Pu
open PySem L2
section
variable {ρ : Pu.Env} {P : Po} {te ta tb tc : TE} {tt : TT} {t : TS} {K : PySem.W.Frag}
theorem ex_notT {Q : D → Pu.Env → Prop} (h : EX ta ρ fun d ρ1 => ∃ ds, d = .list ds ∧ Q (.bool ds.isEmpty) ρ1) : EX (tNotT K ta) ρ Q := fun B ad σ F H w Z z =>
  h B ad σ F H w _ fun d ρ1 v F1 H1 q1 p1 r1 => by
    obtain ⟨ds, rfl, q⟩ := q1
    obtain ⟨a, xs, rfl, h1, h2⟩ := r1.lst_inv
    refine ⟨!ds.isEmpty, .inl ⟨xs, sqL_rd h1 p1.wa.gr.fh, ?_⟩, ?_⟩
    · have e := h2.len
      cases xs <;> cases ds <;> simp at e <;> rfl
    · rw [Bool.not_not]
      exact z _ ρ1 _ F1 H1 q p1 (.bl _)
theorem ex_isTup {Q : D → Pu.Env → Prop} (h : EX te ρ fun d ρ1 => ∃ ds, d = .tuple ds ∧ Q (.bool true) ρ1) : EX (tCB RZ.rIsTy (tCons te (tCons (tC (.ty "tuple")) tNil))) ρ Q := fun B ad σ F H w Z z =>
  h B ad σ F H w _ fun d ρ1 v F1 H1 q1 p1 r1 => by
    obtain ⟨ds, rfl, q⟩ := q1
    obtain ⟨a, xs, rfl, h1, h2⟩ := r1.tup_inv
    exact ⟨_, _, rfl, .tup (p1.wa.gr.fh _ _ h1), z _ ρ1 _ F1 H1 q p1 (.bl _)⟩
theorem GrA.app2 {H : Hp} : ∀ {qs ps : List Addr} {rows more : List (List (Option Int))}, GrA H qs rows → GrA H ps more → GrA H (qs ++ ps) (rows ++ more)
  | [], ps, [], more, _, h => h
  | q :: qs, ps, r :: rows, more, h, k => ⟨h.1, GrA.app2 h.2 k⟩
  | [], _, _ :: _, _, h, _ => h.elim
  | _ :: _, _, [], _, h, _ => h.elim
/-- rows + ([[]] if c else []) -/
theorem sx_asgPut {i : Nat} (h00 : i ≠ 0) (h : EN ta ρ fun S ρ1 => ∃ rows, S = .grd rows ∧ rows.length < 1000000 ∧ ET tt ρ1 fun b ρ2 => NX P (ρ2.set i (.st (.grd (rows ++ if b = true then [[]] else []))))) :
    SX (tAsg (tOp (rPlus K) ta (tIf tt (tLst (tCons (tLst tNil) tNil)) (tLst tNil))) (gName i)) ρ P := fun B σ F H w Dn n r b c => by
  obtain ⟨ad, w⟩ := w
  refine h B ad σ F H w _ fun S s as ρ1 F1 H1 F2 H2 q p g st fn => ?_
  obtain ⟨rows, rfl, hl, q⟩ := q
  have w2 := p.wa.grow g
  refine q B ad σ F2 H2 w2 _ fun b ρ2 F3 H3 q3 p3 => ?_
  obtain ⟨ρ3, l, q3⟩ := q3
  have nm : ∀ a ∈ as, ¬ MS ad ρ1 a := fun a ha ⟨j, S', _, m⟩ => (p.wa.newp (fn a ha).2).2.2 j m
  have st3 : StAt F3 H3 (.grd rows) s as := st.keep p3.gr.ff fun a ha o e => p3.gr.kp a o e (nm a ha)
  have hF3 : ∀ a ∈ as, F3 a = none := fun a ha => p3.gr.fr a ((st.mem).2 a ha) (fn a ha).1
  have h03 : ∀ a ∈ as, B.H0 a = none ∧ ∀ j, a ∉ ad j := fun a ha => (p.wa.newp (fn a ha).2).2
  obtain ⟨qs, rfl, nd, hs, hg⟩ := st3
  have len := hg.len
  have z3 : (qs.map V.ref).length + 1 ≤ sizeLine := by
    rw [List.length_map, len]
    exact Nat.le_trans (show rows.length + 1 ≤ 1000000 by omega) (by decide)
  have wF := p3.wa
  have freshH : ∀ a ∈ s :: qs, H3 a ≠ none := fun a ha => p3.gr.al a ((st.mem).2 a ha)
  cases b with
  | true =>
    refine ⟨by show 0 ≤ _; omega, fun p1 hp1 => ⟨by show 1 ≤ sizeLine; decide, fun p2 hp2 => ?_⟩⟩
    have e21 : p2 ≠ p1 := fun e => by rw [e, upd_same] at hp2; cases hp2
    rw [upd_ne e21] at hp2
    refine .inl (.inr ⟨s, p2, qs.map V.ref, [V.ref p1], rfl, rfl, .inl ?_, .inl ?_, z3, fun p3' hp3 => ?_⟩)
    · rw [upd_ne (ne_of_none hs hp2), upd_ne (ne_of_none hs hp1)]; exact hs
    · exact upd_same
    have e32 : p3' ≠ p2 := fun e => by rw [e, upd_same] at hp3; cases hp3
    rw [upd_ne e32] at hp3
    have e31 : p3' ≠ p1 := fun e => by rw [e, upd_same] at hp3; cases hp3
    rw [upd_ne e31] at hp3
    have gN : Gr Non F3 H3 F3 (upd (upd (upd H3 p1 (.lst [])) p2 (.lst [V.ref p1])) p3' (.lst (qs.map V.ref ++ [V.ref p1]))) := Gr.heap wF.gr.fh (fun a u e => by
      rw [upd_ne (ne_of_none e hp3), upd_ne (ne_of_none e hp2), upd_ne (ne_of_none e hp1)]; exact e)
    have st4 : StAt F3 (upd (upd (upd H3 p1 (.lst [])) p2 (.lst [V.ref p1])) p3' (.lst (qs.map V.ref ++ [V.ref p1]))) (.grd (rows ++ [[]])) p3' (p3' :: (qs ++ [p1])) := by
      refine ⟨qs ++ [p1], rfl, ?_, ?_, ?_⟩
      · have n1 : p3' ∉ qs := fun m => freshH p3' (by simp [m]) hp3
        have n2 : p1 ∉ qs := fun m => freshH p1 (by simp [m]) hp1
        have ndq := (List.nodup_cons.mp nd).2
        rw [List.nodup_cons]
        refine ⟨by simp [n1, e31], List.nodup_append.mpr ⟨ndq, by simp, fun x hx y hy e => ?_⟩⟩
        rw [List.mem_singleton] at hy
        exact n2 (by rw [← hy, ← e]; exact hx)
      · rw [upd_same, List.map_append]; rfl
      · refine GrA.app2 (hg.keep fun a ha o e => ?_) ⟨?_, trivial⟩
        · rw [upd_ne (ne_of_none e hp3), upd_ne (ne_of_none e hp2), upd_ne (ne_of_none e hp1)]; exact e
        · rw [upd_ne (Ne.symm e31), upd_ne (Ne.symm e21)]; exact upd_same
    refine n ρ3 _ F3 _ q3 (W.weak ⟨_, (wF.grow gN).setSt2 i h00 st4 (fun a m => ?_) fun a m => ?_⟩ l)
    · rcases List.mem_cons.mp m with rfl | m
      · exact (wF.newp hp3).1
      · rcases List.mem_append.mp m with m | m
        · exact hF3 a (by simp [m])
        · rw [List.mem_singleton.mp m]; exact (wF.newp hp1).1
    · rcases List.mem_cons.mp m with rfl | m
      · exact (wF.newp hp3).2
      · rcases List.mem_append.mp m with m | m
        · exact h03 a (by simp [m])
        · rw [List.mem_singleton.mp m]; exact (wF.newp hp1).2
  | false =>
    refine ⟨by show 0 ≤ _; omega, fun p2 hp2 => ?_⟩
    refine .inl (.inr ⟨s, p2, qs.map V.ref, [], rfl, rfl, .inl ?_, .inl upd_same, by show (qs.map V.ref).length + 0 ≤ _; omega, fun p3' hp3 => ?_⟩)
    · rw [upd_ne (ne_of_none hs hp2)]; exact hs
    have e32 : p3' ≠ p2 := fun e => by rw [e, upd_same] at hp3; cases hp3
    rw [upd_ne e32] at hp3
    rw [List.append_nil]
    have gN : Gr Non F3 H3 F3 (upd (upd H3 p2 (.lst [])) p3' (.lst (qs.map V.ref))) := Gr.heap wF.gr.fh (fun a u e => by
      rw [upd_ne (ne_of_none e hp3), upd_ne (ne_of_none e hp2)]; exact e)
    have st4 : StAt F3 (upd (upd H3 p2 (.lst [])) p3' (.lst (qs.map V.ref))) (.grd (rows ++ [])) p3' (p3' :: qs) := by
      rw [List.append_nil]
      refine ⟨qs, rfl, ?_, upd_same, hg.keep fun a ha o e => ?_⟩
      · rw [List.nodup_cons]
        exact ⟨fun m => freshH p3' (by simp [m]) hp3, (List.nodup_cons.mp nd).2⟩
      · rw [upd_ne (ne_of_none e hp3), upd_ne (ne_of_none e hp2)]; exact e
    refine n ρ3 _ F3 _ q3 (W.weak ⟨_, (wF.grow gN).setSt2 i h00 st4 (fun a m => ?_) fun a m => ?_⟩ l)
    · rcases List.mem_cons.mp m with rfl | m
      · exact (wF.newp hp3).1
      · exact hF3 a (by simp [m])
    · rcases List.mem_cons.mp m with rfl | m
      · exact (wF.newp hp3).2
      · exact h03 a (by simp [m])
/-- rows[a].append(x) -/
theorem sx_appG {i : Nat} {rows : List (List (Option Int))} (a : Int) (m : Nat) (r : List (Option Int)) (x : Option Int) (h : ρ[i]? = some (.st (.grd rows))) (hm : ixN rows.length a = some m) (hr : rows[m]? = some r) (hz : r.length < 1000000)
    (e1 : EX tb ρ fun d ρ1 => d = .int a ∧ ρ1 = ρ) (e2 : EX te ρ fun d ρ1 => d = optD x ∧ ρ1 = ρ) (q : NX P (ρ.set i (.st (.grd (rows.set m (r ++ [x])))))) :
    SX (tDrop (tBM K "list" rAppend (tOp (rIxA K) (tVar i) tb) (tCons te tNil))) ρ P := fun B σ F H w Dn n rt bk ct => by
  obtain ⟨ad, w⟩ := w
  obtain ⟨s, k0, qs0, has0, nd0, hs0, hg0⟩ := w.sl i _ h
  refine ⟨_, k0, e1 B ad σ F H w _ fun a' ρ2 y F2 H2 q2 p2 ry => ?_⟩
  obtain ⟨rfl, rfl⟩ := q2
  obtain ⟨s1, k1, qs1, has1, nd1, hs1, hg1⟩ := p2.wa.sl i _ h
  rw [k0] at k1
  cases k1
  have eq : qs1 = qs0 := by
    have := has1.symm.trans has0
    simpa using this
  subst eq
  obtain ⟨q0, hq, hH1⟩ := hg1.get hr
  have hat : atI (qs1.map V.ref) a = some (V.ref q0) := by
    unfold atI
    rw [List.length_map, hg1.len, hm]
    show (qs1.map V.ref)[m]? = _
    rw [List.getElem?_map, hq]
    rfl
  refine .inl ⟨s, qs1.map V.ref, a, .ref q0, rfl, ry.int_inv, .inl (.inl hs1), hat, ⟨.inl ⟨rfl, _, .inl (.inl hH1)⟩, ?_⟩⟩
  refine e2 B ad σ F2 H2 p2.wa _ fun x' ρ3 u F3 H3 q3 p3 ru => ?_
  obtain ⟨rfl, rfl⟩ := q3
  have eu := ov_inv ru
  obtain ⟨s2, k2, qs2, has2, nd2, hs2, hg2⟩ := p3.wa.sl i _ h
  rw [k0] at k2
  cases k2
  have eq : qs2 = qs1 := by
    have := has2.symm.trans has1
    simpa using this
  subst eq
  obtain ⟨q', hq', hH⟩ := hg2.get hr
  rw [hq] at hq'
  cases hq'
  have hqm : q0 ∈ qs2 := List.mem_of_getElem? hq
  have hqa : q0 ∈ ad i := by rw [has2]; simp [hqm]
  have hFq : F3 q0 = none := (p3.wa.fz i q0 hqa).1
  have hsq : s ≠ q0 := fun e => (List.nodup_cons.mp nd2).1 (by rw [e]; exact hqm)
  obtain ⟨ρ4, l, q4⟩ := q
  refine ⟨q0, r.map ov, u, rfl, rfl, hH, by rw [List.length_map]; exact Nat.lt_of_lt_of_le hz (by decide), ?_⟩
  have eset : r.map ov ++ [u] = (r ++ [x]).map ov := by rw [eu, List.map_append]; rfl
  rw [eset]
  have g : Gr (· ∈ ad i) F3 H3 F3 (upd H3 q0 (.lst ((r ++ [x]).map ov))) := ⟨Same.refl F3, fun a o e => by
      rw [upd_ne (fun z => by rw [z, hFq] at e; cases e)]
      exact p3.wa.gr.fh a o e, fun a o e mm => by
      rw [upd_ne (fun z => mm (by rw [z]; exact hqa))]
      exact e, fun a e => by
      by_cases ha : a = q0
      · rw [ha, upd_same]; intro z; cases z
      · rw [upd_ne ha]; exact e, fun _ _ z => z⟩
  refine n ρ4 σ F3 _ q4 (W.weak ⟨ad, p3.wa.stp (S' := .grd (rows.set m (r ++ [x]))) h k0 g ⟨qs2, has2, nd2, ?_, ?_⟩ fun a ha => (p3.wa.fz i a ha).1⟩ l)
  · rw [upd_ne hsq]; exact hs2
  · exact GrA.set (List.nodup_cons.mp nd2).2 hg2 hq
/-- what is no slot's is changed -/
theorem WA.growM {B : Base} {ad : Nat → List Addr} {σ : St} {F H F' H' : Hp} {M : Addr → Prop} (w : WA B ad ρ σ F H) (g : Gr M F H F' H') (hM : ∀ a, M a → B.H0 a = none ∧ ∀ j, a ∉ ad j) : WA B ad ρ σ F' H' where
  gr := w.gr.trans g (fun _ _ h => h) fun a h m => absurd (hM a m).1 h
  len := w.len
  sl := fun i s h => by
    have k := w.sl i s h
    cases s with
    | emp => exact k
    | val d =>
      obtain ⟨k, v, e, r⟩ := k
      exact ⟨k, v, e, r.up g.ff⟩
    | own ds =>
      obtain ⟨p, vs, k, k0, k1, k2, r⟩ := k
      exact ⟨p, vs, k, k0, k1, g.kp _ _ k2 fun m => (hM p m).2 i (by rw [k]; simp), r.up g.ff⟩
    | st S =>
      obtain ⟨s, k1, k⟩ := k
      exact ⟨s, k1, k.keep g.ff fun a ha o e => g.kp a o e fun m => (hM a m).2 i ha⟩
  fz := fun i p h => ⟨g.fr p (w.lv h) (w.fz i p h).1, (w.fz i p h).2⟩
  dj := w.dj
  out := w.out
  pin := w.pin
/-- f(C(..), ..): an instance that only the call has -/
theorem ex_callTmp {R0 R : Stt → List D → (D → Stt → Prop) → Prop} {C : Addr} {ta t2 : TA} {E E0' : XK} {Q : D → Pu.Env → Prop}
    (h : EA ta ρ fun ds ρ1 => R0 (.obj C []) ds fun d S => d = .none ∧ EA t2 ρ1 fun es ρ2 => R S es fun d' _ => Q d' ρ2) : EX (tCall (spS R) [] E (tCons (tMake C (spS R0) [] E0' ta) t2)) ρ Q := fun B ad σ F H w Z z => by
  refine h B ad σ F H w _ fun ds ρ1 vs F1 H1 q p rv => ?_
  intro x dx hx hdx ne
  rw [List.append_nil]
  have nx := p.wa.newp hx
  have keep : ∀ a o, H1 a = some o → upd (upd H1 dx (.own x)) x (.ins C dx []) a = some o := fun a o e => by rw [upd_ne (ne_of_none e hx), upd_ne (ne_of_none e hdx)]; exact e
  refine ⟨F1, x, [x], .obj C [], vs, ds, _, rfl, fun a o e => keep a o (p.wa.gr.fh a o e), ⟨dx, [], rfl, upd_same, trivial⟩, fun a ha => by rw [List.mem_singleton.mp ha]; exact nx.1, rv, q, fun d S v F' H' zd g st fn rv' => ?_⟩
  obtain ⟨rfl, q⟩ := zd
  refine ⟨rv'.non_inv, ?_⟩
  have some_of : ∀ a, H1 a ≠ none → ∃ o, H1 a = some o := fun a e => by
    cases q : H1 a with
    | none => exact absurd q e
    | some o => exact ⟨o, rfl⟩
  have up : ∀ a, H1 a ≠ none → upd (upd H1 dx (.own x)) x (.ins C dx []) a ≠ none := fun a e => by
    obtain ⟨o, ho⟩ := some_of a e
    rw [keep a o ho]; intro z; cases z
  have g2 : Gr Non F1 H1 F' H' := ⟨g.ff, g.fh, fun a o e _ => g.kp a o (keep a o e) (fun z => by
    rw [List.mem_singleton.mp z, hx] at e; cases e), fun a e => g.al a (up a e), fun a e z => g.fr a (up a e) z⟩
  have w2 := p.wa.grow g2
  refine q B ad σ F' H' w2 _ fun es ρ2 us F2 H2 q2 p2 ru => ?_
  have nm : ∀ a ∈ [x], ¬ MS ad ρ1 a := fun a ha ⟨j, S', _, m⟩ => nx.2.2 j (by rw [← List.mem_singleton.mp ha]; exact m)
  have st2 : StAt F2 H2 S x [x] := st.keep p2.gr.ff fun a ha o e => p2.gr.kp a o e (nm a ha)
  show spS R ((V.ref x :: us) ++ []) H2 Z E
  rw [List.append_nil]
  refine ⟨F2, x, [x], S, us, es, _, rfl, p2.wa.gr.fh, st2, fun a ha => p2.gr.fr a (st.mem.2 a ha) (fn a ha), ru, q2, fun d S' v F3 H3 zd g3 st3 fn3 rv3 => ?_⟩
  refine z d ρ2 v F3 H3 zd (p.trans ⟨p2.wa.growM g3 fun a ha => by rw [List.mem_singleton.mp ha]; exact nx.2, ?_, p2.sh⟩) rv3
  refine (g2.trans p2.gr (M := MS ad ρ1) (fun _ _ h => h.elim) fun _ _ h => h).trans g3 (fun _ _ h => h) fun a e m => ?_
  rw [List.mem_singleton.mp m] at e
  exact absurd hx e
/-- a comprehension over an own list -/
theorem eo_lcG {vs : List Nat} {wi0 : Nat} {g : TG} {Q : List D → Pu.Env → Prop} {ds : List D} (I : Nat → List D → Pu.Env → Prop) (hds : ρ[wi0]? = some (.own ds)) (i0 : I 0 [] ρ) (stay : ∀ k acc ρ', I k acc ρ' → ρ'[wi0]? = some (.own ds))
    (turn : ∀ k d acc ρ', ds[k]? = some d → I k acc ρ' → Plain ρ' vs ∧ acc.length < 1000000 ∧ SG vs g d (wipeE ρ' vs) fun ρ2 => ET tt ρ2 fun b ρ3 => (b = true → EX te ρ3 fun e ρ4 => I (k + 1) (acc ++ [e]) (unw vs ρ' ρ4)) ∧ (b = false → I (k + 1) acc (unw vs ρ' ρ3)))
    (done : ∀ acc ρ', I ds.length acc ρ' → Q acc ρ') : EO (tLc (iList K (tVar wi0)) g tt te vs) ρ Q := fun B ad σ F H w Z z => by
  obtain ⟨lp, ws0, _, _, la3, la4, _⟩ := w.sl wi0 _ hds
  refine ⟨_, la3, lp, rfl, ⟨ws0, .inl (.inl la4)⟩, ?_⟩
  have p1 := Post.refl w
  have look : ∀ {k acc ρ' F' H'}, I k acc ρ' → Post B ad σ ρ F H ρ' F' H' → ∃ ws, H' lp = some (.lst ws) ∧ RpA F' ws ds := fun iv P => by
    obtain ⟨p', ws', _, _, b3, b4, b5⟩ := P.wa.sl wi0 _ (stay _ _ _ iv)
    rw [la3] at b3
    cases b3
    exact ⟨ws', b4, b5⟩
  intro Dl hD
  have hDH : H Dl = none := hD
  have nw := p1.wa.newp hD
  -- at each turn: the outer slots, over a heap in which Dl is not seen
  let Inv := fun (i : Nat) (H' : Hp) => ∃ acc ρ' F' vs', I i acc ρ' ∧ Post B ad σ ρ F H ρ' F' H' ∧ F' Dl = none ∧ H' Dl = some (.lst vs') ∧ RpA F' vs' acc
  refine ⟨fun i m H' => m = ds.length - i ∧ i ≤ ds.length ∧ Inv i H', ⟨_, rfl, Nat.zero_le _, [], ρ, F, [], i0, Post.of p1.wa (Gr.heap p1.wa.gr.fh (same_upd hD)), nw.1, upd_same, .nil⟩, ?_⟩
  rintro i m H' ⟨rfl, hi, acc, ρ', F', vs', iv, P, hF, hH, ra⟩
  obtain ⟨lws, lh, lr⟩ := look iv P
  have lsq : SqL K H' lp lws := .inl (.inl lh)
  by_cases hlt : i < ds.length
  · refine .inr ⟨(⟨lws, lws[i]'(by rw [lr.len]; exact hlt), lsq, by simp⟩ : (Itl K lp).go i H'), fun H2 => Inv (i + 1) H2, fun H2 k => ⟨ds.length - (i + 1), by omega, rfl, hlt, k⟩, fun x H2 y => ?_⟩
    obtain ⟨rfl, y⟩ : H2 = H' ∧ ∀ xs, SqL K H' lp xs → xs[i]? = some x := y
    obtain ⟨d, e, rx⟩ := lr.get' (y lws lsq)
    obtain ⟨F2, hF2e⟩ : ∃ F2, F2 = F' := ⟨_, rfl⟩
    subst hF2e
    have gr : Gr Non F2 H2 F2 H2 := Gr.refl P.wa.gr.fh
    obtain ⟨pl, hz, k⟩ := turn i d acc ρ' e iv
    have P2 := P.trans (Post.of P.wa gr)
    have w2 := P.wa.grow gr
    have hF2 : F2 Dl = none := gr.fr Dl (by rw [hH]; intro z; cases z) hF
    have hH2 : H2 Dl = some (.lst vs') := gr.kp Dl _ hH id
    have nms : ∀ (ρ2 : Env), ¬ MS ad ρ2 Dl := fun ρ2 ⟨j, S, _, m⟩ => nw.2.2 j m
    refine k B ad (wipe σ vs) F2 H2 x (w2.wiped pl) (pl.ad w2) rx _ fun ρ2 σ2 q wb e2 fr => ?_
    have e2' : wipe σ2 vs = wipe σ vs := by
      rw [e2]
      apply List.ext_getElem?
      intro j
      rw [wipe_get, wipe_get, wipe_length]
      split
      · rfl
      · first | rfl | rw [wipe_get, if_neg (by assumption)]
    refine ⟨e2', q B ad σ2 F2 H2 wb _ fun b ρ3 F3 H3 q3 p3 => ?_⟩
    cases b with
    | true =>
      show te σ2 H3 _
      refine q3.1 rfl B ad σ2 F3 H3 p3.wa _ fun e ρ4 v F4 H4 q4 p4 rv => ?_
      have p34 := p3.trans p4
      have pu := Post.unwiped w2 pl e2' fr wb p34
      have hH4 : H4 Dl = some (.lst vs') := p34.gr.kp Dl _ hH2 (nms _)
      have hF4 : F4 Dl = none := p34.gr.fr Dl (by rw [hH2]; intro z; cases z) hF2
      have ra4 : RpA F4 (vs' ++ [v]) (acc ++ [e]) := (ra.up (gr.ff.trans p34.gr.ff)).app (.cons rv .nil)
      refine ⟨vs', hH4, Nat.lt_of_lt_of_le (by rw [ra.len]; exact hz) (by decide), acc ++ [e], _, F4, vs' ++ [v], q4, ?_, hF4, upd_same, ra4⟩
      -- Dl grows: nobody sees it
      have pt := P2.trans pu
      have ne1 : ∀ a o, H a = some o → a ≠ Dl := fun a o q z => by rw [z, hD] at q; cases q
      have neF : ∀ a o, F4 a = some o → a ≠ Dl := fun a o q z => by rw [z, hF4] at q; cases q
      refine ⟨⟨⟨pt.wa.gr.ff, fun a o q => by rw [upd_ne (neF a o q)]; exact pt.wa.gr.fh a o q, fun a o q m => ?_, fun a q => ?_, pt.wa.gr.fr⟩, pt.wa.len, fun j s q => ?_, pt.wa.fz, pt.wa.dj, pt.wa.out, pt.wa.pin⟩, ⟨pt.gr.ff, fun a o q => by rw [upd_ne (neF a o q)]; exact pt.gr.fh a o q, fun a o q m => by rw [upd_ne (ne1 a o q)]; exact pt.gr.kp a o q m, fun a q => ?_, pt.gr.fr⟩, pt.sh⟩
      · rw [upd_ne (fun z => by rw [z, nw.2.1] at q; cases q)]
        exact pt.wa.gr.kp a o q m
      · by_cases ha : a = Dl
        · rw [ha, upd_same]; intro z; cases z
        · rw [upd_ne ha]; exact pt.wa.gr.al a q
      · have k := pt.wa.sl j s q
        cases s with
        | emp => exact k
        | val d => exact k
        | own es =>
          obtain ⟨p, ws, a1, a2, a3, a4, a5⟩ := k
          refine ⟨p, ws, a1, a2, a3, ?_, a5⟩
          rw [upd_ne (fun z => nw.2.2 j (by rw [a1, z]; simp))]
          exact a4
        | st S =>
          obtain ⟨s, a1, a2⟩ := k
          exact ⟨s, a1, a2.keep (Same.refl _) fun a m o e => by
            rw [upd_ne (fun z => nw.2.2 j (by rw [← z]; exact m))]
            exact e⟩
      · by_cases ha : a = Dl
        · rw [ha, upd_same]; intro z; cases z
        · rw [upd_ne ha]; exact pt.gr.al a q
    | false =>
      show Inv (i + 1) H3
      have pu := Post.unwiped w2 pl e2' fr wb p3
      exact ⟨acc, _, F3, vs', q3.2 rfl, P2.trans pu, p3.gr.fr Dl (by rw [hH2]; intro z; cases z) hF2, p3.gr.kp Dl _ hH2 (nms _), ra.up (gr.ff.trans p3.gr.ff)⟩
  · have e : i = ds.length := by omega
    subst e
    exact .inl ⟨(⟨lws, lsq, by rw [lr.len]; exact Nat.le_refl _⟩ : (Itl K lp).stop ds.length H'), z acc ρ' Dl vs' F' H' (done acc ρ' iv) (p1.trans P) hF hDH hH ra⟩
theorem eo_lcO {α : Type} {vs : List Nat} {wi0 : Nat} {g : TG} {Q : List D → Pu.Env → Prop} (f : α → Bool) (gg : α → D) {xs : List α} {enc : α → D} (hds : ρ[wi0]? = some (.own (xs.map enc))) (hz : xs.length < 1000000) (pl : Plain ρ vs)
    (turn : ∀ x ∈ xs, SG vs g (enc x) (wipeE ρ vs) fun ρ2 => unw vs ρ ρ2 = ρ ∧ ET tt ρ2 fun b ρ3 => b = f x ∧ ρ3 = ρ2 ∧ (f x = true → EX te ρ2 fun e ρ4 => e = gg x ∧ ρ4 = ρ2)) (q : Q ((xs.filter f).map gg) ρ) : EO (tLc (iList K (tVar wi0)) g tt te vs) ρ Q := by
  refine eo_lcG (ds := xs.map enc) (fun k acc ρ' => ρ' = ρ ∧ acc = ((xs.take k).filter f).map gg) hds ⟨rfl, by simp⟩ (fun k acc ρ' h => by rw [h.1]; exact hds) ?_ ?_
  · rintro k d acc ρ' e ⟨rfl, rfl⟩
    rw [List.getElem?_map] at e
    obtain ⟨x, ex, rfl⟩ : ∃ x, xs[k]? = some x ∧ enc x = d := by
      cases hx : xs[k]? with
      | none => rw [hx] at e; cases e
      | some x => rw [hx] at e; exact ⟨x, rfl, Option.some.inj e⟩
    have hm : x ∈ xs := List.mem_of_getElem? ex
    have hk : k < xs.length := (List.getElem?_eq_some_iff.mp ex).1
    have et : xs.take (k + 1) = xs.take k ++ [x] := by
      rw [List.take_succ, ex]; rfl
    refine ⟨pl, ?_, fun B ad σ F H v w hJ r Z z => turn x hm B ad σ F H v w hJ r Z fun ρ2 σ2 q w2 a b => z ρ2 σ2 (fun B ad σ F H w Z z => q.2 B ad σ F H w Z fun b ρ3 F' H' q2 p => z b ρ3 F' H' ⟨fun hb => ?_, fun hb => ?_⟩ p) w2 a b⟩
    · rw [List.length_map]
      exact Nat.lt_of_le_of_lt (Nat.le_trans (List.length_filter_le _ _) (by rw [List.length_take]; exact Nat.min_le_right _ _)) hz
    · obtain ⟨rfl, rfl, q2⟩ := q2
      refine (q2 hb).imp fun e ρ4 q => ?_
      obtain ⟨rfl, rfl⟩ := q
      exact ⟨‹_ ∧ _›.1, by rw [et, List.filter_append, List.map_append, List.filter_cons, if_pos hb]; rfl⟩
    · obtain ⟨rfl, rfl, q2⟩ := q2
      exact ⟨‹_ ∧ _›.1, by rw [et, List.filter_append, List.filter_cons, if_neg (by rw [hb]; exact Bool.false_ne_true), List.filter_nil, List.append_nil]⟩
  · rintro acc ρ' ⟨rfl, rfl⟩
    rw [List.length_map, List.take_length]
    exact q
end
end Pu
/-! PuE: a, b = rows (lists of lists), data; rows as an own list of data; rows[i].append(rows[j].pop(0)). -/
namespace Pu
open PySem L2
section
variable {ρ : Pu.Env} {P : Po} {te te1 te2 ta tb : TE} {t : TS} {K : PySem.W.Frag}
theorem ixN_lt {n m : Nat} {a : Int} (h : ixN n a = some m) : m < n := (ixN_seq h).2.1
theorem seqIx0 (n : Nat) : seqIndex? 0 (n + 1) = some 0 := by
  unfold seqIndex?
  simp
theorem sx_parNV {i j : Nat} (h00 : i ≠ 0) (h : EN te1 ρ fun S ρ1 => EX te2 ρ1 fun d ρ2 => NX P ((ρ2.set i (.st S)).set j (.val d))) : SX (tPar i j (tCons te1 (tCons te2 tNil))) ρ P := fun B σ F H w Dn n r b c => by
  obtain ⟨ad, w⟩ := w
  refine h B ad σ F H w _ fun S s as ρ1 F1 H1 F2 H2 q p g st fn => ?_
  have w2 := p.wa.grow g
  refine q B ad σ F2 H2 w2 _ fun d ρ2 v F3 H3 q3 p3 rv => ?_
  obtain ⟨ρ3, l, q3⟩ := q3
  have nm : ∀ a ∈ as, ¬ MS ad ρ1 a := fun a ha ⟨j, S', _, m⟩ => (p.wa.newp (fn a ha).2).2.2 j m
  have st3 : StAt F3 H3 S s as := st.keep p3.gr.ff fun a ha o e => p3.gr.kp a o e (nm a ha)
  have hF3 : ∀ a ∈ as, F3 a = none := fun a ha => p3.gr.fr a ((st.mem).2 a ha) (fn a ha).1
  have h03 : ∀ a ∈ as, B.H0 a = none ∧ ∀ j, a ∉ ad j := fun a ha => (p.wa.newp (fn a ha).2).2
  have w6 := p3.wa.setSt2 i h00 st3 hF3 h03
  have w7 := w6.setVal2 j rv
  exact ⟨.ref s, v, rfl, n ρ3 _ F3 _ q3 (W.weak ⟨_, w7⟩ l)⟩
/-- the inner lists are data from now on, the outer one is one's own -/
theorem sx_grdOwn (i : Nat) (h00 : i ≠ 0) {rows : List (List (Option Int))} (h : ρ[i]? = some (.st (.grd rows))) (k : SX t (ρ.set i (.own (rows.map rowD))) P) : SX t ρ P := fun B σ F H w => by
  obtain ⟨ad, w⟩ := w
  obtain ⟨s, k0, qs, has, nd, hs, hg⟩ := w.sl i _ h
  have hn : ∀ p ∈ ad i, B.H0 p = none := fun p m => by
    rcases (w.fz i p m).2 with q | q
    · exact q
    · exact absurd q.2 h00
  have qi : ∀ a ∈ qs, a ∈ ad i := fun a m => by rw [has]; simp [m]
  have si : s ∈ ad i := by rw [has]; simp
  have sq : s ∉ qs := (List.nodup_cons.mp nd).1
  have up : Same F (fun a => if a ∈ qs then H a else F a) := fun a o e => by
    have : a ∉ qs := fun m => by rw [(w.fz i a (qi a m)).1] at e; cases e
    show (if a ∈ qs then H a else F a) = some o
    rw [if_neg this]; exact e
  have at1 : ∀ a ∈ qs, (if a ∈ qs then H a else F a) = H a := fun a m => if_pos m
  refine k B σ (fun a => if a ∈ qs then H a else F a) H ⟨fun j => if j = i then [s] else ad j, ⟨w.gr.ff.trans up, fun a o e => ?_, w.gr.kp, w.gr.al, fun a e z => ?_⟩, by rw [List.length_set]; exact w.len, fun j sl e => ?_, fun j q m => ?_, fun j1 j2 q m1 m2 => ?_, fun j e => ?_, w.pin.to fun S2 e => by
    rcases get_set e with ⟨e0, q⟩ | ⟨hj, e⟩
    · cases q
    · exact ⟨⟨S2, e⟩, rfl, if_neg hj⟩⟩
  · have e : (if a ∈ qs then H a else F a) = some o := e
    by_cases m : a ∈ qs
    · rw [at1 a m] at e; exact e
    · rw [if_neg m] at e; exact w.gr.fh a o e
  · have m : a ∉ qs := fun m => e (hn a (qi a m))
    show (if a ∈ qs then H a else F a) = none
    rw [if_neg m]
    exact w.gr.fr a e z
  · rcases get_set e with ⟨rfl, rfl⟩ | ⟨hj, e⟩
    · exact ⟨s, qs.map V.ref, if_pos rfl, hn s si, k0, hs, rpa_grd (hg.keep fun q hq o e => (at1 q hq).trans e)⟩
    · rw [if_neg hj]
      have k := w.sl j sl e
      cases sl with
      | emp => exact k
      | val d =>
        obtain ⟨k, v, e, r⟩ := k
        exact ⟨k, v, e, r.up up⟩
      | own es =>
        obtain ⟨q, ws, a1, a2, a3, a4, a5⟩ := k
        exact ⟨q, ws, a1, a2, a3, a4, a5.up up⟩
      | st S2 =>
        obtain ⟨s2, a1, a2⟩ := k
        exact ⟨s2, a1, a2.keep up fun _ _ _ e => e⟩
  · by_cases hj : j = i
    · simp only [if_pos hj, List.mem_singleton] at m
      subst m
      refine ⟨?_, .inl (hn _ si)⟩
      show (if q ∈ qs then H q else F q) = none
      rw [if_neg sq]
      exact (w.fz i q si).1
    · simp only [if_neg hj] at m
      have nq : q ∉ qs := fun m' => hj (w.dj j i q m (qi q m'))
      refine ⟨?_, (w.fz j q m).2⟩
      show (if q ∈ qs then H q else F q) = none
      rw [if_neg nq]
      exact (w.fz j q m).1
  · have c : ∀ j, q ∈ (if j = i then [s] else ad j) → q ∈ ad j := fun j m => by
      by_cases hj : j = i
      · simp only [if_pos hj, List.mem_singleton] at m
        rw [m, hj]; exact si
      · simp only [if_neg hj] at m
        exact m
    exact w.dj j1 j2 q (c j1 m1) (c j2 m2)
  · show (if j = i then [s] else ad j) = []
    have e' := get_set' e
    by_cases hj : j = i
    · subst hj
      rw [h] at e'
      cases e'
    · rw [if_neg hj]
      exact w.out j e'
theorem rIx_grd {i : Nat} {B : Base} {ad : Nat → List Addr} {σ : St} {F H : Hp} {rows : List (List (Option Int))} {s : Addr} {qs : List Addr} {a : Int} {m : Nat} {r : List (Option Int)} (hs : H s = some (.lst (qs.map V.ref))) (hg : GrA H qs rows) (hm : ixN rows.length a = some m) (hr : rows[m]? = some r) : ∃ q, qs[m]? = some q ∧ H q = some (.lst (r.map ov)) ∧ atI (qs.map V.ref) a = some (V.ref q) := by
  obtain ⟨q, hq, hH⟩ := hg.get hr
  refine ⟨q, hq, hH, ?_⟩
  unfold atI
  rw [List.length_map, hg.len, hm]
  show (qs.map V.ref)[m]? = _
  rw [List.getElem?_map, hq]
  rfl
/-- rows[a].append(rows[b].pop(0)) -/
theorem sx_movG {i : Nat} {rows : List (List (Option Int))} (h : ρ[i]? = some (.st (.grd rows))) (hz : ∀ r ∈ rows, r.length < 1000)
    (e1 : EX ta ρ fun d ρ1 => ∃ a m, d = .int a ∧ ρ1[i]? = some (.st (.grd rows)) ∧ ixN rows.length a = some m ∧ EX tb ρ1 fun d2 ρ2 => ∃ b k x rest, d2 = .int b ∧ ρ2[i]? = some (.st (.grd rows)) ∧ ixN rows.length b = some k ∧ rows[k]? = some (x :: rest) ∧
      NX P (ρ2.set i (.st (.grd ((rows.set k rest).set m ((rows.set k rest).getD m [] ++ [x])))))) :
    SX (tDrop (tBM K "list" rAppend (tOp (rIxA K) (tVar i) ta) (tCons (tBM K "list" rPopAt (tOp (rIxA K) (tVar i) tb) (tCons (tC (.int 0)) tNil)) tNil))) ρ P := fun B σ F H w Dn n rt bk ct => by
  obtain ⟨ad, w⟩ := w
  obtain ⟨s, k0, qs0, has0, nd0, hs0, hg0⟩ := w.sl i _ h
  refine ⟨_, k0, e1 B ad σ F H w _ fun a' ρ1 y F1 H1 q1 p1 ry => ?_⟩
  obtain ⟨a, m, rfl, h1, hm, q1⟩ := q1
  obtain ⟨s1, k1, qs, has1, nd1, hs1, hg1⟩ := p1.wa.sl i _ h1
  rw [k0] at k1
  cases k1
  have ml : m < rows.length := ixN_lt hm
  obtain ⟨qm, hqm, hHm, hatm⟩ := rIx_grd (i := i) (B := B) (ad := ad) (σ := σ) (F := F1) hs1 hg1 hm (List.getElem?_eq_getElem ml)
  refine .inl ⟨s, qs.map V.ref, a, .ref qm, rfl, ry.int_inv, .inl (.inl hs1), hatm, ⟨.inl ⟨rfl, _, .inl (.inl hHm)⟩, ?_⟩⟩
  refine ⟨_, k0, q1 B ad σ F1 H1 p1.wa _ fun b' ρ2 u F2 H2 q2 p2 ru => ?_⟩
  obtain ⟨b, k, x, rest, rfl, h2, hk, hrk, q2⟩ := q2
  obtain ⟨s2, k2, qs2, has2, nd2, hs2, hg2⟩ := p2.wa.sl i _ h2
  rw [k0] at k2
  cases k2
  have eq : qs2 = qs := by
    have := has2.symm.trans has1
    simpa using this
  subst eq
  obtain ⟨qk, hqk, hHk, hatk⟩ := rIx_grd (i := i) (B := B) (ad := ad) (σ := σ) (F := F2) hs2 hg2 hk hrk
  refine .inl ⟨s, qs2.map V.ref, b, .ref qk, rfl, ru.int_inv, .inl (.inl hs2), hatk, ⟨.inl ⟨rfl, _, .inl (.inl hHk)⟩, ?_⟩⟩
  refine ⟨qk, (x :: rest).map ov, 0, 0, ov x, rfl, rfl, hHk, by decide, by decide, by rw [List.length_map, List.length_cons]; exact seqIx0 _, rfl, ?_⟩
  have nq := (List.nodup_cons.mp nd2).2
  have hkm : qk ∈ qs2 := List.mem_of_getElem? hqk
  have hmm : qm ∈ qs2 := List.mem_of_getElem? hqm
  have hka : qk ∈ ad i := by rw [has2]; simp [hkm]
  have hma : qm ∈ ad i := by rw [has2]; simp [hmm]
  have hFk : F2 qk = none := (p2.wa.fz i qk hka).1
  have hFm : F2 qm = none := (p2.wa.fz i qm hma).1
  have hsk : s ≠ qk := fun e => (List.nodup_cons.mp nd2).1 (by rw [e]; exact hkm)
  have hsm : s ≠ qm := fun e => (List.nodup_cons.mp nd2).1 (by rw [e]; exact hmm)
  have ee : ((x :: rest).map ov).eraseIdx 0 = rest.map ov := rfl
  rw [ee]
  have g1 : GrA (upd H2 qk (.lst (rest.map ov))) qs2 (rows.set k rest) := GrA.set nq hg2 hqk
  have rl : (rows.set k rest).length = rows.length := by rw [List.length_set]
  have hr1 : (rows.set k rest)[m]? = some ((rows.set k rest).getD m []) := by
    rw [List.getD_eq_getElem?_getD, List.getElem?_eq_getElem (by rw [rl]; exact ml)]
    rfl
  obtain ⟨qm', hqm', hHm'⟩ := g1.get hr1
  rw [hqm] at hqm'
  cases hqm'
  have rz : ((rows.set k rest).getD m []).length < 1000 := by
    have m1 : (rows.set k rest).getD m [] ∈ rows.set k rest := List.mem_of_getElem? hr1
    rcases List.mem_or_eq_of_mem_set m1 with q | q
    · exact hz _ q
    · have := hz _ (List.mem_of_getElem? hrk)
      rw [List.length_cons] at this
      rw [q]
      omega
  obtain ⟨ρ3, l, q3⟩ := q2
  refine ⟨qm, ((rows.set k rest).getD m []).map ov, ov x, rfl, rfl, hHm', by rw [List.length_map]; exact Nat.lt_of_lt_of_le rz (by decide), ?_⟩
  have eset : ((rows.set k rest).getD m []).map ov ++ [ov x] = ((rows.set k rest).getD m [] ++ [x]).map ov := by rw [List.map_append]; rfl
  rw [eset]
  have g : Gr (· ∈ ad i) F2 H2 F2 (upd (upd H2 qk (.lst (rest.map ov))) qm (.lst (((rows.set k rest).getD m [] ++ [x]).map ov))) := ⟨Same.refl F2, fun a o e => by
      rw [upd_ne (fun z => by rw [z, hFm] at e; cases e), upd_ne (fun z => by rw [z, hFk] at e; cases e)]
      exact p2.wa.gr.fh a o e, fun a o e mm => by
      rw [upd_ne (fun z => mm (by rw [z]; exact hma)), upd_ne (fun z => mm (by rw [z]; exact hka))]
      exact e, fun a e => by
      by_cases ha : a = qm
      · rw [ha, upd_same]; intro z; cases z
      · rw [upd_ne ha]
        by_cases hb : a = qk
        · rw [hb, upd_same]; intro z; cases z
        · rw [upd_ne hb]; exact e, fun _ _ z => z⟩
  refine n ρ3 σ F2 _ q3 (W.weak ⟨ad, p2.wa.stp (S' := .grd ((rows.set k rest).set m ((rows.set k rest).getD m [] ++ [x]))) h2 k0 g ⟨qs2, has2, nd2, ?_, ?_⟩ fun a ha => (p2.wa.fz i a ha).1⟩ l)
  · rw [upd_ne hsm, upd_ne hsk]; exact hs2
  · exact GrA.set nq g1 hqm
end
end Pu
/-! PuZ: a dict whose keys are pairs of ints; data <= data; min(xs, default=d) -/
namespace Pu
open PySem L2 PyProof.Rows
abbrev Kt := (Int × Int) × Int
def getT (kvs : List Kt) (k : Int × Int) : Option Int := (kvs.find? fun p => decide (p.1 = k)).map (·.2)
def putT (kvs : List Kt) (k : Int × Int) (n : Int) : List Kt := if (kvs.any fun p => decide (p.1 = k)) = true then kvs.map (fun p => if p.1 = k then (p.1, n) else p) else kvs ++ [(k, n)]
def kt (p : Kt) : List Key × V := (([.inl p.1.1, .inl p.1.2] : List Key), V.int p.2)
theorem kt_key (p : Kt) (a b : Int) : ((kt p).1 = ([.inl a, .inl b] : List Key)) ↔ p.1 = (a, b) := by
  obtain ⟨⟨x, y⟩, n⟩ := p
  simp [kt]
theorem getT_nil (k : Int × Int) : getT [] k = none := rfl
theorem getT_put (kvs : List Kt) (k j : Int × Int) (n : Int) : getT (putT kvs k n) j = if j = k then some n else getT kvs j := by
  unfold putT
  split
  · rename_i h
    unfold getT
    induction kvs with
    | nil => simp at h
    | cons p kvs ih =>
      rw [List.map_cons, List.find?_cons, List.find?_cons]
      by_cases e : p.1 = k
      · rw [if_pos e]
        by_cases ej : j = k
        · subst ej
          simp [e]
        · have e1 : ¬ p.1 = j := fun z => ej (by rw [← z, e])
          simp only [decide_eq_false e1]
          rw [if_neg ej]
          have key : ∀ l : List Kt, ((l.map fun p => if p.1 = k then (p.1, n) else p).find? fun p => decide (p.1 = j)).map (·.2) = (l.find? fun p => decide (p.1 = j)).map (·.2) := by
            intro l
            induction l with
            | nil => rfl
            | cons q l ihl =>
              rw [List.map_cons, List.find?_cons, List.find?_cons]
              by_cases eq : q.1 = k
              · have e2 : ¬ q.1 = j := fun z => ej (by rw [← z, eq])
                rw [if_pos eq]
                simp only [decide_eq_false e2]
                exact ihl
              · rw [if_neg eq]
                by_cases e3 : q.1 = j
                · simp [e3]
                · simp only [decide_eq_false e3]
                  exact ihl
          exact key kvs
      · rw [if_neg e]
        have h' : (kvs.any fun p => decide (p.1 = k)) = true := by simpa [e] using h
        by_cases ej : p.1 = j
        · have : ¬ j = k := fun z => e (by rw [ej, z])
          simp [ej, this]
        · simp only [decide_eq_false ej]
          exact ih h'
  · rename_i h
    have hn : ∀ p ∈ kvs, ¬ p.1 = k := fun p hp e => h (by rw [List.any_eq_true]; exact ⟨p, hp, decide_eq_true e⟩)
    unfold getT
    rw [List.find?_append]
    by_cases ej : j = k
    · subst ej
      have : kvs.find? (fun p => decide (p.1 = j)) = none := List.find?_eq_none.mpr fun p hp => by simpa using hn p hp
      rw [this]
      simp
    · rw [if_neg ej]
      cases hf : kvs.find? (fun p => decide (p.1 = j)) with
      | some q => simp
      | none =>
        have : ¬ k = j := fun z => ej z.symm
        simp [this]
theorem putT_len (kvs : List Kt) (k : Int × Int) (n : Int) : (putT kvs k n).length ≤ kvs.length + 1 := by
  unfold putT
  split
  · rw [List.length_map]; omega
  · rw [List.length_append, List.length_singleton]; omega
theorem val_kt (kvs : List Kt) (a b : Int) : valV (kvs.map kt) ([.inl a, .inl b] : List Key) = (getT kvs (a, b)).map V.int := by
  unfold valV getT
  induction kvs with
  | nil => rfl
  | cons p kvs ih =>
    rw [List.map_cons, List.find?_cons, List.find?_cons]
    by_cases e : p.1 = (a, b)
    · rw [decide_eq_true ((kt_key p a b).mpr e), decide_eq_true e]
      rfl
    · rw [decide_eq_false (fun z => e ((kt_key p a b).mp z)), decide_eq_false e]
      exact ih
theorem put_kt (kvs : List Kt) (a b n : Int) : putK (kvs.map kt) ([.inl a, .inl b] : List Key) (V.int n) = (putT kvs (a, b) n).map kt := by
  have e1 : ((kvs.map kt).any fun kv => decide (kv.1 = ([.inl a, .inl b] : List Key))) = kvs.any fun p => decide (p.1 = (a, b)) := by
    induction kvs with
    | nil => rfl
    | cons p kvs ih =>
      rw [List.map_cons, List.any_cons, List.any_cons, ih]
      congr 1
      by_cases e : p.1 = (a, b)
      · rw [decide_eq_true ((kt_key p a b).mpr e), decide_eq_true e]
      · rw [decide_eq_false (fun z => e ((kt_key p a b).mp z)), decide_eq_false e]
  unfold putK putT
  rw [e1]
  split
  · rw [List.map_map, List.map_map]
    refine List.map_congr_left fun p _ => ?_
    simp only [Function.comp]
    by_cases e : p.1 = (a, b)
    · rw [if_pos ((kt_key p a b).mpr e), if_pos e]
      rfl
    · rw [if_neg (fun z => e ((kt_key p a b).mp z)), if_neg e]
  · rw [List.map_append]
    rfl
section
variable {ρ : Pu.Env} {P : Po} {i : Nat} {tk tv ty tx : TE}
theorem sx_dnewT (h00 : i ≠ 0) (k : NX P (ρ.set i (.st (.dtt [])))) : SX (tAsg tDNewT (gName i)) ρ P := fun B σ F H w Dn n r b c => by
  obtain ⟨ad, w⟩ := w
  intro p hp
  have nw := w.newp hp
  obtain ⟨ρ2, l, q⟩ := k
  have w1 := w.updD (o := .dT []) nw.2.1 nw.2.2 nw.1
  have w2 := w1.setSt2 (S := .dtt []) (s := p) (as := [p]) i h00 ⟨rfl, upd_same⟩ (fun a ha => by rw [List.mem_singleton.mp ha]; exact nw.1) fun a ha => by rw [List.mem_singleton.mp ha]; exact nw.2
  exact n ρ2 _ F _ q (W.weak ⟨_, w2⟩ l)
theorem Rp.pair_inv {F : Hp} {v : V} {a b : Int} (h : Rp F v (.tuple [.int a, .int b])) : ∃ t, v = .ref t ∧ F t = some (.tup [.int a, .int b]) := by
  obtain ⟨t, xs, rfl, ht, ra⟩ := h.tup_inv
  obtain ⟨u, v, rfl, r1, r2⟩ := ra.two
  rw [r1.int_inv, r2.int_inv] at ht
  exact ⟨t, rfl, ht⟩
theorem sx_dputT {kvs0 : List Kt} (h0 : ρ[i]? = some (.st (.dtt kvs0))) (h : EX tv ρ fun d ρ1 => EX tk ρ1 fun e ρ2 => ∃ n a b kvs, d = .int n ∧ e = .tuple [.int a, .int b] ∧ ρ2[i]? = some (.st (.dtt kvs)) ∧ kvs.length < 1000000 ∧ NX P (ρ2.set i (.st (.dtt (putT kvs (a, b) n))))) :
    SX (sDPut (tVar i) tk tv) ρ P := fun B σ F H w Dn n r b c => by
  obtain ⟨ad, w⟩ := w
  obtain ⟨s0, k0, _⟩ := w.sl i _ h0
  refine h B ad σ F H w _ fun d ρ1 v F1 H1 q1 p1 r1 => ?_
  refine ⟨_, k0, q1 B ad σ F1 H1 p1.wa _ fun e ρ2 y F2 H2 q2 p2 r2 => ?_⟩
  obtain ⟨m, a, b', kvs, rfl, rfl, h1, hz, ρ', l, q⟩ := q2
  obtain ⟨s, k1, has, st⟩ := p2.wa.sl i _ h1
  rw [k0] at k1
  cases k1
  have ev := r1.int_inv
  subst ev
  obtain ⟨t, rfl, ht⟩ := r2.pair_inv
  have fs0 : F2 s0 = none := (p2.wa.fz i s0 (by rw [has]; simp)).1
  have neF : ∀ a o, F2 a = some o → a ≠ s0 := fun a o e z => by rw [z, fs0] at e; cases e
  refine ⟨s0, _, rfl, DPut.t (k := ([.inl a, .inl b'] : List Key)) st (p2.wa.gr.fh _ _ ht) (by rw [List.length_map]; exact Nat.lt_of_lt_of_le hz (by decide)), ?_⟩
  rw [show (kvs.map fun p => (([.inl p.1.1, .inl p.1.2] : List Key), V.int p.2)) = kvs.map kt from rfl, put_kt]
  have w2 := p2.wa.stp (S' := .dtt (putT kvs (a, b') m)) (F' := F2) (H' := upd H2 s0 (.dT ((putT kvs (a, b') m).map kt))) h1 k0 ⟨Same.refl F2, fun a o e => by rw [upd_ne (neF a o e)]; exact p2.wa.gr.fh a o e, fun a o e ha => by rw [upd_ne (fun z => ha (by rw [has, z]; simp))]; exact e, fun a e => by
    by_cases z : a = s0
    · rw [z, upd_same]; intro q; cases q
    · rw [upd_ne z]; exact e, fun a e z => z⟩ ⟨has, upd_same⟩ (fun a ha => (p2.wa.fz i a ha).1)
  exact n ρ' _ F2 _ q (W.weak ⟨_, w2⟩ l)
theorem ex_dgetT {kvs0 : List Kt} {Q : D → Pu.Env → Prop} (h0 : ρ[i]? = some (.st (.dtt kvs0))) (h : EX ty ρ fun e ρ1 => EX tx ρ1 fun d ρ2 => ∃ n a b kvs, d = .int n ∧ e = .tuple [.int a, .int b] ∧ ρ2[i]? = some (.st (.dtt kvs)) ∧ Q (.int ((getT kvs (a, b)).getD n)) ρ2) :
    EX (tDGet2 (tVar i) ty tx) ρ Q := fun B ad σ F H w Z z => by
  obtain ⟨s0, k0, has0, st0⟩ := w.sl i _ h0
  refine ⟨_, k0, s0, rfl, .inr ⟨_, .inl st0⟩, h B ad σ F H w _ fun e ρ1 y F1 H1 q1 p1 r1 => q1 B ad σ F1 H1 p1.wa _ fun d ρ2 v F2 H2 q2 p2 r2 => ?_⟩
  obtain ⟨m, a, b', kvs, rfl, rfl, h1, q⟩ := q2
  obtain ⟨s, k1, has, st⟩ := p2.wa.sl i _ h1
  rw [k0] at k1
  cases k1
  have ev := r2.int_inv
  subst ev
  obtain ⟨t, rfl, ht⟩ := (r1.up p2.gr.ff).pair_inv
  refine ⟨_, DGet.t (k := ([.inl a, .inl b'] : List Key)) st (p2.wa.gr.fh _ _ ht), ?_⟩
  rw [show (kvs.map fun p => (([.inl p.1.1, .inl p.1.2] : List Key), V.int p.2)) = kvs.map kt from rfl, val_kt]
  have e : ((getT kvs (a, b')).map V.int).getD (V.int m) = V.int ((getT kvs (a, b')).getD m) := by cases getT kvs (a, b') <;> rfl
  rw [e]
  exact z _ ρ2 _ F2 H2 q (p1.trans p2) (.int _)
end
/-! ### data <= data -/
section
variable {X : Cx} {K : PySem.W.Frag} {d1 d2 : D} {Q : D → Prop}
def rLeD (K : PySem.W.Frag) : R2 := fun x y H Q => ∃ d e, Dp K H x d ∧ Dp K H y e ∧ PySem.W.alike d e = true ∧ d ≠ .none ∧ min d.depth e.depth ≤ 60 ∧ Q (.bl (!PySem.W.dataLt e d)) H
theorem op_leD (hu : X.A.units + 64 < cLine) : OpR X (compareOp .LtE) (rLeD X.K) := by
  rintro pins s σ H x y v u Q I rx ry ⟨d, e, hd, he, pd, pe, hz, q⟩
  obtain ⟨as, r1⟩ := Dp.reads I d x v hd rx
  obtain ⟨bs, r2⟩ := Dp.reads I e y u he ry
  exact PySem.W.le_data r1 r2 pd pe (by omega) ⟨.bl _, H, I, rfl, q⟩
theorem opd_leD (al : PySem.W.alike d1 d2 = true) (hn : d1 ≠ .none) (h : min d1.depth d2.depth ≤ 60) (k : Q (.bool (!PySem.W.dataLt d2 d1))) : OpD (rLeD K) d1 d2 Q := fun F H x y e rx ry Z z => ⟨d1, d2, rx.dp e, ry.dp e, al, hn, h, z _ _ F H k (Gr.refl e) (.bl _)⟩
theorem opd_leP {p q : Int × Int} (k : Q (.bool (!ltP q p))) : OpD (rLeD K) (encP p) (encP q) Q := opd_leD rfl (by unfold encP; simp) (min_l (by simp [encP, PyData.depth, PyData.depthAll])) (by rw [dataLt_P]; exact k)
end
/-! ### min(ints, default=n) -/
section
variable {X : Cx}
def rMnDf (K : PySem.W.Frag) : List V → List V → Hp → VK → Prop := fun vs zs H Q => ∃ (F : Hp) (a : Addr) (xs : List V) (ns : List Int) (n : Int), vs = [.ref a] ∧ zs = [.int n] ∧ Same F H ∧ Rd F a (.lst xs) ∧ RpA F xs (ns.map .int) ∧ Q (.int (if ns.isEmpty then n else foldMin ns)) H
theorem cb_minDf (hc : X.calm = true) (hu : X.A.units + 64 < cLine) : CallRK X (.builtin "min") ["default"] (rMnDf X.K) := by
  rintro pins s σ H vs zs us ws Q I r rz ⟨F, a, xs, ns, n, rfl, rfl, e, ha, ra, q⟩
  obtain ⟨its, rv, hl, _⟩ := I.list (sqL_rd (K := X.K) ha e)
  obtain ⟨as, rr⟩ := rpa_reads I e ra rv
  rw [Vals.ref1 r]
  obtain ⟨w, rfl, rw1⟩ : ∃ w, ws = [w] ∧ RelV (.int n) w := by
    cases rz with
    | cons h t => cases t; exact ⟨_, rfl, h⟩
  have hz : PyData.depthAll (ns.map PyData.int) ≤ 60 := by
    clear q ra rr
    induction ns with
    | nil => simp [PyData.depthAll]
    | cons m ns ih => rw [List.map_cons]; simp only [PyData.depthAll, PyData.depth]; omega
  refine PySem.W.min_list_default (I.ok.hd hc) hl.isList (by simpa using rr) (alike_ints ns) (by omega) (fun h0 h' tk hk => ?_) fun y ys i v h' tk bs hxs hi rd hk => ?_
  · have : ns = [] := by simpa using h0
    subst this
    exact ⟨_, H, I.kept hk, rw1, q⟩
  · cases ns with
    | nil => cases hxs
    | cons m ns =>
      have e1 : PyData.int m = y := (List.cons.inj hxs).1
      have e2 : ns.map PyData.int = ys := (List.cons.inj hxs).2
      subst e1 e2
      have al := alike_ints (m :: ns)
      obtain ⟨y, ry, rp⟩ := pick_rp I e ra rv al (minD_mem (.int m) (ns.map .int)) hi rd hk
      rw [PySem.W.minD_ints] at rp
      rw [rp.int_inv] at ry
      exact ⟨_, H, I.kept hk, ry, q⟩
theorem ex_minDf {K : PySem.W.Frag} {ρ : Pu.Env} {te tk : TE} {Q : D → Pu.Env → Prop} (h : EX te ρ fun d ρ1 => ∃ ns : List Int, d = .list (ns.map .int) ∧ EX tk ρ1 fun e ρ2 => ∃ n, e = .int n ∧ Q (.int (if ns.isEmpty then n else foldMin ns)) ρ2) :
    EX (tCKw (rMnDf K) (tCons te tNil) (tCons tk tNil)) ρ Q := fun B ad σ F H w Z z => by
  refine h B ad σ F H w _ fun d ρ1 v F1 H1 q1 p1 r1 => ?_
  obtain ⟨ns, rfl, q1⟩ := q1
  refine q1 B ad σ F1 H1 p1.wa _ fun e ρ2 u F2 H2 q2 p2 r2 => ?_
  obtain ⟨n, rfl, q⟩ := q2
  obtain ⟨a, xs, rfl, ha, ra⟩ := (r1.up p2.gr.ff).lst_inv
  have ev := r2.int_inv
  subst ev
  exact ⟨F2, a, xs, ns, n, rfl, rfl, p2.wa.gr.fh, ha, ra, z _ ρ2 _ F2 H2 q (p1.trans p2) (.int _)⟩
end
end Pu
/-! PuP: xs.pop(); sorted(set(a list of pairs of ints)) -/
namespace Pu
open PySem L2 PyProof.Rows
section
variable {ρ : Pu.Env} {te : TE} {K : PySem.W.Frag} {P : Po}
/-- xs.pop(), its value dropped -/
theorem sx_pop {i : Nat} {es : List D} (h : ρ[i]? = some (.own es)) (h0 : es ≠ []) (k : NX P (ρ.set i (.own es.dropLast))) : SX (tDrop (tBM K "list" rPop (tVar i) tNil)) ρ P := fun B σ F H w Dn n r b c => by
  obtain ⟨ad, w⟩ := w
  obtain ⟨p0, vs0, _, _, k1, k0, rr⟩ := w.sl i _ h
  obtain ⟨ρ', l, q⟩ := k
  have hlen : vs0.length = es.length := rr.len
  have hpos : 0 < es.length := List.length_pos_iff.mpr h0
  have hlt : vs0.length - 1 < vs0.length := by omega
  refine ⟨_, k1, .inl ⟨rfl, _, .inl (.inl k0)⟩, p0, vs0, vs0[vs0.length - 1], rfl, rfl, k0, List.getElem?_eq_getElem hlt, ?_⟩
  have r2 : RpA F vs0.dropLast es.dropLast := by
    rw [List.dropLast_eq_take, List.dropLast_eq_take, hlen]
    exact rr.take _
  exact n ρ' σ F _ q ((w.mut h k1 r2).weak l)
end
/-! sorted of a set of pairs -/
def encA (q : Addr × List Int) : D := .tuple (q.2.map .int)
section
variable {P : Program} {w : World} {A : Around} {E : Value → Shared → Prop} {s : Shared}
theorem each_refs {h : Heap} : ∀ L1 : List (Addr × List Int), PySem.W.EachIs (fun v (q : Addr × List Int) => v = Value.ref q.1) (L1.map fun q => Value.ref q.1) L1
  | [] => .nil
  | q :: L1 => .cons rfl (each_refs (h := h) L1)
theorem each_back : ∀ {out : List Value} {L1 : List (Addr × List Int)}, PySem.W.EachIs (fun v (q : Addr × List Int) => v = Value.ref q.1) out L1 → out = L1.map fun q => Value.ref q.1
  | _, _, .nil => rfl
  | _, _, .cons h t => by rw [h, each_back t]; rfl
theorem each_rds {h : Heap} {R : Addr × List Int → Addr → Prop} : ∀ {L1 : List (Addr × List Int)}, (∀ q ∈ L1, ∃ as, Reads h (.ref q.1) (encA q) as ∧ ∀ a ∈ as, R q a) → PySem.W.EachIs (fun v (q : Addr × List Int) => ∃ as, Reads h v (encA q) as ∧ ∀ a ∈ as, R q a) (L1.map fun q => Value.ref q.1) L1
  | [], _ => .nil
  | q :: L1, k => .cons (k q (by simp)) (each_rds fun r hr => k r (by simp [hr]))
theorem back_list {L : List (Addr × List Int)} : ∀ {vs : List Value}, (∀ v ∈ vs, v ∈ L.map fun q => Value.ref q.1) → ∃ L1 : List (Addr × List Int), vs = L1.map (fun q => Value.ref q.1) ∧ ∀ q ∈ L1, q ∈ L
  | [], _ => ⟨[], rfl, fun q m => by cases m⟩
  | v :: vs, k => by
    obtain ⟨L1, e1, s1⟩ := back_list (vs := vs) fun u m => k u (by simp [m])
    obtain ⟨q, hq, e⟩ := List.mem_map.mp (k v (by simp))
    exact ⟨q :: L1, by rw [e1, ← e]; rfl, fun r m => by
      rcases List.mem_cons.mp m with rfl | m
      · exact hq
      · exact s1 r m⟩
theorem alike_A {L : List (Addr × List Int)} (h2 : ∀ q ∈ L, ∃ x y, q.2 = [x, y]) : PySem.W.AllAlike (L.map encA) := fun x hx y hy => by
  obtain ⟨a, ma, rfl⟩ := List.mem_map.mp hx
  obtain ⟨b, mb, rfl⟩ := List.mem_map.mp hy
  obtain ⟨x1, y1, e1⟩ := h2 a ma
  obtain ⟨x2, y2, e2⟩ := h2 b mb
  unfold encA
  rw [e1, e2]
  rfl
theorem sortable_A {L : List (Addr × List Int)} (h2 : ∀ q ∈ L, ∃ x y, q.2 = [x, y]) : PySem.W.Sortable (L.map encA) := .inl fun x hx => by
  obtain ⟨a, ma, rfl⟩ := List.mem_map.mp hx
  obtain ⟨x1, y1, e1⟩ := h2 a ma
  exact ⟨.int x1, [.int y1], by unfold encA; rw [e1]; rfl⟩
theorem readsAll_nil {h : Heap} {x y : Int} {vs : List Value} {as : List Addr} (r : ReadsAll h vs [.int x, .int y] as) : as = [] := by
  cases r with
  | cons r1 r =>
    cases r1
    cases r with
    | cons r2 r =>
      cases r2
      cases r
      rfl
theorem reads_nil {h : Heap} {v : Value} {q : Addr × List Int} {as : List Addr} (h2 : ∃ x y, q.2 = [x, y]) (r : Reads h v (encA q) as) : as = [] := by
  obtain ⟨x, y, e⟩ := h2
  unfold encA at r
  rw [e] at r
  cases r with
  | tuple _ _ _ r => exact readsAll_nil r
theorem depth_A {q : Addr × List Int} (h2 : ∃ x y, q.2 = [x, y]) : (encA q).depth ≤ 2 := by
  obtain ⟨x, y, e⟩ := h2
  unfold encA
  rw [e]
  simp [PyData.depth, PyData.depthAll]
theorem sorted_setP {a : Addr} {L : List (Addr × List Int)} {es : Array (Int × Value)} {ep : Nat} {t : SetTable} {Q : Value → Shared → Prop} (R : SetTR P w s.heap a L es ep t) (hh : A.handled = none) (hu : A.units + 20 < cLine)
    (h2 : ∀ q ∈ L, ∃ x y, q.2 = [x, y]) (hr : ∀ q ∈ L, ∃ as, Reads s.heap (.ref q.1) (encA q) as)
    (done : ∀ s' p (out : Array Value) (c : Nat) (L1 L2 : List (Addr × List Int)), (∀ b o, s.heap.get? b = some o → s'.heap.get? b = some o) → s'.gens = s.gens → s'.os = s.os → s.heap.objs.size ≤ p →
      s'.heap.get? p = some (seqObj "list" out c) → out.toList = L2.map (fun q => Value.ref q.1) → L1.Perm L → L2 = L1.mergeSort (PySem.W.dataLe false encA) → Q (.ref p) s') :
    wpAny (model P w) A (call (.builtin "sorted") [.ref a]) Q E s := by
  obtain ⟨ob, hob, hexact, hdat⟩ := R.ob
  have size1 := R.size
  have few1 := R.few
  refine Calls.call_function_entry kind_sorted plain_sorted entry_sorted (args_sorted1 _) ?_
  unfold Builtin.«sorted»
  refine wpAny_bind (m := checkCount "sorted" 1 1 _) (wpAny_pure ?_)
  refine wpAny_bind (collect_set (A := A.in1) hh ⟨ob, hob, hexact.1, hdat⟩ R.fits (by unfold scanBound; omega) R.tab.ris R.led fun s1 vs keep1 hsz gens1 os1 perm1 => ?_)
  have rows1 : es.toList.map (·.2) = L.map fun q => Value.ref q.1 := by
    rw [R.rows]; unfold rowsOf; rw [List.map_map]; rfl
  rw [rows1] at perm1
  obtain ⟨L1, rfl, sub1⟩ := back_list (L := L) (vs := vs) fun v m => perm1.mem_iff.mp m
  have nref : (L.map fun q => Value.ref q.1).Nodup := by
    refine List.pairwise_map.mpr (List.Pairwise.imp_of_mem (fun {q r} mq mr ne e => ?_) (List.pairwise_map.mp R.nd))
    injection e with e
    have i1 := R.tup q mq
    have i2 := R.tup r mr
    rw [e] at i1
    exact ne (i1.inj i2)
  have pL : L1.Perm L := by
    have n1 : (L1.map fun q => Value.ref q.1).Nodup := perm1.nodup_iff.mpr nref
    refine (List.perm_ext_iff_of_nodup (nodup_of_map n1) (nodup_of_map nref)).mpr fun q => ⟨sub1 q, fun mq => ?_⟩
    obtain ⟨r, mr, e⟩ := List.mem_map.mp (perm1.mem_iff.mpr (List.mem_map.mpr ⟨q, mq, rfl⟩))
    injection e with e
    have i1 := R.tup r (sub1 r mr)
    have i2 := R.tup q mq
    rw [e] at i1
    have : r = q := Prod.ext e (i1.inj i2)
    rwa [← this]
  have len1 : (L1.map fun q => Value.ref q.1).length < 64 := by rw [List.length_map, pL.length_eq]; exact few1
  refine wpAny_bind (wpAny_newList ?_ (by rw [sizeLine_eq]; omega))
  have hnew : (s1.heap.push (seqObj "list" (L1.map fun q => Value.ref q.1).toArray 0)).get? s1.heap.objs.size = some (seqObj "list" (L1.map fun q => Value.ref q.1).toArray 0) := Heap.get?_push_size _ rfl
  have rds : ∀ q ∈ L1, ∃ as, Reads (s1.heap.push (seqObj "list" (L1.map fun q => Value.ref q.1).toArray 0)) (.ref q.1) (encA q) as ∧ s1.heap.objs.size ∉ as := fun q mq => by
    obtain ⟨as, rd⟩ := hr q (sub1 q mq)
    have rd1 := PyProof.Rows.Reads.keeps keep1 rd
    exact ⟨as, PyProof.Rows.Reads.keeps (fun b u e => Heap.get?_push_of_some _ e) rd1, by rw [reads_nil (h2 q (sub1 q mq)) rd]; simp⟩
  refine wpAny_bind (wpAny_holding (PySem.W.list_sort_data (s := { s1 with heap := s1.heap.push (seqObj "list" (L1.map fun q => Value.ref q.1).toArray 0) }) (bs := L1) (enc := encA) hnew (each_refs (h := s1.heap) L1) ?_ (alike_A fun q m => h2 q (sub1 q m)) (sortable_A fun q m => h2 q (sub1 q m)) ?_ ?_ fun out ho eo => ?_))
  · have k : ∀ {L0 : List (Addr × List Int)}, (∀ q ∈ L0, ∃ as, Reads (s1.heap.push (seqObj "list" (L1.map fun q => Value.ref q.1).toArray 0)) (.ref q.1) (encA q) as ∧ s1.heap.objs.size ∉ as) →
        PySem.W.EachIs (fun v (q : Addr × List Int) => ∃ as, Reads (s1.heap.push (seqObj "list" (L1.map fun q => Value.ref q.1).toArray 0)) v (encA q) as ∧ s1.heap.objs.size ∉ as) (L0.map fun q => Value.ref q.1) L0 := fun {L0} => by
      induction L0 with
      | nil => exact fun _ => .nil
      | cons q L0 ih => exact fun k => .cons (k q (by simp)) (ih fun r hr => k r (by simp [hr]))
    exact k rds
  · rw [List.length_map] at len1
    rw [sizeLine_eq]; omega
  · intro b mb
    have := depth_A (h2 b (sub1 b mb))
    simp
    omega
  · have e2 := each_back eo
    obtain ⟨c, hc⟩ := sortedHeap_at (vs := L1.map fun q => Value.ref q.1) (out := out.toArray) hnew
    refine wpAny_pure ⟨_, rfl, done _ s1.heap.objs.size out.toArray c L1 _ (fun b u e => ?_) gens1 os1 hsz hc (by simpa using e2) pL rfl⟩
    have q := keep1 b u e
    have lt1 := Heap.lt_size q
    refine Eq.trans (sortedHeap_old (Nat.ne_of_lt lt1) (by rw [size_push']; exact Nat.lt_succ_of_lt lt1)) ?_
    exact Heap.get?_push_of_some _ q
end
section
variable {X : Cx}
def rSortS (K : PySem.W.Frag) (P : Program) (w : World) : List V → Hp → VK → Prop := fun vs H Q => ∃ (F : Hp) (a : Addr) (L : List (Addr × List Int)), vs = [V.ref a] ∧ H a = some (SetTO P w a L) ∧ Same F H ∧ (∀ q ∈ L, ∃ x y, q.2 = [x, y] ∧ F q.1 = some (.tup [.int x, .int y])) ∧
  ∀ (L1 : List (Addr × List Int)) (p : Addr), L1.Perm L → (L.map (·.2)).Nodup → H p = none → Q (.ref p) (upd H p (.lst ((L1.mergeSort (PySem.W.dataLe false encA)).map fun q => V.ref q.1)))
theorem vals_refs : ∀ L : List (Addr × List Int), Vals (L.map fun q => V.ref q.1) (L.map fun q => Value.ref q.1)
  | [] => .nil
  | q :: L => .cons rfl (vals_refs L)
theorem cb_sortS (hc : X.calm = true) (hu : X.A.units + 64 < cLine) : CallR X (.builtin "sorted") (rSortS X.K X.prog X.w) := by
  rintro pins s σ H vs us Q I r ⟨F, a, L, rfl, ha, e, hf, q⟩
  have R0 : SetT0 X.prog X.w s.heap a L := (I.hok a _ ha).1
  have two : ∀ q ∈ L, ∃ x y, q.2 = [x, y] := fun q m => by
    obtain ⟨x, y, e1, _⟩ := hf q m
    exact ⟨x, y, e1⟩
  have rp : ∀ q ∈ L, Rp F (V.ref q.1) (encA q) := fun q m => by
    obtain ⟨x, y, e1, e2⟩ := hf q m
    unfold encA
    rw [e1]
    exact .tup e2 (.cons (.int _) (.cons (.int _) .nil))
  obtain ⟨es, ep, t, R⟩ := R0.full fun p m => I.isT (by
    obtain ⟨x, y, e1, e2⟩ := hf p m
    rw [e1]
    exact sqT_rd e2 e)
  have rds : ∀ q ∈ L, ∃ as, Reads s.heap (.ref q.1) (encA q) as := fun q m => Dp.reads I (encA q) (V.ref q.1) (.ref q.1) (Rp.dp e _ (rp q m)) rfl
  rw [Vals.ref1 r]
  refine sorted_setP R (I.ok.hd hc) (by omega) two rds fun s' p out c L1 L2 keep hg ho hp hget hout pm eL => ?_
  have len2 : L2.length = L.length := by rw [eL, List.length_mergeSort, pm.length_eq]
  have hlen : (L2.map fun q => V.ref q.1).length ≤ sizeLine := by rw [List.length_map, len2, sizeLine_eq]; have := R.few; omega
  have hn : H p = none := I.hok.fresh hp
  have hv : Vals (L2.map fun q => V.ref q.1) out.toList := by rw [hout]; exact vals_refs L2
  have J : Inv X pins σ (upd H p (.lst (L2.map fun q => V.ref q.1))) { s with heap := s'.heap, gens := s'.gens, drawn := s'.drawn, toks := s'.toks } := I.call (ch := []) (Un.laid keep hp hn) (I.hok.laid keep hp ⟨hlen, out.toList, c, hv, hget⟩) (by rw [hg]; exact I.bare) (fun _ z => nomatch z)
  have es' : s' = { s with heap := s'.heap, gens := s'.gens, drawn := s'.drawn, toks := s'.toks } := by
    cases s'; cases s; cases ho; rfl
  rw [es', eL] at *
  exact ⟨.ref p, _, J, rfl, q L1 p pm R.nd hn⟩
def ltQ (p q : Int × Int) : Prop := p.1 < q.1 ∨ p.1 = q.1 ∧ p.2 < q.2
/-- sorted(set(a list of pairs of ints)): a new list -/
def tSSP (K : PySem.W.Frag) (te : TE) : TE := fun σ H Q => te σ H fun x H1 => ∃ (F : Hp) (l : Addr) (ks : List (Addr × (Int × Int))), x = .ref l ∧ Same F H1 ∧ SqL K H1 l (ks.map fun p => V.ref p.1) ∧ (∀ p ∈ ks, F p.1 = some (.tup [.int p.2.1, .int p.2.2])) ∧ ks.length < 64 ∧
  ∀ (us : List (Addr × (Int × Int))) (H2 : Hp) (p : Addr), (∀ u ∈ us, F u.1 = some (.tup [.int u.2.1, .int u.2.2])) → (us.map (·.2)).Pairwise ltQ → (∀ k, k ∈ us.map (·.2) ↔ k ∈ ks.map (·.2)) → Same H1 H2 → H2 p = none → Q (.ref p) (upd H2 p (.lst (us.map fun q => V.ref q.1)))
def unA (q : Addr × List Int) : Addr × (Int × Int) := (q.1, (q.2.getD 0 0, q.2.getD 1 0))
def toA (q : Addr × (Int × Int)) : Addr × List Int := (q.1, [q.2.1, q.2.2])
theorem sorted_ltQ {L : List (Addr × List Int)} (h2 : ∀ q ∈ L, ∃ x y, q.2 = [x, y]) (nd : (L.map (·.2)).Nodup) : (((L.mergeSort (PySem.W.dataLe false encA)).map unA).map (·.2)).Pairwise ltQ := by
  have enc2 : ∀ q ∈ L, encA q = encP (unA q).2 := fun q m => by
    obtain ⟨x, y, e⟩ := h2 q m
    unfold encA unA encP
    rw [e]; rfl
  have cmp : ∀ a ∈ L, ∀ b ∈ L, PySem.W.dataLe false encA a b = !ltP (unA b).2 (unA a).2 := fun a ma b mb => by
    show (!PySem.W.dataLt (encA b) (encA a)) = _
    rw [enc2 a ma, enc2 b mb, dataLt_P]
  have e : (L.mergeSort (PySem.W.dataLe false encA)).map (fun q => (unA q).2) = (L.map fun q => (unA q).2).mergeSort (fun a b => !ltP b a) := PySem.W.sort_maps (r := PySem.W.dataLe false encA) (s := fun a b => !ltP b a) (fun q => (unA q).2) (l := L) cmp
  rw [List.map_map]
  show (List.map (fun q => (unA q).2) _).Pairwise ltQ
  rw [e]
  have srt := List.pairwise_mergeSort (le := fun a b : Int × Int => !ltP b a) (fun a b c h1 h2 => by unfold ltP at *; simp at *; omega) (fun a b => by unfold ltP; simp; omega) (L.map fun q => (unA q).2)
  have nd2 : ((L.map fun q => (unA q).2).mergeSort (fun a b => !ltP b a)).Nodup := by
    refine (List.mergeSort_perm _ _).nodup_iff.mpr ?_
    refine List.pairwise_map.mpr (List.Pairwise.imp_of_mem (fun {a b} ma mb ne z => ne ?_) (List.pairwise_map.mp nd))
    obtain ⟨x, y, e1⟩ := h2 a ma
    obtain ⟨x', y', e2⟩ := h2 b mb
    unfold unA at z
    rw [e1, e2] at z ⊢
    simpa using z
  refine (srt.and nd2).imp fun {a b} h => ?_
  obtain ⟨h1, h3⟩ := h
  obtain ⟨a1, a2⟩ := a
  obtain ⟨b1, b2⟩ := b
  unfold ltP at h1
  unfold ltQ
  simp at h1 h3 ⊢
  omega
def tCl (ta : TE) : TE := fun σ H Q => ∃ Z : VK, ta σ H Z ∧ ∀ v H1, Z v H1 → Q v H1
theorem pe_sortSetP {a : Expr} {ta : TE} {p p2 q pos : Pos} (hc : X.calm = true) (hu : X.A.units + 64 < cLine) (hg : Gl X "sorted") (hm : X.mg "sorted" = none) (hg2 : Gl X "set") (hm2 : X.mg "set" = none) (ha : PE X a ta)
    (na : starEach [a] X.env = (false, eval a X.env) :: starEach [] X.env := by rfl) : PE X (.Call (.Name "sorted" p) [.Call (.Name "set" p2) [a] [] q] [] pos) (tSSP X.K ta) := by
  have hb : PE X a (tCl ta) := ⟨fun pins s σ H Q I ⟨Z, h, k⟩ => L2.thn (ha.run pins s σ H Z I h) fun v s1 ⟨x, H1, I1, r1, q1⟩ => ⟨x, H1, I1, r1, k _ _ q1⟩⟩
  have m1 : PE X (.Call (.Name "set" p2) [a] [] q) _ := pe_callTy (cr_setOfT hc hu) hg2 hm2 PyProof.Rows.boot_set (pa_cons hb pa_nil (hs := na)) (he := na)
  have m2 := pe_callB (X := X) (p := p) (pos := pos) (cb_sortS hc hu) hg hm boot_sorted (pa_cons m1 pa_nil)
  refine ⟨fun pins s σ H Q I h => m2.run pins s σ H Q I ⟨_, h, ?_⟩⟩
  rintro x H1 ⟨F, l, ks, rfl, e, hl, hf, hlen, q⟩
  have hinv : ∀ {k : List Int} {u : Addr × (Int × Int)}, [u.2.1, u.2.2] = k → (k.getD 0 0, k.getD 1 0) = u.2 := fun {k u} e => by rw [← e]; rfl
  refine ⟨l, ks.map toA, rfl, by rw [List.map_map]; exact hl, fun p mp => ?_, by rw [List.length_map]; exact hlen, fun a L hn hsub hcov => ?_⟩
  · obtain ⟨u, mu, rfl⟩ := List.mem_map.mp mp
    exact sqT_rd (hf u mu) e
  have two : ∀ q ∈ L, ∃ x y, q.2 = [x, y] ∧ F q.1 = some (.tup [.int x, .int y]) := fun q m => by
    obtain ⟨u, mu, rfl⟩ := List.mem_map.mp (hsub q m)
    exact ⟨u.2.1, u.2.2, rfl, hf u mu⟩
  refine ⟨F, a, L, rfl, upd_same, e.trans (same_upd hn), two, fun L1 p pm nd hp => ?_⟩
  have two2 : ∀ q ∈ L1, ∃ x y, q.2 = [x, y] := fun q m => by
    obtain ⟨x, y, e1, _⟩ := two q (pm.mem_iff.mp m)
    exact ⟨x, y, e1⟩
  have nd1 : (L1.map (·.2)).Nodup := ((pm.map (·.2)).nodup_iff).mpr nd
  have fin := q ((L1.mergeSort (PySem.W.dataLe false encA)).map unA) (upd H1 a (SetTO X.prog X.w a L)) p (fun u mu => ?_) (sorted_ltQ two2 nd1) (fun k => ?_) (same_upd hn) hp
  · rw [List.map_map] at fin
    exact fin
  · obtain ⟨r, mr, rfl⟩ := List.mem_map.mp mu
    obtain ⟨x, y, e1, e2⟩ := two r (pm.mem_iff.mp (List.mem_mergeSort.mp mr))
    unfold unA
    rw [e1]
    exact e2
  · constructor
    · intro mk
      obtain ⟨u, mu, rfl⟩ := List.mem_map.mp mk
      obtain ⟨r, mr, rfl⟩ := List.mem_map.mp mu
      obtain ⟨v, mv, rfl⟩ := List.mem_map.mp (hsub r (pm.mem_iff.mp (List.mem_mergeSort.mp mr)))
      exact List.mem_map.mpr ⟨v, mv, rfl⟩
    · intro mk
      obtain ⟨v, mv, rfl⟩ := List.mem_map.mp mk
      obtain ⟨r, mr, e1⟩ := List.mem_map.mp (hcov _ (List.mem_map.mpr ⟨v, mv, rfl⟩))
      refine List.mem_map.mpr ⟨unA r, List.mem_map.mpr ⟨r, List.mem_mergeSort.mpr (pm.mem_iff.mpr mr), rfl⟩, ?_⟩
      unfold unA
      rw [e1]
      rfl
/-- two strictly sorted lists with the same members are one -/
theorem risP_eq : ∀ {xs ys : List (Int × Int)}, xs.Pairwise ltQ → ys.Pairwise ltQ → (∀ k, k ∈ xs ↔ k ∈ ys) → xs = ys
  | [], [], _, _, _ => rfl
  | [], y :: ys, _, _, h => absurd ((h y).mpr (by simp)) (by simp)
  | x :: xs, [], _, _, h => absurd ((h x).mp (by simp)) (by simp)
  | x :: xs, y :: ys, hx, hy, h => by
    rw [List.pairwise_cons] at hx hy
    have e : x = y := by
      rcases List.mem_cons.mp ((h x).mp (by simp)) with q | q
      · exact q
      · rcases List.mem_cons.mp ((h y).mpr (by simp)) with q2 | q2
        · exact q2.symm
        · have a := hx.1 y q2
          have b := hy.1 x q
          unfold ltQ at a b
          omega
    subst e
    refine congrArg (x :: ·) (risP_eq hx.2 hy.2 fun k => ?_)
    constructor
    · intro hk
      rcases List.mem_cons.mp ((h k).mp (List.mem_cons_of_mem _ hk)) with q | q
      · have a := hx.1 k hk
        subst q
        unfold ltQ at a; omega
      · exact q
    · intro hk
      rcases List.mem_cons.mp ((h k).mpr (List.mem_cons_of_mem _ hk)) with q | q
      · have a := hy.1 k hk
        subst q
        unfold ltQ at a; omega
      · exact q
theorem rpa_tups {F : Hp} : ∀ {us : List (Addr × (Int × Int))}, (∀ u ∈ us, F u.1 = some (.tup [.int u.2.1, .int u.2.2])) → RpA F (us.map fun q => V.ref q.1) ((us.map (·.2)).map encP)
  | [], _ => .nil
  | u :: us, h => .cons (.tup (h u (by simp)) (.cons (.int _) (.cons (.int _) .nil))) (rpa_tups fun v m => h v (by simp [m]))
theorem tups_inv {F : Hp} : ∀ {ps : List (Int × Int)} {xs : List V}, RpA F xs (ps.map encP) → ∃ ks : List (Addr × (Int × Int)), ks.map (·.2) = ps ∧ xs = ks.map (fun q => V.ref q.1) ∧ ∀ u ∈ ks, F u.1 = some (.tup [.int u.2.1, .int u.2.2])
  | [], _, h => by cases h; exact ⟨[], rfl, rfl, fun u m => by cases m⟩
  | p :: ps, _, h => by
    cases h with
    | cons h1 h2 =>
      obtain ⟨ks, e1, e2, e3⟩ := tups_inv h2
      obtain ⟨a, ys, rfl, t1, t2⟩ := h1.tup_inv
      have ey : ys = [.int p.1, .int p.2] := by
        cases t2 with
        | cons u1 t2 =>
          cases t2 with
          | cons u2 t2 =>
            cases t2
            rw [u1.int_inv, u2.int_inv]
      refine ⟨(a, p) :: ks, by rw [List.map_cons, e1], by rw [List.map_cons, e2], fun u m => ?_⟩
      rcases List.mem_cons.mp m with rfl | m
      · rw [t1, ey]
      · exact e3 u m
theorem eo_sortSetP {K : PySem.W.Frag} {ρ : Pu.Env} {te : TE} {Q : List D → Pu.Env → Prop} (h : EX te ρ fun d ρ1 => ∃ ps : List (Int × Int), d = .list (ps.map encP) ∧ ps.length < 64 ∧ ∀ us : List (Int × Int), us.Pairwise ltQ → (∀ k, k ∈ us ↔ k ∈ ps) → Q (us.map encP) ρ1) : EO (tSSP K te) ρ Q := fun B ad σ F H w Z z =>
  h B ad σ F H w _ fun d ρ1 v F1 H1 q1 p1 rv => by
    obtain ⟨ps, rfl, hl, q⟩ := q1
    obtain ⟨a, xs, rfl, h1, h2⟩ := rv.lst_inv
    obtain ⟨ks, rfl, rfl, hk⟩ := tups_inv h2
    rw [List.length_map] at hl
    refine ⟨F1, a, ks, rfl, p1.wa.gr.fh, sqL_rd h1 p1.wa.gr.fh, hk, hl, fun us H2 p ht hs hm sm hp => ?_⟩
    have hH1 : H1 p = none := by
      cases e : H1 p with
      | none => rfl
      | some o => rw [sm p o e] at hp; cases hp
    have hH : H p = none := by
      cases e : H p with
      | none => rfl
      | some o => exact absurd hH1 (p1.gr.al p (by rw [e]; intro z; cases z))
    have g : Same H1 (upd H2 p (.lst (us.map fun q => V.ref q.1))) := sm.trans (same_upd hp)
    exact z ((us.map (·.2)).map encP) ρ1 p (us.map fun q => V.ref q.1) F1 _ (q _ hs hm) (p1.trans (Post.of p1.wa (Gr.heap p1.wa.gr.fh g))) (p1.wa.newp hH1).1 hH upd_same (rpa_tups ht)
end
/-! chains and tests of pairs -/
section
variable {K : PySem.W.Frag} {Q : D → Prop}
theorem opd_ltP {p q : Int × Int} (k : Q (.bool (ltP p q))) : OpD (rLtD K) (encP p) (encP q) Q := opd_ltD rfl (by unfold encP; simp) (min_l (by simp [encP, PyData.depth, PyData.depthAll])) (by rw [dataLt_P]; exact k)
end
end Pu
/-! PuQ: a dict of ints with True, begun empty and put into -/
namespace Pu
open PySem L2 PyProof.Rows
def putB (ks : List Int) (k : Int) : List Int := if k ∈ ks then ks else ks ++ [k]
theorem putB_mem {ks : List Int} {k x : Int} : x ∈ putB ks k ↔ x ∈ ks ∨ x = k := by
  unfold putB
  by_cases h : k ∈ ks
  · rw [if_pos h]
    exact ⟨.inl, fun q => q.elim id fun e => e ▸ h⟩
  · rw [if_neg h]; simp
theorem putB_len (ks : List Int) (k : Int) : (putB ks k).length ≤ ks.length + 1 := by
  unfold putB
  split
  · omega
  · rw [List.length_append, List.length_singleton]; omega
theorem put_kbB (ks : List Int) (k : Int) : putK (ks.map kb) (.inl k : Key) (V.bl true) = (putB ks k).map kb := by
  have e1 : ((ks.map kb).any fun kv => decide (kv.1 = (.inl k : Key))) = decide (k ∈ ks) := by
    induction ks with
    | nil => rfl
    | cons p ks ih =>
      rw [List.map_cons, List.any_cons, ih]
      by_cases e : p = k
      · subst e; simp [kb]
      · have : ¬ k = p := fun q => e q.symm
        simp [kb, e, this]
  unfold putK putB
  rw [e1]
  by_cases h : k ∈ ks
  · rw [if_pos (decide_eq_true h), if_pos h, List.map_map]
    refine List.map_congr_left fun p _ => ?_
    simp only [Function.comp]
    by_cases e : p = k
    · subst e; simp [kb]
    · simp [kb, e]
  · rw [if_neg (by simp [h]), if_neg h, List.map_append]
    rfl
section
variable {ρ : Pu.Env} {P : Po} {i : Nat} {tk tv ty tx : TE}
theorem sx_dnewB (h00 : i ≠ 0) (k : NX P (ρ.set i (.st (.dbl [])))) : SX (tAsg tDNewK (gName i)) ρ P := fun B σ F H w Dn n r b c => by
  obtain ⟨ad, w⟩ := w
  intro p hp
  have nw := w.newp hp
  obtain ⟨ρ2, l, q⟩ := k
  have w1 := w.updD (o := .dK []) nw.2.1 nw.2.2 nw.1
  have w2 := w1.setSt2 (S := .dbl []) (s := p) (as := [p]) i h00 ⟨rfl, upd_same⟩ (fun a ha => by rw [List.mem_singleton.mp ha]; exact nw.1) fun a ha => by rw [List.mem_singleton.mp ha]; exact nw.2
  exact n ρ2 _ F _ q (W.weak ⟨_, w2⟩ l)
theorem sx_dputB {ks0 : List Int} (h0 : ρ[i]? = some (.st (.dbl ks0))) (h : EX tv ρ fun d ρ1 => EX tk ρ1 fun e ρ2 => ∃ k ks, d = .bool true ∧ e = .int k ∧ ρ2[i]? = some (.st (.dbl ks)) ∧ ks.length < 1000000 ∧ NX P (ρ2.set i (.st (.dbl (putB ks k))))) :
    SX (sDPut (tVar i) tk tv) ρ P := fun B σ F H w Dn n r b c => by
  obtain ⟨ad, w⟩ := w
  obtain ⟨s0, k0, _⟩ := w.sl i _ h0
  refine h B ad σ F H w _ fun d ρ1 v F1 H1 q1 p1 r1 => ?_
  refine ⟨_, k0, q1 B ad σ F1 H1 p1.wa _ fun e ρ2 y F2 H2 q2 p2 r2 => ?_⟩
  obtain ⟨k, ks, rfl, rfl, h1, hz, ρ', l, q⟩ := q2
  obtain ⟨s, k1, has, st⟩ := p2.wa.sl i _ h1
  rw [k0] at k1
  cases k1
  have ev := r1.bl_inv
  subst ev
  have ey := r2.int_inv
  subst ey
  have fs0 : F2 s0 = none := (p2.wa.fz i s0 (by rw [has]; simp)).1
  have neF : ∀ a o, F2 a = some o → a ≠ s0 := fun a o e z => by rw [z, fs0] at e; cases e
  refine ⟨s0, _, rfl, DPut.k (k := (.inl k : Key)) st (by rw [List.length_map]; exact Nat.lt_of_lt_of_le hz (by decide)), ?_⟩
  rw [show (ks.map fun k => ((.inl k : Key), V.bl true)) = ks.map kb from rfl, put_kbB]
  have w2 := p2.wa.stp (S' := .dbl (putB ks k)) (F' := F2) (H' := upd H2 s0 (.dK ((putB ks k).map kb))) h1 k0 ⟨Same.refl F2, fun a o e => by rw [upd_ne (neF a o e)]; exact p2.wa.gr.fh a o e, fun a o e ha => by rw [upd_ne (fun z => ha (by rw [has, z]; simp))]; exact e, fun a e => by
    by_cases z : a = s0
    · rw [z, upd_same]; intro q; cases q
    · rw [upd_ne z]; exact e, fun a e z => z⟩ ⟨has, upd_same⟩ (fun a ha => (p2.wa.fz i a ha).1)
  exact n ρ' _ F2 _ q (W.weak ⟨_, w2⟩ l)
theorem ex_ninDbl {ty : TE} {Q : D → Pu.Env → Prop} {j : Nat} (h : EX ty ρ fun d ρ1 => ∃ k ks, d = .int k ∧ ρ1[j]? = some (.st (.dbl ks)) ∧ Q (.bool (!decide (k ∈ ks))) ρ1) : EX (tDNotIn ty (tVar j)) ρ Q := fun B ad σ F H w Z z => by
  refine h B ad σ F H w _ fun d ρ1 y F1 H1 q1 p1 r1 => ?_
  obtain ⟨k, ks, rfl, h1, q⟩ := q1
  obtain ⟨s1, k1, st1⟩ := p1.wa.sl j _ h1
  have ey := r1.int_inv
  subst ey
  refine ⟨_, k1, s1, _, rfl, DGet.k (k := (.inl k : Key)) st1.2, ?_⟩
  have e := val_kb ks k
  show Z (.bl (!(valV (ks.map kb) (.inl k : Key)).isSome)) H1
  rw [e]
  exact z _ ρ1 _ F1 H1 q p1 (.bl _)
end
end Pu
/-! readings of the defs of law_k64_stores_judged: printed by gen.py -/
namespace Law_k64
open PySem L2 Pu

/-- may_join: slots loads 0, foes 1, room 2, lot 3, at 4, one 5 -/
abbrev N_may_join : List Str := ["loads", "foes", "room", "lot", "at", "one"]
def T_may_join (K : PySem.W.Frag) (R_foe_pair : List D → (D → Prop) → Prop) : TS :=
    (tSeq (tIfS (tTest (tOp (rI0 fun i j => .bl (decide (j < i))) (tOp (rPlus K) (tCB (rSum K) (tCons (tLc (iList K (tVar 3)) (gName 5) tYes (tOp (rIxA K) (tOp (rIxA K) (tVar 0) (tVar 5)) (tC (.int 1))) [5]) tNil)) (tOp (rIxA K) (tOp (rIxA K) (tVar 0) (tVar 4)) (tC (.int 1)))) (tVar 2)))
      (tRet (tC (.bl false)))
      tNext)
    (tRet (tNotV (tCB (rAnyB K) (tCons (tLc (iList K (tVar 3)) (gName 5) tYes (tCall (spP R_foe_pair) [] E0 (tCons (tVar 1) (tCons (tOp (rIxA K) (tOp (rIxA K) (tVar 0) (tVar 5)) (tC (.int 0))) (tCons (tOp (rIxA K) (tOp (rIxA K) (tVar 0) (tVar 4)) (tC (.int 0))) tNil)))) [5]) tNil)))))
/-- foe_pair: slots foes 0, one 1, other 2 -/
abbrev N_foe_pair : List Str := ["foes", "one", "other"]
def T_foe_pair (K : PySem.W.Frag) : TS :=
    (tRet (tOp (rInP K) (tTup (tCons (tCB (rMn2) (tCons (tVar 1) (tCons (tVar 2) tNil))) (tCons (tCB (rMx2) (tCons (tVar 1) (tCons (tVar 2) tNil))) tNil))) (tVar 0)))
/-- with_load: slots lots 0, one 1, at 2 -/
abbrev N_with_load : List Str := ["lots", "one", "at"]
def T_with_load (K : PySem.W.Frag) : TS :=
    (tSeq (tIfS (tTest (tOp (rEqP K) (tVar 1) (tCB (Pu.rLen K) (tCons (tVar 0) tNil))))
      (tRet (tOp (rPlus K) (tVar 0) (tLst (tCons (tLst (tCons (tVar 2) tNil)) tNil))))
      tNext)
    (tRet (tOp (rPlus K) (tOp (rPlus K) (tSl (rSl K) (tVar 0) tNoPart (tPart (tVar 1))) (tLst (tCons (tOp (rPlus K) (tOp (rIxA K) (tVar 0) (tVar 1)) (tLst (tCons (tVar 2) tNil))) tNil))) (tSl (rSl K) (tVar 0) (tPart (tOp (rPlus K) (tVar 1) (tC (.int 1)))) tNoPart))))
/-- store: slots loads 0, foes 1, room 2, at 3, load 4, search 5, many 6, found 7, lot 8 -/
abbrev N_store : List Str := ["loads", "foes", "room", "at", "load", "search", "many", "found", "lot"]
def T_store (K : PySem.W.Frag) (C_Rooms : Addr) (R_Rooms_init : Stt → List D → (D → Stt → Prop) → Prop) (R_Rooms_put : Stt → List D → (D → Stt → Prop) → Prop) (R_Rooms_prove : Stt → List D → (D → Stt → Prop) → Prop) : TS :=
    (tSeq (tFor (iEnum K (tCons (tVar 0) tNil)) (gTup K 2 (gCons (gName 3) (gCons (gName 4) gNil)))
      (tIfS (tTest (tOp (rI0 fun i j => .bl (decide (j < i))) (tOp (rIxA K) (tVar 4) (tC (.int 1))) (tVar 2)))
      (tRet (tTup (tCons (tC (.str "heavy")) (tCons (tVar 3) tNil))))
      tNext))
    (tSeq (tAsg (tMake C_Rooms (spS R_Rooms_init) [] E0 (tCons (tVar 0) (tCons (tVar 1) (tCons (tVar 2) tNil)))) (gName 5))
    (tSeq (tAsg (tC (.int 0)) (gName 6))
    (tSeq (tAsg (tMeth C_Rooms "put" (spS R_Rooms_put) [] E0 (tVar 5) (tCons (tLst tNil) (tCons (tC (.int 0)) (tCons (tVar 6) tNil)))) (gName 7))
    (tSeq (tWhile (tTest (tOp (rIs) (tVar 7) (tC .non)))
      (tSeq (tAsg (tOp (rPlus K) (tVar 6) (tC (.int 1))) (gName 6))
    (tAsg (tMeth C_Rooms "put" (spS R_Rooms_put) [] E0 (tVar 5) (tCons (tLst tNil) (tCons (tC (.int 0)) (tCons (tVar 6) tNil)))) (gName 7))))
    (tRet (tTup (tCons (tC (.str "rooms")) (tCons (tCB (rSrD K) (tCons (tLc (iList K (tVar 7)) (gName 8) tYes (tCB (rSrD K) (tCons (tVar 8) tNil)) [8]) tNil)) (tCons (tIf (tTest (tOp (rEqP K) (tVar 6) (tC (.int 0)))) (tC .non) (tMeth C_Rooms "prove" (spS R_Rooms_prove) [] E0 (tVar 5) (tCons (tLst tNil) (tCons (tC (.int 0)) (tCons (tOp (rI0 fun i j => .int (i - j)) (tVar 6) (tC (.int 1))) tNil))))) tNil))))))))))
/-- tree_fault: slots search 0, lots 1, many 2, path 3, tree 4, there 5, at 6, lot 7, left 8, heavy 9, load 10, row 11, place 12, other 13, spots 14, one 15, below 16, fault 17 -/
abbrev N_tree_fault : List Str := ["search", "lots", "many", "path", "tree", "there", "at", "lot", "left", "heavy", "load", "row", "place", "other", "spots", "one", "below", "fault"]
def T_tree_fault (K : PySem.W.Frag) (C_Rooms : Addr) (R_Rooms_spots : Stt → List D → (D → Stt → Prop) → Prop) (R_tree_fault : Stt → List D → (D → Stt → Prop) → Prop) (R_with_load : List D → (D → Prop) → Prop) (R_may_join : List D → (D → Prop) → Prop) : TS :=
    (tSeq (tAsg (tLc2 (iList K (tVar 1)) (gName 7) tYes (iList K (tVar 7)) (gName 6) tYes (tVar 6) [7, 6] [6]) (gName 5))
    (tSeq (tAsg (tLc (iRng1 (tCons (tCB (Pu.rLen K) (tCons (tFldC C_Rooms (tVar 0) "loads") tNil)) tNil)) (gName 6) (tTest (tOp (rNinP K) (tVar 6) (tVar 5))) (tVar 6) [6]) (gName 8))
    (tSeq (tIfS (tTest (tOp (rEqP K) (tOp (rIxA K) (tVar 4) (tC (.int 0))) (tC (.str "weight"))))
      (tSeq (tAsg (tAndV (tNotT K (tVar 1)) (tOp (rI0 fun i j => .bl (decide (j < i))) (tCB (rSum K) (tCons (tLc (iList K (tFldC C_Rooms (tVar 0) "loads")) (gName 10) tYes (tOp (rIxA K) (tVar 10) (tC (.int 1))) [10]) tNil)) (tOp (rI CMul fun i j => .int (i * j)) (tVar 2) (tFldC C_Rooms (tVar 0) "room")))) (gName 9))
    (tRet (tIf (tB (tVar 9)) (tC .non) (tTup (tCons (tC (.str "weight")) (tCons (tVar 3) tNil))))))
      tNext)
    (tSeq (tIfS (tTest (tOp (rEqP K) (tOp (rIxA K) (tVar 4) (tC (.int 0))) (tC (.str "apart"))))
      (tSeq (tAsg (tOp (rIxA K) (tVar 4) (tC (.int 1))) (gName 11))
    (tSeq (tIfS (tOr (tTru K (tVar 1)) (tOr (tTest (tOp (rNeP K) (tVar 11) (tSS K (tVar 11)))) (tOr (tNot (tB (tCB (rAllB K) (tCons (tLc (iList K (tVar 11)) (gName 6) tYes (tOp (rInP K) (tVar 6) (tVar 8)) [6]) tNil)))) (tTest (tOp (rI0 fun i j => .bl (decide (i ≤ j))) (tCB (Pu.rLen K) (tCons (tVar 11) tNil)) (tVar 2))))))
      (tRet (tTup (tCons (tC (.str "apart")) (tCons (tVar 3) tNil))))
      tNext)
    (tSeq (tFor (iEnum K (tCons (tVar 11) tNil)) (gTup K 2 (gCons (gName 12) (gCons (gName 6) gNil)))
      (tIfS (tB (tCB (rAnyB K) (tCons (tLc (iList K (tSl (rSl K) (tVar 11) tNoPart (tPart (tVar 12)))) (gName 13) tYes (tCall (spP R_may_join) [] E0 (tCons (tFldC C_Rooms (tVar 0) "loads") (tCons (tFldC C_Rooms (tVar 0) "foes") (tCons (tFldC C_Rooms (tVar 0) "room") (tCons (tLst (tCons (tVar 13) tNil)) (tCons (tVar 6) tNil)))))) [13]) tNil)))
      (tRet (tTup (tCons (tC (.str "apart")) (tCons (tVar 3) tNil))))
      tNext))
    (tRet (tC .non)))))
      tNext)
    (tSeq (tIfS (tTest (tOp (rNinP K) (tOp (rIxA K) (tVar 4) (tC (.int 1))) (tVar 8)))
      (tRet (tTup (tCons (tC (.str "load")) (tCons (tVar 3) tNil))))
      tNext)
    (tSeq (tAsg (tMeth C_Rooms "spots" (spS R_Rooms_spots) [] E0 (tVar 0) (tCons (tVar 1) (tCons (tOp (rIxA K) (tVar 4) (tC (.int 1))) (tCons (tVar 2) tNil)))) (gName 14))
    (tSeq (tIfS (tTest (tOp (rNeP K) (tCB (Pu.rLen K) (tCons (tOp (rIxA K) (tVar 4) (tC (.int 2))) tNil)) (tCB (Pu.rLen K) (tCons (tVar 14) tNil))))
      (tRet (tTup (tCons (tC (.str "load")) (tCons (tVar 3) tNil))))
      tNext)
    (tSeq (tFor (iZip K (tCons (tVar 14) (tCons (tOp (rIxA K) (tVar 4) (tC (.int 2))) tNil))) (gTup K 2 (gCons (gName 15) (gCons (gName 16) gNil)))
      (tSeq (tAsg (tCall (spS R_tree_fault) [] E0 (tCons (tVar 0) (tCons (tCall (spP R_with_load) [] E0 (tCons (tVar 1) (tCons (tVar 15) (tCons (tOp (rIxA K) (tVar 4) (tC (.int 1))) tNil)))) (tCons (tVar 2) (tCons (tOp (rPlus K) (tVar 3) (tLst (tCons (tTup (tCons (tOp (rIxA K) (tVar 4) (tC (.int 1))) (tCons (tVar 15) tNil))) tNil))) (tCons (tVar 16) tNil)))))) (gName 17))
    (tIfS (tTest (tOp (rIsnt) (tVar 17) (tC .non)))
      (tRet (tVar 17))
      tNext)))
    (tRet (tC .non))))))))))
/-- store_fault: slots loads 0, foes 1, room 2, told 3, heavy 4, at 5, load 6, word 7, lots 8, tree 9, flat 10, lot 11, one 12, place 13, other 14, fault 15 -/
abbrev N_store_fault : List Str := ["loads", "foes", "room", "told", "heavy", "at", "load", "word", "lots", "tree", "flat", "lot", "one", "place", "other", "fault"]
def T_store_fault (K : PySem.W.Frag) (C_Rooms : Addr) (R_tree_fault : Stt → List D → (D → Stt → Prop) → Prop) (R_Rooms_init : Stt → List D → (D → Stt → Prop) → Prop) (R_foe_pair : List D → (D → Prop) → Prop) : TS :=
    (tSeq (tAsg (tLc (iEnum K (tCons (tVar 0) tNil)) (gTup K 2 (gCons (gName 5) (gCons (gName 6) gNil))) (tTest (tOp (rI0 fun i j => .bl (decide (j < i))) (tOp (rIxA K) (tVar 6) (tC (.int 1))) (tVar 2))) (tVar 5) [5, 6]) (gName 4))
    (tSeq (tIfS (tOr (tTest (tOp (rEqP K) (tOp (rIxA K) (tVar 3) (tC (.int 0))) (tC (.str "heavy")))) (tTru K (tVar 4)))
      (tRet (tIf (tAnd (tTest (tOp (rEqP K) (tOp (rIxA K) (tVar 3) (tC (.int 0))) (tC (.str "heavy")))) (tAnd (tTru K (tVar 4)) (tTest (tOp (rEqP K) (tOp (rIxA K) (tVar 3) (tC (.int 1))) (tOp (rIxA K) (tVar 4) (tC (.int 0))))))) (tC .non) (tTup (tCons (tC (.str "heavy")) tNil))))
      tNext)
    (tSeq (tAsg (tVar 3) (gTup K 3 (gCons (gName 7) (gCons (gName 8) (gCons (gName 9) gNil)))))
    (tSeq (tAsg (tCB (rSrD K) (tCons (tLc2 (iList K (tVar 8)) (gName 11) tYes (iList K (tVar 11)) (gName 5) tYes (tVar 5) [11, 5] [5]) tNil)) (gName 10))
    (tSeq (tIfS (tOr (tTest (tOp (rNeP K) (tVar 8) (tCB (rSrD K) (tCons (tLc (iList K (tVar 8)) (gName 11) tYes (tCB (rSrD K) (tCons (tVar 11) tNil)) [11]) tNil)))) (tTest (tOp (rNeP K) (tVar 10) (tLstRg (tRg1 (tCB (Pu.rLen K) (tCons (tVar 0) tNil)))))))
      (tRet (tTup (tCons (tC (.str "loads")) tNil)))
      tNext)
    (tSeq (tFor (iEnum K (tCons (tVar 8) tNil)) (gTup K 2 (gCons (gName 12) (gCons (gName 11) gNil)))
      (tSeq (tIfS (tOr (tNot (tTru K (tVar 11))) (tTest (tOp (rI0 fun i j => .bl (decide (j < i))) (tCB (rSum K) (tCons (tLc (iList K (tVar 11)) (gName 5) tYes (tOp (rIxA K) (tOp (rIxA K) (tVar 0) (tVar 5)) (tC (.int 1))) [5]) tNil)) (tVar 2))))
      (tRet (tTup (tCons (tC (.str "room")) (tCons (tVar 12) tNil))))
      tNext)
    (tFor (iEnum K (tCons (tVar 11) tNil)) (gTup K 2 (gCons (gName 13) (gCons (gName 5) gNil)))
      (tFor (iList K (tSl (rSl K) (tVar 11) tNoPart (tPart (tVar 13)))) (gName 14)
      (tIfS (tB (tCall (spP R_foe_pair) [] E0 (tCons (tVar 1) (tCons (tOp (rIxA K) (tOp (rIxA K) (tVar 0) (tVar 14)) (tC (.int 0))) (tCons (tOp (rIxA K) (tOp (rIxA K) (tVar 0) (tVar 5)) (tC (.int 0))) tNil)))))
      (tRet (tTup (tCons (tC (.str "foes")) (tCons (tVar 14) (tCons (tVar 5) tNil)))))
      tNext)))))
    (tSeq (tIfS (tTest (tOp (rNeP K) (tOp (rIs) (tVar 9) (tC .non)) (tOp (rEqP K) (tCB (Pu.rLen K) (tCons (tVar 8) tNil)) (tC (.int 0)))))
      (tRet (tTup (tCons (tC (.str "tree")) (tCons (tC .non) tNil))))
      tNext)
    (tSeq (tIfS (tTest (tOp (rIs) (tVar 9) (tC .non)))
      (tRet (tC .non))
      tNext)
    (tSeq (tAsg (tCall (spS R_tree_fault) [] E0 (tCons (tMake C_Rooms (spS R_Rooms_init) [] E0 (tCons (tVar 0) (tCons (tVar 1) (tCons (tVar 2) tNil)))) (tCons (tLst tNil) (tCons (tOp (rI0 fun i j => .int (i - j)) (tCB (Pu.rLen K) (tCons (tVar 8) tNil)) (tC (.int 1))) (tCons (tLst tNil) (tCons (tVar 9) tNil)))))) (gName 15))
    (tRet (tIf (tTest (tOp (rIs) (tVar 15) (tC .non))) (tC .non) (tTup (tCons (tC (.str "tree")) (tCons (tVar 15) tNil))))))))))))))
/-- _law_state: slots script 0, cells 1, cell 2 -/
abbrev N_l_state : List Str := ["script", "cells", "cell"]
def T_l_state (K : PySem.W.Frag) : TS :=
    (tSeq (tAsg (tLc (iList K (tSl (rSl K) (tVar 0) tNoPart (tPart (tC (.int 63))))) (gName 2) tYes (tCB (rAbs) (tCons (tVar 2) tNil)) [2]) (gName 1))
    (tSeq (tIfS (tTest (tOp (rEqP K) (tCB (Pu.rLen K) (tCons (tVar 1) tNil)) (tC (.int 0))))
      (tAsg (tLst (tCons (tC (.int 0)) tNil)) (gName 1))
      tNext)
    (tRet (tLst (tCons (tC (.int 0)) (tCons (tVar 1) tNil))))))
/-- _law_take: slots state 0, most 1, cells 2, at 3, cell 4, mixed 5; own: cells, state -/
abbrev N_l_take : List Str := ["state", "most", "cells", "at", "cell", "mixed"]
def T_l_take (K : PySem.W.Frag) : TS :=
    (tSeq (tAsg (tOp (rIxA K) (tVar 0) (tC (.int 1))) (gName 2))
    (tSeq (tAsg (tOp (rI (fun _ j => 0 < j) fun i j => .int (i % j)) (tOp (rIxA K) (tVar 0) (tC (.int 0))) (tCB (Pu.rLen K) (tCons (tVar 2) tNil))) (gName 3))
    (tSeq (tAsg (tOp (rIxA K) (tVar 2) (tVar 3)) (gName 4))
    (tSeq (tIfS (tTest (tOp (rI0 fun i j => .bl (decide (j ≤ i))) (tVar 4) (tC (.int 1000000000000000000))))
      (tSeq (tAsg (tOp (rI CDiv fun i j => .int (i / j)) (tVar 4) (tVar 1)) (gSub (tVar 2) (tVar 3) rSetL))
    (tRet (tOp (rI (fun _ j => 0 < j) fun i j => .int (i % j)) (tVar 4) (tVar 1))))
      tNext)
    (tSeq (tAsg (tOp (rPlus K) (tOp (rIxA K) (tVar 0) (tC (.int 0))) (tC (.int 1))) (gSub (tVar 0) (tC (.int 0)) rSetL))
    (tSeq (tAsg (tOp (rI (fun _ j => 0 < j) fun i j => .int (i % j)) (tCB (rInt) (tCons (tOp (rPlus K) (tOp (rI CMul fun i j => .int (i * j)) (tVar 4) (tC (.int 48271))) (tOp (rI CMul fun i j => .int (i * j)) (tOp (rIxA K) (tVar 0) (tC (.int 0))) (tC (.int 69621)))) tNil)) (tC (.int 2147483647))) (gName 5))
    (tSeq (tAsg (tOp (rI (fun _ j => 0 < j) fun i j => .int (i % j)) (tCB (rInt) (tCons (tOp (rPlus K) (tOp (rI CMul fun i j => .int (i * j)) (tVar 5) (tC (.int 16807))) (tOp (rI CMul fun i j => .int (i * j)) (tOp (rIxA K) (tVar 0) (tC (.int 0))) (tC (.int 7919)))) tNil)) (tC (.int 1000000007))) (gName 5))
    (tRet (tOp (rI (fun _ j => 0 < j) fun i j => .int (i % j)) (tOp (rI CDiv fun i j => .int (i / j)) (tVar 5) (tC (.int 7))) (tVar 1))))))))))
/-- _law_loads: slots state 0, most 1, kinds 2, loads 3, k 4, foes 5, one 6, other 7; own: foes -/
abbrev N_l_loads : List Str := ["state", "most", "kinds", "loads", "k", "foes", "one", "other"]
def T_l_loads (K : PySem.W.Frag) (R_l_take : Stt → List D → (D → Stt → Prop) → Prop) : TS :=
    (tSeq (tAsg (tOp (rPlus K) (tC (.int 1)) (tCall (spS R_l_take) [] E0 (tCons (tVar 0) (tCons (tC (.int 4)) tNil)))) (gName 2))
    (tSeq (tAsg (tLc (iRng1 (tCons (tCall (spS R_l_take) [] E0 (tCons (tVar 0) (tCons (tOp (rPlus K) (tVar 1) (tC (.int 1))) tNil))) tNil)) (gName 4) tYes (tTup (tCons (tCall (spS R_l_take) [] E0 (tCons (tVar 0) (tCons (tVar 2) tNil))) (tCons (tCall (spS R_l_take) [] E0 (tCons (tVar 0) (tCons (tC (.int 7)) tNil))) tNil))) [4]) (gName 3))
    (tSeq (tAsg (tLst tNil) (gName 5))
    (tSeq (tFor (iRng1 (tCons (tVar 2) tNil)) (gName 6)
      (tDrop (tBM K "list" rExtR (tVar 5) (tCons (tLc (iRng2 (tCons (tVar 6) (tCons (tVar 2) tNil))) (gName 7) (tTest (tOp (rEqP K) (tCall (spS R_l_take) [] E0 (tCons (tVar 0) (tCons (tC (.int 4)) tNil))) (tC (.int 0)))) (tTup (tCons (tVar 6) (tCons (tVar 7) tNil))) [7]) tNil))))
    (tRet (tTup (tCons (tVar 3) (tCons (tVar 5) (tCons (tOp (rPlus K) (tC (.int 4)) (tCall (spS R_l_take) [] E0 (tCons (tVar 0) (tCons (tC (.int 9)) tNil)))) tNil)))))))))
/-- _law_join: slots loads 0, foes 1, room 2, lot 3, at 4, one 5 -/
abbrev N_l_join : List Str := ["loads", "foes", "room", "lot", "at", "one"]
def T_l_join (K : PySem.W.Frag) : TS :=
    (tSeq (tIfS (tTest (tOp (rI0 fun i j => .bl (decide (j < i))) (tOp (rPlus K) (tCB (rSum K) (tCons (tLc (iList K (tVar 3)) (gName 5) tYes (tOp (rIxA K) (tOp (rIxA K) (tVar 0) (tVar 5)) (tC (.int 1))) [5]) tNil)) (tOp (rIxA K) (tOp (rIxA K) (tVar 0) (tVar 4)) (tC (.int 1)))) (tVar 2)))
      (tRet (tC (.bl false)))
      tNext)
    (tRet (tOp (rEqP K) (tCB (Pu.rLen K) (tCons (tLc (iList K (tVar 3)) (gName 5) (tTest (tOp (rInP K) (tCB (rTup K) (tCons (tCB (rSrD K) (tCons (tLst (tCons (tOp (rIxA K) (tOp (rIxA K) (tVar 0) (tVar 5)) (tC (.int 0))) (tCons (tOp (rIxA K) (tOp (rIxA K) (tVar 0) (tVar 4)) (tC (.int 0))) tNil))) tNil)) tNil)) (tVar 1))) (tVar 5) [5]) tNil)) (tC (.int 0)))))
/-- _law_spots: slots loads 0, foes 1, room 2, lots 3, at 4, many 5, k 6 -/
abbrev N_l_spots : List Str := ["loads", "foes", "room", "lots", "at", "many", "k"]
def T_l_spots (K : PySem.W.Frag) (R_l_join : List D → (D → Prop) → Prop) : TS :=
    (tRet (tOp (rPlus K) (tLc (iRng1 (tCons (tCB (Pu.rLen K) (tCons (tVar 3) tNil)) tNil)) (gName 6) (tB (tCall (spP R_l_join) [] E0 (tCons (tVar 0) (tCons (tVar 1) (tCons (tVar 2) (tCons (tOp (rIxA K) (tVar 3) (tVar 6)) (tCons (tVar 4) tNil))))))) (tVar 6) [6]) (tIf (tTest (tOp (rI0 fun i j => .bl (decide (i < j))) (tCB (Pu.rLen K) (tCons (tVar 3) tNil)) (tVar 5))) (tLst (tCons (tCB (Pu.rLen K) (tCons (tVar 3) tNil)) tNil)) (tLst tNil))))
/-- _law_put: slots lots 0, one 1, at 2, more 3, lot 4 -/
abbrev N_l_put : List Str := ["lots", "one", "at", "more", "lot"]
def T_l_put (K : PySem.W.Frag) : TS :=
    (tSeq (tAsg (tOp (rPlus K) (tLc (iList K (tVar 0)) (gName 4) tYes (tCB (rList K) (tCons (tVar 4) tNil)) [4]) (tIf (tTest (tOp (rEqP K) (tVar 1) (tCB (Pu.rLen K) (tCons (tVar 0) tNil)))) (tLst (tCons (tLst tNil) tNil)) (tLst tNil))) (gName 3))
    (tSeq (tDrop (tBM K "list" rAppend (tOp (rIxA K) (tVar 3) (tVar 1)) (tCons (tVar 2) tNil)))
    (tRet (tVar 3))))
/-- _law_tree_fault: slots loads 0, foes 1, room 2, lots 3, many 4, path 5, tree 6, there 7, lot 8, left 9, k 10, weight 11, kind 12, row 13, j 14, spots 15, found 16; own: there -/
abbrev N_l_tree_fault : List Str := ["loads", "foes", "room", "lots", "many", "path", "tree", "there", "lot", "left", "k", "weight", "kind", "row", "j", "spots", "found"]
def T_l_tree_fault (K : PySem.W.Frag) (R_l_spots : List D → (D → Prop) → Prop) (R_l_tree_fault : List D → (D → Prop) → Prop) (R_l_put : List D → (D → Prop) → Prop) (R_l_join : List D → (D → Prop) → Prop) : TS :=
    (tSeq (tAsg (tLst tNil) (gName 7))
    (tSeq (tFor (iList K (tVar 3)) (gName 8)
      (tDrop (tBM K "list" rExtR (tVar 7) (tCons (tVar 8) tNil))))
    (tSeq (tAsg (tLc (iRng1 (tCons (tCB (Pu.rLen K) (tCons (tVar 0) tNil)) tNil)) (gName 10) (tTest (tOp (rNinP K) (tVar 10) (tVar 7))) (tVar 10) [10]) (gName 9))
    (tSeq (tIfS (tTest (tOp (rEqP K) (tOp (rIxA K) (tVar 6) (tC (.int 0))) (tC (.str "weight"))))
      (tRet (tIf (tAnd (tTest (tOp (rEqP K) (tCB (Pu.rLen K) (tCons (tVar 3) tNil)) (tC (.int 0)))) (tTest (tOp (rI0 fun i j => .bl (decide (j < i))) (tCB (rSum K) (tCons (tLc (iList K (tVar 0)) (gTup K 2 (gCons (gName 12) (gCons (gName 11) gNil))) tYes (tVar 11) [12, 11]) tNil)) (tOp (rI CMul fun i j => .int (i * j)) (tVar 4) (tVar 2))))) (tC .non) (tTup (tCons (tC (.str "weight")) (tCons (tVar 5) tNil)))))
      tNext)
    (tSeq (tIfS (tTest (tOp (rEqP K) (tOp (rIxA K) (tVar 6) (tC (.int 0))) (tC (.str "apart"))))
      (tSeq (tAsg (tOp (rIxA K) (tVar 6) (tC (.int 1))) (gName 13))
    (tSeq (tIfS (tOr (tTest (tOp (rI0 fun i j => .bl (decide (j < i))) (tCB (Pu.rLen K) (tCons (tVar 3) tNil)) (tC (.int 0)))) (tOr (tTest (tOp (rNeP K) (tVar 13) (tSS K (tVar 13)))) (tOr (tTest (tOp (rI0 fun i j => .bl (decide (j < i))) (tCB (Pu.rLen K) (tCons (tLc (iList K (tVar 13)) (gName 10) (tTest (tOp (rNinP K) (tVar 10) (tVar 9))) (tVar 10) [10]) tNil)) (tC (.int 0)))) (tTest (tOp (rI0 fun i j => .bl (decide (i ≤ j))) (tCB (Pu.rLen K) (tCons (tVar 13) tNil)) (tVar 4))))))
      (tRet (tTup (tCons (tC (.str "apart")) (tCons (tVar 5) tNil))))
      tNext)
    (tSeq (tFor (iList K (tVar 13)) (gName 10)
      (tIfS (tTest (tOp (rI0 fun i j => .bl (decide (j < i))) (tCB (Pu.rLen K) (tCons (tLc (iList K (tVar 13)) (gName 14) (tAnd (tTest (tOp (rI0 fun i j => .bl (decide (i < j))) (tVar 14) (tVar 10))) (tB (tCall (spP R_l_join) [] E0 (tCons (tVar 0) (tCons (tVar 1) (tCons (tVar 2) (tCons (tLst (tCons (tVar 14) tNil)) (tCons (tVar 10) tNil)))))))) (tVar 14) [14]) tNil)) (tC (.int 0))))
      (tRet (tTup (tCons (tC (.str "apart")) (tCons (tVar 5) tNil))))
      tNext))
    (tRet (tC .non)))))
      tNext)
    (tSeq (tIfS (tTest (tOp (rNinP K) (tOp (rIxA K) (tVar 6) (tC (.int 1))) (tVar 9)))
      (tRet (tTup (tCons (tC (.str "load")) (tCons (tVar 5) tNil))))
      tNext)
    (tSeq (tAsg (tCall (spP R_l_spots) [] E0 (tCons (tVar 0) (tCons (tVar 1) (tCons (tVar 2) (tCons (tVar 3) (tCons (tOp (rIxA K) (tVar 6) (tC (.int 1))) (tCons (tVar 4) tNil))))))) (gName 15))
    (tSeq (tIfS (tTest (tOp (rNeP K) (tCB (Pu.rLen K) (tCons (tOp (rIxA K) (tVar 6) (tC (.int 2))) tNil)) (tCB (Pu.rLen K) (tCons (tVar 15) tNil))))
      (tRet (tTup (tCons (tC (.str "load")) (tCons (tVar 5) tNil))))
      tNext)
    (tSeq (tFor (iRng1 (tCons (tCB (Pu.rLen K) (tCons (tVar 15) tNil)) tNil)) (gName 10)
      (tSeq (tAsg (tCall (spP R_l_tree_fault) [] E0 (tCons (tVar 0) (tCons (tVar 1) (tCons (tVar 2) (tCons (tCall (spP R_l_put) [] E0 (tCons (tVar 3) (tCons (tOp (rIxA K) (tVar 15) (tVar 10)) (tCons (tOp (rIxA K) (tVar 6) (tC (.int 1))) tNil)))) (tCons (tVar 4) (tCons (tOp (rPlus K) (tVar 5) (tLst (tCons (tTup (tCons (tOp (rIxA K) (tVar 6) (tC (.int 1))) (tCons (tOp (rIxA K) (tVar 15) (tVar 10)) tNil))) tNil))) (tCons (tOp (rIxA K) (tOp (rIxA K) (tVar 6) (tC (.int 2))) (tVar 10)) tNil)))))))) (gName 16))
    (tIfS (tTest (tOp (rIsnt) (tVar 16) (tC .non)))
      (tRet (tVar 16))
      tNext)))
    (tRet (tC .non)))))))))))
/-- _law_fault: slots loads 0, foes 1, room 2, told 3, heavy 4, k 5, word 6, lots 7, tree 8, flat 9, lot 10, one 11, bad 12, j 13, found 14; own: flat -/
abbrev N_l_fault : List Str := ["loads", "foes", "room", "told", "heavy", "k", "word", "lots", "tree", "flat", "lot", "one", "bad", "j", "found"]
def T_l_fault (K : PySem.W.Frag) (R_l_tree_fault : List D → (D → Prop) → Prop) : TS :=
    (tSeq (tAsg (tLc (iRng1 (tCons (tCB (Pu.rLen K) (tCons (tVar 0) tNil)) tNil)) (gName 5) (tTest (tOp (rI0 fun i j => .bl (decide (j < i))) (tOp (rIxA K) (tOp (rIxA K) (tVar 0) (tVar 5)) (tC (.int 1))) (tVar 2))) (tVar 5) [5]) (gName 4))
    (tSeq (tIfS (tOr (tTest (tOp (rEqP K) (tOp (rIxA K) (tVar 3) (tC (.int 0))) (tC (.str "heavy")))) (tTest (tOp (rI0 fun i j => .bl (decide (j < i))) (tCB (Pu.rLen K) (tCons (tVar 4) tNil)) (tC (.int 0)))))
      (tRet (tIf (tAnd (tTest (tOp (rEqP K) (tOp (rIxA K) (tVar 3) (tC (.int 0))) (tC (.str "heavy")))) (tAnd (tTest (tOp (rI0 fun i j => .bl (decide (j < i))) (tCB (Pu.rLen K) (tCons (tVar 4) tNil)) (tC (.int 0)))) (tTest (tOp (rEqP K) (tOp (rIxA K) (tVar 3) (tC (.int 1))) (tOp (rIxA K) (tVar 4) (tC (.int 0))))))) (tC .non) (tTup (tCons (tC (.str "heavy")) tNil))))
      tNext)
    (tSeq (tAsg (tVar 3) (gTup K 3 (gCons (gName 6) (gCons (gName 7) (gCons (gName 8) gNil)))))
    (tSeq (tAsg (tLst tNil) (gName 9))
    (tSeq (tFor (iList K (tVar 7)) (gName 10)
      (tDrop (tBM K "list" rExtR (tVar 9) (tCons (tVar 10) tNil))))
    (tSeq (tIfS (tOr (tTest (tOp (rNeP K) (tVar 7) (tCB (rSrD K) (tCons (tLc (iList K (tVar 7)) (gName 10) tYes (tCB (rSrD K) (tCons (tVar 10) tNil)) [10]) tNil)))) (tTest (tOp (rNeP K) (tCB (rSrD K) (tCons (tVar 9) tNil)) (tLstRg (tRg1 (tCB (Pu.rLen K) (tCons (tVar 0) tNil)))))))
      (tRet (tTup (tCons (tC (.str "loads")) tNil)))
      tNext)
    (tSeq (tFor (iRng1 (tCons (tCB (Pu.rLen K) (tCons (tVar 7) tNil)) tNil)) (gName 11)
      (tSeq (tIfS (tOr (tTest (tOp (rEqP K) (tCB (Pu.rLen K) (tCons (tOp (rIxA K) (tVar 7) (tVar 11)) tNil)) (tC (.int 0)))) (tTest (tOp (rI0 fun i j => .bl (decide (j < i))) (tCB (rSum K) (tCons (tLc (iList K (tOp (rIxA K) (tVar 7) (tVar 11))) (gName 5) tYes (tOp (rIxA K) (tOp (rIxA K) (tVar 0) (tVar 5)) (tC (.int 1))) [5]) tNil)) (tVar 2))))
      (tRet (tTup (tCons (tC (.str "room")) (tCons (tVar 11) tNil))))
      tNext)
    (tFor (iList K (tOp (rIxA K) (tVar 7) (tVar 11))) (gName 5)
      (tSeq (tAsg (tLc (iList K (tOp (rIxA K) (tVar 7) (tVar 11))) (gName 13) (tAnd (tTest (tOp (rI0 fun i j => .bl (decide (i < j))) (tVar 13) (tVar 5))) (tTest (tOp (rInP K) (tCB (rTup K) (tCons (tCB (rSrD K) (tCons (tLst (tCons (tOp (rIxA K) (tOp (rIxA K) (tVar 0) (tVar 13)) (tC (.int 0))) (tCons (tOp (rIxA K) (tOp (rIxA K) (tVar 0) (tVar 5)) (tC (.int 0))) tNil))) tNil)) tNil)) (tVar 1)))) (tVar 13) [13]) (gName 12))
    (tIfS (tTest (tOp (rI0 fun i j => .bl (decide (j < i))) (tCB (Pu.rLen K) (tCons (tVar 12) tNil)) (tC (.int 0))))
      (tRet (tTup (tCons (tC (.str "foes")) (tCons (tOp (rIxA K) (tVar 12) (tC (.int 0))) (tCons (tVar 5) tNil)))))
      tNext)))))
    (tSeq (tIfS (tTest (tOp (rNeP K) (tOp (rIs) (tVar 8) (tC .non)) (tOp (rEqP K) (tCB (Pu.rLen K) (tCons (tVar 7) tNil)) (tC (.int 0)))))
      (tRet (tTup (tCons (tC (.str "tree")) (tCons (tC .non) tNil))))
      tNext)
    (tSeq (tIfS (tTest (tOp (rIs) (tVar 8) (tC .non)))
      (tRet (tC .non))
      tNext)
    (tSeq (tAsg (tCall (spP R_l_tree_fault) [] E0 (tCons (tVar 0) (tCons (tVar 1) (tCons (tVar 2) (tCons (tLst tNil) (tCons (tOp (rI0 fun i j => .int (i - j)) (tCB (Pu.rLen K) (tCons (tVar 7) tNil)) (tC (.int 1))) (tCons (tLst tNil) (tCons (tVar 8) tNil)))))))) (gName 14))
    (tRet (tIf (tTest (tOp (rIs) (tVar 14) (tC .non))) (tC .non) (tTup (tCons (tC (.str "tree")) (tCons (tVar 14) tNil)))))))))))))))
/-- _law_bent_tree: slots state 0, many 1, tree 2, at 3, some 4, k 5 -/
abbrev N_l_bent_tree : List Str := ["state", "many", "tree", "at", "some", "k"]
def T_l_bent_tree (K : PySem.W.Frag) (R_l_take : Stt → List D → (D → Stt → Prop) → Prop) (R_l_bent_tree : Stt → List D → (D → Stt → Prop) → Prop) : TS :=
    (tSeq (tIfS (tTest (tOp (rIs) (tVar 2) (tC .non)))
      (tRet (tTup (tCons (tC (.str "weight")) tNil)))
      tNext)
    (tSeq (tIfS (tAnd (tTest (tOp (rEqP K) (tOp (rIxA K) (tVar 2) (tC (.int 0))) (tC (.str "load")))) (tAnd (tTest (tOp (rI0 fun i j => .bl (decide (j < i))) (tCB (Pu.rLen K) (tCons (tOp (rIxA K) (tVar 2) (tC (.int 2))) tNil)) (tC (.int 0)))) (tTest (tOp (rI0 fun i j => .bl (decide (j < i))) (tCall (spS R_l_take) [] E0 (tCons (tVar 0) (tCons (tC (.int 3)) tNil))) (tC (.int 0))))))
      (tSeq (tAsg (tCall (spS R_l_take) [] E0 (tCons (tVar 0) (tCons (tCB (Pu.rLen K) (tCons (tOp (rIxA K) (tVar 2) (tC (.int 2))) tNil)) tNil))) (gName 3))
    (tRet (tTup (tCons (tOp (rIxA K) (tVar 2) (tC (.int 0))) (tCons (tOp (rIxA K) (tVar 2) (tC (.int 1))) (tCons (tOp (rPlus K) (tOp (rPlus K) (tSl (rSl K) (tOp (rIxA K) (tVar 2) (tC (.int 2))) tNoPart (tPart (tVar 3))) (tLst (tCons (tCall (spS R_l_bent_tree) [] E0 (tCons (tVar 0) (tCons (tVar 1) (tCons (tOp (rIxA K) (tOp (rIxA K) (tVar 2) (tC (.int 2))) (tVar 3)) tNil)))) tNil))) (tSl (rSl K) (tOp (rIxA K) (tVar 2) (tC (.int 2))) (tPart (tOp (rPlus K) (tVar 3) (tC (.int 1)))) tNoPart)) tNil))))))
      tNext)
    (tSeq (tAsg (tLc (iRng1 (tCons (tVar 1) tNil)) (gName 5) (tTest (tOp (rEqP K) (tCall (spS R_l_take) [] E0 (tCons (tVar 0) (tCons (tC (.int 2)) tNil))) (tC (.int 0)))) (tVar 5) [5]) (gName 4))
    (tRet (tOp (rIxA K) (tLst (tCons (tTup (tCons (tC (.str "weight")) tNil)) (tCons (tTup (tCons (tC (.str "apart")) (tCons (tVar 4) tNil))) (tCons (tTup (tCons (tC (.str "apart")) (tCons (tRevL K (tVar 4)) tNil))) (tCons (tTup (tCons (tC (.str "load")) (tCons (tCall (spS R_l_take) [] E0 (tCons (tVar 0) (tCons (tOp (rPlus K) (tVar 1) (tC (.int 1))) tNil))) (tCons (tOp (rRepR) (tLst (tCons (tVar 2) tNil)) (tCall (spS R_l_take) [] E0 (tCons (tVar 0) (tCons (tC (.int 3)) tNil)))) tNil)))) tNil))))) (tCall (spS R_l_take) [] E0 (tCons (tVar 0) (tCons (tC (.int 4)) tNil))))))))
/-- law: slots script 0, state 1, loads 2, foes 3, room 4, kept 5, told 6, k 7, other 8, lots 9, tree 10, lot 11, kind 12, at 13, one 14, same 15; own: lots -/
abbrev N_law : List Str := ["script", "state", "loads", "foes", "room", "kept", "told", "k", "other", "lots", "tree", "lot", "kind", "at", "one", "same"]
def T_law (K : PySem.W.Frag) (R_l_state : List D → (Stt → Prop) → Prop) (R_l_loads : Stt → List D → (D → Stt → Prop) → Prop) (R_store : List D → (D → Prop) → Prop) (R_l_fault : List D → (D → Prop) → Prop) (R_store_fault : List D → (D → Prop) → Prop) (R_l_take : Stt → List D → (D → Stt → Prop) → Prop) (R_l_bent_tree : Stt → List D → (D → Stt → Prop) → Prop) : TS :=
    (tSeq (tAsg (tCall (spN R_l_state) [] E0 (tCons (tVar 0) tNil)) (gName 1))
    (tSeq (tAsg (tCall (spS R_l_loads) [] E0 (tCons (tVar 1) (tCons (tC (.int 8)) tNil))) (gTup K 3 (gCons (gName 2) (gCons (gName 3) (gCons (gName 4) gNil)))))
    (tSeq (tAsg (tCB (rRepr K) (tCons (tTup (tCons (tVar 2) (tCons (tVar 3) tNil))) tNil)) (gName 5))
    (tSeq (tAsg (tCall (spP R_store) [] E0 (tCons (tVar 2) (tCons (tVar 3) (tCons (tVar 4) tNil)))) (gName 6))
    (tSeq (tIfS (tOr (tTest (tOp (rIsnt) (tCall (spP R_l_fault) [] E0 (tCons (tVar 2) (tCons (tVar 3) (tCons (tVar 4) (tCons (tVar 6) tNil))))) (tC .non))) (tTest (tOp (rIsnt) (tCall (spP R_store_fault) [] E0 (tCons (tVar 2) (tCons (tVar 3) (tCons (tVar 4) (tCons (tVar 6) tNil))))) (tC .non))))
      (tRet (tC (.bl false)))
      tNext)
    (tSeq (tFor (iRng1 (tCons (tC (.int 9)) tNil)) (gName 7)
      (tSeq (tIfS (tTest (tOp (rEqP K) (tOp (rIxA K) (tVar 6) (tC (.int 0))) (tC (.str "heavy"))))
      (tAsg (tOp (rIxA K) (tLst (tCons (tTup (tCons (tC (.str "heavy")) (tCons (tOp (rPlus K) (tOp (rIxA K) (tVar 6) (tC (.int 1))) (tC (.int 1))) tNil))) (tCons (tTup (tCons (tC (.str "rooms")) (tCons (tLst tNil) (tCons (tC .non) tNil)))) tNil))) (tCall (spS R_l_take) [] E0 (tCons (tVar 1) (tCons (tC (.int 2)) tNil)))) (gName 8))
      (tSeq (tPar 9 10 (tCons (tLc (iList K (tOp (rIxA K) (tVar 6) (tC (.int 1)))) (gName 11) tYes (tCB (rList K) (tCons (tVar 11) tNil)) [11]) (tCons (tOp (rIxA K) (tVar 6) (tC (.int 2))) tNil)))
    (tSeq (tAsg (tCall (spS R_l_take) [] E0 (tCons (tVar 1) (tCons (tC (.int 8)) tNil))) (gName 12))
    (tSeq (tAsg (tCall (spS R_l_take) [] E0 (tCons (tVar 1) (tCons (tCB (rMx2) (tCons (tC (.int 1)) (tCons (tCB (Pu.rLen K) (tCons (tVar 9) tNil)) tNil))) tNil))) (gName 13))
    (tSeq (tIfS (tOr (tTest (tOp (rI0 fun i j => .bl (decide (i < j))) (tVar 12) (tC (.int 3)))) (tTest (tOp (rEqP K) (tCB (Pu.rLen K) (tCons (tVar 9) tNil)) (tC (.int 0)))))
      (tAsg (tCall (spS R_l_bent_tree) [] E0 (tCons (tVar 1) (tCons (tCB (Pu.rLen K) (tCons (tVar 2) tNil)) (tCons (tVar 10) tNil)))) (gName 10))
      (tIfS (tTest (tOp (rEqP K) (tVar 12) (tC (.int 3))))
      (tAsg (tSl (rSl K) (tOp (rIxA K) (tVar 9) (tVar 13)) (tPart (tC (.int 1))) tNoPart) (gSub (tVar 9) (tVar 13) rSetL))
      (tIfS (tTest (tOp (rEqP K) (tVar 12) (tC (.int 4))))
      (tAsg (tRevL K (tVar 9)) (gName 9))
      (tIfS (tTest (tOp (rEqP K) (tVar 12) (tC (.int 5))))
      (tSeq (tDrop (tBM K "list" rAppend (tOp (rIxA K) (tVar 9) (tCall (spS R_l_take) [] E0 (tCons (tVar 1) (tCons (tCB (Pu.rLen K) (tCons (tVar 9) tNil)) tNil)))) (tCons (tBM K "list" rPopAt (tOp (rIxA K) (tVar 9) (tVar 13)) (tCons (tC (.int 0)) tNil)) tNil)))
    (tAsg (tCB (rSrD K) (tCons (tLc (iList K (tVar 9)) (gName 11) tYes (tCB (rSrD K) (tCons (tVar 11) tNil)) [11]) tNil)) (gName 9)))
      (tIfS (tTest (tOp (rEqP K) (tVar 12) (tC (.int 6))))
      (tAsg (tCB (rSrD K) (tCons (tOp (rPlus K) (tOp (rPlus K) (tSl (rSl K) (tVar 9) tNoPart (tPart (tVar 13))) (tSl (rSl K) (tVar 9) (tPart (tOp (rPlus K) (tVar 13) (tC (.int 1)))) tNoPart)) (tLc (iList K (tOp (rIxA K) (tVar 9) (tVar 13))) (gName 14) tYes (tLst (tCons (tVar 14) tNil)) [14])) tNil)) (gName 9))
      (tAsg (tC .non) (gName 10)))))))
    (tAsg (tIf (tTest (tOp (rI0 fun i j => .bl (decide (j < i))) (tCall (spS R_l_take) [] E0 (tCons (tVar 1) (tCons (tC (.int 12)) tNil))) (tC (.int 0)))) (tTup (tCons (tC (.str "rooms")) (tCons (tVar 9) (tCons (tVar 10) tNil)))) (tTup (tCons (tC (.str "heavy")) (tCons (tC (.int 0)) tNil)))) (gName 8)))))))
    (tSeq (tAsg (tCB (rRepr K) (tCons (tVar 8) tNil)) (gName 15))
    (tIfS (tOr (tTest (tOp (rNeP K) (tCall (spP R_store_fault) [] E0 (tCons (tVar 2) (tCons (tVar 3) (tCons (tVar 4) (tCons (tVar 8) tNil))))) (tCall (spP R_l_fault) [] E0 (tCons (tVar 2) (tCons (tVar 3) (tCons (tVar 4) (tCons (tVar 8) tNil))))))) (tTest (tOp (rNeP K) (tCB (rRepr K) (tCons (tVar 8) tNil)) (tVar 15))))
      (tRet (tC (.bl false)))
      tNext))))
    (tRet (tOp (rEqP K) (tCB (rRepr K) (tCons (tTup (tCons (tVar 2) (tCons (tVar 3) tNil))) tNil)) (tVar 5)))))))))
/-- Rooms.__init__: slots self 0, loads 1, foes 2, room 3, at 4, size 5, load 6 -/
abbrev N_Rooms_init : List Str := ["self", "loads", "foes", "room", "at", "size", "load"]
def T_Rooms_init (K : PySem.W.Frag) (C_Rooms : Addr) : TS :=
    (tSeq (sFldC C_Rooms (tVar 0) (tVar 1) "loads")
    (tSeq (sFldC C_Rooms (tVar 0) (tVar 2) "foes")
    (tSeq (sFldC C_Rooms (tVar 0) (tVar 3) "room")
    (sFldC C_Rooms (tVar 0) (tLc (iList K (tCB (rSrD K) (tCons (tLc (iEnum K (tCons (tVar 1) tNil)) (gTup K 2 (gCons (gName 4) (gCons (gName 6) gNil))) tYes (tTup (tCons (tOp (rI0 fun i j => .int (i - j)) (tC (.int 0)) (tOp (rIxA K) (tVar 6) (tC (.int 1)))) (tCons (tVar 4) tNil))) [4, 6]) tNil))) (gTup K 2 (gCons (gName 5) (gCons (gName 4) gNil))) tYes (tVar 4) [5, 4]) "order"))))
/-- Rooms.spots: slots self 0, lots 1, at 2, many 3, found 4, one 5, lot 6 -/
abbrev N_Rooms_spots : List Str := ["self", "lots", "at", "many", "found", "one", "lot"]
def T_Rooms_spots (K : PySem.W.Frag) (C_Rooms : Addr) (R_may_join : List D → (D → Prop) → Prop) : TS :=
    (tSeq (tAsg (tLc (iEnum K (tCons (tVar 1) tNil)) (gTup K 2 (gCons (gName 5) (gCons (gName 6) gNil))) (tB (tCall (spP R_may_join) [] E0 (tCons (tFldC C_Rooms (tVar 0) "loads") (tCons (tFldC C_Rooms (tVar 0) "foes") (tCons (tFldC C_Rooms (tVar 0) "room") (tCons (tVar 6) (tCons (tVar 2) tNil))))))) (tVar 5) [5, 6]) (gName 4))
    (tRet (tOp (rPlus K) (tVar 4) (tIf (tTest (tOp (rI0 fun i j => .bl (decide (i < j))) (tCB (Pu.rLen K) (tCons (tVar 1) tNil)) (tVar 3))) (tLst (tCons (tCB (Pu.rLen K) (tCons (tVar 1) tNil)) tNil)) (tLst tNil)))))
/-- Rooms.put: slots self 0, lots 1, turn 2, many 3, at 4, one 5, found 6 -/
abbrev N_Rooms_put : List Str := ["self", "lots", "turn", "many", "at", "one", "found"]
def T_Rooms_put (K : PySem.W.Frag) (C_Rooms : Addr) (R_Rooms_spots : Stt → List D → (D → Stt → Prop) → Prop) (R_Rooms_put : Stt → List D → (D → Stt → Prop) → Prop) (R_with_load : List D → (D → Prop) → Prop) : TS :=
    (tSeq (tIfS (tTest (tOp (rEqP K) (tVar 2) (tCB (Pu.rLen K) (tCons (tFldC C_Rooms (tVar 0) "order") tNil))))
      (tRet (tVar 1))
      tNext)
    (tSeq (tAsg (tOp (rIxA K) (tFldC C_Rooms (tVar 0) "order") (tVar 2)) (gName 4))
    (tSeq (tFor (iList K (tMeth C_Rooms "spots" (spS R_Rooms_spots) [] E0 (tVar 0) (tCons (tVar 1) (tCons (tVar 4) (tCons (tVar 3) tNil))))) (gName 5)
      (tSeq (tAsg (tMeth C_Rooms "put" (spS R_Rooms_put) [] E0 (tVar 0) (tCons (tCall (spP R_with_load) [] E0 (tCons (tVar 1) (tCons (tVar 5) (tCons (tVar 4) tNil)))) (tCons (tOp (rPlus K) (tVar 2) (tC (.int 1))) (tCons (tVar 3) tNil)))) (gName 6))
    (tIfS (tTest (tOp (rIsnt) (tVar 6) (tC .non)))
      (tRet (tVar 6))
      tNext)))
    (tRet (tC .non)))))
/-- Rooms.apart: slots self 0, left 1, row 2, at 3, other 4; own: row -/
abbrev N_Rooms_apart : List Str := ["self", "left", "row", "at", "other"]
def T_Rooms_apart (K : PySem.W.Frag) (C_Rooms : Addr) (R_may_join : List D → (D → Prop) → Prop) : TS :=
    (tSeq (tAsg (tLst tNil) (gName 2))
    (tSeq (tFor (iList K (tVar 1)) (gName 3)
      (tIfS (tNot (tB (tCB (rAnyB K) (tCons (tLc (iList K (tVar 2)) (gName 4) tYes (tCall (spP R_may_join) [] E0 (tCons (tFldC C_Rooms (tVar 0) "loads") (tCons (tFldC C_Rooms (tVar 0) "foes") (tCons (tFldC C_Rooms (tVar 0) "room") (tCons (tLst (tCons (tVar 4) tNil)) (tCons (tVar 3) tNil)))))) [4]) tNil))))
      (tDrop (tBM K "list" rAppend (tVar 2) (tCons (tVar 3) tNil)))
      tNext))
    (tRet (tCB (rSrD K) (tCons (tVar 2) tNil)))))
/-- Rooms.prove: slots self 0, lots 1, turn 2, many 3, row 4, load 5, at 6, trees 7, one 8 -/
abbrev N_Rooms_prove : List Str := ["self", "lots", "turn", "many", "row", "load", "at", "trees", "one"]
def T_Rooms_prove (K : PySem.W.Frag) (C_Rooms : Addr) (R_Rooms_apart : Stt → List D → (D → Stt → Prop) → Prop) (R_Rooms_prove : Stt → List D → (D → Stt → Prop) → Prop) (R_Rooms_spots : Stt → List D → (D → Stt → Prop) → Prop) (R_with_load : List D → (D → Prop) → Prop) : TS :=
    (tSeq (tIfS (tNot (tTru K (tVar 1)))
      (tSeq (tAsg (tMeth C_Rooms "apart" (spS R_Rooms_apart) [] E0 (tVar 0) (tCons (tFldC C_Rooms (tVar 0) "order") tNil)) (gName 4))
    (tSeq (tIfS (tTest (tOp (rI0 fun i j => .bl (decide (j < i))) (tCB (Pu.rLen K) (tCons (tVar 4) tNil)) (tVar 3)))
      (tRet (tTup (tCons (tC (.str "apart")) (tCons (tVar 4) tNil))))
      tNext)
    (tIfS (tTest (tOp (rI0 fun i j => .bl (decide (j < i))) (tCB (rSum K) (tCons (tLc (iList K (tFldC C_Rooms (tVar 0) "loads")) (gName 5) tYes (tOp (rIxA K) (tVar 5) (tC (.int 1))) [5]) tNil)) (tOp (rI CMul fun i j => .int (i * j)) (tVar 3) (tFldC C_Rooms (tVar 0) "room"))))
      (tRet (tTup (tCons (tC (.str "weight")) tNil)))
      tNext)))
      tNext)
    (tSeq (tAsg (tOp (rIxA K) (tFldC C_Rooms (tVar 0) "order") (tVar 2)) (gName 6))
    (tSeq (tAsg (tLc (iList K (tMeth C_Rooms "spots" (spS R_Rooms_spots) [] E0 (tVar 0) (tCons (tVar 1) (tCons (tVar 6) (tCons (tVar 3) tNil))))) (gName 8) tYes (tMeth C_Rooms "prove" (spS R_Rooms_prove) [] E0 (tVar 0) (tCons (tCall (spP R_with_load) [] E0 (tCons (tVar 1) (tCons (tVar 8) (tCons (tVar 6) tNil)))) (tCons (tOp (rPlus K) (tVar 2) (tC (.int 1))) (tCons (tVar 3) tNil)))) [8]) (gName 7))
    (tRet (tTup (tCons (tC (.str "load")) (tCons (tVar 6) (tCons (tVar 7) tNil))))))))
end Law_k64
/-! M_k63: rooms for loads: the mathematics -/
namespace Law_k64
structure Ld where
  k : Int
  w : Int
structure Pb where
  ls : List Ld
  fs : List (Int × Int)
  r : Int
def l0 : Ld := ⟨0, 0⟩
def lAt (p : Pb) (i : Nat) : Ld := p.ls.getD i l0
def nP (p : Pb) : Nat := p.ls.length
def pairF (a b : Int) : Int × Int := (min a b, max a b)
def foeB (p : Pb) (a b : Nat) : Bool := decide (pairF (lAt p a).k (lAt p b).k ∈ p.fs)
theorem foe_sym (p : Pb) (a b : Nat) : foeB p a b = foeB p b a := by
  unfold foeB pairF
  rw [Int.min_comm, Int.max_comm]
def wsum (p : Pb) (lot : List Nat) : Int := (lot.map fun i => (lAt p i).w).sum
def joinB (p : Pb) (lot : List Nat) (a : Nat) : Bool := !decide (p.r < wsum p lot + (lAt p a).w) && !(lot.any fun o => foeB p o a)
def newF (n m : Nat) : List Nat := if n < m then [n] else []
def spF (p : Pb) (lots : List (List Nat)) (a m : Nat) : List Nat := ((List.range lots.length).filter fun i => joinB p (lots.getD i []) a) ++ newF lots.length m
def wlF (lots : List (List Nat)) (o a : Nat) : List (List Nat) := if o = lots.length then lots ++ [[a]] else lots.set o (lots.getD o [] ++ [a])
def putF (p : Pb) (m : Nat) : List Nat → List (List Nat) → Option (List (List Nat))
  | [], lots => some lots
  | a :: us, lots => (spF p lots a m).findSome? fun o => putF p m us (wlF lots o a)
def waysF (p : Pb) (m : Nat) : List Nat → List (List Nat) → List (List (List Nat))
  | [], lots => [lots]
  | a :: us, lots => (spF p lots a m).flatMap fun o => waysF p m us (wlF lots o a)
theorem sp_mem {p : Pb} {lots : List (List Nat)} {a m o : Nat} : o ∈ spF p lots a m ↔ (o < lots.length ∧ joinB p (lots.getD o []) a = true) ∨ (o = lots.length ∧ lots.length < m) := by
  unfold spF newF
  rw [List.mem_append, List.mem_filter, List.mem_range]
  refine or_congr Iff.rfl ?_
  by_cases q : lots.length < m
  · rw [if_pos q, List.mem_singleton]
    exact ⟨fun h => ⟨h, q⟩, fun h => h.1⟩
  · rw [if_neg q]
    exact ⟨fun h => absurd h (by simp), fun h => absurd h.2 q⟩
theorem sp_le {p : Pb} {lots : List (List Nat)} {a m o : Nat} (h : o ∈ spF p lots a m) : o ≤ lots.length := by
  rcases sp_mem.mp h with q | q <;> omega
theorem wl_len {lots : List (List Nat)} {o a : Nat} : (wlF lots o a).length ≤ lots.length + 1 := by
  unfold wlF
  split
  · simp
  · simp
theorem wl_m {p : Pb} {lots : List (List Nat)} {a m o : Nat} (h : o ∈ spF p lots a m) (hl : lots.length ≤ m) : (wlF lots o a).length ≤ m := by
  unfold wlF
  rcases sp_mem.mp h with q | q
  · rw [if_neg (by omega), List.length_set]; exact hl
  · rw [if_pos q.1, List.length_append]; simp; omega
theorem flat_set : ∀ {lots : List (List Nat)} {o a : Nat}, o < lots.length → (lots.set o (lots.getD o [] ++ [a])).flatten.Perm (a :: lots.flatten)
  | [], o, a, h => absurd h (by simp)
  | l :: lots, 0, a, _ => by
    show ((l ++ [a]) :: lots).flatten.Perm _
    rw [List.flatten_cons, List.flatten_cons, List.append_assoc]
    exact List.perm_middle
  | l :: lots, o + 1, a, h => by
    have ih := flat_set (lots := lots) (o := o) (a := a) (by simpa using h)
    show (l :: lots.set o (lots.getD o [] ++ [a])).flatten.Perm _
    rw [List.flatten_cons, List.flatten_cons]
    exact (ih.append_left l).trans List.perm_middle
theorem wl_flat {lots : List (List Nat)} {o a : Nat} (h : o ≤ lots.length) : (wlF lots o a).flatten.Perm (a :: lots.flatten) := by
  unfold wlF
  split
  · rw [List.flatten_append]
    show (lots.flatten ++ [a]).Perm _
    exact List.perm_append_comm
  · exact flat_set (by omega)
/-- each row of what is made -/
theorem wl_row {lots : List (List Nat)} {o a : Nat} (h : o ≤ lots.length) {i : Nat} : (wlF lots o a).getD i [] = if i = o then lots.getD o [] ++ [a] else lots.getD i [] := by
  unfold wlF
  split
  · rename_i e
    subst e
    by_cases q : i = lots.length
    · subst q
      rw [if_pos rfl, List.getD_eq_getElem?_getD, List.getElem?_append_right (Nat.le_refl _), Nat.sub_self, List.getD_eq_getElem?_getD, List.getElem?_eq_none (Nat.le_refl _)]
      rfl
    · rw [if_neg q, List.getD_eq_getElem?_getD, List.getD_eq_getElem?_getD]
      by_cases q2 : i < lots.length
      · rw [List.getElem?_append_left q2]
      · rw [List.getElem?_append_right (by omega), List.getElem?_eq_none (l := lots) (by omega), List.getElem?_eq_none (by simp; omega)]
  · rw [List.getD_eq_getElem?_getD, List.getElem?_set]
    by_cases q : i = o
    · subst q
      rw [if_pos rfl, if_pos rfl, if_pos (by omega)]
      rfl
    · rw [if_neg (fun e => q e.symm), if_neg q, List.getD_eq_getElem?_getD]
/-! sums -/
structure Ok (p : Pb) : Prop where
  w0 : ∀ i, 0 ≤ (lAt p i).w
theorem sum_mono (p : Pb) (ok : Ok p) {f g : Nat → Bool} (h : ∀ x, f x = true → g x = true) : ∀ l : List Nat, wsum p (l.filter f) ≤ wsum p (l.filter g)
  | [] => Int.le_refl _
  | x :: l => by
    have ih := sum_mono p ok h l
    have := ok.w0 x
    cases hf : f x with
    | true =>
      rw [List.filter_cons_of_pos hf, List.filter_cons_of_pos (h x hf)]
      unfold wsum at ih ⊢
      simp only [List.map_cons, List.sum_cons]
      omega
    | false =>
      rw [List.filter_cons_of_neg (by simp [hf])]
      cases hg : g x with
      | true =>
        rw [List.filter_cons_of_pos hg]
        unfold wsum at ih ⊢
        simp only [List.map_cons, List.sum_cons]
        omega
      | false => rw [List.filter_cons_of_neg (by simp [hg])]; exact ih
theorem sum_perm (p : Pb) {l k : List Nat} (h : l.Perm k) : wsum p l = wsum p k := by
  induction h with
  | nil => rfl
  | cons x _ ih =>
    unfold wsum at ih ⊢
    simp only [List.map_cons, List.sum_cons]
    omega
  | swap x y l =>
    unfold wsum
    simp only [List.map_cons, List.sum_cons]
    omega
  | trans _ _ h1 h2 => exact h1.trans h2
theorem perm_in {n : Nat} {l : List Nat} (nd : l.Nodup) (lt : ∀ x ∈ l, x < n) : l.Perm ((List.range n).filter fun x => decide (x ∈ l)) :=
  (List.perm_ext_iff_of_nodup nd (List.nodup_range.filter _)).mpr fun x => by
    rw [List.mem_filter, List.mem_range, decide_eq_true_eq]
    exact ⟨fun h => ⟨lt x h, h⟩, fun h => h.2⟩
theorem sum_app (p : Pb) (l : List Nat) (a : Nat) : wsum p (l ++ [a]) = wsum p l + (lAt p a).w := by
  unfold wsum
  rw [List.map_append, List.sum_append]
  simp
/-! ways to finish, whatever the order -/
def blk (p : Pb) (f : Nat → Nat) (i : Nat) : List Nat := (List.range (nP p)).filter fun x => decide (f x = i)
structure Sol (p : Pb) (m : Nat) (lots : List (List Nat)) (f : Nat → Nat) : Prop where
  row : ∀ i, i < lots.length → ∀ x ∈ lots.getD i [], f x = i
  lt : ∀ x, x < nP p → f x < m
  sum : ∀ i, wsum p (blk p f i) ≤ p.r
  foe : ∀ x y, x < nP p → y < nP p → x ≠ y → f x = f y → foeB p x y = false
/-- what is put so far: no load twice -/
structure Pt (p : Pb) (lots : List (List Nat)) : Prop where
  nd : lots.flatten.Nodup
  lt : ∀ x ∈ lots.flatten, x < nP p
theorem row_flat {lots : List (List Nat)} {i x : Nat} (h : x ∈ lots.getD i []) : x ∈ lots.flatten := by
  by_cases q : i < lots.length
  · rw [List.getD_eq_getElem?_getD, List.getElem?_eq_getElem q] at h
    exact List.mem_flatten.mpr ⟨_, List.getElem_mem q, h⟩
  · rw [List.getD_eq_getElem?_getD, List.getElem?_eq_none (by omega)] at h
    cases h
theorem nd_row : ∀ {lots : List (List Nat)} {i : Nat}, lots.flatten.Nodup → (lots.getD i []).Nodup
  | [], i, _ => by simp
  | l :: lots, 0, h => by
    rw [List.flatten_cons] at h
    exact (List.nodup_append.mp h).1
  | l :: lots, i + 1, h => by
    rw [List.flatten_cons] at h
    exact nd_row (lots := lots) (i := i) (List.nodup_append.mp h).2.1
theorem Pt.wl {p : Pb} {lots : List (List Nat)} (h : Pt p lots) {o a : Nat} (ho : o ≤ lots.length) (ha : a < nP p) (hn : a ∉ lots.flatten) : Pt p (wlF lots o a) := by
  have e := wl_flat (a := a) ho
  refine ⟨e.nodup_iff.mpr (List.nodup_cons.mpr ⟨hn, h.nd⟩), fun x hx => ?_⟩
  rcases List.mem_cons.mp (e.mem_iff.mp hx) with rfl | q
  · exact ha
  · exact h.lt x q
def sw (u v x : Nat) : Nat := if x = u then v else if x = v then u else x
theorem sw_sw (u v x : Nat) : sw u v (sw u v x) = x := by
  unfold sw
  by_cases h1 : x = u
  · rw [if_pos h1]
    by_cases h2 : v = u
    · rw [if_pos h2]; omega
    · rw [if_neg h2, if_pos rfl]; omega
  · rw [if_neg h1]
    by_cases h2 : x = v
    · rw [if_pos h2, if_pos rfl]; omega
    · rw [if_neg h2, if_neg h1, if_neg h2]
theorem sol_go {p : Pb} (ok : Ok p) {m : Nat} {lots : List (List Nat)} {f : Nat → Nat} (s : Sol p m lots f) (pt : Pt p lots) {a : Nat} (ha : a < nP p) (hn : a ∉ lots.flatten) : ∃ o ∈ spF p lots a m, ∃ g, Sol p m (wlF lots o a) g := by
  have fa := s.lt a ha
  by_cases c : f a < lots.length
  · refine ⟨f a, sp_mem.mpr (.inl ⟨c, ?_⟩), f, ⟨fun i hi x hx => ?_, s.lt, s.sum, s.foe⟩⟩
    · have ln : (lots.getD (f a) [] ++ [a]).Nodup := by
        refine List.nodup_append.mpr ⟨nd_row pt.nd, by simp, fun x hx y hy e => ?_⟩
        rw [List.mem_singleton] at hy
        subst hy
        subst e
        exact hn (row_flat hx)
      have ll : ∀ x ∈ lots.getD (f a) [] ++ [a], x < nP p := fun x hx => by
        rcases List.mem_append.mp hx with q | q
        · exact pt.lt x (row_flat q)
        · rw [List.mem_singleton.mp q]; exact ha
      have e1 := sum_perm p (perm_in ln ll)
      have e2 := sum_mono p ok (f := fun x => decide (x ∈ lots.getD (f a) [] ++ [a])) (g := fun x => decide (f x = f a)) (fun x hx => by
        rcases List.mem_append.mp (of_decide_eq_true hx) with q | q
        · exact decide_eq_true (s.row _ c x q)
        · rw [List.mem_singleton.mp q]; exact decide_eq_true rfl) (List.range (nP p))
      have e3 := s.sum (f a)
      unfold blk at e3
      rw [sum_app] at e1
      unfold joinB
      rw [decide_eq_false (by omega), Bool.not_false, Bool.true_and, Bool.not_eq_true', List.any_eq_false]
      intro x hx
      have := s.foe x a (pt.lt x (row_flat hx)) ha (fun e => hn (e ▸ row_flat hx)) (s.row _ c x hx)
      rw [this]
      decide
    · rw [wl_row (by omega)] at hx
      have hi : i < lots.length := by
        unfold wlF at hi
        rw [if_neg (by omega), List.length_set] at hi
        exact hi
      split at hx
      · rename_i e
        subst e
        rcases List.mem_append.mp hx with q | q
        · exact s.row _ c x q
        · rw [List.mem_singleton.mp q]
      · exact s.row i hi x hx
  · refine ⟨lots.length, sp_mem.mpr (.inr ⟨rfl, by omega⟩), fun x => sw (f a) lots.length (f x), ⟨fun i hi x hx => ?_, fun x hx => ?_, fun i => ?_, fun x y hx hy ne e => ?_⟩⟩
    · show sw (f a) lots.length (f x) = i
      rw [wl_row (Nat.le_refl _)] at hx
      unfold wlF at hi
      rw [if_pos rfl, List.length_append] at hi
      split at hx
      · rename_i e
        subst e
        rw [List.getD_eq_getElem?_getD, List.getElem?_eq_none (Nat.le_refl _)] at hx
        simp at hx
        subst hx
        unfold sw
        exact if_pos rfl
      · have hi : i < lots.length := by simp at hi; omega
        have := s.row i hi x hx
        unfold sw
        rw [if_neg (by omega), if_neg (by omega)]
        exact this
    · have := s.lt x hx
      show sw (f a) lots.length (f x) < m
      unfold sw
      split
      · omega
      · split <;> omega
    · have e : blk p (fun x => sw (f a) lots.length (f x)) i = blk p f (sw (f a) lots.length i) := by
        unfold blk
        refine List.filter_congr fun x _ => decide_eq_decide.mpr ?_
        exact ⟨fun h => by rw [← h, sw_sw], fun h => by show sw (f a) lots.length (f x) = i; rw [h, sw_sw]⟩
      rw [e]
      exact s.sum _
    · refine s.foe x y hx hy ne ?_
      have := congrArg (sw (f a) lots.length) e
      simp only [sw_sw] at this
      exact this
/-- with the loads still to come -/
def Rest (p : Pb) (lots : List (List Nat)) (us : List Nat) : Prop := (lots.flatten ++ us).Perm (List.range (nP p))
theorem Rest.pt {p : Pb} {lots : List (List Nat)} {us : List Nat} (h : Rest p lots us) : Pt p lots :=
  ⟨(List.nodup_append.mp (h.nodup_iff.mpr List.nodup_range)).1, fun x hx => List.mem_range.mp (h.mem_iff.mp (List.mem_append_left _ hx))⟩
theorem Rest.hd {p : Pb} {lots : List (List Nat)} {us : List Nat} {a : Nat} (h : Rest p lots (a :: us)) : a < nP p ∧ a ∉ lots.flatten :=
  ⟨List.mem_range.mp (h.mem_iff.mp (by simp)), fun q => (List.nodup_append.mp (h.nodup_iff.mpr List.nodup_range)).2.2 a q a (by simp) rfl⟩
theorem Rest.wl {p : Pb} {lots : List (List Nat)} {us : List Nat} {a o : Nat} (h : Rest p lots (a :: us)) (ho : o ≤ lots.length) : Rest p (wlF lots o a) us := by
  refine ((wl_flat ho).append_right us).trans (?_ : (a :: lots.flatten ++ us).Perm _)
  exact (List.perm_middle.symm).trans h
theorem put_some {p : Pb} (ok : Ok p) {m : Nat} : ∀ {us : List Nat} {lots : List (List Nat)} {f : Nat → Nat}, Sol p m lots f → Rest p lots us → (putF p m us lots).isSome = true
  | [], lots, f, _, _ => rfl
  | a :: us, lots, f, s, r => by
    obtain ⟨ha, hn⟩ := r.hd
    obtain ⟨o, ho, g, sg⟩ := sol_go ok s r.pt ha hn
    have ih := put_some ok (us := us) sg (r.wl (sp_le ho))
    show ((spF p lots a m).findSome? fun o => putF p m us (wlF lots o a)).isSome = true
    rw [List.findSome?_isSome_iff]
    exact ⟨o, ho, ih⟩
theorem ways_some {p : Pb} (ok : Ok p) {m : Nat} : ∀ {us : List Nat} {lots : List (List Nat)} {f : Nat → Nat}, Sol p m lots f → Rest p lots us → waysF p m us lots ≠ []
  | [], lots, f, _, _ => by simp [waysF]
  | a :: us, lots, f, s, r => by
    obtain ⟨ha, hn⟩ := r.hd
    obtain ⟨o, ho, g, sg⟩ := sol_go ok s r.pt ha hn
    have ih := ways_some ok (us := us) sg (r.wl (sp_le ho))
    obtain ⟨w, hw⟩ := List.exists_mem_of_ne_nil _ ih
    exact List.ne_nil_of_mem (show w ∈ (spF p lots a m).flatMap fun o => waysF p m us (wlF lots o a) from List.mem_flatMap.mpr ⟨o, ho, hw⟩)
/-! what is found -/
structure Good (p : Pb) (m : Nat) (lots : List (List Nat)) : Prop where
  len : lots.length ≤ m
  ne : ∀ l ∈ lots, l ≠ []
  sum : ∀ l ∈ lots, wsum p l ≤ p.r
  foe : ∀ l ∈ lots, l.Pairwise fun x y => foeB p x y = false
theorem Good.wl {p : Pb} {m : Nat} {lots : List (List Nat)} (g : Good p m lots) {a o : Nat} (h : o ∈ spF p lots a m) (hw : (lAt p a).w ≤ p.r) : Good p m (wlF lots o a) := by
  have mem : ∀ l ∈ wlF lots o a, l ∈ lots ∨ l = lots.getD o [] ++ [a] ∧ (o = lots.length ∨ o < lots.length ∧ joinB p (lots.getD o []) a = true) := fun l hl => by
    unfold wlF at hl
    split at hl
    · rename_i e
      rcases List.mem_append.mp hl with q | q
      · exact .inl q
      · refine .inr ⟨?_, .inl e⟩
        rw [List.mem_singleton.mp q, e, List.getD_eq_getElem?_getD, List.getElem?_eq_none (Nat.le_refl _)]
        rfl
    · rename_i e
      rcases List.mem_or_eq_of_mem_set hl with q | q
      · exact .inl q
      · refine .inr ⟨q, ?_⟩
        rcases sp_mem.mp h with z | z
        · exact .inr z
        · exact absurd z.1 e
  have row : o < lots.length → lots.getD o [] ∈ lots := fun c => by
    rw [List.getD_eq_getElem?_getD, List.getElem?_eq_getElem c]
    exact List.getElem_mem c
  have nil : o = lots.length → lots.getD o [] = [] := fun c => by rw [List.getD_eq_getElem?_getD, List.getElem?_eq_none (by omega)]; rfl
  refine ⟨wl_m h g.len, fun l hl => ?_, fun l hl => ?_, fun l hl => ?_⟩
  · rcases mem l hl with q | ⟨q, _⟩
    · exact g.ne l q
    · rw [q]; simp
  · rcases mem l hl with q | ⟨q, c | ⟨c, j⟩⟩
    · exact g.sum l q
    · rw [q, nil c, sum_app]
      show (0 : Int) + _ ≤ _
      omega
    · rw [q, sum_app]
      unfold joinB at j
      rw [Bool.and_eq_true, Bool.not_eq_true', decide_eq_false_iff_not] at j
      omega
  · rcases mem l hl with q | ⟨q, c | ⟨c, j⟩⟩
    · exact g.foe l q
    · rw [q, nil c]; simp
    · rw [q]
      unfold joinB at j
      rw [Bool.and_eq_true, Bool.not_eq_true', Bool.not_eq_true', List.any_eq_false] at j
      refine List.pairwise_append.mpr ⟨g.foe _ (row c), by simp, fun x hx y hy => ?_⟩
      rw [List.mem_singleton.mp hy]
      have := j.2 x hx
      simpa using this
theorem put_good {p : Pb} {m : Nat} (hw : ∀ i, i < nP p → (lAt p i).w ≤ p.r) : ∀ {us : List Nat} {lots L : List (List Nat)}, Good p m lots → Rest p lots us → putF p m us lots = some L → Good p m L ∧ L.flatten.Perm (List.range (nP p))
  | [], lots, L, g, r, e => by
    cases e
    refine ⟨g, ?_⟩
    have : lots.flatten ++ [] = lots.flatten := List.append_nil _
    unfold Rest at r
    rwa [this] at r
  | a :: us, lots, L, g, r, e => by
    obtain ⟨o, ho, e⟩ := List.exists_of_findSome?_eq_some e
    exact put_good hw (g.wl ho (hw a r.hd.1)) (r.wl (sp_le ho)) e
theorem ways_good {p : Pb} {m : Nat} (hw : ∀ i, i < nP p → (lAt p i).w ≤ p.r) : ∀ {us : List Nat} {lots L : List (List Nat)}, Good p m lots → Rest p lots us → L ∈ waysF p m us lots → Good p m L ∧ L.flatten.Perm (List.range (nP p))
  | [], lots, L, g, r, e => by
    rw [waysF, List.mem_singleton] at e
    subst e
    refine ⟨g, ?_⟩
    have : L.flatten ++ [] = L.flatten := List.append_nil _
    unfold Rest at r
    rwa [this] at r
  | a :: us, lots, L, g, r, e => by
    obtain ⟨o, ho, e⟩ := List.mem_flatMap.mp e
    exact ways_good hw (g.wl ho (hw a r.hd.1)) (r.wl (sp_le ho)) e
/-! from what is found to a way to finish -/
theorem at_one : ∀ {lots : List (List Nat)} {i j x : Nat}, lots.flatten.Nodup → x ∈ lots.getD i [] → x ∈ lots.getD j [] → i = j
  | [], i, j, x, _, h, _ => by simp at h
  | l :: lots, 0, 0, x, _, _, _ => rfl
  | l :: lots, 0, j + 1, x, nd, h, k => by
    rw [List.flatten_cons] at nd
    exact absurd rfl ((List.nodup_append.mp nd).2.2 x h x (row_flat (lots := lots) (i := j) k))
  | l :: lots, i + 1, 0, x, nd, h, k => by
    rw [List.flatten_cons] at nd
    exact absurd rfl ((List.nodup_append.mp nd).2.2 x k x (row_flat (lots := lots) (i := i) h))
  | l :: lots, i + 1, j + 1, x, nd, h, k => by
    rw [List.flatten_cons] at nd
    rw [at_one (lots := lots) (i := i) (j := j) (List.nodup_append.mp nd).2.1 h k]
theorem pair_sym {p : Pb} : ∀ {l : List Nat}, l.Pairwise (fun x y => foeB p x y = false) → ∀ x ∈ l, ∀ y ∈ l, x ≠ y → foeB p x y = false
  | [], _, x, h, _, _, _ => by cases h
  | a :: l, pw, x, hx, y, hy, ne => by
    obtain ⟨h1, h2⟩ := List.pairwise_cons.mp pw
    rcases List.mem_cons.mp hx with e | hx2
    · rcases List.mem_cons.mp hy with e2 | hy2
      · exact absurd (e.trans e2.symm) ne
      · rw [e]; exact h1 y hy2
    · rcases List.mem_cons.mp hy with e2 | hy2
      · rw [foe_sym, e2]; exact h1 x hx2
      · exact pair_sym h2 x hx2 y hy2 ne
theorem good_sol {p : Pb} {m : Nat} (r0 : 0 ≤ p.r) {L : List (List Nat)} (g : Good p m L) (fl : L.flatten.Perm (List.range (nP p))) {us : List Nat} (hu : us.Perm (List.range (nP p))) : (∃ f, Sol p m [] f) := by
  have nd : L.flatten.Nodup := fl.nodup_iff.mpr List.nodup_range
  have wh : ∀ x, x < nP p → ∃ i, i < L.length ∧ x ∈ L.getD i [] := fun x hx => by
    obtain ⟨l, hl, hx⟩ := List.mem_flatten.mp (fl.mem_iff.mpr (List.mem_range.mpr hx))
    obtain ⟨i, hi, e⟩ := List.getElem_of_mem hl
    exact ⟨i, hi, by rw [List.getD_eq_getElem?_getD, List.getElem?_eq_getElem hi, e]; exact hx⟩
  have fs : ∃ f : Nat → Nat, ∀ x, x < nP p → f x < L.length ∧ x ∈ L.getD (f x) [] := by
    refine ⟨fun x => if h : x < nP p then Classical.choose (wh x h) else 0, fun x hx => ?_⟩
    simp only [dif_pos hx]
    exact Classical.choose_spec (wh x hx)
  obtain ⟨f, hf⟩ := fs
  refine ⟨f, fun i hi => absurd hi (by simp), fun x hx => Nat.lt_of_lt_of_le (hf x hx).1 g.len, fun i => ?_, fun x y hx hy ne e => ?_⟩
  · by_cases c : i < L.length
    · have row : L.getD i [] ∈ L := by
        rw [List.getD_eq_getElem?_getD, List.getElem?_eq_getElem c]
        exact List.getElem_mem c
      have pe : (blk p f i).Perm (L.getD i []) := (List.perm_ext_iff_of_nodup (List.nodup_range.filter _) (nd_row nd)).mpr fun x => by
        rw [List.mem_filter, List.mem_range, decide_eq_true_eq]
        constructor
        · rintro ⟨h1, rfl⟩
          exact (hf x h1).2
        · intro h
          have hx := List.mem_range.mp (fl.mem_iff.mp (row_flat h))
          exact ⟨hx, at_one nd (hf x hx).2 h⟩
      rw [sum_perm p pe]
      exact g.sum _ row
    · have : blk p f i = [] := List.filter_eq_nil_iff.mpr fun x hx q => by
        have := (hf x (List.mem_range.mp hx)).1
        have := of_decide_eq_true q
        omega
      rw [this]
      exact r0
  · have row : L.getD (f x) [] ∈ L := by
      rw [List.getD_eq_getElem?_getD, List.getElem?_eq_getElem (hf x hx).1]
      exact List.getElem_mem _
    exact pair_sym (g.foe _ row) x (hf x hx).2 y (by rw [e]; exact (hf y hy).2) ne
/-! trees -/
inductive Tr where
  | weight
  | apart (row : List Nat)
  | load (a : Nat) (ts : List Tr)
def allW (p : Pb) : Int := (p.ls.map fun l => l.w).sum
def sN (l : List Nat) : List Nat := l.mergeSort fun a b => decide (a ≤ b)
theorem sN_perm (l : List Nat) : (sN l).Perm l := List.mergeSort_perm _ _
theorem sN_le (l : List Nat) : (sN l).Pairwise fun a b => a ≤ b := (List.pairwise_mergeSort (fun a b c h1 h2 => by
    have := of_decide_eq_true h1
    have := of_decide_eq_true h2
    exact decide_eq_true (by omega)) (fun a b => by
    rw [Bool.or_eq_true, decide_eq_true_eq, decide_eq_true_eq]
    omega) l).imp fun h => of_decide_eq_true h
theorem sN_lt {l : List Nat} (h : l.Nodup) : (sN l).Pairwise fun a b => a < b := by
  have nd : (sN l).Nodup := (sN_perm l).nodup_iff.mpr h
  exact ((sN_le l).and nd).imp fun h => by omega
theorem sN_id {l : List Nat} (h : l.Pairwise fun a b => a ≤ b) : sN l = l := List.mergeSort_of_pairwise (h.imp fun q => decide_eq_true q)
theorem lt_eq {l k : List Nat} (h1 : l.Pairwise fun a b => a < b) (h2 : k.Pairwise fun a b => a < b) (h : l.Perm k) : l = k :=
  h.eq_of_pairwise (le := fun a b : Nat => a < b) (fun a b _ _ q1 q2 => by omega) h1 h2
def apF (p : Pb) (us : List Nat) : List Nat := us.foldl (fun row a => if row.any (fun o => joinB p [o] a) = true then row else row ++ [a]) []
def prF (p : Pb) (m : Nat) : List Nat → List (List Nat) → Tr
  | [], _ => .weight
  | a :: us, lots =>
    if lots = [] ∧ m < (sN (apF p (a :: us))).length then .apart (sN (apF p (a :: us)))
    else if lots = [] ∧ (m : Int) * p.r < allW p then .weight
    else .load a ((spF p lots a m).map fun o => prF p m us (wlF lots o a))
def leftF (p : Pb) (lots : List (List Nat)) : List Nat := (List.range (nP p)).filter fun x => !decide (x ∈ lots.flatten)
def apB (p : Pb) (m : Nat) (lots : List (List Nat)) (row : List Nat) : Bool := !lots.isEmpty || (!decide (row.Pairwise fun a b => a < b) || (!(row.all fun x => decide (x ∈ leftF p lots)) || decide (row.length ≤ m)))
def twoB (p : Pb) (row : List Nat) : Bool := (List.range row.length).any fun i => (row.take i).any fun o => joinB p [o] (row.getD i 0)
abbrev Fl := Option (String × List (Nat × Nat))
def tfF (p : Pb) (m : Nat) : Nat → List (List Nat) → List (Nat × Nat) → Tr → Fl
  | 0, _, _, _ => none
  | _ + 1, lots, path, .weight => if lots = [] ∧ (m : Int) * p.r < allW p then none else some ("weight", path)
  | _ + 1, lots, path, .apart row => if apB p m lots row = true then some ("apart", path) else if twoB p row = true then some ("apart", path) else none
  | f + 1, lots, path, .load a ts => if a ∈ leftF p lots then (if ts.length = (spF p lots a m).length then
      (List.range ts.length).findSome? fun i => tfF p m f (wlF lots ((spF p lots a m).getD i 0) a) (path ++ [(a, (spF p lots a m).getD i 0)]) (ts.getD i .weight)
      else some ("load", path)) else some ("load", path)
theorem join_sym (p : Pb) (a b : Nat) : joinB p [a] b = joinB p [b] a := by
  unfold joinB wsum
  simp only [List.map_cons, List.map_nil, List.sum_cons, List.sum_nil, List.any_cons, List.any_nil, Bool.or_false]
  rw [foe_sym p b a, show ((lAt p a).w + 0 + (lAt p b).w) = (lAt p b).w + 0 + (lAt p a).w by omega]
structure ApI (p : Pb) (us row : List Nat) : Prop where
  sub : ∀ x ∈ row, x ∈ us
  nd : row.Nodup
  no : row.Pairwise fun o a => joinB p [o] a = false
theorem ap_inv (p : Pb) : ∀ (vs : List Nat) (us row : List Nat), (us ++ vs).Nodup → ApI p us row → ApI p (us ++ vs) (vs.foldl (fun row a => if row.any (fun o => joinB p [o] a) = true then row else row ++ [a]) row)
  | [], us, row, _, h => by rw [List.append_nil]; exact h
  | a :: vs, us, row, nd, h => by
    have e : us ++ a :: vs = (us ++ [a]) ++ vs := by simp
    rw [e] at nd ⊢
    rw [List.foldl_cons]
    refine ap_inv p vs (us ++ [a]) _ nd ?_
    have na : a ∉ us := fun q => by
      have := (List.nodup_append.mp (List.nodup_append.mp nd).1).2.2 a q a (by simp)
      exact this rfl
    by_cases q : row.any (fun o => joinB p [o] a) = true
    · rw [if_pos q]
      exact ⟨fun x hx => List.mem_append_left _ (h.sub x hx), h.nd, h.no⟩
    · rw [if_neg q]
      rw [Bool.not_eq_true, List.any_eq_false] at q
      refine ⟨fun x hx => ?_, List.nodup_append.mpr ⟨h.nd, by simp, fun x hx y hy e => ?_⟩, List.pairwise_append.mpr ⟨h.no, by simp, fun x hx y hy => ?_⟩⟩
      · rcases List.mem_append.mp hx with z | z
        · exact List.mem_append_left _ (h.sub x z)
        · exact List.mem_append_right _ z
      · rw [List.mem_singleton] at hy
        exact na (by rw [← hy, ← e]; exact h.sub x hx)
      · rw [List.mem_singleton.mp hy]
        have := q x hx
        simpa using this
theorem ap_ok {p : Pb} {us : List Nat} (nd : us.Nodup) : ApI p us (apF p us) := by
  have := ap_inv p us [] [] (by rw [List.nil_append]; exact nd) ⟨by simp, by simp, by simp⟩
  rw [List.nil_append] at this
  exact this
theorem pair_any {α : Type} {R : α → α → Prop} (sym : ∀ a b, R a b → R b a) : ∀ {l : List α}, l.Pairwise R → ∀ x ∈ l, ∀ y ∈ l, x ≠ y → R x y
  | [], _, x, h, _, _, _ => by cases h
  | a :: l, pw, x, hx, y, hy, ne => by
    obtain ⟨h1, h2⟩ := List.pairwise_cons.mp pw
    rcases List.mem_cons.mp hx with e | hx2
    · rcases List.mem_cons.mp hy with e2 | hy2
      · exact absurd (e.trans e2.symm) ne
      · rw [e]; exact h1 y hy2
    · rcases List.mem_cons.mp hy with e2 | hy2
      · rw [e2]; exact sym _ _ (h1 x hx2)
      · exact pair_any sym h2 x hx2 y hy2 ne
theorem no_two {p : Pb} {row : List Nat} (nd : row.Nodup) (h : ∀ x ∈ row, ∀ y ∈ row, x ≠ y → joinB p [x] y = false) : twoB p row = false := by
  unfold twoB
  rw [List.any_eq_false]
  intro i hi
  have hi := List.mem_range.mp hi
  rw [Bool.not_eq_true, List.any_eq_false]
  intro o ho
  have m1 : row.getD i 0 ∈ row := by
    rw [List.getD_eq_getElem?_getD, List.getElem?_eq_getElem hi]
    exact List.getElem_mem hi
  rw [h o (List.mem_of_mem_take ho) _ m1 ?_]
  · decide
  · intro e
    have sp : row = row.take i ++ row.drop i := (List.take_append_drop i row).symm
    rw [sp] at nd
    have m2 : row.getD i 0 ∈ row.drop i := by
      rw [List.getD_eq_getElem?_getD, List.getElem?_eq_getElem hi, List.drop_eq_getElem_cons hi]
      exact List.mem_cons_self
    exact (List.nodup_append.mp nd).2.2 o ho _ m2 e
theorem left_nil (p : Pb) : leftF p [] = List.range (nP p) := by
  unfold leftF
  exact List.filter_eq_self.mpr fun x _ => by simp
theorem pr_ok {p : Pb} {m : Nat} : ∀ (us : List Nat) (lots : List (List Nat)) (f : Nat) (path : List (Nat × Nat)), us.length < f → Rest p lots us → putF p m us lots = none → tfF p m f lots path (prF p m us lots) = none
  | [], lots, f, path, _, _, e => by cases e
  | a :: us, lots, 0, path, hf, _, _ => by cases hf
  | a :: us, lots, f + 1, path, hf, r, e => by
    unfold prF
    by_cases c1 : lots = [] ∧ m < (sN (apF p (a :: us))).length
    · rw [if_pos c1]
      obtain ⟨rfl, c2⟩ := c1
      have pe : (a :: us).Perm (List.range (nP p)) := r
      have A := ap_ok (p := p) (us := a :: us) (pe.nodup_iff.mpr List.nodup_range)
      have P := sN_perm (apF p (a :: us))
      have lt := sN_lt A.nd
      have nd : (sN (apF p (a :: us))).Nodup := P.nodup_iff.mpr A.nd
      have a1 : apB p m [] (sN (apF p (a :: us))) = false := by
        unfold apB
        rw [decide_eq_true lt, decide_eq_false (by omega : ¬ (sN (apF p (a :: us))).length ≤ m), left_nil, List.all_eq_true.mpr fun x hx => decide_eq_true (pe.mem_iff.mp (A.sub x (P.mem_iff.mp hx)))]
        rfl
      have a2 : twoB p (sN (apF p (a :: us))) = false := no_two nd fun x hx y hy ne => pair_any (R := fun o b => joinB p [o] b = false) (fun o b h => by rw [join_sym]; exact h) A.no x (P.mem_iff.mp hx) y (P.mem_iff.mp hy) ne
      unfold tfF
      rw [a1, if_neg (by decide), a2, if_neg (by decide)]
    · rw [if_neg c1]
      by_cases c2 : lots = [] ∧ (m : Int) * p.r < allW p
      · rw [if_pos c2]
        unfold tfF
        rw [if_pos c2]
      · rw [if_neg c2]
        obtain ⟨ha, hn⟩ := r.hd
        unfold tfF
        have hl : a ∈ leftF p lots := List.mem_filter.mpr ⟨List.mem_range.mpr ha, by rw [decide_eq_false hn]; rfl⟩
        rw [if_pos hl, List.length_map, if_pos rfl, List.findSome?_eq_none_iff]
        intro i hi
        have hi := List.mem_range.mp hi
        have hm : (spF p lots a m).getD i 0 ∈ spF p lots a m := by
          rw [List.getD_eq_getElem?_getD, List.getElem?_eq_getElem hi]
          exact List.getElem_mem hi
        have et : ((spF p lots a m).map fun o => prF p m us (wlF lots o a)).getD i .weight = prF p m us (wlF lots ((spF p lots a m).getD i 0) a) := by
          rw [List.getD_eq_getElem?_getD, List.getElem?_map, List.getD_eq_getElem?_getD, List.getElem?_eq_getElem hi]
          rfl
        rw [et]
        refine pr_ok us _ f _ (by simpa using hf) (r.wl (sp_le hm)) ?_
        exact List.findSome?_eq_none_iff.mp e _ hm
/-! the fewest rooms -/
structure Lst (p : Pb) (us : List Nat) (m : Nat) : Prop where
  some : (putF p m us []).isSome = true
  no : ∀ j, j < m → putF p j us [] = none
theorem sol_self {p : Pb} (hw : ∀ i, i < nP p → (lAt p i).w ≤ p.r) (r0 : 0 ≤ p.r) : Sol p (nP p) [] fun x => x := by
  refine ⟨fun i hi => absurd hi (by simp), fun x hx => hx, fun i => ?_, fun x y _ _ ne e => absurd e ne⟩
  by_cases c : i < nP p
  · have pe : (blk p (fun x => x) i).Perm [i] := (List.perm_ext_iff_of_nodup (List.nodup_range.filter _) (by simp)).mpr fun x => by
      rw [List.mem_filter, List.mem_range, decide_eq_true_eq, List.mem_singleton]
      exact ⟨fun h => h.2, fun h => ⟨by omega, h⟩⟩
    rw [sum_perm p pe]
    have := hw i c
    unfold wsum
    simp
    exact this
  · have : blk p (fun x => x) i = [] := List.filter_eq_nil_iff.mpr fun x hx q => by
      have := List.mem_range.mp hx
      have e : x = i := of_decide_eq_true q
      omega
    rw [this]
    exact r0
theorem rest0 {p : Pb} {us : List Nat} (h : us.Perm (List.range (nP p))) : Rest p [] us := h
theorem good0 (p : Pb) (m : Nat) : Good p m [] := ⟨by simp, by simp, by simp, by simp⟩
theorem lst_ex {p : Pb} (ok : Ok p) (hw : ∀ i, i < nP p → (lAt p i).w ≤ p.r) (r0 : 0 ≤ p.r) {us : List Nat} (h : us.Perm (List.range (nP p))) : ∃ m, m ≤ nP p ∧ Lst p us m := by
  have top := put_some ok (sol_self hw r0) (rest0 h)
  have : ∀ k, k ≤ nP p → (∃ m, m ≤ nP p ∧ Lst p us m) ∨ ∀ j, j < k → putF p j us [] = none := by
    intro k
    induction k with
    | zero => exact fun _ => .inr fun j hj => absurd hj (by omega)
    | succ k ih =>
      intro hk
      rcases ih (by omega) with q | q
      · exact .inl q
      · cases e : putF p k us [] with
        | some L => exact .inl ⟨k, by omega, by rw [e]; rfl, q⟩
        | none =>
          refine .inr fun j hj => ?_
          by_cases z : j = k
          · rw [z]; exact e
          · exact q j (by omega)
  rcases this (nP p) (Nat.le_refl _) with q | q
  · exact q
  · exact ⟨nP p, Nat.le_refl _, top, q⟩
theorem lst_un {p : Pb} {us : List Nat} {m j : Nat} (h : Lst p us m) (k : (putF p j us []).isSome = true) (n : ∀ i, i < j → putF p i us [] = none) : m = j := by
  rcases Nat.lt_trichotomy m j with q | q | q
  · have := n m q
    have := h.some
    simp [*] at this
  · exact q
  · have := h.no j q
    simp [this] at k
/-- no fewer rooms do -/
theorem no_sol {p : Pb} (ok : Ok p) {us : List Nat} (h : us.Perm (List.range (nP p))) {m j : Nat} (l : Lst p us m) (hj : j < m) : ¬ ∃ f, Sol p j [] f := fun ⟨f, s⟩ => by
  have := put_some ok s (rest0 h)
  rw [l.no j hj] at this
  cases this
theorem way_len {p : Pb} (ok : Ok p) (r0 : 0 ≤ p.r) {us : List Nat} (h : us.Perm (List.range (nP p))) {m : Nat} (l : Lst p us m) {L : List (List Nat)} (g : Good p m L) (fl : L.flatten.Perm (List.range (nP p))) : L.length = m := by
  rcases Nat.lt_or_ge L.length m with q | q
  · exact absurd (good_sol r0 (m := L.length) ⟨Nat.le_refl _, g.ne, g.sum, g.foe⟩ fl h) (no_sol ok h l q)
  · have := g.len
    omega
theorem ways_lst {p : Pb} (ok : Ok p) (hw : ∀ i, i < nP p → (lAt p i).w ≤ p.r) (r0 : 0 ≤ p.r) {us : List Nat} (h : us.Perm (List.range (nP p))) {m : Nat} (l : Lst p us m) : waysF p m (List.range (nP p)) [] ≠ [] ∧ ∀ j, j < m → waysF p j (List.range (nP p)) [] = [] := by
  have rr : Rest p [] (List.range (nP p)) := List.Perm.refl _
  constructor
  · obtain ⟨L, e⟩ := Option.isSome_iff_exists.mp l.some
    obtain ⟨g, fl⟩ := put_good hw (good0 p m) (rest0 h) e
    obtain ⟨f, s⟩ := good_sol r0 g fl h
    exact ways_some ok s rr
  · intro j hj
    cases e : waysF p j (List.range (nP p)) [] with
    | nil => rfl
    | cons L Ls =>
      obtain ⟨g, fl⟩ := ways_good hw (good0 p j) rr (show L ∈ waysF p j (List.range (nP p)) [] by rw [e]; simp)
      exact absurd (good_sol r0 g fl h) (no_sol ok h l hj)
theorem left_ne {p : Pb} (r0 : 0 ≤ p.r) {m : Nat} {lots : List (List Nat)} (g : Good p m lots) (pt : Pt p lots) (no : ¬ ∃ f, Sol p m [] f) : leftF p lots ≠ [] := fun e => by
  refine no (good_sol r0 g ?_ (List.Perm.refl _))
  refine (List.perm_ext_iff_of_nodup pt.nd List.nodup_range).mpr fun x => ⟨fun h => List.mem_range.mpr (pt.lt x h), fun h => ?_⟩
  refine Classical.byContradiction fun w => ?_
  have : x ∈ leftF p lots := List.mem_filter.mpr ⟨h, by simpa using w⟩
  rw [e] at this
  cases this
theorem left_wl {p : Pb} {lots : List (List Nat)} {o a : Nat} (ho : o ≤ lots.length) (ha : a ∈ leftF p lots) : (leftF p (wlF lots o a)).length < (leftF p lots).length := by
  have e : leftF p (wlF lots o a) = (leftF p lots).filter fun x => decide (x ≠ a) := by
    unfold leftF
    rw [List.filter_filter]
    refine List.filter_congr fun x _ => ?_
    have := (wl_flat (a := a) ho).mem_iff (a := x)
    rw [show decide (x ∈ (wlF lots o a).flatten) = decide (x ∈ a :: lots.flatten) from decide_eq_decide.mpr this]
    by_cases q : x = a
    · subst q
      rw [decide_eq_true (List.mem_cons_self), decide_eq_false (p := x ≠ x) (fun h => h rfl)]
      rfl
    · rw [decide_eq_true (p := x ≠ a) q, Bool.true_and]
      refine congrArg _ (decide_eq_decide.mpr ?_)
      rw [List.mem_cons]
      exact ⟨fun h => h.resolve_left q, .inr⟩
  rw [e]
  have : ∀ l : List Nat, a ∈ l → (l.filter fun x => decide (x ≠ a)).length < l.length := by
    intro l
    induction l with
    | nil => intro h; cases h
    | cons x l ih =>
      intro h
      by_cases q : x = a
      · rw [List.filter_cons_of_neg (by simp [q])]
        have := List.length_filter_le (fun x => decide (x ≠ a)) l
        simp only [List.length_cons]
        omega
      · rw [List.filter_cons_of_pos (by simp [q])]
        have := ih (by rcases List.mem_cons.mp h with z | z; exact absurd z.symm q; exact z)
        simp only [List.length_cons]
        omega
  exact this _ ha
end Law_k64
namespace Law_k64
open PySem L2 Pu
local macro_rules | `(tactic| walk_at "e") => `(tactic| first
  | ((with_reducible refine nx_seq ?_); (try dsimp only [List.set_cons_succ, List.set_cons_zero]))
  | ((with_reducible refine ex_vr ?_); dsimp only [VQ, List.set_cons_succ, List.set_cons_zero, List.getElem?_cons_zero, List.getElem?_cons_succ]; (fail_if_success (with_reducible show False)))
  | (with_reducible refine sx_seq ?_)
  | (with_reducible refine sx_if ?_)
  | (with_reducible refine sx_next ?_)
  | (with_reducible refine sx_ret ?_)
  | ((fail_if_success (with_reducible refine sx_asgO (eo_lst ?_))); (with_reducible refine sx_asg ?_))
  | (with_reducible refine ex_int ?_)
  | (with_reducible refine ex_str ?_)
  | (with_reducible refine ex_bl ?_)
  | (with_reducible refine ex_non ?_)
  | (with_reducible refine ex_op ?_)
  | (with_reducible refine ex_un ?_)
  | (with_reducible refine ex_chain ?_)
  | (with_reducible refine ex_call ?_)
  | (with_reducible refine ex_isT ?_)
  | (with_reducible refine ex_cb ?_)
  | (with_reducible refine ex_sl ?_)
  | (with_reducible refine ex_tup ?_)
  | (with_reducible refine ex_if ?_)
  | (with_reducible refine ex_of (eo_lst ?_))
  | (with_reducible refine ex_notV ?_)
  | (with_reducible refine ea_nil ?_)
  | (with_reducible refine ea_cons ?_)
  | (with_reducible refine ep_no ?_)
  | (with_reducible refine ep_some ?_)
  | (with_reducible refine et_test ?_)
  | (with_reducible refine et_B ?_)
  | (with_reducible refine et_ch3 ?_)
  | (with_reducible refine et_and ?_)
  | (with_reducible refine et_or ?_)
  | (with_reducible refine et_not ?_)
  | (with_reducible refine et_yes ?_)
  | (with_reducible refine et_truL ?_)
  | (with_reducible refine opd_plusI ?_)
  | (with_reducible refine opd_I0 ?_)
  | (with_reducible refine opd_B0 ?_)
  | (with_reducible refine opd_eqI ?_)
  | (with_reducible refine opd_neI ?_)
  | (with_reducible refine opd_eqS ?_)
  | (with_reducible refine opd_neS ?_)
  | (with_reducible refine opd_is ?_)
  | (with_reducible refine opd_isnt ?_)
  | (with_reducible refine opd_ixT rfl ?_)
  | (with_reducible refine opd_ixL rfl ?_)
  | (with_reducible refine und_neg ?_)
  | (with_reducible refine cbd_lenL ?_)
  | (with_reducible refine cbd_lenT ?_)
  | (with_reducible refine cbd_min2 ?_)
  | (with_reducible refine cbd_max2 ?_)
  | (with_reducible refine cbd_abs ?_)
  | (with_reducible refine cbd_int ?_)
  | (with_reducible refine cbd_tupL ?_)
  | (with_reducible refine cbd_listL ?_)
  | (with_reducible refine cbd_listT ?_)
  | (with_reducible refine cbd_sum ?_)
  | (with_reducible refine sld_T ?_)
  | (with_reducible refine sld_L ?_)
  | (with_reducible refine ex_revL ?_)
  | (with_reducible refine ex_bmL ?_)
  | (with_reducible refine ex_andV ?_)
  | (with_reducible refine ei_list ?_)
  | (with_reducible refine ei_rng1 ?_)
  | (with_reducible refine ei_rng2 ?_)
  | (with_reducible refine ei_enum ?_)
  | (with_reducible refine ei_enumT ?_)
  | (with_reducible refine ei_zip ?_)
  | (with_reducible refine sx_par ?_)
  | (with_reducible refine Exists.intro _ (And.intro rfl ?_))
  | (with_reducible refine Exists.intro _ (Exists.intro _ (And.intro rfl ?_)))
  | ((with_reducible show EX (tCall (spS _) [] _ (tCons (tVar _) _)) _ _); refine ex_callS rfl ?_)
  | ((with_reducible refine And.intro (show (_ : Nat) ≤ 100000 from ?_) ?_); (focus (simp; done)))
  | ((with_reducible refine opd_I ?_ ?_); focus (first | omega | (show CDiv _ _; exact ⟨by omega, by omega⟩) | (show CMul _ _; first | exact Or.inl ⟨by omega, by omega⟩ | exact Or.inr ⟨by omega, by omega⟩))))
local macro_rules | `(tactic| walk_at "es") => `(tactic| repeat walk_at "e")
local macro_rules | `(tactic| walk_at "w") => `(tactic| try dsimp only [wipeE, List.foldl_cons, List.foldl_nil, List.set_cons_succ, List.set_cons_zero])
local macro_rules | `(tactic| walk_at "le") => `(tactic| repeat' first | exact LeE.nil | (refine LeE.eq rfl ?_) | (refine LeE.emp ?_) | (refine LeE.eq ?_ ?_))
local macro_rules | `(tactic| walk_at "no") => `(tactic| ((refine And.intro (fun hb => absurd hb ?_) (fun _ => ?_)); (focus (first | (exact Bool.false_ne_true) | (simp; done) | (simp; omega) | (simp only [decide_eq_true_eq]; omega)))))
local macro_rules | `(tactic| walk_at "yes") => `(tactic| ((refine And.intro (fun _ => ?_) (fun hb => absurd hb ?_)); (rotate_left); (focus (first | (exact Bool.noConfusion) | (simp; done) | (simp; omega) | (simp only [decide_eq_false_iff_not]; omega)))))
local macro_rules | `(tactic| walk_at "ei") => `(tactic| repeat ((fail_if_success (with_reducible show SX (tSeq (tIfS _ _ _) _) _ _)); (fail_if_success (with_reducible show SX (tIfS _ _ _) _ _)); (fail_if_success (with_reducible show SX (tSeq (tAsg (tIf _ _ _) _) _) _ _)); walk_at "e"))
local macro_rules | `(tactic| walk_at "tv") => `(tactic| repeat' first | walk_at "e" | ((with_reducible show (_ = true → _) ∧ (_ = false → _)); refine And.intro (fun _ => ?_) (fun _ => ?_)))
theorem filt_all {α : Type} (xs : List α) : (xs.filter fun _ => true) = xs := List.filter_eq_self.mpr fun _ _ => rfl
def nI (K : List Nat) : List Int := K.map fun k : Nat => (k : Int)
def natsD (r : List Nat) : D := .list (r.map fun k : Nat => .int (k : Int))
theorem natsD_eq (r : List Nat) : natsD r = .list ((nI r).map .int) := by
  unfold natsD nI
  rw [List.map_map]
  rfl
theorem nI_inj {a b : List Nat} (h : nI a = nI b) : a = b := by
  have := congrArg (List.map Int.toNat) h
  unfold nI at this
  rw [List.map_map, List.map_map] at this
  have e : ∀ l : List Nat, l.map (Int.toNat ∘ fun k : Nat => (k : Int)) = l := fun l => (List.map_congr_left fun k _ => by simp).trans (List.map_id _)
  rw [e, e] at this
  exact this
theorem eqv_intsL : ∀ (xs ys : List Int), PyData.eqvAll (xs.map PyData.int) (ys.map PyData.int) = decide (xs = ys)
  | [], [] => rfl
  | [], _ :: _ => rfl
  | _ :: _, [] => rfl
  | x :: xs, y :: ys => by
    rw [List.map_cons, List.map_cons, PyData.eqvAll, eqv_intsL xs ys]
    have e : PyData.eqv (.int x) (.int y) = decide (x = y) := by
      simp only [PyData.eqv]
      by_cases h : x = y <;> simp [h]
    rw [e]
    by_cases h1 : x = y <;> by_cases h2 : xs = ys <;> simp [h1, h2]
theorem ints_deep (xs : List Int) : (PyData.list (xs.map PyData.int)).depth ≤ 60 := by
  have h : DpN 2 (PyData.list (xs.map PyData.int)) := dpn_list (dpn_map fun x _ => dpn_int)
  exact Nat.le_trans h (by decide)
theorem eqv_nats (a b : List Nat) : PyData.eqv (natsD a) (natsD b) = decide (a = b) := by
  rw [natsD_eq, natsD_eq]
  have e : PyData.eqv (.list ((nI a).map PyData.int)) (.list ((nI b).map PyData.int)) = decide (nI a = nI b) := eqv_intsL _ _
  rw [e]
  by_cases h : a = b
  · rw [h]; simp
  · rw [decide_eq_false h, decide_eq_false fun q => h (nI_inj q)]
theorem any_lots (Ls : List (List Nat)) (l : List Nat) : ((Ls.map natsD).any fun y => PyData.eqv y (natsD l)) = decide (l ∈ Ls) := by
  induction Ls with
  | nil => rfl
  | cons k Ls ih =>
    rw [List.map_cons, List.any_cons, ih, eqv_nats]
    by_cases h : k = l
    · subst h; simp
    · have : ¬ l = k := fun e => h e.symm
      by_cases h2 : l ∈ Ls <;> simp [h, h2, this]
theorem any_nats (r : List Nat) (a : Nat) : ((r.map fun k : Nat => PyData.int (k : Int)).any fun y => PyData.eqv y (.int (a : Int))) = decide (a ∈ r) := by
  induction r with
  | nil => rfl
  | cons k r ih =>
    rw [List.map_cons, List.any_cons, ih]
    have e : PyData.eqv (.int (k : Int)) (.int (a : Int)) = decide (a = k) := by
      simp only [PyData.eqv]
      by_cases h : a = k
      · rw [decide_eq_true h]; simp [h]
      · rw [decide_eq_false h]
        simp
        omega
    rw [e]
    by_cases h : a = k <;> by_cases h2 : a ∈ r <;> simp [h, h2]
theorem rng_nats (f : Nat → Bool) (n : Nat) : (((rngI 0 n).filter fun k => f k.toNat).map fun k => PyData.int k) = ((List.range n).filter f).map fun k : Nat => PyData.int (k : Int) := by
  unfold rngI
  rw [List.filter_map, List.map_map]
  refine (List.map_congr_left fun k _ => ?_).trans (congrArg _ (List.filter_congr fun k _ => ?_))
  · simp only [Function.comp, Int.zero_add]
  · simp only [Function.comp, Int.zero_add, Int.toNat_natCast]
/-! ### how far -/
def sortI (xs : List Int) : List Int := xs.mergeSort fun a b => decide (a ≤ b)
theorem sortI_perm (xs : List Int) : (sortI xs).Perm xs := List.mergeSort_perm _ _
theorem sortD_I (xs : List Int) : sortD (xs.map PyData.int) = (sortI xs).map .int := by
  have e := PySem.W.sort_maps (r := fun a b : Int => decide (a ≤ b)) (s := PySem.W.dataLe false id) PyData.int (l := xs) (fun a _ b _ => by
    show decide (a ≤ b) = (!PySem.W.dataLt (.int b) (.int a))
    rw [PySem.W.dataLt_int]
    by_cases h : a ≤ b
    · rw [decide_eq_true h, decide_eq_false (by omega)]; rfl
    · rw [decide_eq_false h, decide_eq_true (by omega)]; rfl)
  exact e.symm
theorem cbd_sortI {K : PySem.W.Frag} {xs : List Int} {Q : D → Prop} (k : Q (.list ((sortI xs).map .int))) : CbD (rSrD K) [.list (xs.map .int)] Q := cbd_sortD (fun x hx y hy => by
    obtain ⟨a, _, rfl⟩ := List.mem_map.mp hx
    obtain ⟨b, _, rfl⟩ := List.mem_map.mp hy
    rfl) (.inr fun x hx => by
    obtain ⟨a, _, rfl⟩ := List.mem_map.mp hx
    exact ⟨by simp, by simp⟩) (depthAll_le (n := 1) (dpn_map fun x _ => dpn_int) |> fun h => Nat.le_trans h (by decide)) (by rw [sortD_I]; exact k)
theorem sort_asc {xs ys : List Int} (h : xs.Perm ys) (hs : ys.Pairwise (· < ·)) : sortI xs = ys := by
  have pw : (sortI xs).Pairwise fun a b => decide (a ≤ b) = true := List.pairwise_mergeSort (fun a b c h1 h2 => by
    have := of_decide_eq_true h1
    have := of_decide_eq_true h2
    exact decide_eq_true (by omega)) (fun a b => by
    rw [Bool.or_eq_true, decide_eq_true_eq, decide_eq_true_eq]
    omega) xs
  have pr : ys.Pairwise fun a b => decide (a ≤ b) = true := hs.imp fun h => decide_eq_true (by omega)
  exact (((sortI_perm xs).trans h).eq_of_pairwise (le := fun a b : Int => decide (a ≤ b) = true) (fun a b _ _ h1 h2 => by
    have := of_decide_eq_true h1
    have := of_decide_eq_true h2
    omega) pw pr)
/-! ### sorted lots -/
def leN (a b : List Nat) : Bool := !PySem.W.dataLt (natsD b) (natsD a)
theorem sortD_N (xs : List (List Nat)) : sortD (xs.map natsD) = (xs.mergeSort leN).map natsD :=
  (PySem.W.sort_maps (r := leN) (s := PySem.W.dataLe false id) natsD (l := xs) (fun a _ b _ => rfl)).symm
theorem alike_intsN : ∀ xs ys : List Int, PySem.W.alikeAll (xs.map PyData.int) (ys.map PyData.int) = true
  | [], _ => by simp [PySem.W.alikeAll]
  | _ :: _, [] => by simp [PySem.W.alikeAll]
  | x :: xs, y :: ys => by simp [PySem.W.alikeAll, PySem.W.alike, alike_intsN xs ys]
theorem cbd_sortN {K : PySem.W.Frag} {xs : List (List Nat)} {Q : D → Prop} (k : Q (.list ((xs.mergeSort leN).map natsD))) : CbD (rSrD K) [.list (xs.map natsD)] Q := cbd_sortD (fun x hx y hy => by
    obtain ⟨a, _, rfl⟩ := List.mem_map.mp hx
    obtain ⟨b, _, rfl⟩ := List.mem_map.mp hy
    rw [natsD_eq, natsD_eq]
    show PySem.W.alike (.list ((nI a).map .int)) (.list ((nI b).map .int)) = true
    simp only [PySem.W.alike]
    exact alike_intsN _ _) (.inr fun x hx => by
    obtain ⟨a, _, rfl⟩ := List.mem_map.mp hx
    exact ⟨by simp [natsD], by simp [natsD]⟩) (Nat.le_trans (depthAll_le (n := 2) (dpn_map fun x _ => by rw [natsD_eq]; exact dpn_list (n := 1) (dpn_map fun y _ => dpn_int))) (by decide)) (by rw [sortD_N]; exact k)

/-! ### problems as data -/
def encL (l : Ld) : D := .tuple [.int l.k, .int l.w]
def lsD (p : Pb) : D := .list (p.ls.map encL)
def fsD (p : Pb) : D := .list (p.fs.map encP)
/-- sizes -/
structure Sz (p : Pb) : Prop where
  n : p.ls.length ≤ 8
  w : ∀ l ∈ p.ls, 0 ≤ l.w ∧ l.w ≤ 100
  k : ∀ l ∈ p.ls, 0 ≤ l.k ∧ l.k ≤ 100
  f : p.fs.length ≤ 100
  r : 0 ≤ p.r ∧ p.r ≤ 1000
theorem Sz.np {p : Pb} (h : Sz p) : nP p ≤ 8 := h.n
theorem lAt_mem {p : Pb} {i : Nat} (h : i < nP p) : lAt p i ∈ p.ls := by
  unfold lAt nP at *
  rw [List.getD_eq_getElem?_getD, List.getElem?_eq_getElem h]
  exact List.getElem_mem h
theorem Sz.ok {p : Pb} (h : Sz p) : Ok p := ⟨fun i => by
  by_cases q : i < nP p
  · exact (h.w _ (lAt_mem q)).1
  · unfold lAt
    rw [List.getD_eq_getElem?_getD, List.getElem?_eq_none (by unfold nP at q; omega)]
    exact Int.le_refl _⟩
theorem lAt_D {p : Pb} {k : Nat} (h : k < nP p) : atI (p.ls.map encL) (k : Int) = some (encL (lAt p k)) := by
  unfold nP at h
  rw [atI_map l0 (by omega) (by omega), Int.toNat_natCast]; rfl
def LotOk (p : Pb) (lot : List Nat) : Prop := lot.length ≤ 50 ∧ ∀ x ∈ lot, x < nP p
/-! ### foes -/
def R_fp : List D → (D → Prop) → Prop := fun vs Z => ∃ (p : Pb) (a b : Int), vs = [fsD p, .int a, .int b] ∧ Z (.bool (decide (pairF a b ∈ p.fs)))
theorem sx_foe_pair (K : PySem.W.Frag) (vs : List D) (Z : D → Prop) (h : R_fp vs Z) : SX (T_foe_pair K) (startE N_foe_pair vs) { nx := fun _ => Z .none, rt := fun d _ => Z d } := by
  obtain ⟨p, a, b, rfl, z⟩ := h
  show SX (T_foe_pair K) [.val (.list (p.fs.map encP)), .val (.int a), .val (.int b)] _
  unfold T_foe_pair
  walk_at "es"
  refine opd_inL (Nat.le_trans (Nat.min_le_right _ _) (by simp [PyData.depth, PyData.depthAll])) ?_
  rw [show (PyData.tuple [.int (min a b), .int (max a b)]) = encP (pairF a b) from rfl, any_encP]
  exact z
/-! ### may one join -/
def R_mj : List D → (D → Prop) → Prop := fun vs Z => ∃ (p : Pb) (lot : List Nat) (a : Nat), vs = [lsD p, fsD p, .int p.r, natsD lot, .int (a : Int)] ∧ Sz p ∧ LotOk p lot ∧ a < nP p ∧ Z (.bool (joinB p lot a))
theorem wsum_D (p : Pb) (lot : List Nat) : ((lot.filter fun _ => true).map fun o => PyData.int (lAt p o).w) = (lot.map fun o => (lAt p o).w).map .int := by rw [filt_all, List.map_map]; rfl
theorem foes_D (p : Pb) (lot : List Nat) (a : Nat) : ((lot.filter fun _ => true).map fun o => PyData.bool (foeB p o a)) = (lot.map fun o => foeB p o a).map .bool := by rw [filt_all, List.map_map]; rfl
theorem any_mapB {α : Type} (f : α → Bool) : ∀ l : List α, (l.map f).any id = l.any f
  | [] => rfl
  | s :: l => by rw [List.map_cons, List.any_cons, List.any_cons, any_mapB f l]; rfl
theorem sx_may_join (K : PySem.W.Frag) (vs : List D) (Z : D → Prop) (h : R_mj vs Z) : SX (T_may_join K R_fp) (startE N_may_join vs) { nx := fun _ => Z .none, rt := fun d _ => Z d } := by
  obtain ⟨p, lot, a, rfl, sz, ⟨ll, lk⟩, ha, z⟩ := h
  show SX (T_may_join K R_fp) [.val (.list (p.ls.map encL)), .val (fsD p), .val (.int p.r), .val (natsD lot), .val (.int (a : Int)), .emp] _
  unfold T_may_join natsD
  have da := lAt_D ha
  unfold encL at da
  refine sx_seq (sx_if (et_val (decide (p.r < wsum p lot + (lAt p a).w)) ?_ ?_))
  · walk_at "es"
    refine ex_of (eo_lcP (α := Nat) (fun _ => true) (fun o => .int (lAt p o).w) (ei_list ?_))
    walk_at "es"
    refine ⟨by omega, fun i hi => by simp at hi; subst hi; rfl, fun o ho => sg_name (by simp) ⟨rfl, ?_⟩, ?_⟩
    · have d := lAt_D (lk o ho)
      unfold encL at d
      generalize lAt p o = q at d
      walk_at "w"
      refine et_yes ⟨rfl, rfl, fun _ => ?_⟩
      walk_at "es"
      refine opd_ixL d ?_
      walk_at "es"
      exact ⟨rfl, rfl⟩
    rw [wsum_D]
    walk_at "es"
    refine opd_ixL da ?_
    walk_at "es"
    exact ⟨rfl, rfl⟩
  unfold joinB at z
  refine ⟨fun hb => ?_, fun hb => sx_next (nx_seq ?_)⟩
  · rw [hb] at z
    walk_at "es"
    exact z
  rw [hb] at z
  walk_at "es"
  refine ex_of (eo_lcP (α := Nat) (fun _ => true) (fun o => .bool (foeB p o a)) (ei_list ?_))
  walk_at "es"
  refine ⟨by omega, fun i hi => by simp at hi; subst hi; rfl, fun o ho => sg_name (by simp) ⟨rfl, ?_⟩, ?_⟩
  · have d := lAt_D (lk o ho)
    have e : foeB p o a = decide (pairF (lAt p o).k (lAt p a).k ∈ p.fs) := rfl
    rw [e]
    unfold encL at d
    generalize lAt p o = q at d
    walk_at "w"
    refine et_yes ⟨rfl, rfl, fun _ => ?_⟩
    walk_at "es"
    refine opd_ixL d ?_
    walk_at "es"
    refine opd_ixL da ?_
    walk_at "es"
    exact ⟨p, q.k, (lAt p a).k, rfl, rfl, rfl⟩
  rw [foes_D]
  walk_at "es"
  refine cbd_any ?_
  refine ⟨_, rfl, ?_⟩
  rw [any_mapB]
  exact z
theorem sort_two (a b : Int) : sortI [a, b] = [min a b, max a b] := by
  rcases Int.le_total a b with h | h
  · rw [Int.min_eq_left h, Int.max_eq_right h]
    exact List.mergeSort_of_pairwise (by simp [h])
  · rw [Int.min_eq_right h, Int.max_eq_left h]
    by_cases e : a = b
    · subst e
      exact List.mergeSort_of_pairwise (by simp)
    · exact sort_asc (List.Perm.swap b a []) (by simp; omega)
theorem foe_cnt (p : Pb) (lot : List Nat) (a : Nat) : decide ((((lot.filter fun o => foeB p o a).map fun o : Nat => PyData.int (o : Int)).length : Int) = 0) = !(lot.any fun o => foeB p o a) := by
  rw [List.length_map]
  induction lot with
  | nil => rfl
  | cons o lot ih =>
    rw [List.any_cons]
    cases h : foeB p o a with
    | true => rw [List.filter_cons_of_pos (p := fun x => foeB p x a) h, List.length_cons, decide_eq_false (by omega)]; rfl
    | false => rw [List.filter_cons_of_neg (p := fun x => foeB p x a) (by simp [h]), ih, Bool.false_or]
theorem sx_l_join (K : PySem.W.Frag) (vs : List D) (Z : D → Prop) (h : R_mj vs Z) : SX (T_l_join K) (startE N_l_join vs) { nx := fun _ => Z .none, rt := fun d _ => Z d } := by
  obtain ⟨p, lot, a, rfl, sz, ⟨ll, lk⟩, ha, z⟩ := h
  show SX (T_l_join K) [.val (.list (p.ls.map encL)), .val (.list (p.fs.map encP)), .val (.int p.r), .val (natsD lot), .val (.int (a : Int)), .emp] _
  unfold T_l_join natsD
  have da := lAt_D ha
  unfold encL at da
  refine sx_seq (sx_if (et_val (decide (p.r < wsum p lot + (lAt p a).w)) ?_ ?_))
  · walk_at "es"
    refine ex_of (eo_lcP (α := Nat) (fun _ => true) (fun o => .int (lAt p o).w) (ei_list ?_))
    walk_at "es"
    refine ⟨by omega, fun i hi => by simp at hi; subst hi; rfl, fun o ho => sg_name (by simp) ⟨rfl, ?_⟩, ?_⟩
    · have d := lAt_D (lk o ho)
      unfold encL at d
      generalize lAt p o = q at d
      walk_at "w"
      refine et_yes ⟨rfl, rfl, fun _ => ?_⟩
      walk_at "es"
      refine opd_ixL d ?_
      walk_at "es"
      exact ⟨rfl, rfl⟩
    rw [wsum_D]
    walk_at "es"
    refine opd_ixL da ?_
    walk_at "es"
    exact ⟨rfl, rfl⟩
  unfold joinB at z
  refine ⟨fun hb => ?_, fun hb => sx_next (nx_seq ?_)⟩
  · rw [hb] at z
    walk_at "es"
    exact z
  rw [hb] at z
  walk_at "es"
  refine ex_of (eo_lcP (α := Nat) (fun o => foeB p o a) (fun o => .int (o : Int)) (ei_list ?_))
  walk_at "es"
  refine ⟨by omega, fun i hi => by simp at hi; subst hi; rfl, fun o ho => sg_name (by simp) ⟨rfl, ?_⟩, ?_⟩
  · have d := lAt_D (lk o ho)
    have e : foeB p o a = decide (pairF (lAt p o).k (lAt p a).k ∈ p.fs) := rfl
    rw [e]
    unfold encL at d
    generalize lAt p o = q at d
    walk_at "w"
    walk_at "es"
    refine opd_ixL d ?_
    walk_at "es"
    refine opd_ixL da ?_
    walk_at "es"
    refine cbd_sortI (xs := [q.k, (lAt p a).k]) ?_
    rw [sort_two]
    walk_at "es"
    refine opd_inL (Nat.le_trans (Nat.min_le_right _ _) (by simp [PyData.depth, PyData.depthAll])) ?_
    rw [show (PyData.tuple ([min q.k (lAt p a).k, max q.k (lAt p a).k].map .int)) = encP (pairF q.k (lAt p a).k) from rfl, any_encP]
    refine ⟨_, rfl, rfl, rfl, fun _ => ?_⟩
    walk_at "es"
    exact ⟨rfl, rfl⟩
  walk_at "es"
  rw [foe_cnt]
  exact z
end Law_k64
namespace Law_k64
open PySem L2 Pu
local macro_rules | `(tactic| walk_at "e") => `(tactic| first
  | ((with_reducible refine nx_seq ?_); (try dsimp only [List.set_cons_succ, List.set_cons_zero]))
  | ((with_reducible refine ex_vr ?_); dsimp only [VQ, List.set_cons_succ, List.set_cons_zero, List.getElem?_cons_zero, List.getElem?_cons_succ]; (fail_if_success (with_reducible show False)))
  | (with_reducible refine sx_seq ?_)
  | (with_reducible refine sx_if ?_)
  | (with_reducible refine sx_next ?_)
  | (with_reducible refine sx_ret ?_)
  | ((fail_if_success (with_reducible refine sx_asgO (eo_lst ?_))); (with_reducible refine sx_asg ?_))
  | (with_reducible refine ex_int ?_)
  | (with_reducible refine ex_str ?_)
  | (with_reducible refine ex_bl ?_)
  | (with_reducible refine ex_non ?_)
  | (with_reducible refine ex_op ?_)
  | (with_reducible refine ex_un ?_)
  | (with_reducible refine ex_chain ?_)
  | (with_reducible refine ex_call ?_)
  | (with_reducible refine ex_isT ?_)
  | (with_reducible refine ex_cb ?_)
  | (with_reducible refine ex_sl ?_)
  | (with_reducible refine ex_tup ?_)
  | (with_reducible refine ex_if ?_)
  | (with_reducible refine ex_of (eo_lst ?_))
  | (with_reducible refine ex_notV ?_)
  | (with_reducible refine ea_nil ?_)
  | (with_reducible refine ea_cons ?_)
  | (with_reducible refine ep_no ?_)
  | (with_reducible refine ep_some ?_)
  | (with_reducible refine et_test ?_)
  | (with_reducible refine et_B ?_)
  | (with_reducible refine et_ch3 ?_)
  | (with_reducible refine et_and ?_)
  | (with_reducible refine et_or ?_)
  | (with_reducible refine et_not ?_)
  | (with_reducible refine et_yes ?_)
  | (with_reducible refine et_truL ?_)
  | (with_reducible refine opd_plusI ?_)
  | (with_reducible refine opd_I0 ?_)
  | (with_reducible refine opd_B0 ?_)
  | (with_reducible refine opd_eqI ?_)
  | (with_reducible refine opd_neI ?_)
  | (with_reducible refine opd_eqS ?_)
  | (with_reducible refine opd_neS ?_)
  | (with_reducible refine opd_is ?_)
  | (with_reducible refine opd_isnt ?_)
  | (with_reducible refine opd_ixT rfl ?_)
  | (with_reducible refine opd_ixL rfl ?_)
  | (with_reducible refine und_neg ?_)
  | (with_reducible refine cbd_lenL ?_)
  | (with_reducible refine cbd_lenT ?_)
  | (with_reducible refine cbd_min2 ?_)
  | (with_reducible refine cbd_max2 ?_)
  | (with_reducible refine cbd_abs ?_)
  | (with_reducible refine cbd_int ?_)
  | (with_reducible refine cbd_tupL ?_)
  | (with_reducible refine cbd_listL ?_)
  | (with_reducible refine cbd_listT ?_)
  | (with_reducible refine cbd_sum ?_)
  | (with_reducible refine sld_T ?_)
  | (with_reducible refine sld_L ?_)
  | (with_reducible refine ex_revL ?_)
  | (with_reducible refine ex_bmL ?_)
  | (with_reducible refine ex_andV ?_)
  | (with_reducible refine ei_list ?_)
  | (with_reducible refine ei_rng1 ?_)
  | (with_reducible refine ei_rng2 ?_)
  | (with_reducible refine ei_enum ?_)
  | (with_reducible refine ei_enumT ?_)
  | (with_reducible refine ei_zip ?_)
  | (with_reducible refine sx_par ?_)
  | (with_reducible refine Exists.intro _ (And.intro rfl ?_))
  | (with_reducible refine Exists.intro _ (Exists.intro _ (And.intro rfl ?_)))
  | ((with_reducible show EX (tCall (spS _) [] _ (tCons (tVar _) _)) _ _); refine ex_callS rfl ?_)
  | ((with_reducible refine And.intro (show (_ : Nat) ≤ 100000 from ?_) ?_); (focus (simp; done)))
  | ((with_reducible refine opd_I ?_ ?_); focus (first | omega | (show CDiv _ _; exact ⟨by omega, by omega⟩) | (show CMul _ _; first | exact Or.inl ⟨by omega, by omega⟩ | exact Or.inr ⟨by omega, by omega⟩))))
local macro_rules | `(tactic| walk_at "es") => `(tactic| repeat walk_at "e")
local macro_rules | `(tactic| walk_at "w") => `(tactic| try dsimp only [wipeE, List.foldl_cons, List.foldl_nil, List.set_cons_succ, List.set_cons_zero])
local macro_rules | `(tactic| walk_at "le") => `(tactic| repeat' first | exact LeE.nil | (refine LeE.eq rfl ?_) | (refine LeE.emp ?_) | (refine LeE.eq ?_ ?_))
local macro_rules | `(tactic| walk_at "no") => `(tactic| ((refine And.intro (fun hb => absurd hb ?_) (fun _ => ?_)); (focus (first | (exact Bool.false_ne_true) | (simp; done) | (simp; omega) | (simp only [decide_eq_true_eq]; omega)))))
local macro_rules | `(tactic| walk_at "yes") => `(tactic| ((refine And.intro (fun _ => ?_) (fun hb => absurd hb ?_)); (rotate_left); (focus (first | (exact Bool.noConfusion) | (simp; done) | (simp; omega) | (simp only [decide_eq_false_iff_not]; omega)))))
local macro_rules | `(tactic| walk_at "ei") => `(tactic| repeat ((fail_if_success (with_reducible show SX (tSeq (tIfS _ _ _) _) _ _)); (fail_if_success (with_reducible show SX (tIfS _ _ _) _ _)); (fail_if_success (with_reducible show SX (tSeq (tAsg (tIf _ _ _) _) _) _ _)); walk_at "e"))
local macro_rules | `(tactic| walk_at "tv") => `(tactic| repeat' first | walk_at "e" | ((with_reducible show (_ = true → _) ∧ (_ = false → _)); refine And.intro (fun _ => ?_) (fun _ => ?_)))
/-! ### a load more -/
def LotsOk (p : Pb) (lots : List (List Nat)) : Prop := lots.length ≤ 20 ∧ ∀ l ∈ lots, LotOk p l
def lotsD (lots : List (List Nat)) : D := .list (lots.map natsD)
theorem lots_at {lots : List (List Nat)} {i : Nat} (h : i < lots.length) : atI (lots.map natsD) (i : Int) = some (natsD (lots.getD i [])) := by
  rw [atI_map [] (by omega) (by omega), Int.toNat_natCast]
theorem lot_row {p : Pb} {lots : List (List Nat)} (h : LotsOk p lots) {i : Nat} (hi : i < lots.length) : LotOk p (lots.getD i []) := by
  refine h.2 _ ?_
  rw [List.getD_eq_getElem?_getD, List.getElem?_eq_getElem hi]
  exact List.getElem_mem hi
def R_wl : List D → (D → Prop) → Prop := fun vs Z => ∃ (lots : List (List Nat)) (o a : Nat), vs = [lotsD lots, .int (o : Int), .int (a : Int)] ∧ lots.length ≤ 100 ∧ (∀ l ∈ lots, l.length ≤ 100) ∧ o ≤ lots.length ∧ Z (lotsD (wlF lots o a))
theorem set_cut {α : Type} (xs : List α) (o : Nat) (v : α) (h : o < xs.length) : xs.take o ++ [v] ++ xs.drop (o + 1) = xs.set o v := by
  rw [List.set_eq_take_append_cons_drop, if_pos h]
  simp
theorem sx_with_load (K : PySem.W.Frag) (vs : List D) (Z : D → Prop) (h : R_wl vs Z) : SX (T_with_load K) (startE N_with_load vs) { nx := fun _ => Z .none, rt := fun d _ => Z d } := by
  obtain ⟨lots, o, a, rfl, l1, l2, ho, z⟩ := h
  show SX (T_with_load K) [.val (.list (lots.map natsD)), .val (.int (o : Int)), .val (.int (a : Int))] _
  unfold T_with_load
  unfold wlF lotsD at z
  refine sx_seq (sx_if (et_val (decide (o = lots.length)) ?_ ?_))
  · walk_at "es"
    rw [List.length_map]
    exact ⟨decide_eq_decide.mpr (by omega), rfl⟩
  refine ⟨fun hb => ?_, fun hb => sx_next (nx_seq ?_)⟩
  · have hb := of_decide_eq_true hb
    rw [if_pos hb, List.map_append] at z
    walk_at "es"
    refine opd_plusL (by rw [List.length_map]; show _ + 1 ≤ 1000000; omega) ?_
    exact z
  have hb := of_decide_eq_false hb
  rw [if_neg hb, ← set_cut _ _ _ (by omega), List.map_append, List.map_append] at z
  have at1 := lots_at (show o < lots.length by omega)
  have rl : (lots.getD o []).length ≤ 100 := l2 _ (by rw [List.getD_eq_getElem?_getD, List.getElem?_eq_getElem (by omega)]; exact List.getElem_mem _)
  generalize lots.getD o [] = row at z at1 rl
  unfold natsD at at1
  walk_at "es"
  rw [cut_n]
  walk_at "es"
  refine opd_ixL at1 ?_
  walk_at "es"
  refine opd_plusL (by rw [List.length_map]; show _ + 1 ≤ 1000000; omega) ?_
  walk_at "es"
  have tl : (lots.take o).length ≤ 100 := by rw [List.length_take]; omega
  have dl : (lots.drop (o + 1)).length ≤ 100 := by rw [List.length_drop]; omega
  refine opd_plusL (by rw [List.length_map]; show _ + 1 ≤ 1000000; omega) ?_
  walk_at "es"
  rw [show ((o : Int) + 1) = ((o + 1 : Nat) : Int) from rfl, cut_drop]
  refine opd_plusL (by rw [List.length_append, List.length_map, List.length_map]; show _ + 1 + _ ≤ 1000000; omega) ?_
  have e : natsD (row ++ [a]) = .list (row.map (fun k : Nat => PyData.int (k : Int)) ++ [.int (a : Int)]) := by unfold natsD; rw [List.map_append]; rfl
  rw [List.map_cons, List.map_nil, e] at z
  exact z
def rowN (l : List Nat) : List (Option Int) := l.map fun k : Nat => some (k : Int)
theorem rowN_D (l : List Nat) : rowD (rowN l) = natsD l := by
  unfold rowD rowN natsD
  rw [List.map_map]
  rfl
theorem rows_D (lots : List (List Nat)) : (lots.map rowN).map rowD = lots.map natsD := by
  rw [List.map_map]
  exact List.map_congr_left fun l _ => rowN_D l
theorem sx_l_put (K : PySem.W.Frag) (vs : List D) (Z : D → Prop) (h : R_wl vs Z) : SX (T_l_put K) (startE N_l_put vs) { nx := fun _ => Z .none, rt := fun d _ => Z d } := by
  obtain ⟨lots, o, a, rfl, l1, l2, ho, z⟩ := h
  show SX (T_l_put K) [.val (.list (lots.map natsD)), .val (.int (o : Int)), .val (.int (a : Int)), .emp, .emp] _
  unfold T_l_put
  have rowS : ∀ (rows : List (List (Option Int))) (q : rows = (if o = lots.length then lots ++ [[]] else lots).map rowN), rows.set o (rowN (lots.getD o []) ++ [some (a : Int)]) = (wlF lots o a).map rowN := fun rows q => by
    subst q
    unfold wlF
    by_cases c : o = lots.length
    · subst c
      rw [if_pos rfl, if_pos rfl, List.getD_eq_getElem?_getD, List.getElem?_eq_none (Nat.le_refl _), List.map_append, List.map_append, List.set_append_right _ _ (by rw [List.length_map]; exact Nat.le_refl _), List.length_map, Nat.sub_self]
      rfl
    · rw [if_neg c, if_neg c, List.map_set]
      unfold rowN
      rw [List.map_append]
      rfl
  refine sx_seq (sx_asgPut (by decide) (en_grid ?_))
  walk_at "es"
  refine ⟨lots.map rowN, by rw [rows_D], by rw [List.length_map]; omega, by simp, lots.map rowN, rfl, by rw [List.length_map]; omega, ?_⟩
  refine et_val (decide (o = lots.length)) ?_ ?_
  · walk_at "es"
    rw [List.length_map]
    exact ⟨decide_eq_decide.mpr (by omega), rfl⟩
  have er : (lots.map rowN ++ if decide (o = lots.length) = true then [[]] else []) = (if o = lots.length then lots ++ [[]] else lots).map rowN := by
    by_cases c : o = lots.length
    · rw [decide_eq_true c, if_pos rfl, if_pos c, List.map_append]; rfl
    · rw [decide_eq_false c, if_neg (by decide), if_neg c, List.append_nil]
  rw [er]
  have rs := rowS _ rfl
  have rlen : ((if o = lots.length then lots ++ [[]] else lots).map rowN).length = if o = lots.length then lots.length + 1 else lots.length := by
    rw [List.length_map]; split <;> simp
  have rat : ((if o = lots.length then lots ++ [[]] else lots).map rowN)[o]? = some (rowN (lots.getD o [])) := by
    rw [List.getElem?_map]
    by_cases c : o = lots.length
    · rw [if_pos c, c, List.getElem?_append_right (Nat.le_refl _), Nat.sub_self, List.getD_eq_getElem?_getD, List.getElem?_eq_none (Nat.le_refl _)]; rfl
    · rw [if_neg c, List.getD_eq_getElem?_getD, List.getElem?_eq_getElem (by omega)]; rfl
  generalize (if o = lots.length then lots ++ [[]] else lots).map rowN = rows at rs rlen rat ⊢
  have gl : (lots.getD o []).length ≤ 100 := by
    by_cases c : o < lots.length
    · exact l2 _ (by rw [List.getD_eq_getElem?_getD, List.getElem?_eq_getElem c]; exact List.getElem_mem c)
    · rw [List.getD_eq_getElem?_getD, List.getElem?_eq_none (by omega)]; simp
  refine nx_seq ?_
  walk_at "w"
  have ol : o < rows.length := by rw [rlen]; split <;> omega
  refine sx_seq (sx_appG (i := 3) (o : Int) o (rowN (lots.getD o [])) (some (a : Int)) rfl (by unfold ixN; rw [if_pos (by omega)]; simp [ol]) rat (by unfold rowN; rw [List.length_map]; omega) ?_ ?_ ?_)
  · walk_at "es"
    exact ⟨rfl, rfl⟩
  · walk_at "es"
    exact ⟨rfl, rfl⟩
  rw [rs]
  refine nx_seq ?_
  walk_at "w"
  refine sx_frzG 3 (by decide) rfl ?_
  rw [rows_D]
  walk_at "w"
  walk_at "es"
  exact z
end Law_k64
namespace Law_k64
open PySem L2 Pu
local macro_rules | `(tactic| walk_at "e") => `(tactic| first
  | ((with_reducible refine nx_seq ?_); (try dsimp only [List.set_cons_succ, List.set_cons_zero]))
  | ((with_reducible refine ex_vr ?_); dsimp only [VQ, List.set_cons_succ, List.set_cons_zero, List.getElem?_cons_zero, List.getElem?_cons_succ]; (fail_if_success (with_reducible show False)))
  | (with_reducible refine sx_seq ?_)
  | (with_reducible refine sx_if ?_)
  | (with_reducible refine sx_next ?_)
  | (with_reducible refine sx_ret ?_)
  | ((fail_if_success (with_reducible refine sx_asgO (eo_lst ?_))); (with_reducible refine sx_asg ?_))
  | (with_reducible refine ex_int ?_)
  | (with_reducible refine ex_str ?_)
  | (with_reducible refine ex_bl ?_)
  | (with_reducible refine ex_non ?_)
  | (with_reducible refine ex_op ?_)
  | (with_reducible refine ex_un ?_)
  | (with_reducible refine ex_chain ?_)
  | (with_reducible refine ex_call ?_)
  | (with_reducible refine ex_isT ?_)
  | (with_reducible refine ex_cb ?_)
  | (with_reducible refine ex_sl ?_)
  | (with_reducible refine ex_tup ?_)
  | (with_reducible refine ex_if ?_)
  | (with_reducible refine ex_of (eo_lst ?_))
  | (with_reducible refine ex_notV ?_)
  | (with_reducible refine ea_nil ?_)
  | (with_reducible refine ea_cons ?_)
  | (with_reducible refine ep_no ?_)
  | (with_reducible refine ep_some ?_)
  | (with_reducible refine et_test ?_)
  | (with_reducible refine et_B ?_)
  | (with_reducible refine et_ch3 ?_)
  | (with_reducible refine et_and ?_)
  | (with_reducible refine et_or ?_)
  | (with_reducible refine et_not ?_)
  | (with_reducible refine et_yes ?_)
  | (with_reducible refine et_truL ?_)
  | (with_reducible refine opd_plusI ?_)
  | (with_reducible refine opd_I0 ?_)
  | (with_reducible refine opd_B0 ?_)
  | (with_reducible refine opd_eqI ?_)
  | (with_reducible refine opd_neI ?_)
  | (with_reducible refine opd_eqS ?_)
  | (with_reducible refine opd_neS ?_)
  | (with_reducible refine opd_is ?_)
  | (with_reducible refine opd_isnt ?_)
  | (with_reducible refine opd_ixT rfl ?_)
  | (with_reducible refine opd_ixL rfl ?_)
  | (with_reducible refine und_neg ?_)
  | (with_reducible refine cbd_lenL ?_)
  | (with_reducible refine cbd_lenT ?_)
  | (with_reducible refine cbd_min2 ?_)
  | (with_reducible refine cbd_max2 ?_)
  | (with_reducible refine cbd_abs ?_)
  | (with_reducible refine cbd_int ?_)
  | (with_reducible refine cbd_tupL ?_)
  | (with_reducible refine cbd_listL ?_)
  | (with_reducible refine cbd_listT ?_)
  | (with_reducible refine cbd_sum ?_)
  | (with_reducible refine sld_T ?_)
  | (with_reducible refine sld_L ?_)
  | (with_reducible refine ex_revL ?_)
  | (with_reducible refine ex_bmL ?_)
  | (with_reducible refine ex_andV ?_)
  | (with_reducible refine ei_list ?_)
  | (with_reducible refine ei_rng1 ?_)
  | (with_reducible refine ei_rng2 ?_)
  | (with_reducible refine ei_enum ?_)
  | (with_reducible refine ei_enumT ?_)
  | (with_reducible refine ei_zip ?_)
  | (with_reducible refine sx_par ?_)
  | (with_reducible refine Exists.intro _ (And.intro rfl ?_))
  | (with_reducible refine Exists.intro _ (Exists.intro _ (And.intro rfl ?_)))
  | ((with_reducible show EX (tCall (spS _) [] _ (tCons (tVar _) _)) _ _); refine ex_callS rfl ?_)
  | ((with_reducible refine And.intro (show (_ : Nat) ≤ 100000 from ?_) ?_); (focus (simp; done)))
  | ((with_reducible refine opd_I ?_ ?_); focus (first | omega | (show CDiv _ _; exact ⟨by omega, by omega⟩) | (show CMul _ _; first | exact Or.inl ⟨by omega, by omega⟩ | exact Or.inr ⟨by omega, by omega⟩))))
local macro_rules | `(tactic| walk_at "es") => `(tactic| repeat walk_at "e")
local macro_rules | `(tactic| walk_at "w") => `(tactic| try dsimp only [wipeE, List.foldl_cons, List.foldl_nil, List.set_cons_succ, List.set_cons_zero])
local macro_rules | `(tactic| walk_at "le") => `(tactic| repeat' first | exact LeE.nil | (refine LeE.eq rfl ?_) | (refine LeE.emp ?_) | (refine LeE.eq ?_ ?_))
local macro_rules | `(tactic| walk_at "no") => `(tactic| ((refine And.intro (fun hb => absurd hb ?_) (fun _ => ?_)); (focus (first | (exact Bool.false_ne_true) | (simp; done) | (simp; omega) | (simp only [decide_eq_true_eq]; omega)))))
local macro_rules | `(tactic| walk_at "yes") => `(tactic| ((refine And.intro (fun _ => ?_) (fun hb => absurd hb ?_)); (rotate_left); (focus (first | (exact Bool.noConfusion) | (simp; done) | (simp; omega) | (simp only [decide_eq_false_iff_not]; omega)))))
local macro_rules | `(tactic| walk_at "ei") => `(tactic| repeat ((fail_if_success (with_reducible show SX (tSeq (tIfS _ _ _) _) _ _)); (fail_if_success (with_reducible show SX (tIfS _ _ _) _ _)); (fail_if_success (with_reducible show SX (tSeq (tAsg (tIf _ _ _) _) _) _ _)); walk_at "e"))
local macro_rules | `(tactic| walk_at "tv") => `(tactic| repeat' first | walk_at "e" | ((with_reducible show (_ = true → _) ∧ (_ = false → _)); refine And.intro (fun _ => ?_) (fun _ => ?_)))
/-! ### the class Rooms -/
theorem enum_map {α : Type} (xs : List α) (a : α) (f : α → D) : enumD 0 (xs.map f) = (List.range xs.length).map fun k : Nat => PyData.tuple [.int (k : Int), f (xs.getD k a)] := by
  refine List.ext_getElem? fun k => ?_
  by_cases h : k < xs.length
  · have hl : k < (enumD 0 (xs.map f)).length := by rw [enum_len]; exact h
    obtain ⟨x, hx, e⟩ := enum_at (List.getElem?_eq_getElem hl)
    rw [List.getElem?_eq_getElem hl, e, List.getElem?_map, List.getElem?_range h, Option.map_some, List.getD_eq_getElem?_getD, hx]
    rfl
  · rw [List.getElem?_eq_none (by rw [enum_len]; omega), List.getElem?_eq_none (by rw [List.length_map, List.length_range]; omega)]
def rmF (v0 v1 v2 v3 : D) : List (Str × D) := [("loads", v0), ("foes", v1), ("room", v2), ("order", v3)]
theorem rmn_foes_apart : ¬ (("foes" : Str) = "apart") := by decide +kernel
theorem rmn_foes_order : ¬ (("foes" : Str) = "order") := by decide +kernel
theorem rmn_foes_prove : ¬ (("foes" : Str) = "prove") := by decide +kernel
theorem rmn_foes_put : ¬ (("foes" : Str) = "put") := by decide +kernel
theorem rmn_foes_room : ¬ (("foes" : Str) = "room") := by decide +kernel
theorem rmn_foes_spots : ¬ (("foes" : Str) = "spots") := by decide +kernel
theorem rmn_loads_apart : ¬ (("loads" : Str) = "apart") := by decide +kernel
theorem rmn_loads_foes : ¬ (("loads" : Str) = "foes") := by decide +kernel
theorem rmn_loads_order : ¬ (("loads" : Str) = "order") := by decide +kernel
theorem rmn_loads_prove : ¬ (("loads" : Str) = "prove") := by decide +kernel
theorem rmn_loads_put : ¬ (("loads" : Str) = "put") := by decide +kernel
theorem rmn_loads_room : ¬ (("loads" : Str) = "room") := by decide +kernel
theorem rmn_loads_spots : ¬ (("loads" : Str) = "spots") := by decide +kernel
theorem rmn_order_apart : ¬ (("order" : Str) = "apart") := by decide +kernel
theorem rmn_order_prove : ¬ (("order" : Str) = "prove") := by decide +kernel
theorem rmn_order_put : ¬ (("order" : Str) = "put") := by decide +kernel
theorem rmn_order_spots : ¬ (("order" : Str) = "spots") := by decide +kernel
theorem rmn_room_apart : ¬ (("room" : Str) = "apart") := by decide +kernel
theorem rmn_room_order : ¬ (("room" : Str) = "order") := by decide +kernel
theorem rmn_room_prove : ¬ (("room" : Str) = "prove") := by decide +kernel
theorem rmn_room_put : ¬ (("room" : Str) = "put") := by decide +kernel
theorem rmn_room_spots : ¬ (("room" : Str) = "spots") := by decide +kernel
section
variable {v0 v1 v2 v3 d : D}
theorem rmlk_loads : List.lookup ("loads" : Str) (rmF v0 v1 v2 v3) = some v0 := by unfold rmF; rw [lk_eq]
theorem rmpt_loads : putD "loads" d (rmF v0 v1 v2 v3) = rmF d v1 v2 v3 := by unfold rmF; rw [putD_eq]
theorem rmlk_foes : List.lookup ("foes" : Str) (rmF v0 v1 v2 v3) = some v1 := by unfold rmF; rw [lk_ne rmn_loads_foes, lk_eq]
theorem rmpt_foes : putD "foes" d (rmF v0 v1 v2 v3) = rmF v0 d v2 v3 := by unfold rmF; rw [putD_ne rmn_loads_foes, putD_eq]
theorem rmlk_room : List.lookup ("room" : Str) (rmF v0 v1 v2 v3) = some v2 := by unfold rmF; rw [lk_ne rmn_loads_room, lk_ne rmn_foes_room, lk_eq]
theorem rmpt_room : putD "room" d (rmF v0 v1 v2 v3) = rmF v0 v1 d v3 := by unfold rmF; rw [putD_ne rmn_loads_room, putD_ne rmn_foes_room, putD_eq]
theorem rmlk_order : List.lookup ("order" : Str) (rmF v0 v1 v2 v3) = some v3 := by unfold rmF; rw [lk_ne rmn_loads_order, lk_ne rmn_foes_order, lk_ne rmn_room_order, lk_eq]
theorem rmpt_order : putD "order" d (rmF v0 v1 v2 v3) = rmF v0 v1 v2 d := by unfold rmF; rw [putD_ne rmn_loads_order, putD_ne rmn_foes_order, putD_ne rmn_room_order, putD_eq]
theorem rmno_spots : List.lookup ("spots" : Str) (rmF v0 v1 v2 v3) = none := by unfold rmF; rw [lk_ne rmn_loads_spots, lk_ne rmn_foes_spots, lk_ne rmn_room_spots, lk_ne rmn_order_spots, lk_nil]
theorem rmno_put : List.lookup ("put" : Str) (rmF v0 v1 v2 v3) = none := by unfold rmF; rw [lk_ne rmn_loads_put, lk_ne rmn_foes_put, lk_ne rmn_room_put, lk_ne rmn_order_put, lk_nil]
theorem rmno_apart : List.lookup ("apart" : Str) (rmF v0 v1 v2 v3) = none := by unfold rmF; rw [lk_ne rmn_loads_apart, lk_ne rmn_foes_apart, lk_ne rmn_room_apart, lk_ne rmn_order_apart, lk_nil]
theorem rmno_prove : List.lookup ("prove" : Str) (rmF v0 v1 v2 v3) = none := by unfold rmF; rw [lk_ne rmn_loads_prove, lk_ne rmn_foes_prove, lk_ne rmn_room_prove, lk_ne rmn_order_prove, lk_nil]
end
def keyF (p : Pb) (i : Nat) : Int × Int := (0 - (lAt p i).w, (i : Int))
def ordI (p : Pb) : List (Int × Int) := ((List.range (nP p)).map (keyF p)).mergeSort leP
def ordF (p : Pb) : List Nat := (ordI p).map fun q => q.2.toNat
theorem ord_perm (p : Pb) : (ordF p).Perm (List.range (nP p)) := by
  have h : (ordI p).Perm ((List.range (nP p)).map (keyF p)) := List.mergeSort_perm _ _
  have := h.map fun q => q.2.toNat
  rw [List.map_map] at this
  have e : (List.range (nP p)).map ((fun q : Int × Int => q.2.toNat) ∘ keyF p) = List.range (nP p) := (List.map_congr_left fun k _ => by simp [keyF]).trans (List.map_id _)
  rw [e] at this
  exact this
theorem ord_D (p : Pb) : (((ordI p).filter fun _ => true).map fun q => PyData.int q.2) = (ordF p).map fun k : Nat => .int (k : Int) := by
  rw [filt_all]
  unfold ordF
  rw [List.map_map]
  refine List.map_congr_left fun q hq => ?_
  have h : (ordI p).Perm ((List.range (nP p)).map (keyF p)) := List.mergeSort_perm _ _
  obtain ⟨i, _, rfl⟩ := List.mem_map.mp (h.mem_iff.mp hq)
  simp [keyF]
theorem ord_len (p : Pb) : (ordF p).length = nP p := by rw [(ord_perm p).length_eq, List.length_range]
def objR (C : Addr) (p : Pb) : Stt := .obj C (rmF (lsD p) (fsD p) (.int p.r) (natsD (ordF p)))
def R_init (C : Addr) : Stt → List D → (D → Stt → Prop) → Prop := fun S vs Z => ∃ p : Pb, vs = [lsD p, fsD p, .int p.r] ∧ S = .obj C [] ∧ Sz p ∧ Z .none (objR C p)
theorem sx_Rooms_init (K : PySem.W.Frag) (C : Addr) (S : Stt) (vs : List D) (Z : D → Stt → Prop) (h : R_init C S vs Z) :
    SX (T_Rooms_init K C) (.st S :: (vs.map .val ++ List.replicate (N_Rooms_init.length - (vs.length + 1)) .emp)) { nx := fun ρ' => ∃ S', ρ'[0]? = some (.st S') ∧ Z .none S', rt := fun d ρ' => ∃ S', ρ'[0]? = some (.st S') ∧ Z d S' } := by
  obtain ⟨p, rfl, rfl, sz, z⟩ := h
  show SX (T_Rooms_init K C) [.st (.obj C []), .val (lsD p), .val (fsD p), .val (.int p.r), .emp, .emp, .emp] _
  have n8 := sz.np
  unfold T_Rooms_init
  refine sx_seq (sx_fld rfl ?_)
  walk_at "es"
  refine ⟨by simp, ?_⟩
  refine nx_seq ?_
  walk_at "w"
  refine sx_seq (sx_fld rfl ?_)
  walk_at "es"
  refine ⟨by simp [putD], ?_⟩
  refine nx_seq ?_
  walk_at "w"
  refine sx_seq (sx_fld rfl ?_)
  walk_at "es"
  refine ⟨by rw [putD_nil, putD_ne rmn_loads_foes]; simp [putD], ?_⟩
  refine nx_seq ?_
  walk_at "w"
  rw [putD_nil, putD_ne rmn_loads_foes, putD_nil, putD_ne rmn_loads_room, putD_ne rmn_foes_room, putD_nil]
  refine sx_fld rfl (ex_of (eo_lcP (α := Int × Int) (fun _ => true) (fun q => .int q.2) (ei_list ?_)))
  walk_at "es"
  refine ex_of (eo_lcP (α := Nat) (fun _ => true) (fun i => encP (keyF p i)) (ei_enum ?_))
  unfold lsD
  walk_at "es"
  rw [enum_map p.ls l0 encL]
  refine ⟨List.range p.ls.length, _, rfl, by rw [List.length_range]; have := sz.n; omega, fun i hi => by simp at hi; rcases hi with rfl | rfl | rfl | rfl <;> rfl, fun i hi => sg_tup rfl (sgs_cons (sg_name (by simp) (sgs_cons (sg_name (by simp) (sgs_nil ⟨rfl, ?_⟩))))), ?_⟩
  · have e : keyF p i = (0 - (p.ls.getD i l0).w, (i : Int)) := rfl
    rw [e]
    generalize p.ls.getD i l0 = l
    unfold encL
    walk_at "w"
    refine et_yes ⟨rfl, rfl, fun _ => ?_⟩
    walk_at "es"
    exact ⟨rfl, rfl⟩
  rw [filt_all, show ((List.range p.ls.length).map fun i => encP (keyF p i)) = ((List.range (nP p)).map (keyF p)).map encP by rw [List.map_map]; rfl]
  walk_at "es"
  refine cbd_sortP ?_
  rw [show ((List.range (nP p)).map (keyF p)).mergeSort leP = ordI p from rfl]
  have ol := ord_len p
  have il : (ordI p).length = nP p := by rw [← ol]; unfold ordF; rw [List.length_map]
  refine ⟨_, rfl, ?_⟩
  refine ⟨ordI p, encP, rfl, by omega, fun i hi => by simp at hi; rcases hi with rfl | rfl <;> rfl, fun q hq => ?_, ?_⟩
  · unfold encP
    refine sg_tup rfl (sgs_cons (sg_name (by simp) (sgs_cons (sg_name (by simp) (sgs_nil ⟨rfl, ?_⟩)))))
    walk_at "w"
    refine et_yes ⟨rfl, rfl, fun _ => ?_⟩
    walk_at "es"
    exact ⟨rfl, rfl⟩
  rw [ord_D]
  refine ⟨_, rfl, by simp, ?_⟩
  rw [putD_ne rmn_loads_order, putD_ne rmn_foes_order, putD_ne rmn_room_order, putD_nil]
  refine ⟨_, LeE.refl _, ?_⟩
  exact ⟨_, rfl, z⟩
/-! ### where a load may go -/
def R_spots (C : Addr) : Stt → List D → (D → Stt → Prop) → Prop := fun S vs Z => ∃ (p : Pb) (lots : List (List Nat)) (a m : Nat), vs = [lotsD lots, .int (a : Int), .int (m : Int)] ∧ S = objR C p ∧ Sz p ∧ LotsOk p lots ∧ a < nP p ∧ Z (natsD (spF p lots a m)) (objR C p)
theorem new_D {lots : List (List Nat)} {p : Pb} {a m : Nat} : natsD (spF p lots a m) = .list ((((List.range lots.length).filter fun i => joinB p (lots.getD i []) a).map fun k : Nat => PyData.int (k : Int)) ++ (newF lots.length m).map fun k : Nat => PyData.int (k : Int)) := by
  unfold natsD spF
  rw [List.map_append]
theorem new_y {n m : Nat} (h : n < m) : newF n m = [n] := if_pos h
theorem new_n {n m : Nat} (h : ¬ n < m) : newF n m = [] := if_neg h
theorem sx_Rooms_spots (K : PySem.W.Frag) (C : Addr) (S : Stt) (vs : List D) (Z : D → Stt → Prop) (h : R_spots C S vs Z) :
    SX (T_Rooms_spots K C R_mj) (.st S :: (vs.map .val ++ List.replicate (N_Rooms_spots.length - (vs.length + 1)) .emp)) { nx := fun ρ' => ∃ S', ρ'[0]? = some (.st S') ∧ Z .none S', rt := fun d ρ' => ∃ S', ρ'[0]? = some (.st S') ∧ Z d S' } := by
  obtain ⟨p, lots, a, m, rfl, rfl, sz, lo, ha, z⟩ := h
  show SX (T_Rooms_spots K C R_mj) [.st (objR C p), .val (.list (lots.map natsD)), .val (.int (a : Int)), .val (.int (m : Int)), .emp, .emp, .emp] _
  unfold T_Rooms_spots
  have ll := lo.1
  refine sx_seq (sx_asg (ex_of (eo_lcP (α := Nat) (fun i => joinB p (lots.getD i []) a) (fun k => .int (k : Int)) (ei_enum ?_))))
  walk_at "es"
  rw [enum_map lots [] natsD]
  refine ⟨List.range lots.length, _, rfl, by rw [List.length_range]; omega, fun i hi => by simp at hi; rcases hi with rfl | rfl <;> rfl, fun i hi => sg_tup rfl (sgs_cons (sg_name (by simp) (sgs_cons (sg_name (by simp) (sgs_nil ⟨rfl, ?_⟩))))), ?_⟩
  · have hi := List.mem_range.mp hi
    have rk := lot_row lo hi
    generalize lots.getD i [] = row at rk
    walk_at "w"
    walk_at "es"
    refine ex_fld rfl rmlk_loads ?_
    walk_at "es"
    refine ex_fld rfl rmlk_foes ?_
    walk_at "es"
    refine ex_fld rfl rmlk_room ?_
    walk_at "es"
    refine ⟨p, row, a, rfl, sz, rk, ha, _, rfl, rfl, rfl, fun _ => ?_⟩
    walk_at "es"
    exact ⟨rfl, rfl⟩
  rw [new_D] at z
  have fl := List.length_filter_le (fun i => joinB p (lots.getD i []) a) (List.range lots.length)
  rw [List.length_range] at fl
  refine nx_seq ?_
  walk_at "w"
  walk_at "es"
  rw [List.length_map]
  refine ⟨fun hb => ?_, fun hb => ?_⟩
  · have hb := of_decide_eq_true hb
    rw [new_y (by omega)] at z
    walk_at "es"
    refine opd_plusL (by rw [List.length_map]; show _ + 1 ≤ 1000000; omega) ?_
    refine ⟨_, rfl, ?_⟩
    rw [List.length_map]
    exact z
  · have hb := of_decide_eq_false hb
    rw [new_n (by omega)] at z
    walk_at "es"
    refine opd_plusL (by rw [List.length_map]; show _ + 0 ≤ 1000000; omega) ?_
    exact ⟨_, rfl, z⟩
def R_lsp : List D → (D → Prop) → Prop := fun vs Z => ∃ (p : Pb) (lots : List (List Nat)) (a m : Nat), vs = [lsD p, fsD p, .int p.r, lotsD lots, .int (a : Int), .int (m : Int)] ∧ Sz p ∧ LotsOk p lots ∧ a < nP p ∧ Z (natsD (spF p lots a m))
theorem sx_l_spots (K : PySem.W.Frag) (vs : List D) (Z : D → Prop) (h : R_lsp vs Z) : SX (T_l_spots K R_mj) (startE N_l_spots vs) { nx := fun _ => Z .none, rt := fun d _ => Z d } := by
  obtain ⟨p, lots, a, m, rfl, sz, lo, ha, z⟩ := h
  show SX (T_l_spots K R_mj) [.val (lsD p), .val (fsD p), .val (.int p.r), .val (.list (lots.map natsD)), .val (.int (a : Int)), .val (.int (m : Int)), .emp] _
  unfold T_l_spots
  have ll := lo.1
  walk_at "es"
  refine ex_of (eo_lcP (α := Int) (fun i => joinB p (lots.getD i.toNat []) a) (fun k => .int k) (ei_rng1 ?_))
  walk_at "es"
  rw [List.length_map, Int.toNat_natCast]
  refine ⟨by omega, rngI 0 lots.length, _, rfl, by rw [rngI_len]; omega, fun i hi => by simp at hi; subst hi; rfl, fun x hx => sg_name (by simp) ⟨rfl, ?_⟩, ?_⟩
  · have hx := rngI_mem.mp hx
    obtain ⟨k, rfl⟩ : ∃ k : Nat, x = (k : Int) := ⟨x.toNat, by omega⟩
    rw [Int.toNat_natCast]
    have hk : k < lots.length := by omega
    have rk := lot_row lo hk
    have at1 := lots_at hk
    generalize lots.getD k [] = row at rk at1
    walk_at "w"
    walk_at "es"
    refine opd_ixL at1 ?_
    walk_at "es"
    refine ⟨p, row, a, rfl, sz, rk, ha, _, rfl, rfl, rfl, fun _ => ?_⟩
    walk_at "es"
    exact ⟨rfl, rfl⟩
  rw [rng_nats (fun i => joinB p (lots.getD i []) a) lots.length]
  rw [new_D] at z
  have fl := List.length_filter_le (fun i => joinB p (lots.getD i []) a) (List.range lots.length)
  rw [List.length_range] at fl
  walk_at "es"
  rw [List.length_map]
  refine ⟨fun hb => ?_, fun hb => ?_⟩
  · have hb := of_decide_eq_true hb
    rw [new_y (by omega)] at z
    walk_at "es"
    refine opd_plusL (by rw [List.length_map]; show _ + 1 ≤ 1000000; omega) ?_
    rw [List.length_map]
    exact z
  · have hb := of_decide_eq_false hb
    rw [new_n (by omega)] at z
    walk_at "es"
    refine opd_plusL (by rw [List.length_map]; show _ + 0 ≤ 1000000; omega) ?_
    exact z
end Law_k64
namespace Law_k64
open PySem L2 Pu
local macro_rules | `(tactic| walk_at "e") => `(tactic| first
  | ((with_reducible refine nx_seq ?_); (try dsimp only [List.set_cons_succ, List.set_cons_zero]))
  | ((with_reducible refine ex_vr ?_); dsimp only [VQ, List.set_cons_succ, List.set_cons_zero, List.getElem?_cons_zero, List.getElem?_cons_succ]; (fail_if_success (with_reducible show False)))
  | (with_reducible refine sx_seq ?_)
  | (with_reducible refine sx_if ?_)
  | (with_reducible refine sx_next ?_)
  | (with_reducible refine sx_ret ?_)
  | ((fail_if_success (with_reducible refine sx_asgO (eo_lst ?_))); (with_reducible refine sx_asg ?_))
  | (with_reducible refine ex_int ?_)
  | (with_reducible refine ex_str ?_)
  | (with_reducible refine ex_bl ?_)
  | (with_reducible refine ex_non ?_)
  | (with_reducible refine ex_op ?_)
  | (with_reducible refine ex_un ?_)
  | (with_reducible refine ex_chain ?_)
  | (with_reducible refine ex_call ?_)
  | (with_reducible refine ex_isT ?_)
  | (with_reducible refine ex_cb ?_)
  | (with_reducible refine ex_sl ?_)
  | (with_reducible refine ex_tup ?_)
  | (with_reducible refine ex_if ?_)
  | (with_reducible refine ex_of (eo_lst ?_))
  | (with_reducible refine ex_notV ?_)
  | (with_reducible refine ea_nil ?_)
  | (with_reducible refine ea_cons ?_)
  | (with_reducible refine ep_no ?_)
  | (with_reducible refine ep_some ?_)
  | (with_reducible refine et_test ?_)
  | (with_reducible refine et_B ?_)
  | (with_reducible refine et_ch3 ?_)
  | (with_reducible refine et_and ?_)
  | (with_reducible refine et_or ?_)
  | (with_reducible refine et_not ?_)
  | (with_reducible refine et_yes ?_)
  | (with_reducible refine et_truL ?_)
  | (with_reducible refine opd_plusI ?_)
  | (with_reducible refine opd_I0 ?_)
  | (with_reducible refine opd_B0 ?_)
  | (with_reducible refine opd_eqI ?_)
  | (with_reducible refine opd_neI ?_)
  | (with_reducible refine opd_eqS ?_)
  | (with_reducible refine opd_neS ?_)
  | (with_reducible refine opd_is ?_)
  | (with_reducible refine opd_isnt ?_)
  | (with_reducible refine opd_ixT rfl ?_)
  | (with_reducible refine opd_ixL rfl ?_)
  | (with_reducible refine und_neg ?_)
  | (with_reducible refine cbd_lenL ?_)
  | (with_reducible refine cbd_lenT ?_)
  | (with_reducible refine cbd_min2 ?_)
  | (with_reducible refine cbd_max2 ?_)
  | (with_reducible refine cbd_abs ?_)
  | (with_reducible refine cbd_int ?_)
  | (with_reducible refine cbd_tupL ?_)
  | (with_reducible refine cbd_listL ?_)
  | (with_reducible refine cbd_listT ?_)
  | (with_reducible refine cbd_sum ?_)
  | (with_reducible refine sld_T ?_)
  | (with_reducible refine sld_L ?_)
  | (with_reducible refine ex_revL ?_)
  | (with_reducible refine ex_bmL ?_)
  | (with_reducible refine ex_andV ?_)
  | (with_reducible refine ei_list ?_)
  | (with_reducible refine ei_rng1 ?_)
  | (with_reducible refine ei_rng2 ?_)
  | (with_reducible refine ei_enum ?_)
  | (with_reducible refine ei_enumT ?_)
  | (with_reducible refine ei_zip ?_)
  | (with_reducible refine sx_par ?_)
  | (with_reducible refine Exists.intro _ (And.intro rfl ?_))
  | (with_reducible refine Exists.intro _ (Exists.intro _ (And.intro rfl ?_)))
  | ((with_reducible show EX (tCall (spS _) [] _ (tCons (tVar _) _)) _ _); refine ex_callS rfl ?_)
  | ((with_reducible refine And.intro (show (_ : Nat) ≤ 100000 from ?_) ?_); (focus (simp; done)))
  | ((with_reducible refine opd_I ?_ ?_); focus (first | omega | (show CDiv _ _; exact ⟨by omega, by omega⟩) | (show CMul _ _; first | exact Or.inl ⟨by omega, by omega⟩ | exact Or.inr ⟨by omega, by omega⟩))))
local macro_rules | `(tactic| walk_at "es") => `(tactic| repeat walk_at "e")
local macro_rules | `(tactic| walk_at "w") => `(tactic| try dsimp only [wipeE, List.foldl_cons, List.foldl_nil, List.set_cons_succ, List.set_cons_zero])
local macro_rules | `(tactic| walk_at "le") => `(tactic| repeat' first | exact LeE.nil | (refine LeE.eq rfl ?_) | (refine LeE.emp ?_) | (refine LeE.eq ?_ ?_))
local macro_rules | `(tactic| walk_at "no") => `(tactic| ((refine And.intro (fun hb => absurd hb ?_) (fun _ => ?_)); (focus (first | (exact Bool.false_ne_true) | (simp; done) | (simp; omega) | (simp only [decide_eq_true_eq]; omega)))))
local macro_rules | `(tactic| walk_at "yes") => `(tactic| ((refine And.intro (fun _ => ?_) (fun hb => absurd hb ?_)); (rotate_left); (focus (first | (exact Bool.noConfusion) | (simp; done) | (simp; omega) | (simp only [decide_eq_false_iff_not]; omega)))))
local macro_rules | `(tactic| walk_at "ei") => `(tactic| repeat ((fail_if_success (with_reducible show SX (tSeq (tIfS _ _ _) _) _ _)); (fail_if_success (with_reducible show SX (tIfS _ _ _) _ _)); (fail_if_success (with_reducible show SX (tSeq (tAsg (tIf _ _ _) _) _) _ _)); walk_at "e"))
local macro_rules | `(tactic| walk_at "tv") => `(tactic| repeat' first | walk_at "e" | ((with_reducible show (_ = true → _) ∧ (_ = false → _)); refine And.intro (fun _ => ?_) (fun _ => ?_)))
/-! ### put -/
def putD2 : Option (List (List Nat)) → D
  | none => .none
  | some L => lotsD L
theorem rest_ok {p : Pb} {lots : List (List Nat)} {us : List Nat} (n8 : nP p ≤ 8) (r : Rest p lots us) (hl : lots.length ≤ 20) : LotsOk p lots := by
  refine ⟨hl, fun l hm => ⟨?_, fun x hx => r.pt.lt x (List.mem_flatten.mpr ⟨l, hm, hx⟩)⟩⟩
  have h1 : l.length ≤ lots.flatten.length := (List.sublist_flatten_of_mem hm).length_le
  have h2 := r.length_eq
  rw [List.length_append, List.length_range] at h2
  omega
theorem find_at {α β : Type} {g : α → Option β} {d : β} : ∀ {xs : List α} {k : Nat} {x : α}, xs[k]? = some x → (∀ j, j < k → ∀ y, xs[j]? = some y → g y = none) → g x = some d → xs.findSome? g = some d
  | [], k, x, h, _, _ => by simp at h
  | y :: xs, 0, x, h, _, e => by
    cases h
    rw [List.findSome?_cons, e]
  | y :: xs, k + 1, x, h, no, e => by
    rw [List.findSome?_cons, no 0 (by omega) y rfl]
    exact find_at (xs := xs) (k := k) (by simpa using h) (fun j hj z hz => no (j + 1) (by omega) z (by simpa using hz)) e
theorem find_no2 {α β : Type} {g : α → Option β} {xs : List α} (no : ∀ j, j < xs.length → ∀ y, xs[j]? = some y → g y = none) : xs.findSome? g = none := List.findSome?_eq_none_iff.mpr fun x hx => by
  obtain ⟨j, hj, e⟩ := List.getElem_of_mem hx
  exact no j hj x (by rw [List.getElem?_eq_getElem hj, e])
theorem ord_at {p : Pb} {us : List Nat} {a t : Nat} (e : a :: us = (ordF p).drop t) : t < nP p ∧ atI ((ordF p).map fun k : Nat => PyData.int (k : Int)) (t : Int) = some (.int (a : Int)) ∧ us = (ordF p).drop (t + 1) := by
  have l := congrArg List.length e
  rw [List.length_drop, ord_len, List.length_cons] at l
  have ht : t < nP p := by omega
  have ho : t < (ordF p).length := by rw [ord_len]; exact ht
  rw [List.drop_eq_getElem_cons ho] at e
  obtain ⟨e1, e2⟩ := List.cons.inj e
  refine ⟨ht, ?_, e2⟩
  rw [atI_map 0 (by omega) (by omega), Int.toNat_natCast, List.getD_eq_getElem?_getD, List.getElem?_eq_getElem ho, e1]
  rfl
def R_put (C : Addr) (f : Nat) : Stt → List D → (D → Stt → Prop) → Prop := fun S vs Z => ∃ (p : Pb) (lots : List (List Nat)) (t m : Nat) (us : List Nat), vs = [lotsD lots, .int (t : Int), .int (m : Int)] ∧ S = objR C p ∧ Sz p ∧ us = (ordF p).drop t ∧ t ≤ nP p ∧ Rest p lots us ∧ lots.length ≤ t ∧ us.length < f ∧ Z (putD2 (putF p m us lots)) (objR C p)
theorem no_put {C : Addr} : ∀ S ds Z, ¬ R_put C 0 S ds Z := fun S ds Z h => by
  obtain ⟨p, lots, t, m, us, _, _, _, _, _, _, _, h, _⟩ := h
  omega
theorem sx_Rooms_put (K : PySem.W.Frag) (C : Addr) (f : Nat) (S : Stt) (vs : List D) (Z : D → Stt → Prop) (h : R_put C (f + 1) S vs Z) :
    SX (T_Rooms_put K C (R_spots C) (R_put C f) R_wl) (.st S :: (vs.map .val ++ List.replicate (N_Rooms_put.length - (vs.length + 1)) .emp)) { nx := fun ρ' => ∃ S', ρ'[0]? = some (.st S') ∧ Z .none S', rt := fun d ρ' => ∃ S', ρ'[0]? = some (.st S') ∧ Z d S' } := by
  obtain ⟨p, lots, t, m, us, rfl, rfl, sz, eu, ht, rs, hl, hf, z⟩ := h
  show SX (T_Rooms_put K C (R_spots C) (R_put C f) R_wl) [.st (objR C p), .val (lotsD lots), .val (.int (t : Int)), .val (.int (m : Int)), .emp, .emp, .emp] _
  unfold T_Rooms_put
  have n8 := sz.np
  have ol := ord_len p
  have lo := rest_ok n8 rs (by omega)
  cases us with
  | nil =>
    have e : t = nP p := by
      have := congrArg List.length eu
      rw [List.length_drop, ol] at this
      simp at this
      omega
    refine sx_seq (sx_if (et_val true ?_ ⟨fun _ => ?_, (fun q => by cases q)⟩))
    · walk_at "es"
      refine ex_fld rfl rmlk_order ?_
      unfold natsD
      walk_at "es"
      rw [List.length_map]
      exact ⟨decide_eq_true (by omega), rfl⟩
    walk_at "es"
    exact ⟨_, rfl, z⟩
  | cons a us =>
    obtain ⟨h1, h2, h3⟩ := ord_at eu
    refine sx_seq (sx_if (et_val false ?_ ⟨(fun q => by cases q), fun _ => sx_next (nx_seq ?_)⟩))
    · walk_at "es"
      refine ex_fld rfl rmlk_order ?_
      unfold natsD
      walk_at "es"
      rw [List.length_map]
      exact ⟨decide_eq_false (by omega), rfl⟩
    refine sx_seq (sx_asg ?_)
    walk_at "es"
    refine ex_fld rfl rmlk_order ?_
    unfold natsD
    walk_at "es"
    refine opd_ixL h2 ?_
    refine nx_seq ?_
    walk_at "w"
    obtain ⟨ha, hn⟩ := rs.hd
    refine sx_seq (sx_for (J := [5]) (ei_list ?_))
    refine ex_meth rfl rmno_spots ?_
    walk_at "es"
    refine ⟨p, lots, a, m, rfl, rfl, sz, lo, ha, ?_⟩
    unfold natsD
    have sle := fun o (ho : o ∈ spF p lots a m) => sp_le ho
    have pe : putF p m (a :: us) lots = (spF p lots a m).findSome? fun o => putF p m us (wlF lots o a) := rfl
    generalize spF p lots a m = sp at sle pe ⊢
    refine ⟨_, rfl, fun k ρ' => (∀ j, j < k → ∀ o, sp[j]? = some o → putF p m us (wlF lots o a) = none) ∧ ρ' = [.st (objR C p), .val (lotsD lots), .val (.int (t : Int)), .val (.int (m : Int)), .val (.int (a : Int)), .emp, .emp], ⟨fun j hj => absurd hj (by omega), rfl⟩, ?_, ?_⟩
    · rintro k dd ρ' hd0 ⟨no, rfl⟩
      obtain ⟨o, ho, rfl⟩ := map_at hd0
      have ole := sle o (List.mem_of_getElem? ho)
      refine sg_name (by simp) ?_
      walk_at "w"
      refine sx_seq (sx_asg ?_)
      refine ex_meth rfl rmno_put ?_
      walk_at "es"
      refine ⟨lots, o, a, rfl, by omega, fun l hm => by have := (lo.2 l hm).1; omega, ole, ?_⟩
      walk_at "es"
      have wl := wl_len (lots := lots) (o := o) (a := a)
      refine ⟨p, wlF lots o a, t + 1, m, us, rfl, rfl, sz, h3, by omega, rs.wl ole, by omega, by simpa using hf, ?_⟩
      refine nx_seq ?_
      walk_at "w"
      cases hp : putF p m us (wlF lots o a) with
      | none =>
        have nw : ∀ j, j < k + 1 → ∀ o, sp[j]? = some o → putF p m us (wlF lots o a) = none := fun j hj y hy => by
          by_cases q : j = k
          · subst q
            rw [ho] at hy
            cases hy
            exact hp
          · exact no j (by omega) y hy
        refine sx_if (et_val false ?_ ⟨(fun q => by cases q), fun _ => sx_next ⟨_, ?_, nw, rfl⟩⟩)
        · unfold putD2
          walk_at "es"
          exact ⟨rfl, rfl⟩
        · walk_at "le"
      | some L =>
        have e := find_at (g := fun o => putF p m us (wlF lots o a)) ho no hp
        refine sx_if (et_val true ?_ ⟨fun _ => ?_, (fun q => by cases q)⟩)
        · unfold putD2 lotsD
          walk_at "es"
          exact ⟨rfl, rfl⟩
        rw [pe, e] at z
        walk_at "es"
        exact ⟨_, rfl, z⟩
    · rintro ρ' ⟨no, rfl⟩
      rw [List.length_map] at no
      have e := find_no2 (g := fun o => putF p m us (wlF lots o a)) no
      rw [pe, e] at z
      refine nx_seq ?_
      walk_at "es"
      exact z
/-! ### loads no two of which may lie in one room -/
def apK (p : Pb) (us : List Nat) (k : Nat) : List Nat := apF p (us.take k)
def apS (p : Pb) (row : List Nat) (a : Nat) : List Nat := if row.any (fun o => joinB p [o] a) = true then row else row ++ [a]
theorem apK_succ {p : Pb} {us : List Nat} {k a : Nat} (h : us[k]? = some a) : apK p us (k + 1) = apS p (apK p us k) a := by
  unfold apK apF
  rw [take_snoc' h, List.foldl_append]
  rfl
def R_apart (C : Addr) : Stt → List D → (D → Stt → Prop) → Prop := fun S vs Z => ∃ (p : Pb) (us : List Nat), vs = [natsD us] ∧ S = objR C p ∧ Sz p ∧ us.Perm (List.range (nP p)) ∧ Z (natsD (sN (apF p us))) (objR C p)
theorem sortI_nI (l : List Nat) : sortI (nI l) = nI (sN l) := by
  unfold sortI nI sN
  exact (PySem.W.sort_maps (r := fun a b : Nat => decide (a ≤ b)) (s := fun a b : Int => decide (a ≤ b)) (fun k : Nat => (k : Int)) (l := l) fun a _ b _ => decide_eq_decide.mpr (by omega)).symm
theorem any_joinD (p : Pb) (row : List Nat) (a : Nat) : ((row.filter fun _ => true).map fun o => PyData.bool (joinB p [o] a)) = (row.map fun o => joinB p [o] a).map .bool := by rw [filt_all, List.map_map]; rfl
theorem sx_Rooms_apart (K : PySem.W.Frag) (C : Addr) (S : Stt) (vs : List D) (Z : D → Stt → Prop) (h : R_apart C S vs Z) :
    SX (T_Rooms_apart K C R_mj) (.st S :: (vs.map .val ++ List.replicate (N_Rooms_apart.length - (vs.length + 1)) .emp)) { nx := fun ρ' => ∃ S', ρ'[0]? = some (.st S') ∧ Z .none S', rt := fun d ρ' => ∃ S', ρ'[0]? = some (.st S') ∧ Z d S' } := by
  obtain ⟨p, us, rfl, rfl, sz, up, z⟩ := h
  show SX (T_Rooms_apart K C R_mj) [.st (objR C p), .val (.list (us.map fun k : Nat => .int (k : Int))), .emp, .emp, .emp] _
  unfold T_Rooms_apart
  have n8 := sz.np
  have ul := up.length_eq
  rw [List.length_range] at ul
  have und : us.Nodup := up.nodup_iff.mpr List.nodup_range
  have ult : ∀ x ∈ us, x < nP p := fun x hx => List.mem_range.mp (up.mem_iff.mp hx)
  refine sx_seq (sx_asgO (eo_lst ?_))
  walk_at "es"
  refine sx_for (J := [3]) (ei_list ?_)
  walk_at "es"
  refine ⟨fun k ρ' => ρ' = [.st (objR C p), .val (.list (us.map fun k : Nat => .int (k : Int))), .own ((apK p us k).map fun k : Nat => .int (k : Int)), .emp, .emp], rfl, ?_, ?_⟩
  · rintro k dd ρ' hd0 rfl
    obtain ⟨a, ha, rfl⟩ := map_at hd0
    have am := List.mem_of_getElem? ha
    have sc := apK_succ (p := p) ha
    have I := ap_ok (p := p) (us := us.take k) (und.sublist (List.take_sublist k us))
    have rl : (apK p us k).length ≤ 8 := by
      have h1 : (apK p us k).Perm ((List.range (nP p)).filter fun x => decide (x ∈ apK p us k)) := perm_in I.nd fun x hx => ult x (List.mem_of_mem_take (I.sub x hx))
      have h2 := List.length_filter_le (fun x => decide (x ∈ apK p us k)) (List.range (nP p))
      rw [← h1.length_eq, List.length_range] at h2
      omega
    have rlt : ∀ x ∈ apK p us k, x < nP p := fun x hx => ult x (List.mem_of_mem_take (I.sub x hx))
    generalize apK p us k = row at sc rl rlt ⊢
    refine sg_name (by simp) ?_
    walk_at "w"
    refine sx_if (et_val (!row.any (fun o => joinB p [o] a)) ?_ ?_)
    · walk_at "es"
      refine ex_of (eo_lcO (α := Nat) (fun _ => true) (fun o => .bool (joinB p [o] a)) (xs := row) (enc := fun k : Nat => .int (k : Int)) rfl (by omega) (fun i hi => by simp at hi; subst hi; rfl) (fun o ho => sg_name (by simp) ⟨rfl, ?_⟩) ?_)
      · walk_at "w"
        refine et_yes ⟨rfl, rfl, fun _ => ?_⟩
        walk_at "es"
        refine ex_fld rfl rmlk_loads ?_
        walk_at "es"
        refine ex_fld rfl rmlk_foes ?_
        walk_at "es"
        refine ex_fld rfl rmlk_room ?_
        walk_at "es"
        exact ⟨p, [o], a, rfl, sz, ⟨by show 1 ≤ 50; decide, fun x hx => by rw [List.mem_singleton.mp hx]; exact rlt o ho⟩, ult a am, rfl, rfl⟩
      rw [any_joinD]
      walk_at "es"
      refine cbd_any ?_
      rw [any_mapB]
      exact ⟨_, rfl, rfl, rfl⟩
    refine ⟨fun hb => ?_, fun hb => sx_next ⟨_, ?_, rfl⟩⟩
    · refine sx_app rfl ?_
      walk_at "es"
      refine ⟨by rw [List.length_map]; omega, ?_⟩
      walk_at "w"
      refine ⟨_, ?_, rfl⟩
      rw [sc]
      unfold apS
      rw [if_neg (by intro q; rw [q] at hb; cases hb), List.map_append]
      walk_at "le"
    · rw [sc]
      unfold apS
      rw [if_pos (by simpa using hb)]
      walk_at "le"
  rintro ρ' rfl
  rw [List.length_map, show apK p us us.length = apF p us by unfold apK; rw [List.take_length]]
  refine nx_seq ?_
  refine sx_freeze 2 rfl ?_
  walk_at "w"
  walk_at "es"
  rw [show (PyData.list ((apF p us).map fun k : Nat => .int (k : Int))) = natsD (apF p us) from rfl, natsD_eq]
  refine cbd_sortI ?_
  rw [sortI_nI]
  rw [natsD_eq] at z
  exact ⟨_, rfl, z⟩
end Law_k64
namespace Law_k64
open PySem L2 Pu
local macro_rules | `(tactic| walk_at "e") => `(tactic| first
  | ((with_reducible refine nx_seq ?_); (try dsimp only [List.set_cons_succ, List.set_cons_zero]))
  | ((with_reducible refine ex_vr ?_); dsimp only [VQ, List.set_cons_succ, List.set_cons_zero, List.getElem?_cons_zero, List.getElem?_cons_succ]; (fail_if_success (with_reducible show False)))
  | (with_reducible refine sx_seq ?_)
  | (with_reducible refine sx_if ?_)
  | (with_reducible refine sx_next ?_)
  | (with_reducible refine sx_ret ?_)
  | ((fail_if_success (with_reducible refine sx_asgO (eo_lst ?_))); (with_reducible refine sx_asg ?_))
  | (with_reducible refine ex_int ?_)
  | (with_reducible refine ex_str ?_)
  | (with_reducible refine ex_bl ?_)
  | (with_reducible refine ex_non ?_)
  | (with_reducible refine ex_op ?_)
  | (with_reducible refine ex_un ?_)
  | (with_reducible refine ex_chain ?_)
  | (with_reducible refine ex_call ?_)
  | (with_reducible refine ex_isT ?_)
  | (with_reducible refine ex_cb ?_)
  | (with_reducible refine ex_sl ?_)
  | (with_reducible refine ex_tup ?_)
  | (with_reducible refine ex_if ?_)
  | (with_reducible refine ex_of (eo_lst ?_))
  | (with_reducible refine ex_notV ?_)
  | (with_reducible refine ea_nil ?_)
  | (with_reducible refine ea_cons ?_)
  | (with_reducible refine ep_no ?_)
  | (with_reducible refine ep_some ?_)
  | (with_reducible refine et_test ?_)
  | (with_reducible refine et_B ?_)
  | (with_reducible refine et_ch3 ?_)
  | (with_reducible refine et_and ?_)
  | (with_reducible refine et_or ?_)
  | (with_reducible refine et_not ?_)
  | (with_reducible refine et_yes ?_)
  | (with_reducible refine et_truL ?_)
  | (with_reducible refine opd_plusI ?_)
  | (with_reducible refine opd_I0 ?_)
  | (with_reducible refine opd_B0 ?_)
  | (with_reducible refine opd_eqI ?_)
  | (with_reducible refine opd_neI ?_)
  | (with_reducible refine opd_eqS ?_)
  | (with_reducible refine opd_neS ?_)
  | (with_reducible refine opd_is ?_)
  | (with_reducible refine opd_isnt ?_)
  | (with_reducible refine opd_ixT rfl ?_)
  | (with_reducible refine opd_ixL rfl ?_)
  | (with_reducible refine und_neg ?_)
  | (with_reducible refine cbd_lenL ?_)
  | (with_reducible refine cbd_lenT ?_)
  | (with_reducible refine cbd_min2 ?_)
  | (with_reducible refine cbd_max2 ?_)
  | (with_reducible refine cbd_abs ?_)
  | (with_reducible refine cbd_int ?_)
  | (with_reducible refine cbd_tupL ?_)
  | (with_reducible refine cbd_listL ?_)
  | (with_reducible refine cbd_listT ?_)
  | (with_reducible refine cbd_sum ?_)
  | (with_reducible refine sld_T ?_)
  | (with_reducible refine sld_L ?_)
  | (with_reducible refine ex_revL ?_)
  | (with_reducible refine ex_bmL ?_)
  | (with_reducible refine ex_andV ?_)
  | (with_reducible refine ei_list ?_)
  | (with_reducible refine ei_rng1 ?_)
  | (with_reducible refine ei_rng2 ?_)
  | (with_reducible refine ei_enum ?_)
  | (with_reducible refine ei_enumT ?_)
  | (with_reducible refine ei_zip ?_)
  | (with_reducible refine sx_par ?_)
  | (with_reducible refine Exists.intro _ (And.intro rfl ?_))
  | (with_reducible refine Exists.intro _ (Exists.intro _ (And.intro rfl ?_)))
  | ((with_reducible show EX (tCall (spS _) [] _ (tCons (tVar _) _)) _ _); refine ex_callS rfl ?_)
  | ((with_reducible refine And.intro (show (_ : Nat) ≤ 100000 from ?_) ?_); (focus (simp; done)))
  | ((with_reducible refine opd_I ?_ ?_); focus (first | omega | (show CDiv _ _; exact ⟨by omega, by omega⟩) | (show CMul _ _; first | exact Or.inl ⟨by omega, by omega⟩ | exact Or.inr ⟨by omega, by omega⟩))))
local macro_rules | `(tactic| walk_at "es") => `(tactic| repeat walk_at "e")
local macro_rules | `(tactic| walk_at "w") => `(tactic| try dsimp only [wipeE, List.foldl_cons, List.foldl_nil, List.set_cons_succ, List.set_cons_zero])
local macro_rules | `(tactic| walk_at "le") => `(tactic| repeat' first | exact LeE.nil | (refine LeE.eq rfl ?_) | (refine LeE.emp ?_) | (refine LeE.eq ?_ ?_))
local macro_rules | `(tactic| walk_at "no") => `(tactic| ((refine And.intro (fun hb => absurd hb ?_) (fun _ => ?_)); (focus (first | (exact Bool.false_ne_true) | (simp; done) | (simp; omega) | (simp only [decide_eq_true_eq]; omega)))))
local macro_rules | `(tactic| walk_at "yes") => `(tactic| ((refine And.intro (fun _ => ?_) (fun hb => absurd hb ?_)); (rotate_left); (focus (first | (exact Bool.noConfusion) | (simp; done) | (simp; omega) | (simp only [decide_eq_false_iff_not]; omega)))))
local macro_rules | `(tactic| walk_at "ei") => `(tactic| repeat ((fail_if_success (with_reducible show SX (tSeq (tIfS _ _ _) _) _ _)); (fail_if_success (with_reducible show SX (tIfS _ _ _) _ _)); (fail_if_success (with_reducible show SX (tSeq (tAsg (tIf _ _ _) _) _) _ _)); walk_at "e"))
local macro_rules | `(tactic| walk_at "tv") => `(tactic| repeat' first | walk_at "e" | ((with_reducible show (_ = true → _) ∧ (_ = false → _)); refine And.intro (fun _ => ?_) (fun _ => ?_)))
/-! ### trees as data; prove -/
theorem sx_seqJ {t u : TS} {ρ : Pu.Env} {P : Po} (J : Pu.Env → Prop) (h : SX t ρ { P with nx := J }) (k : ∀ ρ1, J ρ1 → SX u ρ1 P) : SX (tSeq t u) ρ P := sx_seq fun B σ F H w Dn n r b c => h B σ F H w Dn (fun ρ' σ' F' H' q w' => n ρ' σ' F' H' (k ρ' q) w') r b c
mutual
def encT : Tr → D
  | .weight => .tuple [.str (Str.ofString "weight")]
  | .apart row => .tuple [.str (Str.ofString "apart"), natsD row]
  | .load a ts => .tuple [.str (Str.ofString "load"), .int (a : Int), .list (encTs ts)]
def encTs : List Tr → List D
  | [] => []
  | t :: ts => encT t :: encTs ts
end
theorem encTs_map : ∀ ts : List Tr, encTs ts = ts.map encT
  | [] => rfl
  | t :: ts => by rw [encTs, encTs_map ts]; rfl
def R_prove (C : Addr) (f : Nat) : Stt → List D → (D → Stt → Prop) → Prop := fun S vs Z => ∃ (p : Pb) (lots : List (List Nat)) (t m : Nat) (us : List Nat), vs = [lotsD lots, .int (t : Int), .int (m : Int)] ∧ S = objR C p ∧ Sz p ∧ us = (ordF p).drop t ∧ t ≤ nP p ∧ Rest p lots us ∧ lots.length ≤ t ∧ us.length < f ∧ (lots = [] → t = 0) ∧ m ≤ 100 ∧ putF p m us lots = none ∧ Z (encT (prF p m us lots)) (objR C p)
theorem no_prove {C : Addr} : ∀ S ds Z, ¬ R_prove C 0 S ds Z := fun S ds Z h => by
  obtain ⟨p, lots, t, m, us, _, _, _, _, _, _, _, h, _⟩ := h
  omega
theorem lots_emp (lots : List (List Nat)) : (lots.map natsD).isEmpty = decide (lots = []) := by
  cases lots with
  | nil => rfl
  | cons l ls => simp
theorem allW_D (p : Pb) : ((p.ls.filter fun _ => true).map fun l => PyData.int l.w) = (p.ls.map fun l => l.w).map .int := by rw [filt_all, List.map_map]; rfl
theorem wl_ne {lots : List (List Nat)} {o a : Nat} (ho : o ≤ lots.length) : wlF lots o a ≠ [] := fun e => by
  have := congrArg List.length e
  unfold wlF at this
  split at this
  · simp at this
  · rename_i h
    rw [List.length_set] at this
    have this : lots.length = 0 := this
    omega
theorem sx_Rooms_prove (K : PySem.W.Frag) (C : Addr) (f : Nat) (S : Stt) (vs : List D) (Z : D → Stt → Prop) (h : R_prove C (f + 1) S vs Z) :
    SX (T_Rooms_prove K C (R_apart C) (R_prove C f) (R_spots C) R_wl) (.st S :: (vs.map .val ++ List.replicate (N_Rooms_prove.length - (vs.length + 1)) .emp)) { nx := fun ρ' => ∃ S', ρ'[0]? = some (.st S') ∧ Z .none S', rt := fun d ρ' => ∃ S', ρ'[0]? = some (.st S') ∧ Z d S' } := by
  obtain ⟨p, lots, t, m, us, rfl, rfl, sz, eu, ht, rs, hl, hf, h0, hm, hp, z⟩ := h
  show SX (T_Rooms_prove K C (R_apart C) (R_prove C f) (R_spots C) R_wl) [.st (objR C p), .val (.list (lots.map natsD)), .val (.int (t : Int)), .val (.int (m : Int)), .emp, .emp, .emp, .emp, .emp] _
  unfold T_Rooms_prove
  have n8 := sz.np
  have ol := ord_len p
  have lo := rest_ok n8 rs (by omega)
  have pnl : p.ls.length ≤ 8 := sz.n
  cases us with
  | nil => cases hp
  | cons a us =>
    obtain ⟨t1, t2, t3⟩ := ord_at eu
    obtain ⟨ha, hn⟩ := rs.hd
    refine sx_seqJ (fun ρ' => ρ' = [.st (objR C p), .val (.list (lots.map natsD)), .val (.int (t : Int)), .val (.int (m : Int)), .emp, .emp, .emp, .emp, .emp] ∧ Z (encT (.load a ((spF p lots a m).map fun o => prF p m us (wlF lots o a)))) (objR C p)) ?_ ?_
    · refine sx_if (et_val (decide (lots = [])) ?_ ?_)
      · refine et_not (et_truL ?_)
        walk_at "es"
        rw [lots_emp, Bool.not_not]
        exact ⟨rfl, rfl⟩
      refine ⟨fun hb => ?_, fun hb => sx_next ⟨_, ?_, rfl, ?_⟩⟩
      · have hb := of_decide_eq_true hb
        have t0 := h0 hb
        subst hb
        have us0 : a :: us = ordF p := by rw [eu, t0]; rfl
        refine sx_seq (sx_asg ?_)
        refine ex_meth rfl rmno_apart ?_
        walk_at "es"
        refine ex_fld rfl rmlk_order ?_
        walk_at "es"
        refine ⟨p, ordF p, rfl, rfl, sz, ord_perm p, ?_⟩
        rw [← us0]
        unfold prF at z
        have sl := sN_perm (apF p (a :: us))
        generalize sN (apF p (a :: us)) = row at z sl
        refine nx_seq ?_
        unfold natsD
        walk_at "w"
        refine sx_seq (sx_if (et_val (decide (m < row.length)) ?_ ?_))
        · walk_at "es"
          rw [List.length_map]
          exact ⟨decide_eq_decide.mpr (by omega), rfl⟩
        refine ⟨fun hb => ?_, fun hb => sx_next (nx_seq ?_)⟩
        · rw [if_pos ⟨rfl, of_decide_eq_true hb⟩] at z
          walk_at "es"
          exact ⟨_, rfl, z⟩
        rw [if_neg (fun q => of_decide_eq_false hb q.2)] at z
        refine sx_if (et_val (decide ((m : Int) * p.r < allW p)) ?_ ?_)
        · walk_at "es"
          refine ex_of (eo_lcP (α := Ld) (fun _ => true) (fun l => .int l.w) (ei_list ?_))
          walk_at "es"
          refine ex_fld rfl rmlk_loads ?_
          unfold lsD
          walk_at "es"
          refine ⟨by omega, fun i hi => by simp at hi; subst hi; rfl, fun l hl => sg_name (by simp) ⟨rfl, ?_⟩, ?_⟩
          · unfold encL
            walk_at "w"
            refine et_yes ⟨rfl, rfl, fun _ => ?_⟩
            walk_at "es"
            exact ⟨rfl, rfl⟩
          rw [allW_D]
          walk_at "es"
          refine ex_fld rfl rmlk_room ?_
          have r2 := sz.r
          walk_at "es"
          exact ⟨rfl, rfl⟩
        refine ⟨fun hb => ?_, fun hb => sx_next ⟨_, ?_, rfl, ?_⟩⟩
        · rw [if_pos ⟨rfl, of_decide_eq_true hb⟩] at z
          walk_at "es"
          exact z
        · walk_at "le"
        · rw [if_neg (fun q => of_decide_eq_false hb q.2)] at z
          exact z
      · walk_at "le"
      · have hb := of_decide_eq_false hb
        unfold prF at z
        rw [if_neg (fun q => hb q.1), if_neg (fun q => hb q.1)] at z
        exact z
    rintro ρ1 ⟨rfl, z⟩
    refine sx_seq (sx_asg ?_)
    walk_at "es"
    refine ex_fld rfl rmlk_order ?_
    unfold natsD
    walk_at "es"
    refine opd_ixL t2 ?_
    refine nx_seq ?_
    walk_at "w"
    have pn : ∀ o ∈ spF p lots a m, putF p m us (wlF lots o a) = none := fun o ho => List.findSome?_eq_none_iff.mp hp o ho
    have sle := fun o (ho : o ∈ spF p lots a m) => sp_le ho
    have spl : (spF p lots a m).length ≤ lots.length + 1 := by
      have := List.length_filter_le (fun i => joinB p (lots.getD i []) a) (List.range lots.length)
      rw [List.length_range] at this
      have h1 : (newF lots.length m).length ≤ 1 := by unfold newF; split <;> simp
      unfold spF
      rw [List.length_append]
      omega
    refine sx_seq (sx_asg (ex_of (eo_lcP (α := Nat) (fun _ => true) (fun o => encT (prF p m us (wlF lots o a))) (ei_list ?_))))
    refine ex_meth rfl rmno_spots ?_
    walk_at "es"
    refine ⟨p, lots, a, m, rfl, rfl, sz, lo, ha, ?_⟩
    unfold natsD
    refine ⟨_, rfl, spF p lots a m, fun k : Nat => .int (k : Int), rfl, by omega, fun i hi => by simp at hi; subst hi; rfl, fun o ho => sg_name (by simp) ⟨rfl, ?_⟩, ?_⟩
    · walk_at "w"
      refine et_yes ⟨rfl, rfl, fun _ => ?_⟩
      refine ex_meth rfl rmno_prove ?_
      walk_at "es"
      refine ⟨lots, o, a, rfl, by omega, fun l hm => by have := (lo.2 l hm).1; omega, sle o ho, ?_⟩
      walk_at "es"
      have wl := wl_len (lots := lots) (o := o) (a := a)
      exact ⟨p, wlF lots o a, t + 1, m, us, rfl, rfl, sz, t3, by omega, rs.wl (sle o ho), by omega, by simpa using hf, fun e => absurd e (wl_ne (sle o ho)), hm, pn o ho, rfl, rfl⟩
    refine nx_seq ?_
    walk_at "w"
    rw [encT, encTs_map, List.map_map] at z
    rw [filt_all]
    walk_at "es"
    exact z
end Law_k64
namespace Law_k64
open PySem L2 Pu
local macro_rules | `(tactic| walk_at "e") => `(tactic| first
  | ((with_reducible refine nx_seq ?_); (try dsimp only [List.set_cons_succ, List.set_cons_zero]))
  | ((with_reducible refine ex_vr ?_); dsimp only [VQ, List.set_cons_succ, List.set_cons_zero, List.getElem?_cons_zero, List.getElem?_cons_succ]; (fail_if_success (with_reducible show False)))
  | (with_reducible refine sx_seq ?_)
  | (with_reducible refine sx_if ?_)
  | (with_reducible refine sx_next ?_)
  | (with_reducible refine sx_ret ?_)
  | ((fail_if_success (with_reducible refine sx_asgO (eo_lst ?_))); (with_reducible refine sx_asg ?_))
  | (with_reducible refine ex_int ?_)
  | (with_reducible refine ex_str ?_)
  | (with_reducible refine ex_bl ?_)
  | (with_reducible refine ex_non ?_)
  | (with_reducible refine ex_op ?_)
  | (with_reducible refine ex_un ?_)
  | (with_reducible refine ex_chain ?_)
  | (with_reducible refine ex_call ?_)
  | (with_reducible refine ex_isT ?_)
  | (with_reducible refine ex_cb ?_)
  | (with_reducible refine ex_sl ?_)
  | (with_reducible refine ex_tup ?_)
  | (with_reducible refine ex_if ?_)
  | (with_reducible refine ex_of (eo_lst ?_))
  | (with_reducible refine ex_notV ?_)
  | (with_reducible refine ea_nil ?_)
  | (with_reducible refine ea_cons ?_)
  | (with_reducible refine ep_no ?_)
  | (with_reducible refine ep_some ?_)
  | (with_reducible refine et_test ?_)
  | (with_reducible refine et_B ?_)
  | (with_reducible refine et_ch3 ?_)
  | (with_reducible refine et_and ?_)
  | (with_reducible refine et_or ?_)
  | (with_reducible refine et_not ?_)
  | (with_reducible refine et_yes ?_)
  | (with_reducible refine et_truL ?_)
  | (with_reducible refine opd_plusI ?_)
  | (with_reducible refine opd_I0 ?_)
  | (with_reducible refine opd_B0 ?_)
  | (with_reducible refine opd_eqI ?_)
  | (with_reducible refine opd_neI ?_)
  | (with_reducible refine opd_eqS ?_)
  | (with_reducible refine opd_neS ?_)
  | (with_reducible refine opd_is ?_)
  | (with_reducible refine opd_isnt ?_)
  | (with_reducible refine opd_ixT rfl ?_)
  | (with_reducible refine opd_ixL rfl ?_)
  | (with_reducible refine und_neg ?_)
  | (with_reducible refine cbd_lenL ?_)
  | (with_reducible refine cbd_lenT ?_)
  | (with_reducible refine cbd_min2 ?_)
  | (with_reducible refine cbd_max2 ?_)
  | (with_reducible refine cbd_abs ?_)
  | (with_reducible refine cbd_int ?_)
  | (with_reducible refine cbd_tupL ?_)
  | (with_reducible refine cbd_listL ?_)
  | (with_reducible refine cbd_listT ?_)
  | (with_reducible refine cbd_sum ?_)
  | (with_reducible refine sld_T ?_)
  | (with_reducible refine sld_L ?_)
  | (with_reducible refine ex_revL ?_)
  | (with_reducible refine ex_bmL ?_)
  | (with_reducible refine ex_andV ?_)
  | (with_reducible refine ei_list ?_)
  | (with_reducible refine ei_rng1 ?_)
  | (with_reducible refine ei_rng2 ?_)
  | (with_reducible refine ei_enum ?_)
  | (with_reducible refine ei_enumT ?_)
  | (with_reducible refine ei_zip ?_)
  | (with_reducible refine sx_par ?_)
  | (with_reducible refine Exists.intro _ (And.intro rfl ?_))
  | (with_reducible refine Exists.intro _ (Exists.intro _ (And.intro rfl ?_)))
  | ((with_reducible show EX (tCall (spS _) [] _ (tCons (tVar _) _)) _ _); refine ex_callS rfl ?_)
  | ((with_reducible refine And.intro (show (_ : Nat) ≤ 100000 from ?_) ?_); (focus (simp; done)))
  | ((with_reducible refine opd_I ?_ ?_); focus (first | omega | (show CDiv _ _; exact ⟨by omega, by omega⟩) | (show CMul _ _; first | exact Or.inl ⟨by omega, by omega⟩ | exact Or.inr ⟨by omega, by omega⟩))))
local macro_rules | `(tactic| walk_at "es") => `(tactic| repeat walk_at "e")
local macro_rules | `(tactic| walk_at "w") => `(tactic| try dsimp only [wipeE, List.foldl_cons, List.foldl_nil, List.set_cons_succ, List.set_cons_zero])
local macro_rules | `(tactic| walk_at "le") => `(tactic| repeat' first | exact LeE.nil | (refine LeE.eq rfl ?_) | (refine LeE.emp ?_) | (refine LeE.eq ?_ ?_))
local macro_rules | `(tactic| walk_at "no") => `(tactic| ((refine And.intro (fun hb => absurd hb ?_) (fun _ => ?_)); (focus (first | (exact Bool.false_ne_true) | (simp; done) | (simp; omega) | (simp only [decide_eq_true_eq]; omega)))))
local macro_rules | `(tactic| walk_at "yes") => `(tactic| ((refine And.intro (fun _ => ?_) (fun hb => absurd hb ?_)); (rotate_left); (focus (first | (exact Bool.noConfusion) | (simp; done) | (simp; omega) | (simp only [decide_eq_false_iff_not]; omega)))))
local macro_rules | `(tactic| walk_at "ei") => `(tactic| repeat ((fail_if_success (with_reducible show SX (tSeq (tIfS _ _ _) _) _ _)); (fail_if_success (with_reducible show SX (tIfS _ _ _) _ _)); (fail_if_success (with_reducible show SX (tSeq (tAsg (tIf _ _ _) _) _) _ _)); walk_at "e"))
local macro_rules | `(tactic| walk_at "tv") => `(tactic| repeat' first | walk_at "e" | ((with_reducible show (_ = true → _) ∧ (_ = false → _)); refine And.intro (fun _ => ?_) (fun _ => ?_)))
/-! ### the tree's judge -/
def pathD (path : List (Nat × Nat)) : D := .list (path.map fun q => .tuple [.int (q.1 : Int), .int (q.2 : Int)])
def fltD : Fl → D
  | none => .none
  | some f => .tuple [.str (Str.ofString f.1), pathD f.2]
mutual
def Sane : Tr → Prop
  | .weight => True
  | .apart row => row.length ≤ 50
  | .load _ ts => ts.length ≤ 50 ∧ SaneL ts
def SaneL : List Tr → Prop
  | [] => True
  | t :: ts => Sane t ∧ SaneL ts
end
theorem saneL_at : ∀ {ts : List Tr}, SaneL ts → ∀ i, i < ts.length → Sane (ts.getD i .weight)
  | [], _, i, h => absurd h (by simp)
  | t :: ts, h, 0, _ => by rw [SaneL] at h; exact h.1
  | t :: ts, h, i + 1, hi => by rw [SaneL] at h; exact saneL_at h.2 i (by simpa using hi)
theorem lc2_flatN (lots : List (List Nat)) : lc2L (fun _ : List Nat => true) (fun l => l) (fun _ _ => true) (fun _ (y : Nat) => PyData.int (y : Int)) lots = lots.flatten.map fun k : Nat => .int (k : Int) := by
  unfold lc2L
  rw [List.filter_eq_self.mpr (fun _ _ => rfl)]
  induction lots with
  | nil => rfl
  | cons l ls ih =>
    rw [List.flatMap_cons, List.flatten_cons, List.map_append, ih, List.filter_eq_self.mpr (fun _ _ => rfl)]
theorem flat_len2 : ∀ {lots : List (List Nat)} {b : Nat}, (∀ l ∈ lots, l.length ≤ b) → lots.flatten.length ≤ lots.length * b
  | [], _, _ => by simp
  | l :: ls, b, h => by
    have ih := flat_len2 (lots := ls) (b := b) fun x hx => h x (by simp [hx])
    have := h l (by simp)
    rw [List.flatten_cons, List.length_append, List.length_cons, Nat.succ_mul]
    omega
theorem left_lt {p : Pb} {lots : List (List Nat)} {x : Nat} (h : x ∈ leftF p lots) : x < nP p := List.mem_range.mp (List.mem_filter.mp h).1
theorem left_len (p : Pb) (lots : List (List Nat)) : (leftF p lots).length ≤ nP p := by
  have := List.length_filter_le (fun x => !decide (x ∈ lots.flatten)) (List.range (nP p))
  rw [List.length_range] at this
  exact this
theorem us_row {us : List Int} {row : List Nat} (h1 : us.Pairwise (· < ·)) (h2 : ∀ k, k ∈ us ↔ k ∈ nI row) : decide (nI row = us) = decide (row.Pairwise fun a b => a < b) := by
  refine decide_eq_decide.mpr ⟨fun e => ?_, fun h => ?_⟩
  · rw [← e] at h1
    unfold nI at h1
    exact (List.pairwise_map.mp h1).imp fun q => by omega
  · have p2 : (nI row).Pairwise (· < ·) := by
      unfold nI
      exact List.pairwise_map.mpr (h.imp fun q => by omega)
    have p : us.Perm (nI row) := (List.perm_ext_iff_of_nodup (h1.imp fun q => by omega) (p2.imp fun q => by omega)).mpr h2
    exact (p.eq_of_pairwise (le := fun a b : Int => a < b) (fun a b _ _ q1 q2 => by omega) h1 p2).symm
theorem sp_len {p : Pb} {lots : List (List Nat)} {a m : Nat} : (spF p lots a m).length ≤ lots.length + 1 := by
  have := List.length_filter_le (fun i => joinB p (lots.getD i []) a) (List.range lots.length)
  rw [List.length_range] at this
  have h1 : (newF lots.length m).length ≤ 1 := by unfold newF; split <;> simp
  unfold spF
  rw [List.length_append]
  omega
theorem wl_ok {p : Pb} {lots : List (List Nat)} {a o : Nat} (lo : LotsOk p lots) (ho : o ≤ lots.length) (ha : a < nP p) {n : Nat} (h1 : lots.length ≤ n) (h2 : n < 20) (h3 : ∀ l ∈ lots, l.length ≤ n) : LotsOk p (wlF lots o a) ∧ (wlF lots o a).length ≤ n + 1 ∧ ∀ l ∈ wlF lots o a, l.length ≤ n + 1 := by
  have mem : ∀ l ∈ wlF lots o a, l ∈ lots ∨ l = lots.getD o [] ++ [a] := fun l hl => by
    unfold wlF at hl
    split at hl
    · rename_i e
      rcases List.mem_append.mp hl with q | q
      · exact .inl q
      · refine .inr ?_
        rw [List.mem_singleton.mp q, e, List.getD_eq_getElem?_getD, List.getElem?_eq_none (Nat.le_refl _)]
        rfl
    · rcases List.mem_or_eq_of_mem_set hl with q | q
      · exact .inl q
      · exact .inr q
  have row : ∀ x ∈ lots.getD o [], x < nP p := fun x hx => by
    by_cases c : o < lots.length
    · exact (lot_row lo c).2 x hx
    · rw [List.getD_eq_getElem?_getD, List.getElem?_eq_none (by omega)] at hx
      cases hx
  have rl : (lots.getD o []).length ≤ n := by
    by_cases c : o < lots.length
    · exact h3 _ (by rw [List.getD_eq_getElem?_getD, List.getElem?_eq_getElem c]; exact List.getElem_mem c)
    · rw [List.getD_eq_getElem?_getD, List.getElem?_eq_none (by omega)]; simp
  have wl := wl_len (lots := lots) (o := o) (a := a)
  have ll : ∀ l ∈ wlF lots o a, l.length ≤ n + 1 := fun l hl => by
    rcases mem l hl with q | q
    · have := h3 l q; omega
    · rw [q, List.length_append]
      show _ + 1 ≤ n + 1
      omega
  refine ⟨⟨by omega, fun l hl => ⟨by have := ll l hl; omega, fun x hx => ?_⟩⟩, by omega, ll⟩
  rcases mem l hl with q | q
  · exact (lo.2 l q).2 x hx
  · rw [q] at hx
    rcases List.mem_append.mp hx with z | z
    · exact row x z
    · rw [List.mem_singleton.mp z]; exact ha
/-- sizes of a judge's task -/
structure Tsk (p : Pb) (f : Nat) (lots : List (List Nat)) (path : List (Nat × Nat)) : Prop where
  sz : Sz p
  lo : LotsOk p lots
  n : ∃ n, lots.length ≤ n ∧ (∀ l ∈ lots, l.length ≤ n) ∧ n + f ≤ 20 ∧ path.length ≤ n
  lf : (leftF p lots).length < f
theorem Tsk.wl {p : Pb} {f : Nat} {lots : List (List Nat)} {path : List (Nat × Nat)} (h : Tsk p (f + 1) lots path) {a o : Nat} (ho : o ≤ lots.length) (ha : a ∈ leftF p lots) (q : Nat × Nat) : Tsk p f (wlF lots o a) (path ++ [q]) := by
  obtain ⟨sz, lo, ⟨n, n1, n2, n3, n4⟩, lf⟩ := h
  obtain ⟨w1, w2, w3⟩ := wl_ok lo ho (left_lt ha) n1 (by omega) n2
  exact ⟨sz, w1, ⟨n + 1, w2, w3, by omega, by rw [List.length_append]; show _ + 1 ≤ _; omega⟩, by have := left_wl (p := p) ho ha; omega⟩
def R_tf (C : Addr) (f : Nat) : Stt → List D → (D → Stt → Prop) → Prop := fun S vs Z => ∃ (p : Pb) (lots : List (List Nat)) (m : Nat) (path : List (Nat × Nat)) (tr : Tr), vs = [lotsD lots, .int (m : Int), pathD path, encT tr] ∧ S = objR C p ∧ Tsk p f lots path ∧ m ≤ 100 ∧ Sane tr ∧ Z (fltD (tfF p m f lots path tr)) (objR C p)
theorem no_tf {C : Addr} : ∀ S ds Z, ¬ R_tf C 0 S ds Z := fun S ds Z h => by
  obtain ⟨p, lots, m, path, tr, _, _, h, _⟩ := h
  have := h.lf
  omega
def R_ltf (f : Nat) : List D → (D → Prop) → Prop := fun vs Z => ∃ (p : Pb) (lots : List (List Nat)) (m : Nat) (path : List (Nat × Nat)) (tr : Tr), vs = [lsD p, fsD p, .int p.r, lotsD lots, .int (m : Int), pathD path, encT tr] ∧ Tsk p f lots path ∧ m ≤ 100 ∧ Sane tr ∧ Z (fltD (tfF p m f lots path tr))
theorem no_ltf : ∀ ds Z, ¬ R_ltf 0 ds Z := fun ds Z h => by
  obtain ⟨p, lots, m, path, tr, _, h, _⟩ := h
  have := h.lf
  omega
theorem enc_w : encT .weight = .tuple [.str (Str.ofString "weight")] := by rw [encT]
theorem enc_a (row : List Nat) : encT (.apart row) = .tuple [.str (Str.ofString "apart"), natsD row] := by rw [encT]
theorem enc_l (a : Nat) (ts : List Tr) : encT (.load a ts) = .tuple [.str (Str.ofString "load"), .int (a : Int), .list (ts.map encT)] := by rw [encT, encTs_map]
theorem all_inD (row left : List Nat) : ((row.filter fun _ => true).map fun x => PyData.bool (decide (x ∈ left))) = (row.map fun x => decide (x ∈ left)).map .bool := by rw [filt_all, List.map_map]; rfl
theorem all_mapB {α : Type} (f : α → Bool) : ∀ l : List α, (l.map f).all id = l.all f
  | [] => rfl
  | s :: l => by rw [List.map_cons, List.all_cons, List.all_cons, all_mapB f l]; rfl
theorem zip_T (sp : List Nat) (ts : List Tr) (h : ts.length = sp.length) : List.zipWith (fun d f => PyData.tuple [d, f]) (sp.map fun k : Nat => PyData.int (k : Int)) (ts.map encT) = (List.range ts.length).map fun i => PyData.tuple [.int ((sp.getD i 0 : Nat) : Int), encT (ts.getD i .weight)] := by
  refine List.ext_getElem? fun i => ?_
  by_cases hi : i < ts.length
  · have hs : i < sp.length := by omega
    have e1 : sp.getD i 0 = sp[i] := by rw [List.getD_eq_getElem?_getD, List.getElem?_eq_getElem hs]; rfl
    have e2 : ts.getD i .weight = ts[i] := by rw [List.getD_eq_getElem?_getD, List.getElem?_eq_getElem hi]; rfl
    rw [List.getElem?_zipWith, List.getElem?_map, List.getElem?_map, List.getElem?_map, List.getElem?_range hi, List.getElem?_eq_getElem hi, List.getElem?_eq_getElem hs]
    show some (PyData.tuple [.int ((sp[i] : Nat) : Int), encT ts[i]]) = some (PyData.tuple [.int ((sp.getD i 0 : Nat) : Int), encT (ts.getD i .weight)])
    rw [e1, e2]
  · rw [List.getElem?_eq_none (by rw [List.length_zipWith, List.length_map, List.length_map]; omega), List.getElem?_eq_none (by rw [List.length_map, List.length_range]; omega)]
theorem two_at {p : Pb} {row : List Nat} {i : Nat} (hi : i < row.length) (h : (row.take i).any (fun o => joinB p [o] (row.getD i 0)) = true) : twoB p row = true := by
  unfold twoB
  rw [List.any_eq_true]
  exact ⟨i, List.mem_range.mpr hi, h⟩
theorem two_no {p : Pb} {row : List Nat} (h : ∀ i, i < row.length → (row.take i).any (fun o => joinB p [o] (row.getD i 0)) = false) : twoB p row = false := by
  unfold twoB
  rw [List.any_eq_false]
  intro i hi
  rw [h i (List.mem_range.mp hi)]
  decide
end Law_k64
namespace Law_k64
open PySem L2 Pu
local macro_rules | `(tactic| walk_at "e") => `(tactic| first
  | ((with_reducible refine nx_seq ?_); (try dsimp only [List.set_cons_succ, List.set_cons_zero]))
  | ((with_reducible refine ex_vr ?_); dsimp only [VQ, List.set_cons_succ, List.set_cons_zero, List.getElem?_cons_zero, List.getElem?_cons_succ]; (fail_if_success (with_reducible show False)))
  | (with_reducible refine sx_seq ?_)
  | (with_reducible refine sx_if ?_)
  | (with_reducible refine sx_next ?_)
  | (with_reducible refine sx_ret ?_)
  | ((fail_if_success (with_reducible refine sx_asgO (eo_lst ?_))); (with_reducible refine sx_asg ?_))
  | (with_reducible refine ex_int ?_)
  | (with_reducible refine ex_str ?_)
  | (with_reducible refine ex_bl ?_)
  | (with_reducible refine ex_non ?_)
  | (with_reducible refine ex_op ?_)
  | (with_reducible refine ex_un ?_)
  | (with_reducible refine ex_chain ?_)
  | (with_reducible refine ex_call ?_)
  | (with_reducible refine ex_isT ?_)
  | (with_reducible refine ex_cb ?_)
  | (with_reducible refine ex_sl ?_)
  | (with_reducible refine ex_tup ?_)
  | (with_reducible refine ex_if ?_)
  | (with_reducible refine ex_of (eo_lst ?_))
  | (with_reducible refine ex_notV ?_)
  | (with_reducible refine ea_nil ?_)
  | (with_reducible refine ea_cons ?_)
  | (with_reducible refine ep_no ?_)
  | (with_reducible refine ep_some ?_)
  | (with_reducible refine et_test ?_)
  | (with_reducible refine et_B ?_)
  | (with_reducible refine et_ch3 ?_)
  | (with_reducible refine et_and ?_)
  | (with_reducible refine et_or ?_)
  | (with_reducible refine et_not ?_)
  | (with_reducible refine et_yes ?_)
  | (with_reducible refine et_truL ?_)
  | (with_reducible refine opd_plusI ?_)
  | (with_reducible refine opd_I0 ?_)
  | (with_reducible refine opd_B0 ?_)
  | (with_reducible refine opd_eqI ?_)
  | (with_reducible refine opd_neI ?_)
  | (with_reducible refine opd_eqS ?_)
  | (with_reducible refine opd_neS ?_)
  | (with_reducible refine opd_is ?_)
  | (with_reducible refine opd_isnt ?_)
  | (with_reducible refine opd_ixT rfl ?_)
  | (with_reducible refine opd_ixL rfl ?_)
  | (with_reducible refine und_neg ?_)
  | (with_reducible refine cbd_lenL ?_)
  | (with_reducible refine cbd_lenT ?_)
  | (with_reducible refine cbd_min2 ?_)
  | (with_reducible refine cbd_max2 ?_)
  | (with_reducible refine cbd_abs ?_)
  | (with_reducible refine cbd_int ?_)
  | (with_reducible refine cbd_tupL ?_)
  | (with_reducible refine cbd_listL ?_)
  | (with_reducible refine cbd_listT ?_)
  | (with_reducible refine cbd_sum ?_)
  | (with_reducible refine sld_T ?_)
  | (with_reducible refine sld_L ?_)
  | (with_reducible refine ex_revL ?_)
  | (with_reducible refine ex_bmL ?_)
  | (with_reducible refine ex_andV ?_)
  | (with_reducible refine ei_list ?_)
  | (with_reducible refine ei_rng1 ?_)
  | (with_reducible refine ei_rng2 ?_)
  | (with_reducible refine ei_enum ?_)
  | (with_reducible refine ei_enumT ?_)
  | (with_reducible refine ei_zip ?_)
  | (with_reducible refine sx_par ?_)
  | (with_reducible refine Exists.intro _ (And.intro rfl ?_))
  | (with_reducible refine Exists.intro _ (Exists.intro _ (And.intro rfl ?_)))
  | ((with_reducible show EX (tCall (spS _) [] _ (tCons (tVar _) _)) _ _); refine ex_callS rfl ?_)
  | ((with_reducible refine And.intro (show (_ : Nat) ≤ 100000 from ?_) ?_); (focus (simp; done)))
  | ((with_reducible refine opd_I ?_ ?_); focus (first | omega | (show CDiv _ _; exact ⟨by omega, by omega⟩) | (show CMul _ _; first | exact Or.inl ⟨by omega, by omega⟩ | exact Or.inr ⟨by omega, by omega⟩))))
local macro_rules | `(tactic| walk_at "es") => `(tactic| repeat walk_at "e")
local macro_rules | `(tactic| walk_at "w") => `(tactic| try dsimp only [wipeE, List.foldl_cons, List.foldl_nil, List.set_cons_succ, List.set_cons_zero])
local macro_rules | `(tactic| walk_at "le") => `(tactic| repeat' first | exact LeE.nil | (refine LeE.eq rfl ?_) | (refine LeE.emp ?_) | (refine LeE.eq ?_ ?_))
local macro_rules | `(tactic| walk_at "no") => `(tactic| ((refine And.intro (fun hb => absurd hb ?_) (fun _ => ?_)); (focus (first | (exact Bool.false_ne_true) | (simp; done) | (simp; omega) | (simp only [decide_eq_true_eq]; omega)))))
local macro_rules | `(tactic| walk_at "yes") => `(tactic| ((refine And.intro (fun _ => ?_) (fun hb => absurd hb ?_)); (rotate_left); (focus (first | (exact Bool.noConfusion) | (simp; done) | (simp; omega) | (simp only [decide_eq_false_iff_not]; omega)))))
local macro_rules | `(tactic| walk_at "ei") => `(tactic| repeat ((fail_if_success (with_reducible show SX (tSeq (tIfS _ _ _) _) _ _)); (fail_if_success (with_reducible show SX (tIfS _ _ _) _ _)); (fail_if_success (with_reducible show SX (tSeq (tAsg (tIf _ _ _) _) _) _ _)); walk_at "e"))
local macro_rules | `(tactic| walk_at "tv") => `(tactic| repeat' first | walk_at "e" | ((with_reducible show (_ = true → _) ∧ (_ = false → _)); refine And.intro (fun _ => ?_) (fun _ => ?_)))
/-! ### the tree's judge: its run -/
theorem there_ok {p : Pb} {lots : List (List Nat)} (lo : LotsOk p lots) : lots.flatten.length ≤ 1000 := by
  have := flat_len2 (lots := lots) (b := 50) fun l hl => (lo.2 l hl).1
  have := lo.1
  have : lots.length * 50 ≤ 20 * 50 := Nat.mul_le_mul_right _ lo.1
  omega
theorem left_D (p : Pb) (lots : List (List Nat)) : (((rngI 0 (nP p)).filter fun k => !decide (k.toNat ∈ lots.flatten)).map fun k => PyData.int k) = (leftF p lots).map fun k : Nat => .int (k : Int) := rng_nats (fun k => !decide (k ∈ lots.flatten)) (nP p)
theorem sx_tree_fault (K : PySem.W.Frag) (C : Addr) (f : Nat) (S : Stt) (vs : List D) (Z : D → Stt → Prop) (h : R_tf C (f + 1) S vs Z) :
    SX (T_tree_fault K C (R_spots C) (R_tf C f) R_wl R_mj) (.st S :: (vs.map .val ++ List.replicate (N_tree_fault.length - (vs.length + 1)) .emp)) { nx := fun ρ' => ∃ S', ρ'[0]? = some (.st S') ∧ Z .none S', rt := fun d ρ' => ∃ S', ρ'[0]? = some (.st S') ∧ Z d S' } := by
  obtain ⟨p, lots, m, path, tr, rfl, rfl, ts, hm, sa, z⟩ := h
  show SX (T_tree_fault K C (R_spots C) (R_tf C f) R_wl R_mj) [.st (objR C p), .val (.list (lots.map natsD)), .val (.int (m : Int)), .val (pathD path), .val (encT tr), .emp, .emp, .emp, .emp, .emp, .emp, .emp, .emp, .emp, .emp, .emp, .emp, .emp] _
  unfold T_tree_fault
  obtain ⟨sz, lo, ⟨n, n1, n2, n3, n4⟩, lf⟩ := id ts
  have n8 := sz.np
  have pnl : p.ls.length ≤ 8 := sz.n
  have fl := there_ok lo
  refine sx_seq (sx_asg (ex_of (eo_lc2P (α := List Nat) (β := Nat) (fun _ => true) (fun l => l) (fun _ _ => true) (fun _ y => .int (y : Int)) (fun _ y => .int (y : Int)) (ei_list ?_))))
  walk_at "es"
  refine ⟨by rw [lc2_flatN, List.length_map]; omega, fun i hi => by simp at hi; rcases hi with rfl | rfl <;> rfl, fun l hlm => sg_name (by simp) ⟨rfl, fun i hi => by simp at hi; subst hi; rfl, ?_⟩, ?_⟩
  · unfold natsD
    walk_at "w"
    refine et_yes ⟨rfl, rfl, fun _ => ?_⟩
    refine ei_list ?_
    walk_at "es"
    refine ⟨rfl, rfl, fun y hy => sg_name (by simp) ⟨rfl, ?_⟩⟩
    walk_at "w"
    refine et_yes ⟨rfl, rfl, fun _ => ?_⟩
    walk_at "es"
    exact ⟨rfl, rfl⟩
  rw [lc2_flatN]
  refine nx_seq ?_
  walk_at "w"
  refine sx_seq (sx_asg (ex_of (eo_lcP (α := Int) (fun k => !decide (k.toNat ∈ lots.flatten)) (fun k => .int k) (ei_rng1 ?_))))
  walk_at "es"
  refine ex_fld rfl rmlk_loads ?_
  unfold lsD
  walk_at "es"
  rw [List.length_map, Int.toNat_natCast]
  refine ⟨by omega, rngI 0 p.ls.length, _, rfl, by rw [rngI_len]; omega, fun i hi => by simp at hi; subst hi; rfl, fun x hx => sg_name (by simp) ⟨rfl, ?_⟩, ?_⟩
  · have hx := rngI_mem.mp hx
    obtain ⟨k, rfl⟩ : ∃ k : Nat, x = (k : Int) := ⟨x.toNat, by omega⟩
    rw [Int.toNat_natCast]
    walk_at "w"
    walk_at "es"
    refine opd_ninL (Nat.le_trans (Nat.min_le_right _ _) (by simp [PyData.depth])) ?_
    rw [any_nats]
    refine ⟨_, rfl, rfl, rfl, fun _ => ?_⟩
    walk_at "es"
    exact ⟨rfl, rfl⟩
  rw [show p.ls.length = nP p from rfl, left_D]
  refine nx_seq ?_
  walk_at "w"
  cases tr with
  | weight =>
    rw [enc_w]
    unfold tfF at z
    refine sx_seq (sx_if (et_val true ?_ ⟨fun _ => ?_, (fun q => by cases q)⟩))
    · walk_at "es"
      exact ⟨rfl, rfl⟩
    refine sx_seq (sx_asg (ex_val (.bool (decide (lots = []) && decide ((m : Int) * p.r < allW p))) ?_ ?_))
    · refine ex_andV (ex_notT ?_)
      walk_at "es"
      rw [lots_emp]
      refine ⟨fun hb => ?_, fun hb => by rw [hb, Bool.false_and]; exact ⟨rfl, rfl⟩⟩
      rw [hb, Bool.true_and]
      walk_at "es"
      refine ex_of (eo_lcP (α := Ld) (fun _ => true) (fun l => .int l.w) (ei_list ?_))
      walk_at "es"
      refine ex_fld rfl rmlk_loads ?_
      unfold lsD
      walk_at "es"
      refine ⟨by omega, fun i hi => by simp at hi; subst hi; rfl, fun l hl => sg_name (by simp) ⟨rfl, ?_⟩, ?_⟩
      · unfold encL
        walk_at "w"
        refine et_yes ⟨rfl, rfl, fun _ => ?_⟩
        walk_at "es"
        exact ⟨rfl, rfl⟩
      rw [allW_D]
      walk_at "es"
      refine ex_fld rfl rmlk_room ?_
      have r2 := sz.r
      walk_at "es"
      exact ⟨rfl, rfl⟩
    refine nx_seq ?_
    walk_at "w"
    walk_at "es"
    refine ⟨fun hb => ?_, fun hb => ?_⟩
    · rw [Bool.and_eq_true, decide_eq_true_eq, decide_eq_true_eq] at hb
      rw [if_pos hb] at z
      walk_at "es"
      exact ⟨_, rfl, z⟩
    · rw [if_neg (fun q => by rw [decide_eq_true q.1, decide_eq_true q.2] at hb; cases hb)] at z
      walk_at "es"
      exact ⟨_, rfl, z⟩
  | apart row =>
    rw [enc_a]
    rw [Sane] at sa
    unfold tfF at z
    refine sx_seq (sx_if (et_val false ?_ ⟨(fun q => by cases q), fun _ => sx_next (nx_seq ?_)⟩))
    · walk_at "es"
      exact ⟨rfl, rfl⟩
    refine sx_seq (sx_if (et_val true ?_ ⟨fun _ => ?_, (fun q => by cases q)⟩))
    · walk_at "es"
      exact ⟨rfl, rfl⟩
    refine sx_seq (sx_asg ?_)
    walk_at "ei"
    walk_at "w"
    have lt := fun x (hx : x ∈ leftF p lots) => left_lt hx
    have apE : apB p m lots row = (!lots.isEmpty || (!decide (row.Pairwise fun a b => a < b) || (!(row.all fun x => decide (x ∈ leftF p lots)) || decide (row.length ≤ m)))) := rfl
    have apn : apB p m lots row = false → ∀ x ∈ row, x < nP p := fun e x hx => by
      rw [apE] at e
      rw [Bool.or_eq_false_iff, Bool.or_eq_false_iff, Bool.or_eq_false_iff, Bool.not_eq_false', Bool.not_eq_false', Bool.not_eq_false'] at e
      exact lt x (of_decide_eq_true (List.all_eq_true.mp e.2.2.1 x hx))
    refine sx_seq (sx_if (et_val (apB p m lots row) ?_ ?_))
    · rw [apE]
      unfold natsD
      generalize leftF p lots = left
      walk_at "es"
      rw [show (lots.map fun r => PyData.list (r.map fun k : Nat => PyData.int (k : Int))).isEmpty = lots.isEmpty by cases lots <;> rfl]
      refine ⟨fun hb => by rw [hb]; exact ⟨rfl, rfl⟩, fun hb => ?_⟩
      rw [hb, Bool.false_or]
      walk_at "es"
      refine ex_of (eo_sortSet ?_)
      walk_at "es"
      refine ⟨nI row, by rw [← natsD_eq]; rfl, by rw [nI, List.length_map]; omega, fun us u1 u2 _ => ?_⟩
      refine opd_neP (Nat.le_trans (Nat.min_le_right _ _) (ints_deep us)) ?_
      rw [show (PyData.list (row.map fun k : Nat => PyData.int (k : Int))) = .list ((nI row).map .int) by rw [← natsD_eq]; rfl, show PyData.eqv (.list ((nI row).map PyData.int)) (.list (us.map PyData.int)) = decide (nI row = us) from eqv_intsL _ _, us_row u1 u2]
      refine ⟨_, rfl, fun hb => by rw [hb]; exact ⟨rfl, rfl⟩, fun hb => ?_⟩
      rw [hb, Bool.false_or, show (PyData.list ((nI row).map .int)) = .list (row.map fun k : Nat => PyData.int (k : Int)) by rw [← natsD_eq]; rfl]
      walk_at "es"
      refine ex_of (eo_lcP (α := Nat) (fun _ => true) (fun x => .bool (decide (x ∈ left))) (ei_list ?_))
      walk_at "es"
      refine ⟨by omega, fun i hi => by simp at hi; subst hi; rfl, fun x hx => sg_name (by simp) ⟨rfl, ?_⟩, ?_⟩
      · walk_at "w"
        refine et_yes ⟨rfl, rfl, fun _ => ?_⟩
        walk_at "es"
        refine opd_inL (Nat.le_trans (Nat.min_le_right _ _) (by simp [PyData.depth])) ?_
        rw [any_nats]
        exact ⟨rfl, rfl⟩
      rw [all_inD]
      walk_at "es"
      refine cbd_all ?_
      rw [all_mapB]
      refine ⟨_, rfl, fun hb => by rw [hb]; exact ⟨rfl, rfl⟩, fun hb => ?_⟩
      rw [hb, Bool.false_or]
      walk_at "es"
      rw [List.length_map]
      exact ⟨decide_eq_decide.mpr (by omega), rfl⟩
    refine ⟨fun hb => ?_, fun hb => sx_next (nx_seq ?_)⟩
    · rw [if_pos hb] at z
      walk_at "es"
      exact ⟨_, rfl, z⟩
    rw [hb, if_neg (by decide)] at z
    have rn := apn hb
    unfold natsD
    refine sx_seq (sx_for (J := [12, 6]) (ei_enum ?_))
    walk_at "es"
    rw [enum_map row 0 fun k : Nat => PyData.int (k : Int)]
    refine ⟨fun k ρ' => (∀ j, j < k → (row.take j).any (fun o => joinB p [o] (row.getD j 0)) = false) ∧ ρ' = [.st (objR C p), .val (.list (lots.map natsD)), .val (.int (m : Int)), .val (pathD path), .val (.tuple [.str (Str.ofString "apart"), natsD row]), .val (.list (lots.flatten.map fun k : Nat => .int (k : Int))), .emp, .emp, .val (.list ((leftF p lots).map fun k : Nat => .int (k : Int))), .emp, .emp, .val (natsD row), .emp, .emp, .emp, .emp, .emp, .emp], ⟨fun j hj => absurd hj (by omega), rfl⟩, ?_, ?_⟩
    · rintro k dd ρ' hd0 ⟨no, rfl⟩
      obtain ⟨k2, hk2, rfl⟩ := map_at hd0
      obtain ⟨hkr, ek⟩ := List.getElem?_eq_some_iff.mp hk2
      rw [List.getElem_range] at ek
      subst ek
      rw [List.length_range] at hkr
      have ra : row.getD k 0 < nP p := rn _ (by rw [List.getD_eq_getElem?_getD, List.getElem?_eq_getElem hkr]; exact List.getElem_mem _)
      refine sg_tup rfl (sgs_cons (sg_name (by simp) (sgs_cons (sg_name (by simp) (sgs_nil ?_)))))
      walk_at "w"
      refine sx_if (et_val ((row.take k).any fun o => joinB p [o] (row.getD k 0)) ?_ ?_)
      · unfold natsD
        walk_at "es"
        refine ex_of (eo_lcP (α := Nat) (fun _ => true) (fun o => .bool (joinB p [o] (row.getD k 0))) (ei_list ?_))
        walk_at "es"
        rw [cut_n]
        refine ⟨row.take k, fun k : Nat => .int (k : Int), rfl, by rw [List.length_take]; omega, fun i hi => by simp at hi; subst hi; rfl, fun o ho => sg_name (by simp) ⟨rfl, ?_⟩, ?_⟩
        · walk_at "w"
          refine et_yes ⟨rfl, rfl, fun _ => ?_⟩
          walk_at "es"
          refine ex_fld rfl rmlk_loads ?_
          walk_at "es"
          refine ex_fld rfl rmlk_foes ?_
          walk_at "es"
          refine ex_fld rfl rmlk_room ?_
          walk_at "es"
          exact ⟨p, [o], row.getD k 0, rfl, sz, ⟨by show 1 ≤ 50; decide, fun x hx => by rw [List.mem_singleton.mp hx]; exact rn o (List.mem_of_mem_take ho)⟩, ra, rfl, rfl⟩
        rw [any_joinD]
        walk_at "es"
        refine cbd_any ?_
        rw [any_mapB]
        exact ⟨_, rfl, rfl, rfl⟩
      refine ⟨fun hq => ?_, fun hq => sx_next ⟨_, ?_, fun j hj => ?_, rfl⟩⟩
      · rw [two_at hkr hq, if_pos rfl] at z
        walk_at "es"
        exact ⟨_, rfl, z⟩
      · walk_at "le"
      · by_cases q : j = k
        · rw [q]; exact hq
        · exact no j (by omega)
    · rintro ρ' ⟨no, rfl⟩
      rw [List.length_map, List.length_range] at no
      rw [two_no no, if_neg (by decide)] at z
      refine nx_seq ?_
      walk_at "es"
      exact ⟨_, rfl, z⟩
  | load a trs =>
    rw [enc_l]
    rw [Sane] at sa
    obtain ⟨sl, sL⟩ := sa
    have sat := fun i hi => saneL_at sL i hi
    unfold tfF at z
    refine sx_seq (sx_if (et_val false ?_ ⟨(fun q => by cases q), fun _ => sx_next (nx_seq ?_)⟩))
    · walk_at "es"
      exact ⟨rfl, rfl⟩
    refine sx_seq (sx_if (et_val false ?_ ⟨(fun q => by cases q), fun _ => sx_next (nx_seq ?_)⟩))
    · walk_at "es"
      exact ⟨rfl, rfl⟩
    refine sx_seq (sx_if (et_val (!decide (a ∈ leftF p lots)) ?_ ?_))
    · walk_at "es"
      refine opd_ninL (Nat.le_trans (Nat.min_le_right _ _) (by simp [PyData.depth])) ?_
      rw [any_nats]
      exact ⟨_, rfl, rfl, rfl⟩
    refine ⟨fun hb => ?_, fun hb => sx_next (nx_seq ?_)⟩
    · rw [if_neg (by simpa using hb)] at z
      walk_at "es"
      exact ⟨_, rfl, z⟩
    have al : a ∈ leftF p lots := by simpa using hb
    have ha := left_lt al
    rw [if_pos al] at z
    refine sx_seq (sx_asg ?_)
    refine ex_meth rfl rmno_spots ?_
    walk_at "es"
    refine ⟨p, lots, a, m, rfl, rfl, sz, lo, ha, ?_⟩
    have spl := sp_len (p := p) (lots := lots) (a := a) (m := m)
    have sle := fun o (ho : o ∈ spF p lots a m) => sp_le ho
    generalize spF p lots a m = sp at z spl sle ⊢
    refine nx_seq ?_
    unfold natsD
    walk_at "w"
    refine sx_seq (sx_if (et_val (!decide (trs.length = sp.length)) ?_ ?_))
    · walk_at "es"
      rw [List.length_map, List.length_map]
      exact ⟨by rw [show decide ((trs.length : Int) = (sp.length : Int)) = decide (trs.length = sp.length) from decide_eq_decide.mpr (by omega)], rfl⟩
    refine ⟨fun hb => ?_, fun hb => sx_next (nx_seq ?_)⟩
    · rw [if_neg (by simpa using hb)] at z
      walk_at "es"
      exact ⟨_, rfl, z⟩
    have el : trs.length = sp.length := by simpa using hb
    rw [if_pos el] at z
    refine sx_seq (sx_for (J := [15, 16]) (ei_zip ?_))
    walk_at "es"
    rw [zip_T sp trs el]
    refine ⟨fun k ρ' => (∀ j, j < k → tfF p m f (wlF lots (sp.getD j 0) a) (path ++ [(a, sp.getD j 0)]) (trs.getD j .weight) = none) ∧ ρ' = [.st (objR C p), .val (.list (lots.map natsD)), .val (.int (m : Int)), .val (pathD path), .val (.tuple [.str (Str.ofString "load"), .int (a : Int), .list (trs.map encT)]), .val (.list (lots.flatten.map fun k : Nat => .int (k : Int))), .emp, .emp, .val (.list ((leftF p lots).map fun k : Nat => .int (k : Int))), .emp, .emp, .emp, .emp, .emp, .val (.list (sp.map fun k : Nat => .int (k : Int))), .emp, .emp, .emp], ⟨fun j hj => absurd hj (by omega), rfl⟩, ?_, ?_⟩
    · rintro k dd ρ' hd0 ⟨no, rfl⟩
      obtain ⟨k2, hk2, rfl⟩ := map_at hd0
      obtain ⟨hkr, ek⟩ := List.getElem?_eq_some_iff.mp hk2
      rw [List.getElem_range] at ek
      subst ek
      rw [List.length_range] at hkr
      have om : sp.getD k 0 ∈ sp := by
        rw [List.getD_eq_getElem?_getD, List.getElem?_eq_getElem (by omega)]
        exact List.getElem_mem _
      have ole := sle _ om
      have st := sat k hkr
      generalize hso : sp.getD k 0 = o at ole ⊢
      generalize hst : trs.getD k .weight = tk at st ⊢
      refine sg_tup rfl (sgs_cons (sg_name (by simp) (sgs_cons (sg_name (by simp) (sgs_nil ?_)))))
      walk_at "w"
      refine sx_seq (sx_asg ?_)
      refine ex_callS rfl ?_
      walk_at "es"
      refine ⟨lots, o, a, rfl, by omega, fun l hm => by have := (lo.2 l hm).1; omega, ole, ?_⟩
      unfold pathD
      walk_at "es"
      refine opd_plusL (by rw [List.length_map]; show _ + 1 ≤ 1000000; omega) ?_
      walk_at "es"
      refine ⟨p, wlF lots o a, m, path ++ [(a, o)], tk, by unfold pathD; rw [List.map_append]; rfl, rfl, ts.wl ole al _, hm, st, ?_⟩
      refine nx_seq ?_
      walk_at "w"
      have gk : tfF p m f (wlF lots (sp.getD k 0) a) (path ++ [(a, sp.getD k 0)]) (trs.getD k .weight) = tfF p m f (wlF lots o a) (path ++ [(a, o)]) tk := by rw [hso, hst]
      cases hp : tfF p m f (wlF lots o a) (path ++ [(a, o)]) tk with
      | none =>
        have nw : ∀ j, j < k + 1 → tfF p m f (wlF lots (sp.getD j 0) a) (path ++ [(a, sp.getD j 0)]) (trs.getD j .weight) = none := fun j hj => by
          by_cases q : j = k
          · rw [q, gk, hp]
          · exact no j (by omega)
        refine sx_if (et_val false ?_ ⟨(fun q => by cases q), fun _ => sx_next ⟨_, ?_, nw, rfl⟩⟩)
        · unfold fltD
          walk_at "es"
          exact ⟨rfl, rfl⟩
        · walk_at "le"
      | some L =>
        have e := find_first (g := fun i => tfF p m f (wlF lots (sp.getD i 0) a) (path ++ [(a, sp.getD i 0)]) (trs.getD i .weight)) hkr no (gk.trans hp)
        refine sx_if (et_val true ?_ ⟨fun _ => ?_, (fun q => by cases q)⟩)
        · unfold fltD
          walk_at "es"
          exact ⟨rfl, rfl⟩
        rw [e] at z
        walk_at "es"
        exact ⟨_, rfl, z⟩
    · rintro ρ' ⟨no, rfl⟩
      rw [List.length_map, List.length_range] at no
      have e := find_no (g := fun i => tfF p m f (wlF lots (sp.getD i 0) a) (path ++ [(a, sp.getD i 0)]) (trs.getD i .weight)) no
      rw [e] at z
      refine nx_seq ?_
      walk_at "es"
      exact z
end Law_k64
namespace Law_k64
open PySem L2 Pu
local macro_rules | `(tactic| walk_at "e") => `(tactic| first
  | ((with_reducible refine nx_seq ?_); (try dsimp only [List.set_cons_succ, List.set_cons_zero]))
  | ((with_reducible refine ex_vr ?_); dsimp only [VQ, List.set_cons_succ, List.set_cons_zero, List.getElem?_cons_zero, List.getElem?_cons_succ]; (fail_if_success (with_reducible show False)))
  | (with_reducible refine sx_seq ?_)
  | (with_reducible refine sx_if ?_)
  | (with_reducible refine sx_next ?_)
  | (with_reducible refine sx_ret ?_)
  | ((fail_if_success (with_reducible refine sx_asgO (eo_lst ?_))); (with_reducible refine sx_asg ?_))
  | (with_reducible refine ex_int ?_)
  | (with_reducible refine ex_str ?_)
  | (with_reducible refine ex_bl ?_)
  | (with_reducible refine ex_non ?_)
  | (with_reducible refine ex_op ?_)
  | (with_reducible refine ex_un ?_)
  | (with_reducible refine ex_chain ?_)
  | (with_reducible refine ex_call ?_)
  | (with_reducible refine ex_isT ?_)
  | (with_reducible refine ex_cb ?_)
  | (with_reducible refine ex_sl ?_)
  | (with_reducible refine ex_tup ?_)
  | (with_reducible refine ex_if ?_)
  | (with_reducible refine ex_of (eo_lst ?_))
  | (with_reducible refine ex_notV ?_)
  | (with_reducible refine ea_nil ?_)
  | (with_reducible refine ea_cons ?_)
  | (with_reducible refine ep_no ?_)
  | (with_reducible refine ep_some ?_)
  | (with_reducible refine et_test ?_)
  | (with_reducible refine et_B ?_)
  | (with_reducible refine et_ch3 ?_)
  | (with_reducible refine et_and ?_)
  | (with_reducible refine et_or ?_)
  | (with_reducible refine et_not ?_)
  | (with_reducible refine et_yes ?_)
  | (with_reducible refine et_truL ?_)
  | (with_reducible refine opd_plusI ?_)
  | (with_reducible refine opd_I0 ?_)
  | (with_reducible refine opd_B0 ?_)
  | (with_reducible refine opd_eqI ?_)
  | (with_reducible refine opd_neI ?_)
  | (with_reducible refine opd_eqS ?_)
  | (with_reducible refine opd_neS ?_)
  | (with_reducible refine opd_is ?_)
  | (with_reducible refine opd_isnt ?_)
  | (with_reducible refine opd_ixT rfl ?_)
  | (with_reducible refine opd_ixL rfl ?_)
  | (with_reducible refine und_neg ?_)
  | (with_reducible refine cbd_lenL ?_)
  | (with_reducible refine cbd_lenT ?_)
  | (with_reducible refine cbd_min2 ?_)
  | (with_reducible refine cbd_max2 ?_)
  | (with_reducible refine cbd_abs ?_)
  | (with_reducible refine cbd_int ?_)
  | (with_reducible refine cbd_tupL ?_)
  | (with_reducible refine cbd_listL ?_)
  | (with_reducible refine cbd_listT ?_)
  | (with_reducible refine cbd_sum ?_)
  | (with_reducible refine sld_T ?_)
  | (with_reducible refine sld_L ?_)
  | (with_reducible refine ex_revL ?_)
  | (with_reducible refine ex_bmL ?_)
  | (with_reducible refine ex_andV ?_)
  | (with_reducible refine ei_list ?_)
  | (with_reducible refine ei_rng1 ?_)
  | (with_reducible refine ei_rng2 ?_)
  | (with_reducible refine ei_enum ?_)
  | (with_reducible refine ei_enumT ?_)
  | (with_reducible refine ei_zip ?_)
  | (with_reducible refine sx_par ?_)
  | (with_reducible refine Exists.intro _ (And.intro rfl ?_))
  | (with_reducible refine Exists.intro _ (Exists.intro _ (And.intro rfl ?_)))
  | ((with_reducible show EX (tCall (spS _) [] _ (tCons (tVar _) _)) _ _); refine ex_callS rfl ?_)
  | ((with_reducible refine And.intro (show (_ : Nat) ≤ 100000 from ?_) ?_); (focus (simp; done)))
  | ((with_reducible refine opd_I ?_ ?_); focus (first | omega | (show CDiv _ _; exact ⟨by omega, by omega⟩) | (show CMul _ _; first | exact Or.inl ⟨by omega, by omega⟩ | exact Or.inr ⟨by omega, by omega⟩))))
local macro_rules | `(tactic| walk_at "es") => `(tactic| repeat walk_at "e")
local macro_rules | `(tactic| walk_at "w") => `(tactic| try dsimp only [wipeE, List.foldl_cons, List.foldl_nil, List.set_cons_succ, List.set_cons_zero])
local macro_rules | `(tactic| walk_at "le") => `(tactic| repeat' first | exact LeE.nil | (refine LeE.eq rfl ?_) | (refine LeE.emp ?_) | (refine LeE.eq ?_ ?_))
local macro_rules | `(tactic| walk_at "no") => `(tactic| ((refine And.intro (fun hb => absurd hb ?_) (fun _ => ?_)); (focus (first | (exact Bool.false_ne_true) | (simp; done) | (simp; omega) | (simp only [decide_eq_true_eq]; omega)))))
local macro_rules | `(tactic| walk_at "yes") => `(tactic| ((refine And.intro (fun _ => ?_) (fun hb => absurd hb ?_)); (rotate_left); (focus (first | (exact Bool.noConfusion) | (simp; done) | (simp; omega) | (simp only [decide_eq_false_iff_not]; omega)))))
local macro_rules | `(tactic| walk_at "ei") => `(tactic| repeat ((fail_if_success (with_reducible show SX (tSeq (tIfS _ _ _) _) _ _)); (fail_if_success (with_reducible show SX (tIfS _ _ _) _ _)); (fail_if_success (with_reducible show SX (tSeq (tAsg (tIf _ _ _) _) _) _ _)); walk_at "e"))
local macro_rules | `(tactic| walk_at "tv") => `(tactic| repeat' first | walk_at "e" | ((with_reducible show (_ = true → _) ∧ (_ = false → _)); refine And.intro (fun _ => ?_) (fun _ => ?_)))
/-! ### the law's own tree judge -/
def lawTwo (p : Pb) (row : List Nat) : Bool := row.any fun k => row.any fun j => decide (j < k) && joinB p [j] k
theorem lt_take {row : List Nat} (h : row.Pairwise fun a b => a < b) {i : Nat} (hi : i < row.length) {j : Nat} : (j ∈ row ∧ j < row.getD i 0) ↔ j ∈ row.take i := by
  have eg : row.getD i 0 = row[i] := by rw [List.getD_eq_getElem?_getD, List.getElem?_eq_getElem hi]; rfl
  rw [eg]
  constructor
  · rintro ⟨hj, hlt⟩
    obtain ⟨k, hk, rfl⟩ := List.getElem_of_mem hj
    have : k < i := by
      refine Nat.lt_of_not_le fun q => ?_
      rcases Nat.eq_or_lt_of_le q with q | q
      · subst q; omega
      · have := (List.pairwise_iff_getElem.mp h) i k hi hk q
        omega
    rw [List.mem_iff_getElem]
    exact ⟨k, by rw [List.length_take]; omega, by rw [List.getElem_take]⟩
  · intro hj
    obtain ⟨k, hk, e⟩ := List.getElem_of_mem hj
    rw [List.getElem_take] at e
    rw [List.length_take] at hk
    exact ⟨List.mem_of_mem_take hj, by rw [← e]; exact (List.pairwise_iff_getElem.mp h) k i (by omega) hi (by omega)⟩
theorem law_two {p : Pb} {row : List Nat} (h : row.Pairwise fun a b => a < b) : lawTwo p row = twoB p row := by
  rw [Bool.eq_iff_iff]
  unfold lawTwo twoB
  rw [List.any_eq_true, List.any_eq_true]
  constructor
  · rintro ⟨k, hk, q⟩
    obtain ⟨j, hj, q⟩ := List.any_eq_true.mp q
    rw [Bool.and_eq_true, decide_eq_true_eq] at q
    obtain ⟨i, hi, rfl⟩ := List.getElem_of_mem hk
    have eg : row.getD i 0 = row[i] := by rw [List.getD_eq_getElem?_getD, List.getElem?_eq_getElem hi]; rfl
    exact ⟨i, List.mem_range.mpr hi, List.any_eq_true.mpr ⟨j, (lt_take h hi).mp ⟨hj, by rw [eg]; exact q.1⟩, by rw [eg]; exact q.2⟩⟩
  · rintro ⟨i, hi, q⟩
    have hi := List.mem_range.mp hi
    obtain ⟨j, hj, q⟩ := List.any_eq_true.mp q
    obtain ⟨h1, h2⟩ := (lt_take h hi).mpr hj
    refine ⟨row.getD i 0, by rw [List.getD_eq_getElem?_getD, List.getElem?_eq_getElem hi]; exact List.getElem_mem hi, List.any_eq_true.mpr ⟨j, h1, ?_⟩⟩
    rw [decide_eq_true h2, q]
    rfl
theorem cnt_any (row : List Nat) (g : Nat → Bool) : decide ((0 : Int) < ((((row.filter g).map fun k : Nat => PyData.int (k : Int)).length : Nat) : Int)) = row.any g := by
  rw [List.length_map]
  induction row with
  | nil => rfl
  | cons x row ih =>
    rw [List.any_cons]
    cases h : g x with
    | true => rw [List.filter_cons_of_pos h, List.length_cons, decide_eq_true (by omega)]; rfl
    | false => rw [List.filter_cons_of_neg (by simp [h]), ih, Bool.false_or]
theorem any_not_all (row left : List Nat) : (row.any fun x => !decide (x ∈ left)) = !(row.all fun x => decide (x ∈ left)) := by
  induction row with
  | nil => rfl
  | cons x row ih => rw [List.any_cons, List.all_cons, ih, Bool.not_and]
theorem emp_len (lots : List (List Nat)) : decide ((0 : Int) < (lots.length : Int)) = !lots.isEmpty := by
  cases lots with
  | nil => rfl
  | cons l ls => rw [List.length_cons, decide_eq_true (by omega)]; rfl
theorem sx_l_tree_fault (K : PySem.W.Frag) (f : Nat) (vs : List D) (Z : D → Prop) (h : R_ltf (f + 1) vs Z) : SX (T_l_tree_fault K R_lsp (R_ltf f) R_wl R_mj) (startE N_l_tree_fault vs) { nx := fun _ => Z .none, rt := fun d _ => Z d } := by
  obtain ⟨p, lots, m, path, tr, rfl, ts, hm, sa, z⟩ := h
  show SX (T_l_tree_fault K R_lsp (R_ltf f) R_wl R_mj) [.val (.list (p.ls.map encL)), .val (fsD p), .val (.int p.r), .val (.list (lots.map natsD)), .val (.int (m : Int)), .val (pathD path), .val (encT tr), .emp, .emp, .emp, .emp, .emp, .emp, .emp, .emp, .emp, .emp] _
  unfold T_l_tree_fault
  obtain ⟨sz, lo, ⟨n, n1, n2, n3, n4⟩, lf⟩ := id ts
  have n8 := sz.np
  have pnl : p.ls.length ≤ 8 := sz.n
  have fl := there_ok lo
  refine sx_seq (sx_asgO (eo_lst ?_))
  walk_at "es"
  refine sx_for (J := [8]) (ei_list ?_)
  walk_at "es"
  refine ⟨fun k ρ' => ρ' = [.val (.list (p.ls.map encL)), .val (fsD p), .val (.int p.r), .val (.list (lots.map natsD)), .val (.int (m : Int)), .val (pathD path), .val (encT tr), .own ((lots.take k).flatten.map fun k : Nat => .int (k : Int)), .emp, .emp, .emp, .emp, .emp, .emp, .emp, .emp, .emp], rfl, ?_, ?_⟩
  · rintro k dd ρ' hd0 rfl
    obtain ⟨l, hl, rfl⟩ := map_at hd0
    have tk := take_snoc' hl
    have tf : (lots.take k).flatten.length ≤ 1000 := by
      have := there_ok (p := p) (lots := lots.take k) ⟨by rw [List.length_take]; have := lo.1; omega, fun l hl => lo.2 l (List.mem_of_mem_take hl)⟩
      exact this
    have l50 := (lo.2 l (List.mem_of_getElem? hl)).1
    refine sg_name (by simp) ?_
    unfold natsD
    walk_at "w"
    refine sx_ext rfl (ex_var rfl ?_)
    refine ⟨_, _, rfl, rfl, by rw [List.length_map, List.length_map]; omega, ?_⟩
    walk_at "w"
    refine ⟨_, ?_, rfl⟩
    rw [tk, List.flatten_append, List.map_append]
    simp only [List.flatten_cons, List.flatten_nil, List.append_nil]
    walk_at "le"
  rintro ρ' rfl
  rw [List.length_map, List.take_length]
  refine nx_seq ?_
  refine sx_freeze 7 rfl ?_
  walk_at "w"
  refine sx_seq (sx_asg (ex_of (eo_lcP (α := Int) (fun k => !decide (k.toNat ∈ lots.flatten)) (fun k => .int k) (ei_rng1 ?_))))
  walk_at "es"
  rw [List.length_map, Int.toNat_natCast]
  refine ⟨by omega, rngI 0 p.ls.length, _, rfl, by rw [rngI_len]; omega, fun i hi => by simp at hi; subst hi; rfl, fun x hx => sg_name (by simp) ⟨rfl, ?_⟩, ?_⟩
  · have hx := rngI_mem.mp hx
    obtain ⟨k, rfl⟩ : ∃ k : Nat, x = (k : Int) := ⟨x.toNat, by omega⟩
    rw [Int.toNat_natCast]
    walk_at "w"
    walk_at "es"
    refine opd_ninL (Nat.le_trans (Nat.min_le_right _ _) (by simp [PyData.depth])) ?_
    rw [any_nats]
    refine ⟨_, rfl, rfl, rfl, fun _ => ?_⟩
    walk_at "es"
    exact ⟨rfl, rfl⟩
  rw [show p.ls.length = nP p from rfl, left_D]
  refine nx_seq ?_
  walk_at "w"
  cases tr with
  | weight =>
    rw [enc_w]
    unfold tfF at z
    refine sx_seq (sx_if (et_val true ?_ ⟨fun _ => ?_, (fun q => by cases q)⟩))
    · walk_at "es"
      exact ⟨rfl, rfl⟩
    refine sx_ret (ex_if (et_val (decide (lots = []) && decide ((m : Int) * p.r < allW p)) ?_ ?_))
    · walk_at "es"
      rw [List.length_map, show decide ((lots.length : Int) = 0) = decide (lots = []) by cases lots with | nil => rfl | cons l ls => rw [List.length_cons, decide_eq_false (by omega), decide_eq_false (by simp)]]
      refine ⟨fun hb => ?_, fun hb => by rw [hb, Bool.false_and]; exact ⟨rfl, rfl⟩⟩
      rw [hb, Bool.true_and]
      walk_at "es"
      refine ex_of (eo_lcP (α := Ld) (fun _ => true) (fun l => .int l.w) (ei_list ?_))
      walk_at "es"
      refine ⟨by omega, fun i hi => by simp at hi; rcases hi with rfl | rfl <;> rfl, fun l hl => ?_, ?_⟩
      · unfold encL
        refine sg_tup rfl (sgs_cons (sg_name (by simp) (sgs_cons (sg_name (by simp) (sgs_nil ⟨rfl, ?_⟩)))))
        walk_at "w"
        refine et_yes ⟨rfl, rfl, fun _ => ?_⟩
        walk_at "es"
        exact ⟨rfl, rfl⟩
      rw [allW_D]
      have r2 := sz.r
      walk_at "es"
      exact ⟨rfl, rfl⟩
    refine ⟨fun hb => ?_, fun hb => ?_⟩
    · rw [Bool.and_eq_true, decide_eq_true_eq, decide_eq_true_eq] at hb
      rw [if_pos hb] at z
      walk_at "es"
      exact z
    · rw [if_neg (fun q => by rw [decide_eq_true q.1, decide_eq_true q.2] at hb; cases hb)] at z
      walk_at "es"
      exact z
  | apart row =>
    rw [enc_a]
    rw [Sane] at sa
    unfold tfF at z
    refine sx_seq (sx_if (et_val false ?_ ⟨(fun q => by cases q), fun _ => sx_next (nx_seq ?_)⟩))
    · walk_at "es"
      exact ⟨rfl, rfl⟩
    refine sx_seq (sx_if (et_val true ?_ ⟨fun _ => ?_, (fun q => by cases q)⟩))
    · walk_at "es"
      exact ⟨rfl, rfl⟩
    refine sx_seq (sx_asg ?_)
    walk_at "ei"
    walk_at "w"
    have lt := fun x (hx : x ∈ leftF p lots) => left_lt hx
    have apE : apB p m lots row = (!lots.isEmpty || (!decide (row.Pairwise fun a b => a < b) || (!(row.all fun x => decide (x ∈ leftF p lots)) || decide (row.length ≤ m)))) := rfl
    have apn : apB p m lots row = false → (row.Pairwise fun a b => a < b) ∧ ∀ x ∈ row, x < nP p := fun e => by
      rw [apE] at e
      rw [Bool.or_eq_false_iff, Bool.or_eq_false_iff, Bool.or_eq_false_iff, Bool.not_eq_false', Bool.not_eq_false', Bool.not_eq_false'] at e
      exact ⟨of_decide_eq_true e.2.1, fun x hx => lt x (of_decide_eq_true (List.all_eq_true.mp e.2.2.1 x hx))⟩
    refine sx_seq (sx_if (et_val (apB p m lots row) ?_ ?_))
    · rw [apE]
      unfold natsD
      generalize leftF p lots = left
      walk_at "es"
      rw [List.length_map, emp_len]
      refine ⟨fun hb => by rw [hb]; exact ⟨rfl, rfl⟩, fun hb => ?_⟩
      rw [hb, Bool.false_or]
      walk_at "es"
      refine ex_of (eo_sortSet ?_)
      walk_at "es"
      refine ⟨nI row, by rw [← natsD_eq]; rfl, by rw [nI, List.length_map]; omega, fun us u1 u2 _ => ?_⟩
      refine opd_neP (Nat.le_trans (Nat.min_le_right _ _) (ints_deep us)) ?_
      rw [show (PyData.list (row.map fun k : Nat => PyData.int (k : Int))) = .list ((nI row).map .int) by rw [← natsD_eq]; rfl, show PyData.eqv (.list ((nI row).map PyData.int)) (.list (us.map PyData.int)) = decide (nI row = us) from eqv_intsL _ _, us_row u1 u2]
      refine ⟨_, rfl, fun hb => by rw [hb]; exact ⟨rfl, rfl⟩, fun hb => ?_⟩
      rw [hb, Bool.false_or, show (PyData.list ((nI row).map .int)) = .list (row.map fun k : Nat => PyData.int (k : Int)) by rw [← natsD_eq]; rfl]
      walk_at "es"
      refine ex_of (eo_lcP (α := Nat) (fun x => !decide (x ∈ left)) (fun x => .int (x : Int)) (ei_list ?_))
      walk_at "es"
      refine ⟨by omega, fun i hi => by simp at hi; subst hi; rfl, fun x hx => sg_name (by simp) ⟨rfl, ?_⟩, ?_⟩
      · walk_at "w"
        walk_at "es"
        refine opd_ninL (Nat.le_trans (Nat.min_le_right _ _) (by simp [PyData.depth])) ?_
        rw [any_nats]
        refine ⟨_, rfl, rfl, rfl, fun _ => ?_⟩
        walk_at "es"
        exact ⟨rfl, rfl⟩
      walk_at "es"
      rw [cnt_any, any_not_all]
      refine ⟨fun hb => by rw [hb]; exact ⟨rfl, rfl⟩, fun hb => ?_⟩
      rw [hb, Bool.false_or]
      walk_at "es"
      rw [List.length_map]
      exact ⟨decide_eq_decide.mpr (by omega), rfl⟩
    refine ⟨fun hb => ?_, fun hb => sx_next (nx_seq ?_)⟩
    · rw [if_pos hb] at z
      walk_at "es"
      exact z
    obtain ⟨asc, rn⟩ := apn hb
    rw [hb, if_neg (by decide), ← law_two asc] at z
    unfold natsD
    refine sx_seq (sx_for (J := [10]) (ei_list ?_))
    walk_at "es"
    refine ⟨fun i ρ' => (∀ j, j < i → ∀ k, row[j]? = some k → (row.any fun o => decide (o < k) && joinB p [o] k) = false) ∧ ρ' = [.val (.list (p.ls.map encL)), .val (fsD p), .val (.int p.r), .val (.list (lots.map natsD)), .val (.int (m : Int)), .val (pathD path), .val (.tuple [.str (Str.ofString "apart"), natsD row]), .val (.list (lots.flatten.map fun k : Nat => .int (k : Int))), .emp, .val (.list ((leftF p lots).map fun k : Nat => .int (k : Int))), .emp, .emp, .emp, .val (natsD row), .emp, .emp, .emp], ⟨fun j hj => absurd hj (by omega), rfl⟩, ?_, ?_⟩
    · rintro i dd ρ' hd0 ⟨no, rfl⟩
      obtain ⟨k, hk, rfl⟩ := map_at hd0
      have km := List.mem_of_getElem? hk
      refine sg_name (by simp) ?_
      walk_at "w"
      refine sx_if (et_val (row.any fun o => decide (o < k) && joinB p [o] k) ?_ ?_)
      · unfold natsD
        walk_at "es"
        refine ex_of (eo_lcP (α := Nat) (fun o => decide (o < k) && joinB p [o] k) (fun o => .int (o : Int)) (ei_list ?_))
        walk_at "es"
        refine ⟨by omega, fun i hi => by simp at hi; subst hi; rfl, fun o ho => sg_name (by simp) ⟨rfl, ?_⟩, ?_⟩
        · walk_at "w"
          walk_at "es"
          rw [show decide ((o : Int) < (k : Int)) = decide (o < k) from decide_eq_decide.mpr (by omega)]
          refine ⟨fun hb => ?_, fun hb => by rw [hb, Bool.false_and]; exact ⟨rfl, rfl, (fun q => by cases q)⟩⟩
          rw [hb, Bool.true_and]
          walk_at "es"
          refine ⟨p, [o], k, rfl, sz, ⟨by show 1 ≤ 50; decide, fun x hx => by rw [List.mem_singleton.mp hx]; exact rn o ho⟩, rn k km, _, rfl, rfl, rfl, fun _ => ?_⟩
          walk_at "es"
          exact ⟨rfl, rfl⟩
        walk_at "es"
        rw [cnt_any]
        exact ⟨rfl, rfl⟩
      refine ⟨fun hq => ?_, fun hq => sx_next ⟨_, ?_, fun j hj k' hk' => ?_, rfl⟩⟩
      · rw [show lawTwo p row = true from List.any_eq_true.mpr ⟨k, km, hq⟩, if_pos rfl] at z
        walk_at "es"
        exact z
      · walk_at "le"
      · by_cases q : j = i
        · subst q
          rw [hk] at hk'
          cases hk'
          exact hq
        · exact no j (by omega) k' hk'
    · rintro ρ' ⟨no, rfl⟩
      rw [List.length_map] at no
      rw [show lawTwo p row = false from List.any_eq_false.mpr fun k hk => by
        obtain ⟨j, hj, e⟩ := List.getElem_of_mem hk
        rw [no j hj k (by rw [List.getElem?_eq_getElem hj, e])]
        decide, if_neg (by decide)] at z
      refine nx_seq ?_
      walk_at "es"
      exact z
  | load a trs =>
    rw [enc_l]
    rw [Sane] at sa
    obtain ⟨sl, sL⟩ := sa
    have sat := fun i hi => saneL_at sL i hi
    unfold tfF at z
    refine sx_seq (sx_if (et_val false ?_ ⟨(fun q => by cases q), fun _ => sx_next (nx_seq ?_)⟩))
    · walk_at "es"
      exact ⟨rfl, rfl⟩
    refine sx_seq (sx_if (et_val false ?_ ⟨(fun q => by cases q), fun _ => sx_next (nx_seq ?_)⟩))
    · walk_at "es"
      exact ⟨rfl, rfl⟩
    refine sx_seq (sx_if (et_val (!decide (a ∈ leftF p lots)) ?_ ?_))
    · walk_at "es"
      refine opd_ninL (Nat.le_trans (Nat.min_le_right _ _) (by simp [PyData.depth])) ?_
      rw [any_nats]
      exact ⟨_, rfl, rfl, rfl⟩
    refine ⟨fun hb => ?_, fun hb => sx_next (nx_seq ?_)⟩
    · rw [if_neg (by simpa using hb)] at z
      walk_at "es"
      exact z
    have al : a ∈ leftF p lots := by simpa using hb
    have ha := left_lt al
    rw [if_pos al] at z
    refine sx_seq (sx_asg ?_)
    walk_at "es"
    refine ⟨p, lots, a, m, rfl, sz, lo, ha, ?_⟩
    have spl := sp_len (p := p) (lots := lots) (a := a) (m := m)
    have sle := fun o (ho : o ∈ spF p lots a m) => sp_le ho
    generalize spF p lots a m = sp at z spl sle ⊢
    refine nx_seq ?_
    unfold natsD
    walk_at "w"
    refine sx_seq (sx_if (et_val (!decide (trs.length = sp.length)) ?_ ?_))
    · walk_at "es"
      rw [List.length_map, List.length_map]
      exact ⟨by rw [show decide ((trs.length : Int) = (sp.length : Int)) = decide (trs.length = sp.length) from decide_eq_decide.mpr (by omega)], rfl⟩
    refine ⟨fun hb => ?_, fun hb => sx_next (nx_seq ?_)⟩
    · rw [if_neg (by simpa using hb)] at z
      walk_at "es"
      exact z
    have el : trs.length = sp.length := by simpa using hb
    rw [if_pos el, el] at z
    refine sx_seq (sx_for (J := [10]) (ei_rng1 ?_))
    walk_at "es"
    rw [List.length_map, Int.toNat_natCast]
    refine ⟨by omega, fun k ρ' => (∀ j, j < k → tfF p m f (wlF lots (sp.getD j 0) a) (path ++ [(a, sp.getD j 0)]) (trs.getD j .weight) = none) ∧ ρ' = [.val (.list (p.ls.map encL)), .val (fsD p), .val (.int p.r), .val (.list (lots.map natsD)), .val (.int (m : Int)), .val (pathD path), .val (.tuple [.str (Str.ofString "load"), .int (a : Int), .list (trs.map encT)]), .val (.list (lots.flatten.map fun k : Nat => .int (k : Int))), .emp, .val (.list ((leftF p lots).map fun k : Nat => .int (k : Int))), .emp, .emp, .emp, .emp, .emp, .val (.list (sp.map fun k : Nat => .int (k : Int))), .emp], ⟨fun j hj => absurd hj (by omega), rfl⟩, ?_, ?_⟩
    · rintro k dd ρ' hd0 ⟨no, rfl⟩
      obtain ⟨hkr, rfl⟩ := rng_at hd0
      rw [Int.zero_add]
      have hks : k < sp.length := by omega
      have om : sp.getD k 0 ∈ sp := by
        rw [List.getD_eq_getElem?_getD, List.getElem?_eq_getElem (by omega)]
        exact List.getElem_mem _
      have ole := sle _ om
      have st := sat k (by omega)
      have atS : atI (sp.map fun k : Nat => PyData.int (k : Int)) (k : Int) = some (.int ((sp.getD k 0 : Nat) : Int)) := by
        rw [atI_map 0 (by omega) (by omega), Int.toNat_natCast]
      have atT : atI (trs.map encT) (k : Int) = some (encT (trs.getD k .weight)) := by
        rw [atI_map .weight (by omega) (by omega), Int.toNat_natCast]
      generalize hso : sp.getD k 0 = o at ole atS ⊢
      generalize hst : trs.getD k .weight = tk at st atT ⊢
      refine sg_name (by simp) ?_
      walk_at "w"
      refine sx_seq (sx_asg ?_)
      walk_at "es"
      refine opd_ixL atS ?_
      walk_at "es"
      refine ⟨lots, o, a, rfl, by omega, fun l hm => by have := (lo.2 l hm).1; omega, ole, ?_⟩
      unfold pathD
      walk_at "es"
      refine opd_ixL atS ?_
      walk_at "es"
      refine opd_plusL (by rw [List.length_map]; show _ + 1 ≤ 1000000; omega) ?_
      walk_at "es"
      refine opd_ixL atT ?_
      walk_at "es"
      refine ⟨p, wlF lots o a, m, path ++ [(a, o)], tk, by unfold pathD; rw [List.map_append]; rfl, ts.wl ole al _, hm, st, ?_⟩
      refine nx_seq ?_
      walk_at "w"
      have gk : tfF p m f (wlF lots (sp.getD k 0) a) (path ++ [(a, sp.getD k 0)]) (trs.getD k .weight) = tfF p m f (wlF lots o a) (path ++ [(a, o)]) tk := by rw [hso, hst]
      cases hp : tfF p m f (wlF lots o a) (path ++ [(a, o)]) tk with
      | none =>
        have nw : ∀ j, j < k + 1 → tfF p m f (wlF lots (sp.getD j 0) a) (path ++ [(a, sp.getD j 0)]) (trs.getD j .weight) = none := fun j hj => by
          by_cases q : j = k
          · rw [q, gk, hp]
          · exact no j (by omega)
        refine sx_if (et_val false ?_ ⟨(fun q => by cases q), fun _ => sx_next ⟨_, ?_, nw, rfl⟩⟩)
        · unfold fltD
          walk_at "es"
          exact ⟨rfl, rfl⟩
        · walk_at "le"
      | some L =>
        have e := find_first (g := fun i => tfF p m f (wlF lots (sp.getD i 0) a) (path ++ [(a, sp.getD i 0)]) (trs.getD i .weight)) hks no (gk.trans hp)
        refine sx_if (et_val true ?_ ⟨fun _ => ?_, (fun q => by cases q)⟩)
        · unfold fltD
          walk_at "es"
          exact ⟨rfl, rfl⟩
        rw [e] at z
        walk_at "es"
        exact z
    · rintro ρ' ⟨no, rfl⟩
      rw [rng_size] at no
      have e := find_no (g := fun i => tfF p m f (wlF lots (sp.getD i 0) a) (path ++ [(a, sp.getD i 0)]) (trs.getD i .weight)) no
      rw [e] at z
      refine nx_seq ?_
      walk_at "es"
      exact z
end Law_k64
namespace Law_k64
open PySem L2 Pu
local macro_rules | `(tactic| walk_at "e") => `(tactic| first
  | ((with_reducible refine nx_seq ?_); (try dsimp only [List.set_cons_succ, List.set_cons_zero]))
  | ((with_reducible refine ex_vr ?_); dsimp only [VQ, List.set_cons_succ, List.set_cons_zero, List.getElem?_cons_zero, List.getElem?_cons_succ]; (fail_if_success (with_reducible show False)))
  | (with_reducible refine sx_seq ?_)
  | (with_reducible refine sx_if ?_)
  | (with_reducible refine sx_next ?_)
  | (with_reducible refine sx_ret ?_)
  | ((fail_if_success (with_reducible refine sx_asgO (eo_lst ?_))); (with_reducible refine sx_asg ?_))
  | (with_reducible refine ex_int ?_)
  | (with_reducible refine ex_str ?_)
  | (with_reducible refine ex_bl ?_)
  | (with_reducible refine ex_non ?_)
  | (with_reducible refine ex_op ?_)
  | (with_reducible refine ex_un ?_)
  | (with_reducible refine ex_chain ?_)
  | (with_reducible refine ex_call ?_)
  | (with_reducible refine ex_isT ?_)
  | (with_reducible refine ex_cb ?_)
  | (with_reducible refine ex_sl ?_)
  | (with_reducible refine ex_tup ?_)
  | (with_reducible refine ex_if ?_)
  | (with_reducible refine ex_of (eo_lst ?_))
  | (with_reducible refine ex_notV ?_)
  | (with_reducible refine ea_nil ?_)
  | (with_reducible refine ea_cons ?_)
  | (with_reducible refine ep_no ?_)
  | (with_reducible refine ep_some ?_)
  | (with_reducible refine et_test ?_)
  | (with_reducible refine et_B ?_)
  | (with_reducible refine et_ch3 ?_)
  | (with_reducible refine et_and ?_)
  | (with_reducible refine et_or ?_)
  | (with_reducible refine et_not ?_)
  | (with_reducible refine et_yes ?_)
  | (with_reducible refine et_truL ?_)
  | (with_reducible refine opd_plusI ?_)
  | (with_reducible refine opd_I0 ?_)
  | (with_reducible refine opd_B0 ?_)
  | (with_reducible refine opd_eqI ?_)
  | (with_reducible refine opd_neI ?_)
  | (with_reducible refine opd_eqS ?_)
  | (with_reducible refine opd_neS ?_)
  | (with_reducible refine opd_is ?_)
  | (with_reducible refine opd_isnt ?_)
  | (with_reducible refine opd_ixT rfl ?_)
  | (with_reducible refine opd_ixL rfl ?_)
  | (with_reducible refine und_neg ?_)
  | (with_reducible refine cbd_lenL ?_)
  | (with_reducible refine cbd_lenT ?_)
  | (with_reducible refine cbd_min2 ?_)
  | (with_reducible refine cbd_max2 ?_)
  | (with_reducible refine cbd_abs ?_)
  | (with_reducible refine cbd_int ?_)
  | (with_reducible refine cbd_tupL ?_)
  | (with_reducible refine cbd_listL ?_)
  | (with_reducible refine cbd_listT ?_)
  | (with_reducible refine cbd_sum ?_)
  | (with_reducible refine sld_T ?_)
  | (with_reducible refine sld_L ?_)
  | (with_reducible refine ex_revL ?_)
  | (with_reducible refine ex_bmL ?_)
  | (with_reducible refine ex_andV ?_)
  | (with_reducible refine ei_list ?_)
  | (with_reducible refine ei_rng1 ?_)
  | (with_reducible refine ei_rng2 ?_)
  | (with_reducible refine ei_enum ?_)
  | (with_reducible refine ei_enumT ?_)
  | (with_reducible refine ei_zip ?_)
  | (with_reducible refine sx_par ?_)
  | (with_reducible refine Exists.intro _ (And.intro rfl ?_))
  | (with_reducible refine Exists.intro _ (Exists.intro _ (And.intro rfl ?_)))
  | ((with_reducible show EX (tCall (spS _) [] _ (tCons (tVar _) _)) _ _); refine ex_callS rfl ?_)
  | ((with_reducible refine And.intro (show (_ : Nat) ≤ 100000 from ?_) ?_); (focus (simp; done)))
  | ((with_reducible refine opd_I ?_ ?_); focus (first | omega | (show CDiv _ _; exact ⟨by omega, by omega⟩) | (show CMul _ _; first | exact Or.inl ⟨by omega, by omega⟩ | exact Or.inr ⟨by omega, by omega⟩))))
local macro_rules | `(tactic| walk_at "es") => `(tactic| repeat walk_at "e")
local macro_rules | `(tactic| walk_at "w") => `(tactic| try dsimp only [wipeE, List.foldl_cons, List.foldl_nil, List.set_cons_succ, List.set_cons_zero])
local macro_rules | `(tactic| walk_at "le") => `(tactic| repeat' first | exact LeE.nil | (refine LeE.eq rfl ?_) | (refine LeE.emp ?_) | (refine LeE.eq ?_ ?_))
local macro_rules | `(tactic| walk_at "no") => `(tactic| ((refine And.intro (fun hb => absurd hb ?_) (fun _ => ?_)); (focus (first | (exact Bool.false_ne_true) | (simp; done) | (simp; omega) | (simp only [decide_eq_true_eq]; omega)))))
local macro_rules | `(tactic| walk_at "yes") => `(tactic| ((refine And.intro (fun _ => ?_) (fun hb => absurd hb ?_)); (rotate_left); (focus (first | (exact Bool.noConfusion) | (simp; done) | (simp; omega) | (simp only [decide_eq_false_iff_not]; omega)))))
local macro_rules | `(tactic| walk_at "ei") => `(tactic| repeat ((fail_if_success (with_reducible show SX (tSeq (tIfS _ _ _) _) _ _)); (fail_if_success (with_reducible show SX (tIfS _ _ _) _ _)); (fail_if_success (with_reducible show SX (tSeq (tAsg (tIf _ _ _) _) _) _ _)); walk_at "e"))
local macro_rules | `(tactic| walk_at "tv") => `(tactic| repeat' first | walk_at "e" | ((with_reducible show (_ = true → _) ∧ (_ = false → _)); refine And.intro (fun _ => ?_) (fun _ => ?_)))
/-! ### the judge of rooms -/
inductive To where
  | heavy (a : Int)
  | rooms (lots : List (List Nat)) (tr : Option Tr)
def trD : Option Tr → D
  | none => .none
  | some t => encT t
def toD : To → D
  | .heavy a => .tuple [.str (Str.ofString "heavy"), .int a]
  | .rooms lots tr => .tuple [.str (Str.ofString "rooms"), lotsD lots, trD tr]
def SaneTo : To → Prop
  | .heavy _ => True
  | .rooms lots tr => (lots.length ≤ 20 ∧ ∀ l ∈ lots, l.length ≤ 50) ∧ ∀ t, tr = some t → Sane t
def oneD (s : String) : D := .tuple [.str (Str.ofString s)]
def hvF (p : Pb) : List Nat := (List.range (nP p)).filter fun i => decide (p.r < (lAt p i).w)
def srt (lots : List (List Nat)) : List (List Nat) := (lots.map sN).mergeSort leN
def foeO (p : Pb) (lot : List Nat) (i : Nat) : Option (Nat × Nat) := ((lot.take i).find? fun o => foeB p o (lot.getD i 0)).map fun o => (o, lot.getD i 0)
def foesO (p : Pb) (lot : List Nat) : Option (Nat × Nat) := (List.range lot.length).findSome? (foeO p lot)
def foesD (q : Nat × Nat) : D := .tuple [.str (Str.ofString "foes"), .int (q.1 : Int), .int (q.2 : Int)]
def badR (p : Pb) (lot : List Nat) : Bool := lot.isEmpty || decide (p.r < wsum p lot)
def roomO (p : Pb) (lots : List (List Nat)) (i : Nat) : Option D := if badR p (lots.getD i []) = true then some (.tuple [.str (Str.ofString "room"), .int (i : Int)]) else (foesO p (lots.getD i [])).map foesD
def treeD : Fl → D
  | none => .none
  | some f => .tuple [.str (Str.ofString "tree"), fltD (some f)]
def okLots (p : Pb) (lots : List (List Nat)) : Prop := lots = srt lots ∧ sN lots.flatten = List.range (nP p)
instance (p : Pb) (lots : List (List Nat)) : Decidable (okLots p lots) := by unfold okLots; exact inferInstance
def endD (p : Pb) (lots : List (List Nat)) : Option Tr → D
  | none => if lots = [] then .none else .tuple [.str (Str.ofString "tree"), .none]
  | some t => if lots = [] then .tuple [.str (Str.ofString "tree"), .none] else treeD (tfF p (lots.length - 1) 10 [] [] t)
def sfD (p : Pb) : To → D
  | .heavy a => if hvF p ≠ [] ∧ a = ((hvF p).getD 0 0 : Nat) then .none else oneD "heavy"
  | .rooms lots tr => if hvF p ≠ [] then oneD "heavy" else if okLots p lots then (match (List.range lots.length).findSome? (roomO p lots) with
      | some d => d
      | none => endD p lots tr) else oneD "loads"
theorem sfD_h (p : Pb) (a : Int) : sfD p (.heavy a) = if hvF p ≠ [] ∧ a = ((hvF p).getD 0 0 : Nat) then .none else oneD "heavy" := rfl
theorem sfD_r (p : Pb) (lots : List (List Nat)) (tr : Option Tr) : sfD p (.rooms lots tr) = if hvF p ≠ [] then oneD "heavy" else if okLots p lots then (match (List.range lots.length).findSome? (roomO p lots) with
      | some d => d
      | none => endD p lots tr) else oneD "loads" := rfl
def R_sf : List D → (D → Prop) → Prop := fun vs Z => ∃ (p : Pb) (T : To), vs = [lsD p, fsD p, .int p.r, toD T] ∧ Sz p ∧ SaneTo T ∧ Z (sfD p T)
theorem eqv_lotsN : ∀ (xs ys : List (List Nat)), PyData.eqvAll (xs.map natsD) (ys.map natsD) = decide (xs = ys)
  | [], [] => rfl
  | [], _ :: _ => rfl
  | _ :: _, [] => rfl
  | x :: xs, y :: ys => by
    rw [List.map_cons, List.map_cons, PyData.eqvAll, eqv_lotsN xs ys, eqv_nats]
    by_cases h1 : x = y <;> by_cases h2 : xs = ys <;> simp [h1, h2]
theorem lots_deep (ds : List (List Nat)) : (PyData.list (ds.map natsD)).depth ≤ 60 := by
  have := depthAll_le (n := 2) (dpn_map (xs := ds) (f := natsD) fun x _ => by rw [natsD_eq]; exact dpn_list (n := 1) (dpn_map fun y _ => dpn_int))
  simp only [PyData.depth]
  omega
theorem sN_D (l : List Nat) : PyData.list ((sortI (nI l)).map .int) = natsD (sN l) := by rw [sortI_nI, natsD_eq]
theorem sorted_D (lots : List (List Nat)) : ((lots.filter fun _ => true).map fun l => natsD (sN l)) = (lots.map sN).map natsD := by rw [filt_all, List.map_map]; rfl
theorem rngN (n : Nat) : (rngI 0 n).map PyData.int = (List.range n).map fun k : Nat => .int (k : Int) := by
  unfold rngI
  rw [List.map_map]
  exact List.map_congr_left fun k _ => by simp only [Function.comp, Int.zero_add]
theorem hv_D (p : Pb) : PyData.list ((hvF p).map fun k : Nat => .int (k : Int)) = natsD (hvF p) := rfl
theorem hv_len (p : Pb) : (hvF p).length ≤ nP p := by
  have := List.length_filter_le (fun i => decide (p.r < (lAt p i).w)) (List.range (nP p))
  rw [List.length_range] at this
  exact this
/-- lots that are right: each ascending, all loads once -/
structure Rt (p : Pb) (lots : List (List Nat)) : Prop where
  asc : ∀ l ∈ lots, l.Pairwise fun a b => a < b
  lt : ∀ l ∈ lots, ∀ x ∈ l, x < nP p
  len : ∀ l ∈ lots, l.length ≤ nP p
theorem ok_rt {p : Pb} {lots : List (List Nat)} (h : okLots p lots) : Rt p lots := by
  obtain ⟨h1, h2⟩ := h
  have fp : lots.flatten.Perm (List.range (nP p)) := by rw [← h2]; exact (sN_perm _).symm
  have le : ∀ l ∈ lots, l.Pairwise fun a b => a ≤ b := fun l hl => by
    rw [h1] at hl
    have : l ∈ lots.map sN := (List.mergeSort_perm _ _).mem_iff.mp hl
    obtain ⟨k, _, rfl⟩ := List.mem_map.mp this
    exact sN_le k
  have nd : lots.flatten.Nodup := fp.nodup_iff.mpr List.nodup_range
  have sub : ∀ l ∈ lots, l.Sublist lots.flatten := fun l hl => List.sublist_flatten_of_mem hl
  refine ⟨fun l hl => ?_, fun l hl x hx => List.mem_range.mp (fp.mem_iff.mp ((sub l hl).subset hx)), fun l hl => ?_⟩
  · have n2 : l.Nodup := nd.sublist (sub l hl)
    exact ((le l hl).and n2).imp fun q => by omega
  · have h1 := (sub l hl).length_le
    have h2 := fp.length_eq
    rw [List.length_range] at h2
    omega
theorem find_lot {p : Pb} {lot : List Nat} {i k o : Nat} (hi : i < lot.length) (no : ∀ j, j < i → foeO p lot j = none) (hk : (lot.take i)[k]? = some o) (no2 : ∀ j, j < k → ∀ x, (lot.take i)[j]? = some x → foeB p x (lot.getD i 0) = false) (hf : foeB p o (lot.getD i 0) = true) : foesO p lot = some (o, lot.getD i 0) := by
  unfold foesO
  refine find_first hi no ?_
  unfold foeO
  have : (lot.take i).find? (fun o => foeB p o (lot.getD i 0)) = some o := by
    obtain ⟨hk1, hk2⟩ := List.getElem?_eq_some_iff.mp hk
    refine List.find?_eq_some_iff_getElem.mpr ⟨hf, k, hk1, hk2, fun j hj => ?_⟩
    rw [no2 j hj _ (List.getElem?_eq_getElem (by omega))]
    rfl
  rw [this]
  rfl
theorem foe_none {p : Pb} {lot : List Nat} {i : Nat} (no : ∀ j, j < (lot.take i).length → ∀ x, (lot.take i)[j]? = some x → foeB p x (lot.getD i 0) = false) : foeO p lot i = none := by
  unfold foeO
  have : (lot.take i).find? (fun o => foeB p o (lot.getD i 0)) = none := List.find?_eq_none.mpr fun x hx => by
    obtain ⟨j, hj, e⟩ := List.getElem_of_mem hx
    rw [no j hj x (by rw [List.getElem?_eq_getElem hj, e])]
    decide
  rw [this]
  rfl
theorem sx_store_fault (K : PySem.W.Frag) (C : Addr) (vs : List D) (Z : D → Prop) (h : R_sf vs Z) : SX (T_store_fault K C (R_tf C 10) (R_init C) R_fp) (startE N_store_fault vs) { nx := fun _ => Z .none, rt := fun d _ => Z d } := by
  obtain ⟨p, T, rfl, sz, sT, z⟩ := h
  show SX (T_store_fault K C (R_tf C 10) (R_init C) R_fp) [.val (.list (p.ls.map encL)), .val (fsD p), .val (.int p.r), .val (toD T), .emp, .emp, .emp, .emp, .emp, .emp, .emp, .emp, .emp, .emp, .emp, .emp] _
  unfold T_store_fault
  have n8 := sz.np
  have pnl : p.ls.length ≤ 8 := sz.n
  refine sx_seq (sx_asg (ex_of (eo_lcP (α := Nat) (fun i => decide (p.r < (lAt p i).w)) (fun i => .int (i : Int)) (ei_enum ?_))))
  walk_at "es"
  rw [enum_map p.ls l0 encL]
  refine ⟨List.range p.ls.length, _, rfl, by rw [List.length_range]; omega, fun i hi => by simp at hi; rcases hi with rfl | rfl <;> rfl, fun i hi => sg_tup rfl (sgs_cons (sg_name (by simp) (sgs_cons (sg_name (by simp) (sgs_nil ⟨rfl, ?_⟩))))), ?_⟩
  · rw [show lAt p i = p.ls.getD i l0 from rfl]
    generalize p.ls.getD i l0 = l
    unfold encL
    walk_at "w"
    walk_at "es"
    refine ⟨rfl, rfl, fun _ => ?_⟩
    walk_at "es"
    exact ⟨rfl, rfl⟩
  rw [show ((List.range p.ls.length).filter fun i => decide (p.r < (lAt p i).w)) = hvF p from rfl]
  have hl := hv_len p
  refine nx_seq ?_
  walk_at "w"
  cases T with
  | heavy a =>
    rw [sfD_h] at z
    unfold toD
    refine sx_seq (sx_if (et_val true ?_ ⟨fun _ => ?_, (fun q => by cases q)⟩))
    · walk_at "es"
      exact ⟨fun _ => ⟨rfl, rfl⟩, fun q => absurd q (by decide)⟩
    refine sx_ret (ex_if (et_val (decide (hvF p ≠ [] ∧ a = ((hvF p).getD 0 0 : Nat))) ?_ ?_))
    · walk_at "es"
      refine ⟨fun _ => ?_, fun q => absurd q (by decide)⟩
      cases hv : hvF p with
      | nil =>
        walk_at "es"
        exact ⟨fun q => absurd q (by simp), fun _ => ⟨by simp, rfl⟩⟩
      | cons b bs =>
        walk_at "es"
        refine ⟨fun _ => ?_, fun q => absurd q (by simp)⟩
        walk_at "es"
        refine opd_ixL (d := .int (b : Int)) (by rw [atI_map 0 (by decide) (by simp)]; rfl) ?_
        walk_at "es"
        exact ⟨by simp, rfl⟩
    refine ⟨fun hb => ?_, fun hb => ?_⟩
    · rw [if_pos (of_decide_eq_true hb)] at z
      walk_at "es"
      exact z
    · rw [if_neg (of_decide_eq_false hb)] at z
      walk_at "es"
      exact z
  | rooms lots tr =>
    rw [sfD_r] at z
    unfold toD lotsD
    obtain ⟨⟨sl, se⟩, st⟩ := sT
    refine sx_seq (sx_if (et_val (!(hvF p).isEmpty) ?_ ?_))
    · walk_at "es"
      refine ⟨fun q => absurd q (by decide), fun _ => ?_⟩
      walk_at "es"
      rw [show ((hvF p).map fun k : Nat => PyData.int (k : Int)).isEmpty = (hvF p).isEmpty by cases hvF p <;> rfl]
      exact ⟨rfl, rfl⟩
    refine ⟨fun hb => ?_, fun hb => sx_next (nx_seq ?_)⟩
    · have ne : hvF p ≠ [] := fun e => by rw [e] at hb; cases hb
      rw [if_pos ne] at z
      refine sx_ret (ex_if (et_val false ?_ ⟨(fun q => by cases q), fun _ => ?_⟩))
      · walk_at "es"
        exact ⟨fun q => absurd q (by decide), fun _ => ⟨rfl, rfl⟩⟩
      walk_at "es"
      exact z
    have he : hvF p = [] := by
      cases e : hvF p with
      | nil => rfl
      | cons b bs => rw [e] at hb; cases hb
    rw [if_neg (fun q => q he)] at z
    refine sx_seq (sx_asgT (J := [7, 8, 9]) ?_)
    walk_at "es"
    refine sg_tup rfl (sgs_cons (sg_name (by simp) (sgs_cons (sg_name (by simp) (sgs_cons (sg_name (by simp) (sgs_nil ?_)))))))
    walk_at "w"
    refine nx_seq ?_
    have fl : lots.flatten.length ≤ 1000 := by
      have := flat_len2 se
      have : lots.length * 50 ≤ 20 * 50 := Nat.mul_le_mul_right _ sl
      omega
    refine sx_seq (sx_asg ?_)
    walk_at "es"
    refine ex_of (eo_lc2P (α := List Nat) (β := Nat) (fun _ => true) (fun l => l) (fun _ _ => true) (fun _ y => .int (y : Int)) (fun _ y => .int (y : Int)) (ei_list ?_))
    walk_at "es"
    refine ⟨by rw [lc2_flatN, List.length_map]; omega, fun i hi => by simp at hi; rcases hi with rfl | rfl <;> rfl, fun l hlm => sg_name (by simp) ⟨rfl, fun i hi => by simp at hi; subst hi; rfl, ?_⟩, ?_⟩
    · unfold natsD
      walk_at "w"
      refine et_yes ⟨rfl, rfl, fun _ => ?_⟩
      refine ei_list ?_
      walk_at "es"
      refine ⟨rfl, rfl, fun y hy => sg_name (by simp) ⟨rfl, ?_⟩⟩
      walk_at "w"
      refine et_yes ⟨rfl, rfl, fun _ => ?_⟩
      walk_at "es"
      exact ⟨rfl, rfl⟩
    rw [lc2_flatN]
    walk_at "es"
    rw [show (PyData.list (lots.flatten.map fun k : Nat => .int (k : Int))) = natsD lots.flatten from rfl, natsD_eq]
    refine cbd_sortI ?_
    rw [sN_D]
    refine nx_seq ?_
    walk_at "w"
    refine sx_seq (sx_if (et_val (!decide (okLots p lots)) ?_ ?_))
    · walk_at "es"
      refine ex_of (eo_lcP (α := List Nat) (fun _ => true) (fun l => natsD (sN l)) (ei_list ?_))
      walk_at "es"
      refine ⟨by omega, fun i hi => by simp at hi; subst hi; rfl, fun l hl => sg_name (by simp) ⟨rfl, ?_⟩, ?_⟩
      · rw [natsD_eq l]
        walk_at "w"
        refine et_yes ⟨rfl, rfl, fun _ => ?_⟩
        walk_at "es"
        refine cbd_sortI ?_
        rw [sN_D]
        exact ⟨rfl, rfl⟩
      rw [sorted_D]
      walk_at "es"
      refine cbd_sortN ?_
      rw [show (lots.map sN).mergeSort leN = srt lots from rfl]
      refine opd_neP (Nat.le_trans (Nat.min_le_right _ _) (lots_deep (srt lots))) ?_
      rw [show PyData.eqv (.list (lots.map natsD)) (.list ((srt lots).map natsD)) = decide (lots = srt lots) from eqv_lotsN _ _]
      refine ⟨_, rfl, fun q => ?_, fun q => ?_⟩
      · rw [decide_eq_false (p := okLots p lots) (fun k => by rw [decide_eq_true k.1] at q; cases q)]
        exact ⟨rfl, rfl⟩
      have q := of_decide_eq_true (by simpa using q : decide (lots = srt lots) = true)
      walk_at "es"
      refine ex_of (eo_listRg1 ?_)
      walk_at "es"
      rw [List.length_map, Int.toNat_natCast]
      refine ⟨by omega, ?_⟩
      rw [rngN]
      refine opd_neP (Nat.le_trans (Nat.min_le_right _ _) (by rw [show (PyData.list ((List.range p.ls.length).map fun k : Nat => PyData.int (k : Int))) = natsD (List.range p.ls.length) from rfl, natsD_eq]; exact ints_deep _)) ?_
      rw [show (PyData.list ((List.range p.ls.length).map fun k : Nat => PyData.int (k : Int))) = natsD (List.range (nP p)) from rfl, eqv_nats]
      refine ⟨_, rfl, ?_, rfl⟩
      rw [decide_eq_decide.mpr (show sN lots.flatten = List.range (nP p) ↔ okLots p lots from ⟨fun h => ⟨q, h⟩, fun h => h.2⟩)]
    refine ⟨fun hb => ?_, fun hb => sx_next (nx_seq ?_)⟩
    · rw [if_neg (by simpa using hb)] at z
      walk_at "es"
      exact z
    have ok : okLots p lots := by simpa using hb
    rw [if_pos ok] at z
    obtain ⟨asc, rlt, rlen⟩ := ok_rt ok
    refine sx_weak (ρ' := [.val (.list (p.ls.map encL)), .val (fsD p), .val (.int p.r), .emp, .emp, .emp, .emp, .emp, .val (.list (lots.map natsD)), .val (trD tr), .emp, .emp, .emp, .emp, .emp, .emp]) (by walk_at "le") ?_
    refine sx_seq (sx_for (J := [12, 11]) (ei_enum ?_))
    walk_at "es"
    rw [enum_map lots [] natsD]
    refine ⟨fun k ρ' => (∀ j, j < k → roomO p lots j = none) ∧ ρ' = [.val (.list (p.ls.map encL)), .val (fsD p), .val (.int p.r), .emp, .emp, .emp, .emp, .emp, .val (.list (lots.map natsD)), .val (trD tr), .emp, .emp, .emp, .emp, .emp, .emp], ⟨fun j hj => absurd hj (by omega), rfl⟩, ?_, ?_⟩
    · rintro k dd ρ' hd0 ⟨no, rfl⟩
      obtain ⟨k2, hk2, rfl⟩ := map_at hd0
      obtain ⟨hkr, ek⟩ := List.getElem?_eq_some_iff.mp hk2
      rw [List.getElem_range] at ek
      subst ek
      rw [List.length_range] at hkr
      have lm : lots.getD k [] ∈ lots := by
        rw [List.getD_eq_getElem?_getD, List.getElem?_eq_getElem hkr]
        exact List.getElem_mem hkr
      have l1 := rlt _ lm
      have l2 := rlen _ lm
      have l3 := se _ lm
      have rE : roomO p lots k = if badR p (lots.getD k []) = true then some (.tuple [.str (Str.ofString "room"), .int (k : Int)]) else (foesO p (lots.getD k [])).map foesD := rfl
      generalize lots.getD k [] = lot at l1 l2 l3 rE ⊢
      refine sg_tup rfl (sgs_cons (sg_name (by simp) (sgs_cons (sg_name (by simp) (sgs_nil ?_)))))
      unfold natsD
      walk_at "w"
      refine sx_seq (sx_if (et_val (badR p lot) ?_ ?_))
      · unfold badR
        walk_at "es"
        rw [show (lot.map fun k : Nat => PyData.int (k : Int)).isEmpty = lot.isEmpty by cases lot <;> rfl, Bool.not_not]
        refine ⟨fun hb => by rw [hb]; exact ⟨rfl, rfl⟩, fun hb => ?_⟩
        rw [hb, Bool.false_or]
        walk_at "es"
        refine ex_of (eo_lcP (α := Nat) (fun _ => true) (fun o => .int (lAt p o).w) (ei_list ?_))
        walk_at "es"
        refine ⟨by omega, fun i hi => by simp at hi; subst hi; rfl, fun o ho => sg_name (by simp) ⟨rfl, ?_⟩, ?_⟩
        · have d := lAt_D (l1 o ho)
          unfold encL at d
          generalize lAt p o = q at d
          walk_at "w"
          refine et_yes ⟨rfl, rfl, fun _ => ?_⟩
          walk_at "es"
          refine opd_ixL d ?_
          walk_at "es"
          exact ⟨rfl, rfl⟩
        rw [wsum_D]
        walk_at "es"
        exact ⟨rfl, rfl⟩
      refine ⟨fun hb => ?_, fun hb => sx_next (nx_seq ?_)⟩
      · rw [if_pos hb] at rE
        rw [find_first hkr no rE] at z
        walk_at "es"
        exact z
      rw [hb, if_neg (by decide)] at rE
      refine sx_for (J := [13, 5]) (ei_enum ?_)
      walk_at "es"
      rw [enum_map lot 0 fun k : Nat => PyData.int (k : Int)]
      refine ⟨fun i ρ' => (∀ j, j < i → foeO p lot j = none) ∧ ρ' = [.val (.list (p.ls.map encL)), .val (fsD p), .val (.int p.r), .emp, .emp, .emp, .emp, .emp, .val (.list (lots.map natsD)), .val (trD tr), .emp, .val (natsD lot), .val (.int (k : Int)), .emp, .emp, .emp], ⟨fun j hj => absurd hj (by omega), rfl⟩, ?_, ?_⟩
      · rintro i dd ρ' hd0 ⟨no1, rfl⟩
        obtain ⟨k2, hk2, rfl⟩ := map_at hd0
        obtain ⟨hir, ek⟩ := List.getElem?_eq_some_iff.mp hk2
        rw [List.getElem_range] at ek
        subst ek
        rw [List.length_range] at hir
        have at1 : lot.getD i 0 < nP p := l1 _ (by rw [List.getD_eq_getElem?_getD, List.getElem?_eq_getElem hir]; exact List.getElem_mem _)
        refine sg_tup rfl (sgs_cons (sg_name (by simp) (sgs_cons (sg_name (by simp) (sgs_nil ?_)))))
        unfold natsD
        walk_at "w"
        refine sx_for (J := [14]) (ei_list ?_)
        walk_at "es"
        rw [cut_n]
        refine ⟨fun m ρ' => (∀ j, j < m → ∀ x, (lot.take i)[j]? = some x → foeB p x (lot.getD i 0) = false) ∧ ρ' = [.val (.list (p.ls.map encL)), .val (fsD p), .val (.int p.r), .emp, .emp, .val (.int ((lot.getD i 0 : Nat) : Int)), .emp, .emp, .val (.list (lots.map natsD)), .val (trD tr), .emp, .val (natsD lot), .val (.int (k : Int)), .val (.int (i : Int)), .emp, .emp], ⟨fun j hj => absurd hj (by omega), rfl⟩, ?_, ?_⟩
        · rintro m dd ρ' hd0 ⟨no2, rfl⟩
          obtain ⟨o, ho, rfl⟩ := map_at hd0
          have ol := l1 o (List.mem_of_mem_take (List.mem_of_getElem? ho))
          have d1 := lAt_D ol
          have d2 := lAt_D at1
          have fe : foeB p o (lot.getD i 0) = decide (pairF (lAt p o).k (lAt p (lot.getD i 0)).k ∈ p.fs) := rfl
          refine sg_name (by simp) ?_
          walk_at "w"
          refine sx_if (et_val (foeB p o (lot.getD i 0)) ?_ ?_)
          · rw [fe]
            unfold encL at d1 d2
            generalize lAt p o = q1 at d1 ⊢
            generalize lAt p (lot.getD i 0) = q2 at d2 ⊢
            walk_at "es"
            refine opd_ixL d1 ?_
            walk_at "es"
            refine opd_ixL d2 ?_
            walk_at "es"
            exact ⟨p, q1.k, q2.k, rfl, _, rfl, rfl, rfl⟩
          refine ⟨fun hq => ?_, fun hq => sx_next ⟨_, ?_, fun j hj x hx => ?_, rfl⟩⟩
          · rw [find_lot hir no1 ho no2 hq] at rE
            rw [find_first hkr no rE] at z
            walk_at "es"
            exact z
          · walk_at "le"
          · by_cases q : j = m
            · subst q
              rw [ho] at hx
              cases hx
              exact hq
            · exact no2 j (by omega) x hx
        · rintro ρ' ⟨no2, rfl⟩
          rw [List.length_map] at no2
          have fn := foe_none no2
          refine ⟨_, ?_, fun j hj => ?_, rfl⟩
          · walk_at "le"
          · by_cases q : j = i
            · rw [q]; exact fn
            · exact no1 j (by omega)
      · rintro ρ' ⟨no1, rfl⟩
        rw [List.length_map, List.length_range] at no1
        have fo : foesO p lot = none := find_no no1
        rw [fo] at rE
        refine ⟨_, ?_, fun j hj => ?_, rfl⟩
        · walk_at "le"
        · by_cases q : j = k
          · rw [q]; exact rE
          · exact no j (by omega)
    rintro ρ' ⟨no, rfl⟩
    rw [List.length_map, List.length_range] at no
    rw [find_no no] at z
    have z : Z (endD p lots tr) := z
    refine nx_seq ?_
    have el : decide ((lots.length : Int) = 0) = decide (lots = []) := by
      cases lots with
      | nil => rfl
      | cons l ls => rw [List.length_cons, decide_eq_false (by omega), decide_eq_false (by simp)]
    cases tr with
    | none =>
      unfold trD
      refine sx_seq (sx_if (et_val (!decide (true = decide (lots = []))) ?_ ?_))
      · walk_at "es"
        rw [List.length_map, el]
        refine opd_neB ?_
        exact ⟨_, rfl, rfl, rfl⟩
      refine ⟨fun hb => ?_, fun hb => sx_next (nx_seq ?_)⟩
      · have ne : lots ≠ [] := fun e => by rw [decide_eq_true e] at hb; cases hb
        unfold endD at z
        rw [if_neg ne] at z
        walk_at "es"
        exact z
      have e0 : lots = [] := by
        refine Classical.byContradiction fun ne => ?_
        rw [decide_eq_false ne] at hb
        cases hb
      unfold endD at z
      rw [if_pos e0] at z
      refine sx_seq (sx_if (et_val true ?_ ⟨fun _ => ?_, (fun q => by cases q)⟩))
      · walk_at "es"
        exact ⟨rfl, rfl⟩
      walk_at "es"
      exact z
    | some t =>
      unfold trD
      have hn : isN (encT t) = false := by cases t <;> rw [encT] <;> rfl
      refine sx_seq (sx_if (et_val (!decide (false = decide (lots = []))) ?_ ?_))
      · walk_at "es"
        rw [List.length_map, el, hn]
        refine opd_neB ?_
        exact ⟨_, rfl, rfl, rfl⟩
      refine ⟨fun hb => ?_, fun hb => sx_next (nx_seq ?_)⟩
      · have e0 : lots = [] := by
          refine Classical.byContradiction fun ne => ?_
          rw [decide_eq_false ne] at hb
          cases hb
        rw [show endD p lots (some t) = if lots = [] then .tuple [.str (Str.ofString "tree"), .none] else treeD (tfF p (lots.length - 1) 10 [] [] t) from rfl, if_pos e0] at z
        walk_at "es"
        exact z
      have ne : lots ≠ [] := fun e => by rw [decide_eq_true e] at hb; cases hb
      have pos := List.length_pos_iff.mpr ne
      rw [show endD p lots (some t) = if lots = [] then .tuple [.str (Str.ofString "tree"), .none] else treeD (tfF p (lots.length - 1) 10 [] [] t) from rfl, if_neg ne] at z
      refine sx_seq (sx_if (et_val false ?_ ⟨(fun q => by cases q), fun _ => sx_next (nx_seq ?_)⟩))
      · walk_at "es"
        rw [hn]
        exact ⟨rfl, rfl⟩
      refine sx_seq (sx_asg ?_)
      refine ex_callTmp ?_
      walk_at "es"
      refine ⟨p, rfl, rfl, sz, rfl, ?_⟩
      walk_at "es"
      rw [List.length_map, show ((lots.length : Int) - 1) = ((lots.length - 1 : Nat) : Int) by omega]
      refine ⟨p, [], lots.length - 1, [], t, rfl, rfl, ⟨sz, ⟨by simp, by simp⟩, ⟨0, by simp, by simp, by omega, by simp⟩, by have := left_len p []; omega⟩, by omega, st t rfl, ?_⟩
      refine nx_seq ?_
      walk_at "w"
      cases hf : tfF p (lots.length - 1) 10 [] [] t with
      | none =>
        rw [hf] at z
        refine sx_ret (ex_if (et_val true ?_ ⟨fun _ => ?_, (fun q => by cases q)⟩))
        · unfold fltD
          walk_at "es"
          exact ⟨rfl, rfl⟩
        walk_at "es"
        exact z
      | some q =>
        rw [hf] at z
        refine sx_ret (ex_if (et_val false ?_ ⟨(fun q => by cases q), fun _ => ?_⟩))
        · unfold fltD
          walk_at "es"
          exact ⟨rfl, rfl⟩
        walk_at "es"
        exact z
end Law_k64
namespace Law_k64
open PySem L2 Pu
local macro_rules | `(tactic| walk_at "e") => `(tactic| first
  | ((with_reducible refine nx_seq ?_); (try dsimp only [List.set_cons_succ, List.set_cons_zero]))
  | ((with_reducible refine ex_vr ?_); dsimp only [VQ, List.set_cons_succ, List.set_cons_zero, List.getElem?_cons_zero, List.getElem?_cons_succ]; (fail_if_success (with_reducible show False)))
  | (with_reducible refine sx_seq ?_)
  | (with_reducible refine sx_if ?_)
  | (with_reducible refine sx_next ?_)
  | (with_reducible refine sx_ret ?_)
  | ((fail_if_success (with_reducible refine sx_asgO (eo_lst ?_))); (with_reducible refine sx_asg ?_))
  | (with_reducible refine ex_int ?_)
  | (with_reducible refine ex_str ?_)
  | (with_reducible refine ex_bl ?_)
  | (with_reducible refine ex_non ?_)
  | (with_reducible refine ex_op ?_)
  | (with_reducible refine ex_un ?_)
  | (with_reducible refine ex_chain ?_)
  | (with_reducible refine ex_call ?_)
  | (with_reducible refine ex_isT ?_)
  | (with_reducible refine ex_cb ?_)
  | (with_reducible refine ex_sl ?_)
  | (with_reducible refine ex_tup ?_)
  | (with_reducible refine ex_if ?_)
  | (with_reducible refine ex_of (eo_lst ?_))
  | (with_reducible refine ex_notV ?_)
  | (with_reducible refine ea_nil ?_)
  | (with_reducible refine ea_cons ?_)
  | (with_reducible refine ep_no ?_)
  | (with_reducible refine ep_some ?_)
  | (with_reducible refine et_test ?_)
  | (with_reducible refine et_B ?_)
  | (with_reducible refine et_ch3 ?_)
  | (with_reducible refine et_and ?_)
  | (with_reducible refine et_or ?_)
  | (with_reducible refine et_not ?_)
  | (with_reducible refine et_yes ?_)
  | (with_reducible refine et_truL ?_)
  | (with_reducible refine opd_plusI ?_)
  | (with_reducible refine opd_I0 ?_)
  | (with_reducible refine opd_B0 ?_)
  | (with_reducible refine opd_eqI ?_)
  | (with_reducible refine opd_neI ?_)
  | (with_reducible refine opd_eqS ?_)
  | (with_reducible refine opd_neS ?_)
  | (with_reducible refine opd_is ?_)
  | (with_reducible refine opd_isnt ?_)
  | (with_reducible refine opd_ixT rfl ?_)
  | (with_reducible refine opd_ixL rfl ?_)
  | (with_reducible refine und_neg ?_)
  | (with_reducible refine cbd_lenL ?_)
  | (with_reducible refine cbd_lenT ?_)
  | (with_reducible refine cbd_min2 ?_)
  | (with_reducible refine cbd_max2 ?_)
  | (with_reducible refine cbd_abs ?_)
  | (with_reducible refine cbd_int ?_)
  | (with_reducible refine cbd_tupL ?_)
  | (with_reducible refine cbd_listL ?_)
  | (with_reducible refine cbd_listT ?_)
  | (with_reducible refine cbd_sum ?_)
  | (with_reducible refine sld_T ?_)
  | (with_reducible refine sld_L ?_)
  | (with_reducible refine ex_revL ?_)
  | (with_reducible refine ex_bmL ?_)
  | (with_reducible refine ex_andV ?_)
  | (with_reducible refine ei_list ?_)
  | (with_reducible refine ei_rng1 ?_)
  | (with_reducible refine ei_rng2 ?_)
  | (with_reducible refine ei_enum ?_)
  | (with_reducible refine ei_enumT ?_)
  | (with_reducible refine ei_zip ?_)
  | (with_reducible refine sx_par ?_)
  | (with_reducible refine Exists.intro _ (And.intro rfl ?_))
  | (with_reducible refine Exists.intro _ (Exists.intro _ (And.intro rfl ?_)))
  | ((with_reducible show EX (tCall (spS _) [] _ (tCons (tVar _) _)) _ _); refine ex_callS rfl ?_)
  | ((with_reducible refine And.intro (show (_ : Nat) ≤ 100000 from ?_) ?_); (focus (simp; done)))
  | ((with_reducible refine opd_I ?_ ?_); focus (first | omega | (show CDiv _ _; exact ⟨by omega, by omega⟩) | (show CMul _ _; first | exact Or.inl ⟨by omega, by omega⟩ | exact Or.inr ⟨by omega, by omega⟩))))
local macro_rules | `(tactic| walk_at "es") => `(tactic| repeat walk_at "e")
local macro_rules | `(tactic| walk_at "w") => `(tactic| try dsimp only [wipeE, List.foldl_cons, List.foldl_nil, List.set_cons_succ, List.set_cons_zero])
local macro_rules | `(tactic| walk_at "le") => `(tactic| repeat' first | exact LeE.nil | (refine LeE.eq rfl ?_) | (refine LeE.emp ?_) | (refine LeE.eq ?_ ?_))
local macro_rules | `(tactic| walk_at "no") => `(tactic| ((refine And.intro (fun hb => absurd hb ?_) (fun _ => ?_)); (focus (first | (exact Bool.false_ne_true) | (simp; done) | (simp; omega) | (simp only [decide_eq_true_eq]; omega)))))
local macro_rules | `(tactic| walk_at "yes") => `(tactic| ((refine And.intro (fun _ => ?_) (fun hb => absurd hb ?_)); (rotate_left); (focus (first | (exact Bool.noConfusion) | (simp; done) | (simp; omega) | (simp only [decide_eq_false_iff_not]; omega)))))
local macro_rules | `(tactic| walk_at "ei") => `(tactic| repeat ((fail_if_success (with_reducible show SX (tSeq (tIfS _ _ _) _) _ _)); (fail_if_success (with_reducible show SX (tIfS _ _ _) _ _)); (fail_if_success (with_reducible show SX (tSeq (tAsg (tIf _ _ _) _) _) _ _)); walk_at "e"))
local macro_rules | `(tactic| walk_at "tv") => `(tactic| repeat' first | walk_at "e" | ((with_reducible show (_ = true → _) ∧ (_ = false → _)); refine And.intro (fun _ => ?_) (fun _ => ?_)))
/-! ### the law's own judge of rooms -/
theorem bad_eq {p : Pb} {lot : List Nat} (asc : lot.Pairwise fun a b => a < b) {i : Nat} (hi : i < lot.length) : (lot.filter fun j => decide (j < lot.getD i 0) && foeB p j (lot.getD i 0)) = (lot.take i).filter fun j => foeB p j (lot.getD i 0) := by
  have e : lot = lot.take i ++ lot.drop i := (List.take_append_drop i lot).symm
  have h1 : (lot.drop i).filter (fun j => decide (j < lot.getD i 0) && foeB p j (lot.getD i 0)) = [] := List.filter_eq_nil_iff.mpr fun x hx q => by
    rw [Bool.and_eq_true, decide_eq_true_eq] at q
    have h2 : x ∈ lot.take i := (lt_take asc hi).mp ⟨List.mem_of_mem_drop hx, q.1⟩
    have nd : lot.Nodup := asc.imp fun q => by omega
    rw [e] at nd
    exact (List.nodup_append.mp nd).2.2 x h2 x hx rfl
  have h3 : (lot.take i).filter (fun j => decide (j < lot.getD i 0) && foeB p j (lot.getD i 0)) = (lot.take i).filter fun j => foeB p j (lot.getD i 0) := List.filter_congr fun x hx => by
    rw [decide_eq_true ((lt_take asc hi).mpr hx).2, Bool.true_and]
  conv => lhs; rw [e]
  rw [List.filter_append, ← e, h1, List.append_nil, h3]
theorem foe_head {p : Pb} {lot : List Nat} {i : Nat} : foeO p lot i = ((lot.take i).filter fun j => foeB p j (lot.getD i 0)).head?.map fun o => (o, lot.getD i 0) := by
  unfold foeO
  rw [List.head?_filter]
theorem sx_l_fault (K : PySem.W.Frag) (vs : List D) (Z : D → Prop) (h : R_sf vs Z) : SX (T_l_fault K (R_ltf 10)) (startE N_l_fault vs) { nx := fun _ => Z .none, rt := fun d _ => Z d } := by
  obtain ⟨p, T, rfl, sz, sT, z⟩ := h
  show SX (T_l_fault K (R_ltf 10)) [.val (.list (p.ls.map encL)), .val (.list (p.fs.map encP)), .val (.int p.r), .val (toD T), .emp, .emp, .emp, .emp, .emp, .emp, .emp, .emp, .emp, .emp, .emp] _
  unfold T_l_fault
  have n8 := sz.np
  have pnl : p.ls.length ≤ 8 := sz.n
  refine sx_seq (sx_asg (ex_of (eo_lcP (α := Int) (fun i => decide (p.r < (lAt p i.toNat).w)) (fun i => .int i) (ei_rng1 ?_))))
  walk_at "es"
  rw [List.length_map, Int.toNat_natCast]
  refine ⟨by omega, rngI 0 p.ls.length, _, rfl, by rw [rngI_len]; omega, fun i hi => by simp at hi; subst hi; rfl, fun x hx => sg_name (by simp) ⟨rfl, ?_⟩, ?_⟩
  · have hx := rngI_mem.mp hx
    obtain ⟨k, rfl⟩ : ∃ k : Nat, x = (k : Int) := ⟨x.toNat, by omega⟩
    rw [Int.toNat_natCast]
    have d := lAt_D (show k < nP p by unfold nP; omega)
    unfold encL at d
    generalize lAt p k = q at d
    walk_at "w"
    walk_at "es"
    refine opd_ixL d ?_
    walk_at "es"
    refine ⟨rfl, rfl, fun _ => ?_⟩
    walk_at "es"
    exact ⟨rfl, rfl⟩
  rw [rng_nats (fun i => decide (p.r < (lAt p i).w)) p.ls.length, show ((List.range p.ls.length).filter fun i => decide (p.r < (lAt p i).w)) = hvF p from rfl]
  have hl := hv_len p
  have he0 : decide ((0 : Int) < (((hvF p).map fun k : Nat => PyData.int (k : Int)).length : Nat)) = !(hvF p).isEmpty := by
    rw [List.length_map]
    cases hvF p with
    | nil => rfl
    | cons b bs => rw [List.length_cons, decide_eq_true (by omega)]; rfl
  refine nx_seq ?_
  walk_at "w"
  cases T with
  | heavy a =>
    rw [sfD_h] at z
    unfold toD
    refine sx_seq (sx_if (et_val true ?_ ⟨fun _ => ?_, (fun q => by cases q)⟩))
    · walk_at "es"
      exact ⟨fun _ => ⟨rfl, rfl⟩, fun q => absurd q (by decide)⟩
    refine sx_ret (ex_if (et_val (decide (hvF p ≠ [] ∧ a = ((hvF p).getD 0 0 : Nat))) ?_ ?_))
    · walk_at "es"
      refine ⟨fun _ => ?_, fun q => absurd q (by decide)⟩
      walk_at "es"
      rw [he0]
      cases hv : hvF p with
      | nil =>
        exact ⟨fun q => absurd q (by simp), fun _ => ⟨by simp, rfl⟩⟩
      | cons b bs =>
        refine ⟨fun _ => ?_, fun q => absurd q (by simp)⟩
        walk_at "es"
        refine opd_ixL (d := .int (b : Int)) (by rw [atI_map 0 (by decide) (by simp)]; rfl) ?_
        walk_at "es"
        exact ⟨by simp, rfl⟩
    refine ⟨fun hb => ?_, fun hb => ?_⟩
    · rw [if_pos (of_decide_eq_true hb)] at z
      walk_at "es"
      exact z
    · rw [if_neg (of_decide_eq_false hb)] at z
      walk_at "es"
      exact z
  | rooms lots tr =>
    rw [sfD_r] at z
    unfold toD lotsD
    obtain ⟨⟨sl, se⟩, st⟩ := sT
    refine sx_seq (sx_if (et_val (!(hvF p).isEmpty) ?_ ?_))
    · walk_at "es"
      refine ⟨fun q => absurd q (by decide), fun _ => ?_⟩
      walk_at "es"
      rw [he0]
      exact ⟨rfl, rfl⟩
    refine ⟨fun hb => ?_, fun hb => sx_next (nx_seq ?_)⟩
    · have ne : hvF p ≠ [] := fun e => by rw [e] at hb; cases hb
      rw [if_pos ne] at z
      refine sx_ret (ex_if (et_val false ?_ ⟨(fun q => by cases q), fun _ => ?_⟩))
      · walk_at "es"
        exact ⟨fun q => absurd q (by decide), fun _ => ⟨rfl, rfl⟩⟩
      walk_at "es"
      exact z
    have he : hvF p = [] := by
      cases e : hvF p with
      | nil => rfl
      | cons b bs => rw [e] at hb; cases hb
    rw [if_neg (fun q => q he)] at z
    refine sx_seq (sx_asgT (J := [6, 7, 8]) ?_)
    walk_at "es"
    refine sg_tup rfl (sgs_cons (sg_name (by simp) (sgs_cons (sg_name (by simp) (sgs_cons (sg_name (by simp) (sgs_nil ?_)))))))
    walk_at "w"
    refine nx_seq ?_
    have fl : ∀ k, (lots.take k).flatten.length ≤ 1000 := fun k => by
      have := flat_len2 (lots := lots.take k) (b := 50) fun l hl => se l (List.mem_of_mem_take hl)
      have h2 : (lots.take k).length ≤ 20 := by rw [List.length_take]; omega
      have : (lots.take k).length * 50 ≤ 20 * 50 := Nat.mul_le_mul_right _ h2
      omega
    refine sx_seq (sx_asgO (eo_lst ?_))
    walk_at "es"
    refine sx_weak (ρ' := [.val (.list (p.ls.map encL)), .val (.list (p.fs.map encP)), .val (.int p.r), .emp, .emp, .emp, .emp, .val (.list (lots.map natsD)), .val (trD tr), .own [], .emp, .emp, .emp, .emp, .emp]) (by walk_at "le") ?_
    refine sx_for (J := [10]) (ei_list ?_)
    walk_at "es"
    refine ⟨fun k ρ' => ρ' = [.val (.list (p.ls.map encL)), .val (.list (p.fs.map encP)), .val (.int p.r), .emp, .emp, .emp, .emp, .val (.list (lots.map natsD)), .val (trD tr), .own ((lots.take k).flatten.map fun k : Nat => .int (k : Int)), .emp, .emp, .emp, .emp, .emp], rfl, ?_, ?_⟩
    · rintro k dd ρ' hd0 rfl
      obtain ⟨l, hl, rfl⟩ := map_at hd0
      have tk := take_snoc' hl
      have tf := fl k
      have l50 := se l (List.mem_of_getElem? hl)
      refine sg_name (by simp) ?_
      unfold natsD
      walk_at "w"
      refine sx_ext rfl (ex_var rfl ?_)
      refine ⟨_, _, rfl, rfl, by rw [List.length_map, List.length_map]; omega, ?_⟩
      walk_at "w"
      refine ⟨_, ?_, rfl⟩
      rw [tk, List.flatten_append, List.map_append]
      simp only [List.flatten_cons, List.flatten_nil, List.append_nil]
      walk_at "le"
    rintro ρ' rfl
    rw [List.length_map, List.take_length]
    refine nx_seq ?_
    refine sx_freeze 9 rfl ?_
    walk_at "w"
    refine sx_seq (sx_if (et_val (!decide (okLots p lots)) ?_ ?_))
    · walk_at "es"
      refine ex_of (eo_lcP (α := List Nat) (fun _ => true) (fun l => natsD (sN l)) (ei_list ?_))
      walk_at "es"
      refine ⟨by omega, fun i hi => by simp at hi; subst hi; rfl, fun l hl => sg_name (by simp) ⟨rfl, ?_⟩, ?_⟩
      · rw [natsD_eq l]
        walk_at "w"
        refine et_yes ⟨rfl, rfl, fun _ => ?_⟩
        walk_at "es"
        refine cbd_sortI ?_
        rw [sN_D]
        exact ⟨rfl, rfl⟩
      rw [sorted_D]
      walk_at "es"
      refine cbd_sortN ?_
      rw [show (lots.map sN).mergeSort leN = srt lots from rfl]
      refine opd_neP (Nat.le_trans (Nat.min_le_right _ _) (lots_deep (srt lots))) ?_
      rw [show PyData.eqv (.list (lots.map natsD)) (.list ((srt lots).map natsD)) = decide (lots = srt lots) from eqv_lotsN _ _]
      refine ⟨_, rfl, fun q => ?_, fun q => ?_⟩
      · rw [decide_eq_false (p := okLots p lots) (fun k => by rw [decide_eq_true k.1] at q; cases q)]
        exact ⟨rfl, rfl⟩
      have q := of_decide_eq_true (by simpa using q : decide (lots = srt lots) = true)
      walk_at "es"
      rw [show (PyData.list (lots.flatten.map fun k : Nat => .int (k : Int))) = natsD lots.flatten from rfl, natsD_eq]
      refine cbd_sortI ?_
      rw [sN_D]
      refine ex_of (eo_listRg1 ?_)
      walk_at "es"
      rw [List.length_map, Int.toNat_natCast]
      refine ⟨by omega, ?_⟩
      rw [rngN]
      refine opd_neP (Nat.le_trans (Nat.min_le_right _ _) (by rw [show (PyData.list ((List.range p.ls.length).map fun k : Nat => PyData.int (k : Int))) = natsD (List.range p.ls.length) from rfl, natsD_eq]; exact ints_deep _)) ?_
      rw [show (PyData.list ((List.range p.ls.length).map fun k : Nat => PyData.int (k : Int))) = natsD (List.range (nP p)) from rfl, eqv_nats]
      refine ⟨_, rfl, ?_, rfl⟩
      rw [decide_eq_decide.mpr (show sN lots.flatten = List.range (nP p) ↔ okLots p lots from ⟨fun h => ⟨q, h⟩, fun h => h.2⟩)]
    refine ⟨fun hb => ?_, fun hb => sx_next (nx_seq ?_)⟩
    · rw [if_neg (by simpa using hb)] at z
      walk_at "es"
      exact z
    have ok : okLots p lots := by simpa using hb
    rw [if_pos ok] at z
    obtain ⟨asc, rlt, rlen⟩ := ok_rt ok
    refine sx_weak (ρ' := [.val (.list (p.ls.map encL)), .val (.list (p.fs.map encP)), .val (.int p.r), .emp, .emp, .emp, .emp, .val (.list (lots.map natsD)), .val (trD tr), .emp, .emp, .emp, .emp, .emp, .emp]) (by walk_at "le") ?_
    refine sx_seq (sx_for (J := [11]) (ei_rng1 ?_))
    walk_at "es"
    rw [List.length_map, Int.toNat_natCast]
    refine ⟨by omega, fun k ρ' => (∀ j, j < k → roomO p lots j = none) ∧ ρ' = [.val (.list (p.ls.map encL)), .val (.list (p.fs.map encP)), .val (.int p.r), .emp, .emp, .emp, .emp, .val (.list (lots.map natsD)), .val (trD tr), .emp, .emp, .emp, .emp, .emp, .emp], ⟨fun j hj => absurd hj (by omega), rfl⟩, ?_, ?_⟩
    · rintro k dd ρ' hd0 ⟨no, rfl⟩
      obtain ⟨hkr, rfl⟩ := rng_at hd0
      rw [Int.zero_add]
      have lm : lots.getD k [] ∈ lots := by
        rw [List.getD_eq_getElem?_getD, List.getElem?_eq_getElem hkr]
        exact List.getElem_mem hkr
      have l0 := asc _ lm
      have l1 := rlt _ lm
      have l2 := rlen _ lm
      have l3 := se _ lm
      have rE : roomO p lots k = if badR p (lots.getD k []) = true then some (.tuple [.str (Str.ofString "room"), .int (k : Int)]) else (foesO p (lots.getD k [])).map foesD := rfl
      have atL := lots_at hkr
      generalize lots.getD k [] = lot at l0 l1 l2 l3 rE atL ⊢
      refine sg_name (by simp) ?_
      unfold natsD at atL
      walk_at "w"
      have lE : decide ((lot.length : Int) = 0) = lot.isEmpty := by
        cases lot with
        | nil => rfl
        | cons x l => rw [List.length_cons, decide_eq_false (by omega)]; rfl
      refine sx_seq (sx_if (et_val (badR p lot) ?_ ?_))
      · unfold badR
        walk_at "es"
        refine opd_ixL atL ?_
        walk_at "es"
        rw [List.length_map, lE]
        refine ⟨fun hb => by rw [hb]; exact ⟨rfl, rfl⟩, fun hb => ?_⟩
        rw [hb, Bool.false_or]
        walk_at "es"
        refine ex_of (eo_lcP (α := Nat) (fun _ => true) (fun o => .int (lAt p o).w) (ei_list ?_))
        walk_at "es"
        refine opd_ixL atL ?_
        refine ⟨_, rfl, lot, fun k : Nat => .int (k : Int), rfl, by omega, fun i hi => by simp at hi; subst hi; rfl, fun o ho => sg_name (by simp) ⟨rfl, ?_⟩, ?_⟩
        · have d := lAt_D (l1 o ho)
          unfold encL at d
          generalize lAt p o = q at d
          walk_at "w"
          refine et_yes ⟨rfl, rfl, fun _ => ?_⟩
          walk_at "es"
          refine opd_ixL d ?_
          walk_at "es"
          exact ⟨rfl, rfl⟩
        rw [wsum_D]
        walk_at "es"
        exact ⟨rfl, rfl⟩
      refine ⟨fun hb => ?_, fun hb => sx_next (nx_seq ?_)⟩
      · rw [if_pos hb] at rE
        rw [find_first hkr no rE] at z
        walk_at "es"
        exact z
      rw [hb, if_neg (by decide)] at rE
      refine sx_for (J := [5]) (ei_list ?_)
      walk_at "es"
      refine opd_ixL atL ?_
      refine ⟨_, rfl, fun i ρ' => (∀ j, j < i → foeO p lot j = none) ∧ ρ' = [.val (.list (p.ls.map encL)), .val (.list (p.fs.map encP)), .val (.int p.r), .emp, .emp, .emp, .emp, .val (.list (lots.map natsD)), .val (trD tr), .emp, .emp, .val (.int (k : Int)), .emp, .emp, .emp], ⟨fun j hj => absurd hj (by omega), rfl⟩, ?_, ?_⟩
      · rintro i dd ρ' hd0 ⟨no1, rfl⟩
        obtain ⟨x, hx, rfl⟩ := map_at hd0
        obtain ⟨hir, ex⟩ := List.getElem?_eq_some_iff.mp hx
        have exD : lot.getD i 0 = x := by rw [List.getD_eq_getElem?_getD, hx]; rfl
        have xl : x < nP p := l1 _ (List.mem_of_getElem? hx)
        have be := bad_eq (p := p) l0 hir
        have fh := foe_head (p := p) (lot := lot) (i := i)
        rw [exD] at be fh
        rw [← be] at fh
        refine sg_name (by simp) ?_
        walk_at "w"
        refine sx_seq (sx_asg (ex_of (eo_lcP (α := Nat) (fun j => decide (j < x) && foeB p j x) (fun j => .int (j : Int)) (ei_list ?_))))
        walk_at "es"
        refine opd_ixL atL ?_
        refine ⟨_, rfl, lot, fun k : Nat => .int (k : Int), rfl, by omega, fun i hi => by simp at hi; subst hi; rfl, fun o ho => sg_name (by simp) ⟨rfl, ?_⟩, ?_⟩
        · have d1 := lAt_D (l1 o ho)
          have d2 := lAt_D xl
          have fe : foeB p o x = decide (pairF (lAt p o).k (lAt p x).k ∈ p.fs) := rfl
          rw [fe]
          unfold encL at d1 d2
          generalize lAt p o = q1 at d1 ⊢
          generalize lAt p x = q2 at d2 ⊢
          walk_at "w"
          walk_at "es"
          rw [show decide ((o : Int) < (x : Int)) = decide (o < x) from decide_eq_decide.mpr (by omega)]
          refine ⟨fun hb => ?_, fun hb => by rw [hb, Bool.false_and]; exact ⟨rfl, rfl, (fun q => by cases q)⟩⟩
          rw [hb, Bool.true_and]
          walk_at "es"
          refine opd_ixL d1 ?_
          walk_at "es"
          refine opd_ixL d2 ?_
          walk_at "es"
          refine cbd_sortI (xs := [q1.k, q2.k]) ?_
          rw [sort_two]
          walk_at "es"
          refine opd_inL (Nat.le_trans (Nat.min_le_right _ _) (by simp [PyData.depth, PyData.depthAll])) ?_
          rw [show (PyData.tuple ([min q1.k q2.k, max q1.k q2.k].map .int)) = encP (pairF q1.k q2.k) from rfl, any_encP]
          refine ⟨_, rfl, rfl, rfl, fun _ => ?_⟩
          walk_at "es"
          exact ⟨rfl, rfl⟩
        have bl := List.length_filter_le (fun j => decide (j < x) && foeB p j x) lot
        generalize (lot.filter fun j => decide (j < x) && foeB p j x) = bad at fh bl ⊢
        refine nx_seq ?_
        walk_at "w"
        cases bad with
        | nil =>
          have fn : foeO p lot i = none := fh
          refine sx_if (et_val false ?_ ⟨(fun q => by cases q), fun _ => sx_next ⟨_, ?_, fun j hj => ?_, rfl⟩⟩)
          · walk_at "es"
            exact ⟨rfl, rfl⟩
          · walk_at "le"
          · by_cases q : j = i
            · rw [q]; exact fn
            · exact no1 j (by omega)
        | cons b bs =>
          have fn : foeO p lot i = some (b, x) := fh
          refine sx_if (et_val true ?_ ⟨fun _ => ?_, (fun q => by cases q)⟩)
          · walk_at "es"
            exact ⟨decide_eq_true (by rw [List.length_map, List.length_cons]; omega), rfl⟩
          have fo : foesO p lot = some (b, x) := find_first hir no1 fn
          rw [fo] at rE
          rw [find_first hkr no rE] at z
          walk_at "es"
          refine opd_ixL (d := .int (b : Int)) (by rw [atI_map 0 (by decide) (by simp)]; rfl) ?_
          walk_at "es"
          exact z
      · rintro ρ' ⟨no1, rfl⟩
        rw [List.length_map] at no1
        have fo : foesO p lot = none := find_no no1
        rw [fo] at rE
        refine ⟨_, ?_, fun j hj => ?_, rfl⟩
        · walk_at "le"
        · by_cases q : j = k
          · rw [q]; exact rE
          · exact no j (by omega)
    rintro ρ' ⟨no, rfl⟩
    rw [rng_size] at no
    rw [find_no no] at z
    have z : Z (endD p lots tr) := z
    refine nx_seq ?_
    have el : decide ((lots.length : Int) = 0) = decide (lots = []) := by
      cases lots with
      | nil => rfl
      | cons l ls => rw [List.length_cons, decide_eq_false (by omega), decide_eq_false (by simp)]
    cases tr with
    | none =>
      unfold trD
      refine sx_seq (sx_if (et_val (!decide (true = decide (lots = []))) ?_ ?_))
      · walk_at "es"
        rw [List.length_map, el]
        refine opd_neB ?_
        exact ⟨_, rfl, rfl, rfl⟩
      refine ⟨fun hb => ?_, fun hb => sx_next (nx_seq ?_)⟩
      · have ne : lots ≠ [] := fun e => by rw [decide_eq_true e] at hb; cases hb
        unfold endD at z
        rw [if_neg ne] at z
        walk_at "es"
        exact z
      have e0 : lots = [] := by
        refine Classical.byContradiction fun ne => ?_
        rw [decide_eq_false ne] at hb
        cases hb
      unfold endD at z
      rw [if_pos e0] at z
      refine sx_seq (sx_if (et_val true ?_ ⟨fun _ => ?_, (fun q => by cases q)⟩))
      · walk_at "es"
        exact ⟨rfl, rfl⟩
      walk_at "es"
      exact z
    | some t =>
      unfold trD
      have hn : isN (encT t) = false := by cases t <;> rw [encT] <;> rfl
      refine sx_seq (sx_if (et_val (!decide (false = decide (lots = []))) ?_ ?_))
      · walk_at "es"
        rw [List.length_map, el, hn]
        refine opd_neB ?_
        exact ⟨_, rfl, rfl, rfl⟩
      refine ⟨fun hb => ?_, fun hb => sx_next (nx_seq ?_)⟩
      · have e0 : lots = [] := by
          refine Classical.byContradiction fun ne => ?_
          rw [decide_eq_false ne] at hb
          cases hb
        rw [show endD p lots (some t) = if lots = [] then .tuple [.str (Str.ofString "tree"), .none] else treeD (tfF p (lots.length - 1) 10 [] [] t) from rfl, if_pos e0] at z
        walk_at "es"
        exact z
      have ne : lots ≠ [] := fun e => by rw [decide_eq_true e] at hb; cases hb
      have pos := List.length_pos_iff.mpr ne
      rw [show endD p lots (some t) = if lots = [] then .tuple [.str (Str.ofString "tree"), .none] else treeD (tfF p (lots.length - 1) 10 [] [] t) from rfl, if_neg ne] at z
      refine sx_seq (sx_if (et_val false ?_ ⟨(fun q => by cases q), fun _ => sx_next (nx_seq ?_)⟩))
      · walk_at "es"
        rw [hn]
        exact ⟨rfl, rfl⟩
      refine sx_seq (sx_asg ?_)
      walk_at "es"
      rw [List.length_map, show ((lots.length : Int) - 1) = ((lots.length - 1 : Nat) : Int) by omega]
      refine ⟨p, [], lots.length - 1, [], t, rfl, ⟨sz, ⟨by simp, by simp⟩, ⟨0, by simp, by simp, by omega, by simp⟩, by have := left_len p []; omega⟩, by omega, st t rfl, ?_⟩
      refine nx_seq ?_
      walk_at "w"
      cases hf : tfF p (lots.length - 1) 10 [] [] t with
      | none =>
        rw [hf] at z
        refine sx_ret (ex_if (et_val true ?_ ⟨fun _ => ?_, (fun q => by cases q)⟩))
        · unfold fltD
          walk_at "es"
          exact ⟨rfl, rfl⟩
        walk_at "es"
        exact z
      | some q =>
        rw [hf] at z
        refine sx_ret (ex_if (et_val false ?_ ⟨(fun q => by cases q), fun _ => ?_⟩))
        · unfold fltD
          walk_at "es"
          exact ⟨rfl, rfl⟩
        walk_at "es"
        exact z
end Law_k64
namespace Law_k64
open PySem L2 Pu
local macro_rules | `(tactic| walk_at "e") => `(tactic| first
  | ((with_reducible refine nx_seq ?_); (try dsimp only [List.set_cons_succ, List.set_cons_zero]))
  | ((with_reducible refine ex_vr ?_); dsimp only [VQ, List.set_cons_succ, List.set_cons_zero, List.getElem?_cons_zero, List.getElem?_cons_succ]; (fail_if_success (with_reducible show False)))
  | (with_reducible refine sx_seq ?_)
  | (with_reducible refine sx_if ?_)
  | (with_reducible refine sx_next ?_)
  | (with_reducible refine sx_ret ?_)
  | ((fail_if_success (with_reducible refine sx_asgO (eo_lst ?_))); (with_reducible refine sx_asg ?_))
  | (with_reducible refine ex_int ?_)
  | (with_reducible refine ex_str ?_)
  | (with_reducible refine ex_bl ?_)
  | (with_reducible refine ex_non ?_)
  | (with_reducible refine ex_op ?_)
  | (with_reducible refine ex_un ?_)
  | (with_reducible refine ex_chain ?_)
  | (with_reducible refine ex_call ?_)
  | (with_reducible refine ex_isT ?_)
  | (with_reducible refine ex_cb ?_)
  | (with_reducible refine ex_sl ?_)
  | (with_reducible refine ex_tup ?_)
  | (with_reducible refine ex_if ?_)
  | (with_reducible refine ex_of (eo_lst ?_))
  | (with_reducible refine ex_notV ?_)
  | (with_reducible refine ea_nil ?_)
  | (with_reducible refine ea_cons ?_)
  | (with_reducible refine ep_no ?_)
  | (with_reducible refine ep_some ?_)
  | (with_reducible refine et_test ?_)
  | (with_reducible refine et_B ?_)
  | (with_reducible refine et_ch3 ?_)
  | (with_reducible refine et_and ?_)
  | (with_reducible refine et_or ?_)
  | (with_reducible refine et_not ?_)
  | (with_reducible refine et_yes ?_)
  | (with_reducible refine et_truL ?_)
  | (with_reducible refine opd_plusI ?_)
  | (with_reducible refine opd_I0 ?_)
  | (with_reducible refine opd_B0 ?_)
  | (with_reducible refine opd_eqI ?_)
  | (with_reducible refine opd_neI ?_)
  | (with_reducible refine opd_eqS ?_)
  | (with_reducible refine opd_neS ?_)
  | (with_reducible refine opd_is ?_)
  | (with_reducible refine opd_isnt ?_)
  | (with_reducible refine opd_ixT rfl ?_)
  | (with_reducible refine opd_ixL rfl ?_)
  | (with_reducible refine und_neg ?_)
  | (with_reducible refine cbd_lenL ?_)
  | (with_reducible refine cbd_lenT ?_)
  | (with_reducible refine cbd_min2 ?_)
  | (with_reducible refine cbd_max2 ?_)
  | (with_reducible refine cbd_abs ?_)
  | (with_reducible refine cbd_int ?_)
  | (with_reducible refine cbd_tupL ?_)
  | (with_reducible refine cbd_listL ?_)
  | (with_reducible refine cbd_listT ?_)
  | (with_reducible refine cbd_sum ?_)
  | (with_reducible refine sld_T ?_)
  | (with_reducible refine sld_L ?_)
  | (with_reducible refine ex_revL ?_)
  | (with_reducible refine ex_bmL ?_)
  | (with_reducible refine ex_andV ?_)
  | (with_reducible refine ei_list ?_)
  | (with_reducible refine ei_rng1 ?_)
  | (with_reducible refine ei_rng2 ?_)
  | (with_reducible refine ei_enum ?_)
  | (with_reducible refine ei_enumT ?_)
  | (with_reducible refine ei_zip ?_)
  | (with_reducible refine sx_par ?_)
  | (with_reducible refine Exists.intro _ (And.intro rfl ?_))
  | (with_reducible refine Exists.intro _ (Exists.intro _ (And.intro rfl ?_)))
  | ((with_reducible show EX (tCall (spS _) [] _ (tCons (tVar _) _)) _ _); refine ex_callS rfl ?_)
  | ((with_reducible refine And.intro (show (_ : Nat) ≤ 100000 from ?_) ?_); (focus (simp; done)))
  | ((with_reducible refine opd_I ?_ ?_); focus (first | omega | (show CDiv _ _; exact ⟨by omega, by omega⟩) | (show CMul _ _; first | exact Or.inl ⟨by omega, by omega⟩ | exact Or.inr ⟨by omega, by omega⟩))))
local macro_rules | `(tactic| walk_at "es") => `(tactic| repeat walk_at "e")
local macro_rules | `(tactic| walk_at "w") => `(tactic| try dsimp only [wipeE, List.foldl_cons, List.foldl_nil, List.set_cons_succ, List.set_cons_zero])
local macro_rules | `(tactic| walk_at "le") => `(tactic| repeat' first | exact LeE.nil | (refine LeE.eq rfl ?_) | (refine LeE.emp ?_) | (refine LeE.eq ?_ ?_))
local macro_rules | `(tactic| walk_at "no") => `(tactic| ((refine And.intro (fun hb => absurd hb ?_) (fun _ => ?_)); (focus (first | (exact Bool.false_ne_true) | (simp; done) | (simp; omega) | (simp only [decide_eq_true_eq]; omega)))))
local macro_rules | `(tactic| walk_at "yes") => `(tactic| ((refine And.intro (fun _ => ?_) (fun hb => absurd hb ?_)); (rotate_left); (focus (first | (exact Bool.noConfusion) | (simp; done) | (simp; omega) | (simp only [decide_eq_false_iff_not]; omega)))))
local macro_rules | `(tactic| walk_at "ei") => `(tactic| repeat ((fail_if_success (with_reducible show SX (tSeq (tIfS _ _ _) _) _ _)); (fail_if_success (with_reducible show SX (tIfS _ _ _) _ _)); (fail_if_success (with_reducible show SX (tSeq (tAsg (tIf _ _ _) _) _) _ _)); walk_at "e"))
local macro_rules | `(tactic| walk_at "tv") => `(tactic| repeat' first | walk_at "e" | ((with_reducible show (_ = true → _) ∧ (_ = false → _)); refine And.intro (fun _ => ?_) (fun _ => ?_)))
/-! ### store -/
def headH (p : Pb) : Int := ((hvF p).getD 0 0 : Nat)
def R_store : List D → (D → Prop) → Prop := fun vs Z => ∃ p : Pb, vs = [lsD p, fsD p, .int p.r] ∧ Sz p ∧ (hvF p ≠ [] → Z (toD (.heavy (headH p)))) ∧ (hvF p = [] → ∀ m L, m ≤ nP p → Lst p (ordF p) m → putF p m (ordF p) [] = some L → Z (toD (.rooms (srt L) (if m = 0 then none else some (prF p (m - 1) (ordF p) [])))))
theorem hv_first {p : Pb} {k : Nat} (hk : k < nP p) (no : ∀ j, j < k → ¬ p.r < (lAt p j).w) (h : p.r < (lAt p k).w) : hvF p ≠ [] ∧ headH p = (k : Int) := by
  have e : (List.range (nP p)).find? (fun i => decide (p.r < (lAt p i).w)) = some k := by
    rw [List.find?_range_eq_some]
    exact ⟨decide_eq_true h, List.mem_range.mpr hk, fun j hj => by rw [decide_eq_false (no j hj)]; rfl⟩
  have e2 : (hvF p).head? = some k := by unfold hvF; rw [List.head?_filter, e]
  unfold headH
  cases q : hvF p with
  | nil => rw [q] at e2; cases e2
  | cons b bs =>
    rw [q] at e2
    cases e2
    exact ⟨by simp, rfl⟩
theorem hv_none {p : Pb} (no : ∀ j, j < nP p → ¬ p.r < (lAt p j).w) : hvF p = [] := List.filter_eq_nil_iff.mpr fun x hx q => no x (List.mem_range.mp hx) (of_decide_eq_true q)
theorem hv_ok {p : Pb} (h : hvF p = []) : ∀ i, i < nP p → (lAt p i).w ≤ p.r := fun i hi => by
  refine Int.not_lt.mp fun q => ?_
  have : i ∈ hvF p := List.mem_filter.mpr ⟨List.mem_range.mpr hi, decide_eq_true q⟩
  rw [h] at this
  cases this
theorem sx_store (K : PySem.W.Frag) (C : Addr) (vs : List D) (Z : D → Prop) (h : R_store vs Z) : SX (T_store K C (R_init C) (R_put C 10) (R_prove C 10)) (startE N_store vs) { nx := fun _ => Z .none, rt := fun d _ => Z d } := by
  obtain ⟨p, rfl, sz, z1, z2⟩ := h
  show SX (T_store K C (R_init C) (R_put C 10) (R_prove C 10)) [.val (.list (p.ls.map encL)), .val (fsD p), .val (.int p.r), .emp, .emp, .emp, .emp, .emp, .emp] _
  unfold T_store
  have n8 := sz.np
  have pnl : p.ls.length ≤ 8 := sz.n
  have ol := ord_len p
  have op := ord_perm p
  refine sx_seq (sx_for (J := [3, 4]) (ei_enum ?_))
  walk_at "es"
  rw [enum_map p.ls l0 encL]
  refine ⟨fun k ρ' => (∀ j, j < k → ¬ p.r < (lAt p j).w) ∧ ρ' = [.val (.list (p.ls.map encL)), .val (fsD p), .val (.int p.r), .emp, .emp, .emp, .emp, .emp, .emp], ⟨fun j hj => absurd hj (by omega), rfl⟩, ?_, ?_⟩
  · rintro k dd ρ' hd0 ⟨no, rfl⟩
    obtain ⟨k2, hk2, rfl⟩ := map_at hd0
    obtain ⟨hkr, ek⟩ := List.getElem?_eq_some_iff.mp hk2
    rw [List.getElem_range] at ek
    subst ek
    rw [List.length_range] at hkr
    refine sg_tup rfl (sgs_cons (sg_name (by simp) (sgs_cons (sg_name (by simp) (sgs_nil ?_)))))
    rw [show p.ls.getD k l0 = lAt p k from rfl]
    walk_at "w"
    refine sx_if (et_val (decide (p.r < (lAt p k).w)) ?_ ?_)
    · generalize lAt p k = l
      unfold encL
      walk_at "es"
      exact ⟨rfl, rfl⟩
    refine ⟨fun hb => ?_, fun hb => sx_next ⟨_, ?_, fun j hj => ?_, rfl⟩⟩
    · obtain ⟨h1, h2⟩ := hv_first hkr no (of_decide_eq_true hb)
      have z := z1 h1
      rw [h2] at z
      walk_at "es"
      exact z
    · walk_at "le"
    · by_cases q : j = k
      · rw [q]; exact of_decide_eq_false hb
      · exact no j (by omega)
  rintro ρ' ⟨no, rfl⟩
  rw [List.length_map, List.length_range] at no
  have he := hv_none no
  have z := z2 he
  have hw := hv_ok he
  clear z1 z2
  obtain ⟨mt, mt1, mt2⟩ := lst_ex sz.ok hw sz.r.1 op
  refine nx_seq ?_
  refine sx_seq (sx_make (by decide) ?_)
  walk_at "es"
  refine ⟨p, rfl, rfl, sz, rfl, ?_⟩
  refine nx_seq ?_
  walk_at "w"
  refine sx_seq (sx_asg ?_)
  walk_at "es"
  refine ex_meth rfl rmno_put ?_
  walk_at "es"
  have put : ∀ (j : Nat) (Z2 : D → Stt → Prop), Z2 (putD2 (putF p j (ordF p) [])) (objR C p) → R_put C 10 (objR C p) [lotsD [], .int 0, .int (j : Int)] Z2 := fun j Z2 h => ⟨p, [], 0, j, ordF p, rfl, rfl, sz, rfl, by omega, op, Nat.le_refl _, by omega, h⟩
  refine put 0 _ ?_
  refine nx_seq ?_
  walk_at "w"
  refine sx_seq (sx_while (fun m ρ' => ∃ j, (∀ i, i < j → putF p i (ordF p) [] = none) ∧ j ≤ nP p ∧ m = nP p - j ∧ ρ' = [.val (.list (p.ls.map encL)), .val (fsD p), .val (.int p.r), .emp, .emp, .st (objR C p), .val (.int (j : Int)), .val (putD2 (putF p j (ordF p) [])), .emp]) (nP p) ⟨0, fun i hi => absurd hi (by omega), by omega, by omega, rfl⟩ ?_)
  rintro m ρ' ⟨j, nj, jn, rfl, rfl⟩
  cases e : putF p j (ordF p) [] with
  | none =>
    refine et_val true ?_ ⟨fun _ => ?_, (fun q => by cases q)⟩
    · unfold putD2
      walk_at "es"
      exact ⟨rfl, rfl⟩
    have nj2 : ∀ i, i < j + 1 → putF p i (ordF p) [] = none := fun i hi => by
      by_cases q : i = j
      · rw [q]; exact e
      · exact nj i (by omega)
    have jl : j < mt := by
      refine Nat.lt_of_not_le fun q => ?_
      have := mt2.some
      rw [nj2 mt (by omega)] at this
      cases this
    refine sx_seq (sx_asg ?_)
    walk_at "es"
    refine ex_meth rfl rmno_put ?_
    walk_at "es"
    refine put (j + 1) _ ?_
    refine ⟨_, ?_, nP p - (j + 1), by omega, j + 1, nj2, by omega, rfl, rfl⟩
    walk_at "w"
    walk_at "le"
  | some L =>
    refine et_val false ?_ ⟨(fun q => by cases q), fun _ => ?_⟩
    · unfold putD2 lotsD
      walk_at "es"
      exact ⟨rfl, rfl⟩
    have lst : Lst p (ordF p) j := ⟨by rw [e]; rfl, nj⟩
    have z := z j L jn lst e
    obtain ⟨g, fl⟩ := put_good hw (good0 p j) (rest0 op) e
    have Ll := g.len
    refine nx_seq ?_
    unfold putD2 lotsD
    refine sx_ret ?_
    walk_at "es"
    refine ex_of (eo_lcP (α := List Nat) (fun _ => true) (fun l => natsD (sN l)) (ei_list ?_))
    walk_at "es"
    refine ⟨by omega, fun i hi => by simp at hi; subst hi; rfl, fun l hl => sg_name (by simp) ⟨rfl, ?_⟩, ?_⟩
    · rw [natsD_eq l]
      walk_at "w"
      refine et_yes ⟨rfl, rfl, fun _ => ?_⟩
      walk_at "es"
      refine cbd_sortI ?_
      rw [sN_D]
      exact ⟨rfl, rfl⟩
    rw [sorted_D]
    walk_at "es"
    refine cbd_sortN ?_
    rw [show (L.map sN).mergeSort leN = srt L from rfl]
    walk_at "es"
    refine ⟨fun hb => ?_, fun hb => ?_⟩
    · rw [if_pos (by simpa using hb)] at z
      walk_at "es"
      exact z
    · have j0 : ¬ j = 0 := by simpa using hb
      rw [if_neg j0] at z
      refine ex_meth rfl rmno_prove ?_
      walk_at "es"
      rw [show ((j : Int) - 1) = ((j - 1 : Nat) : Int) by omega]
      refine ⟨p, [], 0, j - 1, ordF p, rfl, rfl, sz, rfl, by omega, op, Nat.le_refl _, by omega, fun _ => rfl, by omega, nj (j - 1) (by omega), ?_⟩
      walk_at "es"
      exact z
end Law_k64
namespace Law_k64
open PySem L2 Pu
local macro_rules | `(tactic| walk_at "e") => `(tactic| first
  | ((with_reducible refine nx_seq ?_); (try dsimp only [List.set_cons_succ, List.set_cons_zero]))
  | ((with_reducible refine ex_vr ?_); dsimp only [VQ, List.set_cons_succ, List.set_cons_zero, List.getElem?_cons_zero, List.getElem?_cons_succ]; (fail_if_success (with_reducible show False)))
  | (with_reducible refine sx_seq ?_)
  | (with_reducible refine sx_if ?_)
  | (with_reducible refine sx_next ?_)
  | (with_reducible refine sx_ret ?_)
  | ((fail_if_success (with_reducible refine sx_asgO (eo_lst ?_))); (with_reducible refine sx_asg ?_))
  | (with_reducible refine ex_int ?_)
  | (with_reducible refine ex_str ?_)
  | (with_reducible refine ex_bl ?_)
  | (with_reducible refine ex_non ?_)
  | (with_reducible refine ex_op ?_)
  | (with_reducible refine ex_un ?_)
  | (with_reducible refine ex_chain ?_)
  | (with_reducible refine ex_call ?_)
  | (with_reducible refine ex_isT ?_)
  | (with_reducible refine ex_cb ?_)
  | (with_reducible refine ex_sl ?_)
  | (with_reducible refine ex_tup ?_)
  | (with_reducible refine ex_if ?_)
  | (with_reducible refine ex_of (eo_lst ?_))
  | (with_reducible refine ex_notV ?_)
  | (with_reducible refine ea_nil ?_)
  | (with_reducible refine ea_cons ?_)
  | (with_reducible refine ep_no ?_)
  | (with_reducible refine ep_some ?_)
  | (with_reducible refine et_test ?_)
  | (with_reducible refine et_B ?_)
  | (with_reducible refine et_ch3 ?_)
  | (with_reducible refine et_and ?_)
  | (with_reducible refine et_or ?_)
  | (with_reducible refine et_not ?_)
  | (with_reducible refine et_yes ?_)
  | (with_reducible refine et_truL ?_)
  | (with_reducible refine opd_plusI ?_)
  | (with_reducible refine opd_I0 ?_)
  | (with_reducible refine opd_B0 ?_)
  | (with_reducible refine opd_eqI ?_)
  | (with_reducible refine opd_neI ?_)
  | (with_reducible refine opd_eqS ?_)
  | (with_reducible refine opd_neS ?_)
  | (with_reducible refine opd_is ?_)
  | (with_reducible refine opd_isnt ?_)
  | (with_reducible refine opd_ixT rfl ?_)
  | (with_reducible refine opd_ixL rfl ?_)
  | (with_reducible refine und_neg ?_)
  | (with_reducible refine cbd_lenL ?_)
  | (with_reducible refine cbd_lenT ?_)
  | (with_reducible refine cbd_min2 ?_)
  | (with_reducible refine cbd_max2 ?_)
  | (with_reducible refine cbd_abs ?_)
  | (with_reducible refine cbd_int ?_)
  | (with_reducible refine cbd_tupL ?_)
  | (with_reducible refine cbd_listL ?_)
  | (with_reducible refine cbd_listT ?_)
  | (with_reducible refine cbd_sum ?_)
  | (with_reducible refine sld_T ?_)
  | (with_reducible refine sld_L ?_)
  | (with_reducible refine ex_revL ?_)
  | (with_reducible refine ex_bmL ?_)
  | (with_reducible refine ex_andV ?_)
  | (with_reducible refine ei_list ?_)
  | (with_reducible refine ei_rng1 ?_)
  | (with_reducible refine ei_rng2 ?_)
  | (with_reducible refine ei_enum ?_)
  | (with_reducible refine ei_enumT ?_)
  | (with_reducible refine ei_zip ?_)
  | (with_reducible refine sx_par ?_)
  | (with_reducible refine Exists.intro _ (And.intro rfl ?_))
  | (with_reducible refine Exists.intro _ (Exists.intro _ (And.intro rfl ?_)))
  | ((with_reducible show EX (tCall (spS _) [] _ (tCons (tVar _) _)) _ _); refine ex_callS rfl ?_)
  | ((with_reducible refine And.intro (show (_ : Nat) ≤ 100000 from ?_) ?_); (focus (simp; done)))
  | ((with_reducible refine opd_I ?_ ?_); focus (first | omega | (show CDiv _ _; exact ⟨by omega, by omega⟩) | (show CMul _ _; first | exact Or.inl ⟨by omega, by omega⟩ | exact Or.inr ⟨by omega, by omega⟩))))
local macro_rules | `(tactic| walk_at "es") => `(tactic| repeat walk_at "e")
local macro_rules | `(tactic| walk_at "w") => `(tactic| try dsimp only [wipeE, List.foldl_cons, List.foldl_nil, List.set_cons_succ, List.set_cons_zero])
local macro_rules | `(tactic| walk_at "le") => `(tactic| repeat' first | exact LeE.nil | (refine LeE.eq rfl ?_) | (refine LeE.emp ?_) | (refine LeE.eq ?_ ?_))
local macro_rules | `(tactic| walk_at "no") => `(tactic| ((refine And.intro (fun hb => absurd hb ?_) (fun _ => ?_)); (focus (first | (exact Bool.false_ne_true) | (simp; done) | (simp; omega) | (simp only [decide_eq_true_eq]; omega)))))
local macro_rules | `(tactic| walk_at "yes") => `(tactic| ((refine And.intro (fun _ => ?_) (fun hb => absurd hb ?_)); (rotate_left); (focus (first | (exact Bool.noConfusion) | (simp; done) | (simp; omega) | (simp only [decide_eq_false_iff_not]; omega)))))
local macro_rules | `(tactic| walk_at "ei") => `(tactic| repeat ((fail_if_success (with_reducible show SX (tSeq (tIfS _ _ _) _) _ _)); (fail_if_success (with_reducible show SX (tIfS _ _ _) _ _)); (fail_if_success (with_reducible show SX (tSeq (tAsg (tIf _ _ _) _) _) _ _)); walk_at "e"))
local macro_rules | `(tactic| walk_at "tv") => `(tactic| repeat' first | walk_at "e" | ((with_reducible show (_ = true → _) ∧ (_ = false → _)); refine And.intro (fun _ => ?_) (fun _ => ?_)))
/-! ### the loads -/
theorem saneL_of : ∀ {ts : List Tr}, (∀ t ∈ ts, Sane t) → SaneL ts
  | [], _ => by rw [SaneL]; trivial
  | t :: ts, h => by rw [SaneL]; exact ⟨h t (by simp), saneL_of fun x hx => h x (by simp [hx])⟩
theorem all_snoc {α : Type} {P : α → Prop} {xs : List α} {x : α} (h : ∀ y ∈ xs, P y) (hx : P x) : ∀ y ∈ xs ++ [x], P y := fun y hy => by
  rcases List.mem_append.mp hy with q | q
  · exact h y q
  · rw [List.mem_singleton.mp q]; exact hx
/-! ### the loads -/
structure Dm (p : Pb) : Prop where
  f : ∀ q ∈ p.fs, (0 ≤ q.1 ∧ q.1 < 100) ∧ 0 ≤ q.2 ∧ q.2 < 100
  l : ∀ l ∈ p.ls, (0 ≤ l.k ∧ l.k < 100) ∧ 0 ≤ l.w ∧ l.w < 100
def R_loads : Stt → List D → (D → Stt → Prop) → Prop := fun S vs Z => ∃ most : Nat, vs = [.int (most : Int)] ∧ most ≤ 8 ∧ Pu.Ok S ∧ ∀ p S', Sz p → Dm p → Pu.Ok S' → Z (.tuple [lsD p, fsD p, .int p.r]) S'
theorem sx_l_loads (K : PySem.W.Frag) (S : Stt) (vs : List D) (Z : D → Stt → Prop) (h : R_loads S vs Z) :
    SX (T_l_loads K R_take) (.st S :: (vs.map .val ++ List.replicate (N_l_loads.length - (vs.length + 1)) .emp)) { nx := fun ρ' => ∃ S', ρ'[0]? = some (.st S') ∧ Z .none S', rt := fun d ρ' => ∃ S', ρ'[0]? = some (.st S') ∧ Z d S' } := by
  obtain ⟨most, rfl, hm, ok, z⟩ := h
  show SX (T_l_loads K R_take) [.st S, .val (.int (most : Int)), .emp, .emp, .emp, .emp, .emp, .emp] _
  unfold T_l_loads
  refine sx_seq (sx_asg ?_)
  walk_at "es"
  refine ⟨4, rfl, by omega, by omega, ok, fun k0 S1 k1 k2 ok1 => ?_⟩
  walk_at "es"
  have hk : 1 ≤ 1 + k0 ∧ 1 + k0 ≤ 4 := by omega
  generalize 1 + k0 = kd at hk
  refine ex_of (eo_lc (ei_rng1 ?_))
  walk_at "es"
  refine ⟨(most : Int) + 1, rfl, by omega, by omega, ok1, fun nn S2 n0 n1 ok2 => ?_⟩
  walk_at "es"
  refine ⟨by omega, fun k acc ρ' => ∃ (ls : List Ld) (S : Stt), ls.length = k ∧ (∀ l ∈ ls, (0 ≤ l.k ∧ l.k < 4) ∧ 0 ≤ l.w ∧ l.w < 7) ∧ Pu.Ok S ∧ acc = ls.map encL ∧ ρ' = [.st S, .val (.int (most : Int)), .val (.int kd), .emp, .emp, .emp, .emp, .emp], ⟨[], S2, rfl, (fun x hx => by cases hx), ok2, rfl, rfl⟩, ?_, ?_⟩
  · rintro k dd acc ρ' hd0 ⟨ls, S3, hl, hg, ok3, rfl, rfl⟩
    obtain ⟨hkk, rfl⟩ := rng_at hd0
    refine ⟨(fun i hi => by simp at hi; subst hi; rfl), by rw [List.length_map]; omega, sg_name (by simp) ?_⟩
    walk_at "w"
    refine et_yes ⟨fun _ => ?_, (fun q => by cases q)⟩
    walk_at "es"
    refine ⟨kd, rfl, by omega, by omega, ok3, fun x S4 x0 x1 ok4 => ?_⟩
    walk_at "es"
    refine ⟨7, rfl, by omega, by omega, ok4, fun y S5 y0 y1 ok5 => ?_⟩
    walk_at "es"
    exact ⟨ls ++ [⟨x, y⟩], S5, by simp [hl], all_snoc hg ⟨⟨x0, by show x < 4; omega⟩, y0, y1⟩, ok5, by rw [List.map_append]; rfl, rfl⟩
  rintro acc ρ' ⟨ls, S3, ll, lg, ok3, rfl, rfl⟩
  rw [rng_size] at ll
  have l8 : ls.length ≤ 8 := by omega
  refine nx_seq ?_
  walk_at "w"
  refine sx_seq (sx_asgO (eo_lst ?_))
  walk_at "es"
  refine sx_for (J := [6]) (ei_rng1 ?_)
  walk_at "es"
  refine ⟨by omega, fun k ρ' => ∃ (fs : List (Int × Int)) (S : Stt), fs.length ≤ 4 * k ∧ (∀ q ∈ fs, (0 ≤ q.1 ∧ q.1 < 100) ∧ 0 ≤ q.2 ∧ q.2 < 100) ∧ Pu.Ok S ∧ ρ' = [.st S, .val (.int (most : Int)), .val (.int kd), .val (.list (ls.map encL)), .emp, .own (fs.map encP), .emp, .emp], ⟨[], S3, by simp, (fun x hx => by cases hx), ok3, rfl⟩, ?_, ?_⟩
  · rintro k dd ρ' hd0 ⟨fs, S4, fl, fg, ok4, rfl⟩
    obtain ⟨hkk, rfl⟩ := rng_at hd0
    rw [Int.zero_add]
    have k4 : k < 4 := by omega
    refine sg_name (by simp) ?_
    walk_at "w"
    refine sx_ext rfl ?_
    refine ex_of (eo_lc (ei_rng2 ?_))
    walk_at "es"
    refine ⟨by omega, fun j acc ρ' => ∃ (gs : List (Int × Int)) (S : Stt), gs.length ≤ j ∧ (∀ q ∈ gs, (0 ≤ q.1 ∧ q.1 < 100) ∧ 0 ≤ q.2 ∧ q.2 < 100) ∧ Pu.Ok S ∧ acc = gs.map encP ∧ ρ' = [.st S, .val (.int (most : Int)), .val (.int kd), .val (.list (ls.map encL)), .emp, .own (fs.map encP), .val (.int (k : Int)), .emp], ⟨[], S4, by simp, (fun x hx => by cases hx), ok4, rfl, rfl⟩, ?_, ?_⟩
    · rintro j dd acc ρ' hd0 ⟨gs, S5, gl, gg, ok5, rfl, rfl⟩
      obtain ⟨hjj, rfl⟩ := rng_at hd0
      refine ⟨(fun i hi => by simp at hi; subst hi; rfl), by rw [List.length_map]; omega, sg_name (by simp) ?_⟩
      walk_at "w"
      walk_at "es"
      refine ⟨4, rfl, by omega, by omega, ok5, fun x S6 x0 x1 ok6 => ?_⟩
      walk_at "es"
      refine ⟨fun _ => ?_, fun _ => ?_⟩
      · walk_at "es"
        exact ⟨gs ++ [((k : Int), (k : Int) + (j : Int))], S6, by simp; omega, all_snoc gg ⟨⟨by show (0 : Int) ≤ k; omega, by show (k : Int) < 100; omega⟩, by show 0 ≤ (k : Int) + j; omega, by show (k : Int) + j < 100; omega⟩, ok6, by rw [List.map_append]; rfl, rfl⟩
      · exact ⟨gs, S6, by omega, gg, ok6, rfl, rfl⟩
    rintro acc ρ' ⟨gs, S5, gl, gg, ok5, rfl, rfl⟩
    rw [List.length_map, rngI_len] at gl
    refine ⟨_, _, rfl, rfl, by rw [List.length_map, List.length_map]; omega, ?_⟩
    walk_at "w"
    refine ⟨_, ?_, fs ++ gs, S5, by rw [List.length_append]; omega, fun q hq => ?_, ok5, rfl⟩
    · rw [List.map_append]
      walk_at "le"
    · rcases List.mem_append.mp hq with w | w
      · exact fg q w
      · exact gg q w
  rintro ρ' ⟨fs, S4, fl, fg, ok4, rfl⟩
  rw [rng_size] at fl
  refine nx_seq ?_
  refine sx_freeze 5 rfl ?_
  walk_at "w"
  walk_at "es"
  refine ⟨9, rfl, by omega, by omega, ok4, fun x S6 x0 x1 ok6 => ?_⟩
  walk_at "es"
  refine z ⟨ls, fs, 4 + x⟩ S6 ⟨l8, fun l hl => ?_, fun l hl => ?_, by show fs.length ≤ 100; omega, by show 0 ≤ 4 + x; omega, by show 4 + x ≤ 1000; omega⟩ ⟨fg, fun l hl => ?_⟩ ok6
  · have := (lg l hl).2; omega
  · have := (lg l hl).1; omega
  · have := lg l hl; omega
end Law_k64
namespace Law_k64
open PySem L2 Pu
local macro_rules | `(tactic| walk_at "e") => `(tactic| first
  | ((with_reducible refine nx_seq ?_); (try dsimp only [List.set_cons_succ, List.set_cons_zero]))
  | ((with_reducible refine ex_vr ?_); dsimp only [VQ, List.set_cons_succ, List.set_cons_zero, List.getElem?_cons_zero, List.getElem?_cons_succ]; (fail_if_success (with_reducible show False)))
  | (with_reducible refine sx_seq ?_)
  | (with_reducible refine sx_if ?_)
  | (with_reducible refine sx_next ?_)
  | (with_reducible refine sx_ret ?_)
  | ((fail_if_success (with_reducible refine sx_asgO (eo_lst ?_))); (with_reducible refine sx_asg ?_))
  | (with_reducible refine ex_int ?_)
  | (with_reducible refine ex_str ?_)
  | (with_reducible refine ex_bl ?_)
  | (with_reducible refine ex_non ?_)
  | (with_reducible refine ex_op ?_)
  | (with_reducible refine ex_un ?_)
  | (with_reducible refine ex_chain ?_)
  | (with_reducible refine ex_call ?_)
  | (with_reducible refine ex_isT ?_)
  | (with_reducible refine ex_cb ?_)
  | (with_reducible refine ex_sl ?_)
  | (with_reducible refine ex_tup ?_)
  | (with_reducible refine ex_if ?_)
  | (with_reducible refine ex_of (eo_lst ?_))
  | (with_reducible refine ex_notV ?_)
  | (with_reducible refine ea_nil ?_)
  | (with_reducible refine ea_cons ?_)
  | (with_reducible refine ep_no ?_)
  | (with_reducible refine ep_some ?_)
  | (with_reducible refine et_test ?_)
  | (with_reducible refine et_B ?_)
  | (with_reducible refine et_ch3 ?_)
  | (with_reducible refine et_and ?_)
  | (with_reducible refine et_or ?_)
  | (with_reducible refine et_not ?_)
  | (with_reducible refine et_yes ?_)
  | (with_reducible refine et_truL ?_)
  | (with_reducible refine opd_plusI ?_)
  | (with_reducible refine opd_I0 ?_)
  | (with_reducible refine opd_B0 ?_)
  | (with_reducible refine opd_eqI ?_)
  | (with_reducible refine opd_neI ?_)
  | (with_reducible refine opd_eqS ?_)
  | (with_reducible refine opd_neS ?_)
  | (with_reducible refine opd_is ?_)
  | (with_reducible refine opd_isnt ?_)
  | (with_reducible refine opd_ixT rfl ?_)
  | (with_reducible refine opd_ixL rfl ?_)
  | (with_reducible refine und_neg ?_)
  | (with_reducible refine cbd_lenL ?_)
  | (with_reducible refine cbd_lenT ?_)
  | (with_reducible refine cbd_min2 ?_)
  | (with_reducible refine cbd_max2 ?_)
  | (with_reducible refine cbd_abs ?_)
  | (with_reducible refine cbd_int ?_)
  | (with_reducible refine cbd_tupL ?_)
  | (with_reducible refine cbd_listL ?_)
  | (with_reducible refine cbd_listT ?_)
  | (with_reducible refine cbd_sum ?_)
  | (with_reducible refine sld_T ?_)
  | (with_reducible refine sld_L ?_)
  | (with_reducible refine ex_revL ?_)
  | (with_reducible refine ex_bmL ?_)
  | (with_reducible refine ex_andV ?_)
  | (with_reducible refine ei_list ?_)
  | (with_reducible refine ei_rng1 ?_)
  | (with_reducible refine ei_rng2 ?_)
  | (with_reducible refine ei_enum ?_)
  | (with_reducible refine ei_enumT ?_)
  | (with_reducible refine ei_zip ?_)
  | (with_reducible refine sx_par ?_)
  | (with_reducible refine Exists.intro _ (And.intro rfl ?_))
  | (with_reducible refine Exists.intro _ (Exists.intro _ (And.intro rfl ?_)))
  | ((with_reducible show EX (tCall (spS _) [] _ (tCons (tVar _) _)) _ _); refine ex_callS rfl ?_)
  | ((with_reducible refine And.intro (show (_ : Nat) ≤ 100000 from ?_) ?_); (focus (simp; done)))
  | ((with_reducible refine opd_I ?_ ?_); focus (first | omega | (show CDiv _ _; exact ⟨by omega, by omega⟩) | (show CMul _ _; first | exact Or.inl ⟨by omega, by omega⟩ | exact Or.inr ⟨by omega, by omega⟩))))
local macro_rules | `(tactic| walk_at "es") => `(tactic| repeat walk_at "e")
local macro_rules | `(tactic| walk_at "w") => `(tactic| try dsimp only [wipeE, List.foldl_cons, List.foldl_nil, List.set_cons_succ, List.set_cons_zero])
local macro_rules | `(tactic| walk_at "le") => `(tactic| repeat' first | exact LeE.nil | (refine LeE.eq rfl ?_) | (refine LeE.emp ?_) | (refine LeE.eq ?_ ?_))
local macro_rules | `(tactic| walk_at "no") => `(tactic| ((refine And.intro (fun hb => absurd hb ?_) (fun _ => ?_)); (focus (first | (exact Bool.false_ne_true) | (simp; done) | (simp; omega) | (simp only [decide_eq_true_eq]; omega)))))
local macro_rules | `(tactic| walk_at "yes") => `(tactic| ((refine And.intro (fun _ => ?_) (fun hb => absurd hb ?_)); (rotate_left); (focus (first | (exact Bool.noConfusion) | (simp; done) | (simp; omega) | (simp only [decide_eq_false_iff_not]; omega)))))
local macro_rules | `(tactic| walk_at "ei") => `(tactic| repeat ((fail_if_success (with_reducible show SX (tSeq (tIfS _ _ _) _) _ _)); (fail_if_success (with_reducible show SX (tIfS _ _ _) _ _)); (fail_if_success (with_reducible show SX (tSeq (tAsg (tIf _ _ _) _) _) _ _)); walk_at "e"))
local macro_rules | `(tactic| walk_at "tv") => `(tactic| repeat' first | walk_at "e" | ((with_reducible show (_ = true → _) ∧ (_ = false → _)); refine And.intro (fun _ => ?_) (fun _ => ?_)))
/-! ### sorted lots: facts -/
theorem leN_eq (a b : List Nat) : leN a b = decide (nI a ≤ nI b) := by
  have h := congrFun (congrFun (PySem.W.dataLe_rows (fun r : List Nat => nI r)) a) b
  rw [PySem.W.dataLe_eq] at h
  unfold leN
  rw [natsD_eq, natsD_eq]
  exact h
theorem leN_trans (a b c : List Nat) (h1 : leN a b = true) (h2 : leN b c = true) : leN a c = true := by
  rw [leN_eq, decide_eq_true_eq] at *
  exact List.le_trans h1 h2
theorem leN_total (a b : List Nat) : (leN a b || leN b a) = true := by
  rw [leN_eq, leN_eq, Bool.or_eq_true, decide_eq_true_eq, decide_eq_true_eq]
  exact List.le_total _ _
theorem srt_id (L : List (List Nat)) : srt (srt L) = srt L := by
  have e : (srt L).map sN = srt L := by
    refine (List.map_congr_left fun l hl => ?_).trans (List.map_id _)
    have : l ∈ L.map sN := (List.mergeSort_perm _ _).mem_iff.mp hl
    obtain ⟨k, _, rfl⟩ := List.mem_map.mp this
    exact sN_id (sN_le k)
  have h : srt (srt L) = ((srt L).map sN).mergeSort leN := rfl
  rw [h, e]
  exact List.mergeSort_of_pairwise (List.pairwise_mergeSort leN_trans leN_total _)
theorem srt_perm (L : List (List Nat)) : (srt L).Perm (L.map sN) := List.mergeSort_perm _ _
theorem flat_map_perm : ∀ L : List (List Nat), (L.map sN).flatten.Perm L.flatten
  | [] => List.Perm.refl _
  | l :: L => by
    rw [List.map_cons, List.flatten_cons, List.flatten_cons]
    exact (sN_perm l).append (flat_map_perm L)
theorem srt_flat (L : List (List Nat)) : (srt L).flatten.Perm L.flatten := ((srt_perm L).flatten).trans (flat_map_perm L)
theorem srt_len (L : List (List Nat)) : (srt L).length = L.length := by rw [(srt_perm L).length_eq, List.length_map]
theorem pw_perm {p : Pb} {l k : List Nat} (h : l.Perm k) (nd : l.Nodup) (pw : l.Pairwise fun x y => foeB p x y = false) : k.Pairwise fun x y => foeB p x y = false := by
  have ndk : k.Nodup := h.nodup_iff.mp nd
  refine List.Pairwise.imp_of_mem (fun {x y} hx hy ne => ?_) (ndk : k.Pairwise fun x y => x ≠ y)
  exact pair_sym pw x (h.mem_iff.mpr hx) y (h.mem_iff.mpr hy) ne
/-- the rooms of a way, sorted -/
structure Gd (p : Pb) (L : List (List Nat)) (m : Nat) : Prop where
  ok : okLots p (srt L)
  len : (srt L).length = m
  room : ∀ i, i < (srt L).length → roomO p (srt L) i = none
  b1 : ∀ l ∈ srt L, l.length ≤ 8
theorem foes_none {p : Pb} {lot : List Nat} (pw : lot.Pairwise fun x y => foeB p x y = false) : foesO p lot = none := by
  unfold foesO
  refine find_no fun i hi => foe_none fun j hj x hx => ?_
  rw [List.length_take] at hj
  have hj2 : j < i := by omega
  rw [List.getElem?_take, if_pos hj2] at hx
  obtain ⟨hl, e⟩ := List.getElem?_eq_some_iff.mp hx
  have := (List.pairwise_iff_getElem.mp pw) j i hl hi hj2
  rw [List.getD_eq_getElem?_getD, List.getElem?_eq_getElem hi, ← e]
  exact this
theorem gd_of {p : Pb} (n8 : nP p ≤ 8) {L : List (List Nat)} {m k : Nat} (g : Good p k L) (fl : L.flatten.Perm (List.range (nP p))) (hl : L.length = m) : Gd p L m := by
  have fp := (srt_flat L).trans fl
  have nd : L.flatten.Nodup := fl.nodup_iff.mpr List.nodup_range
  have mem : ∀ l ∈ srt L, ∃ k ∈ L, l = sN k := fun l hl => by
    obtain ⟨k, hk, e⟩ := List.mem_map.mp ((srt_perm L).mem_iff.mp hl)
    exact ⟨k, hk, e.symm⟩
  have rm : ∀ l ∈ srt L, badR p l = false ∧ foesO p l = none := fun l hl => by
    obtain ⟨k, hk, rfl⟩ := mem l hl
    have kn : k.Nodup := nd.sublist (List.sublist_flatten_of_mem hk)
    have P := sN_perm k
    constructor
    · unfold badR
      have h1 : (sN k).isEmpty = false := by
        cases e : sN k with
        | nil => rw [e] at P; exact absurd P.nil_eq.symm (g.ne k hk)
        | cons a b => rfl
      have h2 := g.sum k hk
      rw [h1, sum_perm p P, decide_eq_false (by omega)]
      rfl
    · exact foes_none (pw_perm P.symm kn (g.foe k hk))
  refine ⟨⟨(srt_id L).symm, ?_⟩, by rw [srt_len, hl], fun i hi => ?_, fun l hl => ?_⟩
  · refine lt_eq (sN_lt ((srt_flat L).nodup_iff.mpr nd)) List.pairwise_lt_range ((sN_perm _).trans fp)
  · have hm : (srt L).getD i [] ∈ srt L := by
      rw [List.getD_eq_getElem?_getD, List.getElem?_eq_getElem hi]
      exact List.getElem_mem hi
    obtain ⟨h1, h2⟩ := rm _ hm
    unfold roomO
    rw [h1, h2]
    rfl
  · have h1 := (List.sublist_flatten_of_mem hl).length_le
    have h2 := fp.length_eq
    rw [List.length_range] at h2
    omega
theorem sf_none {p : Pb} {L : List (List Nat)} {m : Nat} (he : hvF p = []) (g : Gd p L m) (tr : Option Tr) (h0 : m = 0 → tr = none) (h1 : 0 < m → ∃ t, tr = some t ∧ tfF p (m - 1) 10 [] [] t = none) : sfD p (.rooms (srt L) tr) = .none := by
  rw [sfD_r, if_neg (fun q => q he), if_pos g.ok, find_no g.room]
  show endD p (srt L) tr = .none
  have gl := g.len
  rcases Nat.eq_zero_or_pos m with q | q
  · rw [h0 q]
    unfold endD
    rw [if_pos (List.length_eq_zero_iff.mp (by omega))]
  · obtain ⟨t, rfl, ht⟩ := h1 q
    have ne : srt L ≠ [] := fun e => by rw [e] at gl; simp at gl; omega
    show (if srt L = [] then .tuple [.str (Str.ofString "tree"), .none] else treeD (tfF p ((srt L).length - 1) 10 [] [] t) : D) = .none
    rw [if_neg ne, gl, ht]
    rfl
theorem ap_len {p : Pb} : ∀ (us row : List Nat), (us.foldl (fun row a => if row.any (fun o => joinB p [o] a) = true then row else row ++ [a]) row).length ≤ row.length + us.length
  | [], row => by simp
  | a :: us, row => by
    rw [List.foldl_cons]
    refine Nat.le_trans (ap_len us _) ?_
    rw [List.length_cons]
    split
    · omega
    · rw [List.length_append]
      show _ + 1 + _ ≤ _
      omega
theorem pr_sane {p : Pb} {m : Nat} : ∀ (us : List Nat) (lots : List (List Nat)), lots.length + us.length ≤ 20 → Sane (prF p m us lots)
  | [], lots, _ => by unfold prF; rw [Sane]; trivial
  | a :: us, lots, h => by
    rw [List.length_cons] at h
    unfold prF
    split
    · rw [Sane, (sN_perm _).length_eq]
      have := ap_len (p := p) (a :: us) []
      unfold apF
      rw [List.length_nil, List.length_cons] at this
      omega
    · split
      · rw [Sane]; trivial
      · rw [Sane]
        have sl := sp_len (p := p) (lots := lots) (a := a) (m := m)
        refine ⟨by rw [List.length_map]; omega, saneL_of fun t ht => ?_⟩
        obtain ⟨o, _, rfl⟩ := List.mem_map.mp ht
        have wl := wl_len (lots := lots) (o := o) (a := a)
        exact pr_sane us _ (by omega)
theorem told_none {p : Pb} (sz : Sz p) (he : hvF p = []) {m : Nat} (l : Lst p (ordF p) m) {L : List (List Nat)} (g : Gd p L m) : sfD p (.rooms (srt L) (if m = 0 then none else some (prF p (m - 1) (ordF p) []))) = .none := by
  refine sf_none he g _ (fun h => if_pos h) fun h => ⟨_, if_neg (by omega), ?_⟩
  exact pr_ok _ _ 10 [] (by rw [ord_len]; have := sz.np; omega) (rest0 (ord_perm p)) (l.no _ (by omega))
theorem heavy_none {p : Pb} (h : hvF p ≠ []) : sfD p (.heavy (headH p)) = .none := by
  rw [sfD_h, if_pos ⟨h, rfl⟩]
theorem told_sane {p : Pb} (sz : Sz p) {m : Nat} {L : List (List Nat)} (g : Gd p L m) (hm : m ≤ 8) : SaneTo (.rooms (srt L) (if m = 0 then none else some (prF p (m - 1) (ordF p) []))) := by
  refine ⟨⟨by rw [g.len]; omega, fun l hl => by have := g.b1 l hl; omega⟩, fun t ht => ?_⟩
  split at ht
  · cases ht
  · cases ht
    exact pr_sane _ _ (by rw [ord_len]; have := sz.np; simp; omega)
end Law_k64
namespace Law_k64
open PySem L2 Pu
local macro_rules | `(tactic| walk_at "e") => `(tactic| first
  | ((with_reducible refine nx_seq ?_); (try dsimp only [List.set_cons_succ, List.set_cons_zero]))
  | ((with_reducible refine ex_vr ?_); dsimp only [VQ, List.set_cons_succ, List.set_cons_zero, List.getElem?_cons_zero, List.getElem?_cons_succ]; (fail_if_success (with_reducible show False)))
  | (with_reducible refine sx_seq ?_)
  | (with_reducible refine sx_if ?_)
  | (with_reducible refine sx_next ?_)
  | (with_reducible refine sx_ret ?_)
  | ((fail_if_success (with_reducible refine sx_asgO (eo_lst ?_))); (with_reducible refine sx_asg ?_))
  | (with_reducible refine ex_int ?_)
  | (with_reducible refine ex_str ?_)
  | (with_reducible refine ex_bl ?_)
  | (with_reducible refine ex_non ?_)
  | (with_reducible refine ex_op ?_)
  | (with_reducible refine ex_un ?_)
  | (with_reducible refine ex_chain ?_)
  | (with_reducible refine ex_call ?_)
  | (with_reducible refine ex_isT ?_)
  | (with_reducible refine ex_cb ?_)
  | (with_reducible refine ex_sl ?_)
  | (with_reducible refine ex_tup ?_)
  | (with_reducible refine ex_if ?_)
  | (with_reducible refine ex_of (eo_lst ?_))
  | (with_reducible refine ex_notV ?_)
  | (with_reducible refine ea_nil ?_)
  | (with_reducible refine ea_cons ?_)
  | (with_reducible refine ep_no ?_)
  | (with_reducible refine ep_some ?_)
  | (with_reducible refine et_test ?_)
  | (with_reducible refine et_B ?_)
  | (with_reducible refine et_ch3 ?_)
  | (with_reducible refine et_and ?_)
  | (with_reducible refine et_or ?_)
  | (with_reducible refine et_not ?_)
  | (with_reducible refine et_yes ?_)
  | (with_reducible refine et_truL ?_)
  | (with_reducible refine opd_plusI ?_)
  | (with_reducible refine opd_I0 ?_)
  | (with_reducible refine opd_B0 ?_)
  | (with_reducible refine opd_eqI ?_)
  | (with_reducible refine opd_neI ?_)
  | (with_reducible refine opd_eqS ?_)
  | (with_reducible refine opd_neS ?_)
  | (with_reducible refine opd_is ?_)
  | (with_reducible refine opd_isnt ?_)
  | (with_reducible refine opd_ixT rfl ?_)
  | (with_reducible refine opd_ixL rfl ?_)
  | (with_reducible refine und_neg ?_)
  | (with_reducible refine cbd_lenL ?_)
  | (with_reducible refine cbd_lenT ?_)
  | (with_reducible refine cbd_min2 ?_)
  | (with_reducible refine cbd_max2 ?_)
  | (with_reducible refine cbd_abs ?_)
  | (with_reducible refine cbd_int ?_)
  | (with_reducible refine cbd_tupL ?_)
  | (with_reducible refine cbd_listL ?_)
  | (with_reducible refine cbd_listT ?_)
  | (with_reducible refine cbd_sum ?_)
  | (with_reducible refine sld_T ?_)
  | (with_reducible refine sld_L ?_)
  | (with_reducible refine ex_revL ?_)
  | (with_reducible refine ex_bmL ?_)
  | (with_reducible refine ex_andV ?_)
  | (with_reducible refine ei_list ?_)
  | (with_reducible refine ei_rng1 ?_)
  | (with_reducible refine ei_rng2 ?_)
  | (with_reducible refine ei_enum ?_)
  | (with_reducible refine ei_enumT ?_)
  | (with_reducible refine ei_zip ?_)
  | (with_reducible refine sx_par ?_)
  | (with_reducible refine Exists.intro _ (And.intro rfl ?_))
  | (with_reducible refine Exists.intro _ (Exists.intro _ (And.intro rfl ?_)))
  | ((with_reducible show EX (tCall (spS _) [] _ (tCons (tVar _) _)) _ _); refine ex_callS rfl ?_)
  | ((with_reducible refine And.intro (show (_ : Nat) ≤ 100000 from ?_) ?_); (focus (simp; done)))
  | ((with_reducible refine opd_I ?_ ?_); focus (first | omega | (show CDiv _ _; exact ⟨by omega, by omega⟩) | (show CMul _ _; first | exact Or.inl ⟨by omega, by omega⟩ | exact Or.inr ⟨by omega, by omega⟩))))
local macro_rules | `(tactic| walk_at "es") => `(tactic| repeat walk_at "e")
local macro_rules | `(tactic| walk_at "w") => `(tactic| try dsimp only [wipeE, List.foldl_cons, List.foldl_nil, List.set_cons_succ, List.set_cons_zero])
local macro_rules | `(tactic| walk_at "le") => `(tactic| repeat' first | exact LeE.nil | (refine LeE.eq rfl ?_) | (refine LeE.emp ?_) | (refine LeE.eq ?_ ?_))
local macro_rules | `(tactic| walk_at "no") => `(tactic| ((refine And.intro (fun hb => absurd hb ?_) (fun _ => ?_)); (focus (first | (exact Bool.false_ne_true) | (simp; done) | (simp; omega) | (simp only [decide_eq_true_eq]; omega)))))
local macro_rules | `(tactic| walk_at "yes") => `(tactic| ((refine And.intro (fun _ => ?_) (fun hb => absurd hb ?_)); (rotate_left); (focus (first | (exact Bool.noConfusion) | (simp; done) | (simp; omega) | (simp only [decide_eq_false_iff_not]; omega)))))
local macro_rules | `(tactic| walk_at "ei") => `(tactic| repeat ((fail_if_success (with_reducible show SX (tSeq (tIfS _ _ _) _) _ _)); (fail_if_success (with_reducible show SX (tIfS _ _ _) _ _)); (fail_if_success (with_reducible show SX (tSeq (tAsg (tIf _ _ _) _) _) _ _)); walk_at "e"))
local macro_rules | `(tactic| walk_at "tv") => `(tactic| repeat' first | walk_at "e" | ((with_reducible show (_ = true → _) ∧ (_ = false → _)); refine And.intro (fun _ => ?_) (fun _ => ?_)))
/-! ### how long a text is when shown -/
def lenS : List Str → Nat
  | [] => 0
  | t :: ts => t.length + 2 + lenS ts
theorem piled_S : ∀ ts : List Str, piled ts ≤ lenS ts
  | [] => by simp [piled]
  | t :: ts => by
    have h := piled_S ts
    rw [piled_cons, lenS]
    omega
theorem textFrom_S : ∀ (ts : List Str) (k : Nat) (acc : Str), (textFrom k acc ts).length ≤ acc.length + lenS ts
  | [], k, acc => by
    show acc.length ≤ _
    omega
  | t :: r, k, acc => by
    have ih := textFrom_S r (k + 1) (acc ++ (if k > 0 then ", " else "" : String) ++ t)
    have hl : (acc ++ (if k > 0 then ", " else "" : String) ++ t : Str).length ≤ acc.length + 2 + t.length := by
      rw [Str.length_append, Str.length_append]
      by_cases c : k > 0
      · rw [if_pos c]
        have e : (Str.ofString ", ").length = 2 := by decide +kernel
        have e2 : (", " : Str).length = 2 := e
        omega
      · rw [if_neg c]
        have e : (Str.ofString "").length = 0 := by decide +kernel
        have e2 : ("" : Str).length = 0 := e
        omega
    show (textFrom (k + 1) (acc ++ (if k > 0 then ", " else "" : String) ++ t) r).length ≤ _
    rw [lenS]
    omega
theorem listText_S (ts : List Str) : (listText ts).length ≤ lenS ts + 2 := by
  unfold listText
  rw [Str.length_append]
  have q := textFrom_S ts 0 "["
  have e1 : ("[" : Str).length = 1 := (by decide +kernel : (Str.ofString "[").length = 1)
  have e2 : ("]" : Str).length = 1 := (by decide +kernel : (Str.ofString "]").length = 1)
  omega
theorem tupleText_S (ts : List Str) : (tupleText ts).length ≤ lenS ts + 4 := by
  unfold tupleText
  rw [Str.length_append, Str.length_append]
  have e1 : ("(" : Str).length = 1 := (by decide +kernel : (Str.ofString "(").length = 1)
  have e2 : ((if ts.length == 1 then ",)" else ")" : String) : Str).length ≤ 2 := by
    split
    · exact (by decide +kernel : (Str.ofString ",)").length ≤ 2)
    · exact (by decide +kernel : (Str.ofString ")").length ≤ 2)
  have e3 : (Str.join ", " ts).length ≤ lenS ts := by
    cases ts with
    | nil =>
      have e : (Str.join (Str.ofString ", ") []).length = 0 := by decide +kernel
      have e' : (Str.join ", " []).length = 0 := e
      omega
    | cons t ts =>
      have q := join_length_add (t :: ts) (by simp)
      have p := piled_S (t :: ts)
      omega
  omega
structure ShL (n : Nat) (ds : List D) : Prop where
  sh : PyData.showableAll ds = true
  nd : PyData.hasDictAll ds = false
  ln : lenS (PyData.shownAll ds) ≤ n
theorem shl_nil : ShL 0 [] := ⟨by simp only [PyData.showableAll], by simp only [PyData.hasDictAll], by simp [PyData.shownAll, lenS]⟩
theorem shl_cons {a n : Nat} {d : D} {ds : List D} (h : Sh a d) (hs : ShL n ds) : ShL (a + 2 + n) (d :: ds) := ⟨by simp only [PyData.showableAll, h.sh, hs.sh, Bool.and_self], by simp only [PyData.hasDictAll, h.nd, hs.nd, Bool.or_self], by
  have := h.ln
  have := hs.ln
  simp only [PyData.shownAll, lenS]
  omega⟩
theorem sh_listS {n : Nat} {ds : List D} (h : ShL n ds) : Sh (n + 4) (.list ds) := ⟨by simp only [PyData.showable]; exact h.sh, by simp only [PyData.hasDict]; exact h.nd, by
  simp only [PyData.shown]
  have q := listText_S (PyData.shownAll ds)
  have := h.ln
  omega⟩
theorem sh_tupS {n : Nat} {ds : List D} (h : ShL n ds) : Sh (n + 4) (.tuple ds) := ⟨by simp only [PyData.showable]; exact h.sh, by simp only [PyData.hasDict]; exact h.nd, by
  simp only [PyData.shown]
  have q := tupleText_S (PyData.shownAll ds)
  have := h.ln
  omega⟩
theorem shl_mapC {α : Type} {c : Nat} {f : α → D} : ∀ {xs : List α}, (∀ x ∈ xs, Sh c (f x)) → ShL (xs.length * (c + 2)) (xs.map f)
  | [], _ => by simpa using shl_nil
  | x :: xs, h => by
    have ih := shl_mapC (xs := xs) fun y hy => h y (by simp [hy])
    have := shl_cons (h x (by simp)) ih
    rw [List.map_cons, List.length_cons, Nat.succ_mul, Nat.add_comm]
    exact this
theorem sh_i2 {n : Nat} (h : n < 100) : Sh 2 (.int (n : Int)) := by
  refine ⟨(sh_int (by omega)).sh, (sh_int (by omega)).nd, ?_⟩
  have t : (List.range 100).all (fun n => decide ((PyData.int (n : Int)).shown.length ≤ 2)) = true := by decide +kernel
  exact of_decide_eq_true (List.all_eq_true.mp t n (List.mem_range.mpr h))
theorem sh_w1 : Sh 8 (.str (Str.ofString "weight")) := ⟨by decide +kernel, by decide +kernel, by decide +kernel⟩
theorem sh_w2 : Sh 7 (.str (Str.ofString "apart")) := ⟨by decide +kernel, by decide +kernel, by decide +kernel⟩
theorem sh_w3 : Sh 6 (.str (Str.ofString "load")) := ⟨by decide +kernel, by decide +kernel, by decide +kernel⟩
theorem sh_w4 : Sh 7 (.str (Str.ofString "heavy")) := ⟨by decide +kernel, by decide +kernel, by decide +kernel⟩
theorem sh_w5 : Sh 7 (.str (Str.ofString "rooms")) := ⟨by decide +kernel, by decide +kernel, by decide +kernel⟩
theorem sh_no : Sh 10 .none := ⟨by simp only [PyData.showable], by simp only [PyData.hasDict], by simp only [PyData.shown]; decide +kernel⟩
theorem sh_nats {r : List Nat} (h : ∀ x ∈ r, x < 100) : Sh (r.length * 4 + 4) (natsD r) := sh_listS (shl_mapC (c := 2) fun x hx => sh_i2 (h x hx))
/-! trees -/
mutual
def szT : Tr → Nat
  | .weight => 20
  | .apart row => 30 + row.length * 4
  | .load _ ts => 30 + szTs ts
def szTs : List Tr → Nat
  | [] => 0
  | t :: ts => szT t + 2 + szTs ts
end
mutual
def BdT : Tr → Prop
  | .weight => True
  | .apart row => ∀ x ∈ row, x < 100
  | .load a ts => a < 100 ∧ BdTs ts
def BdTs : List Tr → Prop
  | [] => True
  | t :: ts => BdT t ∧ BdTs ts
end
mutual
def hT : Tr → Nat
  | .weight => 0
  | .apart _ => 0
  | .load _ ts => 1 + hTs ts
def hTs : List Tr → Nat
  | [] => 0
  | t :: ts => max (hT t) (hTs ts)
end
mutual
theorem sh_T : ∀ t : Tr, BdT t → Sh (szT t) (encT t)
  | .weight, _ => by
    rw [enc_w, szT]
    exact (sh_tupS (shl_cons sh_w1 shl_nil)).up (by omega)
  | .apart row, h => by
    rw [BdT] at h
    rw [enc_a, szT]
    exact (sh_tupS (shl_cons sh_w2 (shl_cons (sh_nats h) shl_nil))).up (by omega)
  | .load a ts, h => by
    rw [BdT] at h
    rw [enc_l, szT]
    exact (sh_tupS (shl_cons sh_w3 (shl_cons (sh_i2 h.1) (shl_cons (sh_listS (sh_Ts ts h.2)) shl_nil)))).up (by omega)
theorem sh_Ts : ∀ ts : List Tr, BdTs ts → ShL (szTs ts) (ts.map encT)
  | [], _ => by
    rw [szTs]
    exact shl_nil
  | t :: ts, h => by
    rw [BdTs] at h
    rw [szTs]
    exact shl_cons (sh_T t h.1) (sh_Ts ts h.2)
end
mutual
theorem dp_T : ∀ t : Tr, (encT t).depth ≤ 2 * hT t + 4
  | .weight => by rw [enc_w]; simp [PyData.depth, PyData.depthAll]
  | .apart row => by
    rw [enc_a]
    have h := depthAll_le (n := 1) (dpn_map (xs := row) (f := fun k : Nat => PyData.int (k : Int)) fun x _ => dpn_int)
    unfold natsD
    simp only [PyData.depth, PyData.depthAll]
    omega
  | .load a ts => by
    rw [enc_l, hT]
    have := dp_Ts ts
    simp only [PyData.depth, PyData.depthAll]
    omega
theorem dp_Ts : ∀ ts : List Tr, PyData.depthAll (ts.map encT) ≤ 2 * hTs ts + 4
  | [] => by simp [PyData.depthAll]
  | t :: ts => by
    have h1 := dp_T t
    have h2 := dp_Ts ts
    rw [List.map_cons, hTs]
    simp only [PyData.depthAll]
    omega
end
theorem szTs_le {b : Nat} : ∀ {ts : List Tr}, (∀ t ∈ ts, szT t ≤ b) → szTs ts ≤ ts.length * (b + 2)
  | [], _ => by rw [szTs]; omega
  | t :: ts, h => by
    have ih := szTs_le (ts := ts) fun x hx => h x (by simp [hx])
    have := h t (by simp)
    rw [szTs, List.length_cons, Nat.succ_mul]
    omega
theorem bdTs_of : ∀ {ts : List Tr}, (∀ t ∈ ts, BdT t) → BdTs ts
  | [], _ => by rw [BdTs]; trivial
  | t :: ts, h => by rw [BdTs]; exact ⟨h t (by simp), bdTs_of fun x hx => h x (by simp [hx])⟩
theorem bdTs_at : ∀ {ts : List Tr}, BdTs ts → ∀ t ∈ ts, BdT t
  | [], _, t, h => by cases h
  | s :: ts, h, t, ht => by
    rw [BdTs] at h
    rcases List.mem_cons.mp ht with rfl | q
    · exact h.1
    · exact bdTs_at h.2 t q
theorem hTs_le {b : Nat} : ∀ {ts : List Tr}, (∀ t ∈ ts, hT t ≤ b) → hTs ts ≤ b
  | [], _ => by rw [hTs]; omega
  | t :: ts, h => by
    have ih := hTs_le (ts := ts) fun x hx => h x (by simp [hx])
    have := h t (by simp)
    rw [hTs]
    omega
theorem hTs_at : ∀ {ts : List Tr} {t : Tr}, t ∈ ts → hT t ≤ hTs ts
  | [], t, h => by cases h
  | s :: ts, t, ht => by
    rw [hTs]
    rcases List.mem_cons.mp ht with rfl | q
    · omega
    · have := hTs_at q
      omega
theorem szTs_set : ∀ {ts : List Tr} {k : Nat} {t' : Tr} {c : Nat}, k < ts.length → szT t' ≤ szT (ts.getD k .weight) + c → szTs (ts.set k t') ≤ szTs ts + c
  | [], k, t', c, h, _ => absurd h (by simp)
  | t :: ts, 0, t', c, _, h => by
    have h : szT t' ≤ szT t + c := h
    rw [List.set_cons_zero, szTs, szTs]
    omega
  | t :: ts, k + 1, t', c, hk, h => by
    have ih := szTs_set (ts := ts) (k := k) (t' := t') (c := c) (by simpa using hk) h
    rw [List.set_cons_succ, szTs, szTs]
    omega
theorem sz_mem : ∀ {ts : List Tr} {k : Nat}, k < ts.length → szT (ts.getD k .weight) ≤ szTs ts
  | [], k, h => absurd h (by simp)
  | t :: ts, 0, _ => by
    show szT t ≤ _
    rw [szTs]
    omega
  | t :: ts, k + 1, h => by
    have := sz_mem (ts := ts) (k := k) (by simpa using h)
    show szT (ts.getD k .weight) ≤ _
    rw [szTs]
    omega
def bT : Nat → Nat → Nat
  | _, 0 => 20
  | t, u + 1 => 70 + (t + 1) * (bT (t + 1) u + 2)
theorem pr_sz {p : Pb} {m : Nat} : ∀ (us : List Nat) (lots : List (List Nat)) (t : Nat), lots.length ≤ t → us.length ≤ 8 → szT (prF p m us lots) ≤ bT t us.length
  | [], lots, t, _, _ => by
    unfold prF
    rw [szT]
    exact Nat.le_refl _
  | a :: us, lots, t, h, h8 => by
    rw [List.length_cons] at h8 ⊢
    have nn : 70 ≤ bT t (us.length + 1) := by rw [bT]; omega
    unfold prF
    split
    · rw [szT, (sN_perm _).length_eq]
      have := ap_len (p := p) (a :: us) []
      unfold apF
      rw [List.length_nil, List.length_cons] at this
      omega
    · split
      · rw [szT]
        omega
      · rw [szT, bT]
        have sl := sp_len (p := p) (lots := lots) (a := a) (m := m)
        have q := szTs_le (b := bT (t + 1) us.length) (ts := (spF p lots a m).map fun o => prF p m us (wlF lots o a)) fun x hx => by
          obtain ⟨o, _, rfl⟩ := List.mem_map.mp hx
          have wl := wl_len (lots := lots) (o := o) (a := a)
          exact pr_sz us _ (t + 1) (by omega) (by omega)
        rw [List.length_map] at q
        have : (spF p lots a m).length * (bT (t + 1) us.length + 2) ≤ (t + 1) * (bT (t + 1) us.length + 2) := Nat.mul_le_mul_right _ (by omega)
        omega
theorem bT_le {n : Nat} (h : n ≤ 8) : bT 0 n ≤ 2000000 := by
  have t : (List.range 9).all (fun n => decide (bT 0 n ≤ 2000000)) = true := by decide +kernel
  exact of_decide_eq_true (List.all_eq_true.mp t n (List.mem_range.mpr (by omega)))
theorem pr_h {p : Pb} {m : Nat} : ∀ (us : List Nat) (lots : List (List Nat)), hT (prF p m us lots) ≤ us.length
  | [], lots => by
    unfold prF
    rw [hT]
    omega
  | a :: us, lots => by
    rw [List.length_cons]
    unfold prF
    split
    · rw [hT]; omega
    · split
      · rw [hT]; omega
      · rw [hT]
        have := hTs_le (b := us.length) (ts := (spF p lots a m).map fun o => prF p m us (wlF lots o a)) fun x hx => by
          obtain ⟨o, _, rfl⟩ := List.mem_map.mp hx
          exact pr_h us _
        omega
theorem pr_bd {p : Pb} (n8 : nP p ≤ 8) {m : Nat} : ∀ (us : List Nat) (lots : List (List Nat)), Rest p lots us → BdT (prF p m us lots)
  | [], lots, _ => by
    unfold prF
    rw [BdT]
    trivial
  | a :: us, lots, r => by
    obtain ⟨ha, hn⟩ := r.hd
    have lt : ∀ x ∈ a :: us, x < nP p := fun x hx => List.mem_range.mp (r.mem_iff.mp (List.mem_append_right _ hx))
    have nd : (a :: us).Nodup := (List.nodup_append.mp (r.nodup_iff.mpr List.nodup_range)).2.1
    unfold prF
    split
    · rw [BdT]
      intro x hx
      have := lt x ((ap_ok nd).sub x ((sN_perm _).mem_iff.mp hx))
      omega
    · split
      · rw [BdT]; trivial
      · rw [BdT]
        refine ⟨by omega, bdTs_of fun x hx => ?_⟩
        obtain ⟨o, ho, rfl⟩ := List.mem_map.mp hx
        exact pr_bd n8 us _ (r.wl (sp_le ho))
end Law_k64
namespace Law_k64
open PySem L2 Pu
local macro_rules | `(tactic| walk_at "e") => `(tactic| first
  | ((with_reducible refine nx_seq ?_); (try dsimp only [List.set_cons_succ, List.set_cons_zero]))
  | ((with_reducible refine ex_vr ?_); dsimp only [VQ, List.set_cons_succ, List.set_cons_zero, List.getElem?_cons_zero, List.getElem?_cons_succ]; (fail_if_success (with_reducible show False)))
  | (with_reducible refine sx_seq ?_)
  | (with_reducible refine sx_if ?_)
  | (with_reducible refine sx_next ?_)
  | (with_reducible refine sx_ret ?_)
  | ((fail_if_success (with_reducible refine sx_asgO (eo_lst ?_))); (with_reducible refine sx_asg ?_))
  | (with_reducible refine ex_int ?_)
  | (with_reducible refine ex_str ?_)
  | (with_reducible refine ex_bl ?_)
  | (with_reducible refine ex_non ?_)
  | (with_reducible refine ex_op ?_)
  | (with_reducible refine ex_un ?_)
  | (with_reducible refine ex_chain ?_)
  | (with_reducible refine ex_call ?_)
  | (with_reducible refine ex_isT ?_)
  | (with_reducible refine ex_cb ?_)
  | (with_reducible refine ex_sl ?_)
  | (with_reducible refine ex_tup ?_)
  | (with_reducible refine ex_if ?_)
  | (with_reducible refine ex_of (eo_lst ?_))
  | (with_reducible refine ex_notV ?_)
  | (with_reducible refine ea_nil ?_)
  | (with_reducible refine ea_cons ?_)
  | (with_reducible refine ep_no ?_)
  | (with_reducible refine ep_some ?_)
  | (with_reducible refine et_test ?_)
  | (with_reducible refine et_B ?_)
  | (with_reducible refine et_ch3 ?_)
  | (with_reducible refine et_and ?_)
  | (with_reducible refine et_or ?_)
  | (with_reducible refine et_not ?_)
  | (with_reducible refine et_yes ?_)
  | (with_reducible refine et_truL ?_)
  | (with_reducible refine opd_plusI ?_)
  | (with_reducible refine opd_I0 ?_)
  | (with_reducible refine opd_B0 ?_)
  | (with_reducible refine opd_eqI ?_)
  | (with_reducible refine opd_neI ?_)
  | (with_reducible refine opd_eqS ?_)
  | (with_reducible refine opd_neS ?_)
  | (with_reducible refine opd_is ?_)
  | (with_reducible refine opd_isnt ?_)
  | (with_reducible refine opd_ixT rfl ?_)
  | (with_reducible refine opd_ixL rfl ?_)
  | (with_reducible refine und_neg ?_)
  | (with_reducible refine cbd_lenL ?_)
  | (with_reducible refine cbd_lenT ?_)
  | (with_reducible refine cbd_min2 ?_)
  | (with_reducible refine cbd_max2 ?_)
  | (with_reducible refine cbd_abs ?_)
  | (with_reducible refine cbd_int ?_)
  | (with_reducible refine cbd_tupL ?_)
  | (with_reducible refine cbd_listL ?_)
  | (with_reducible refine cbd_listT ?_)
  | (with_reducible refine cbd_sum ?_)
  | (with_reducible refine sld_T ?_)
  | (with_reducible refine sld_L ?_)
  | (with_reducible refine ex_revL ?_)
  | (with_reducible refine ex_bmL ?_)
  | (with_reducible refine ex_andV ?_)
  | (with_reducible refine ei_list ?_)
  | (with_reducible refine ei_rng1 ?_)
  | (with_reducible refine ei_rng2 ?_)
  | (with_reducible refine ei_enum ?_)
  | (with_reducible refine ei_enumT ?_)
  | (with_reducible refine ei_zip ?_)
  | (with_reducible refine sx_par ?_)
  | (with_reducible refine Exists.intro _ (And.intro rfl ?_))
  | (with_reducible refine Exists.intro _ (Exists.intro _ (And.intro rfl ?_)))
  | ((with_reducible show EX (tCall (spS _) [] _ (tCons (tVar _) _)) _ _); refine ex_callS rfl ?_)
  | ((with_reducible refine And.intro (show (_ : Nat) ≤ 100000 from ?_) ?_); (focus (simp; done)))
  | ((with_reducible refine opd_I ?_ ?_); focus (first | omega | (show CDiv _ _; exact ⟨by omega, by omega⟩) | (show CMul _ _; first | exact Or.inl ⟨by omega, by omega⟩ | exact Or.inr ⟨by omega, by omega⟩))))
local macro_rules | `(tactic| walk_at "es") => `(tactic| repeat walk_at "e")
local macro_rules | `(tactic| walk_at "w") => `(tactic| try dsimp only [wipeE, List.foldl_cons, List.foldl_nil, List.set_cons_succ, List.set_cons_zero])
local macro_rules | `(tactic| walk_at "le") => `(tactic| repeat' first | exact LeE.nil | (refine LeE.eq rfl ?_) | (refine LeE.emp ?_) | (refine LeE.eq ?_ ?_))
local macro_rules | `(tactic| walk_at "no") => `(tactic| ((refine And.intro (fun hb => absurd hb ?_) (fun _ => ?_)); (focus (first | (exact Bool.false_ne_true) | (simp; done) | (simp; omega) | (simp only [decide_eq_true_eq]; omega)))))
local macro_rules | `(tactic| walk_at "yes") => `(tactic| ((refine And.intro (fun _ => ?_) (fun hb => absurd hb ?_)); (rotate_left); (focus (first | (exact Bool.noConfusion) | (simp; done) | (simp; omega) | (simp only [decide_eq_false_iff_not]; omega)))))
local macro_rules | `(tactic| walk_at "ei") => `(tactic| repeat ((fail_if_success (with_reducible show SX (tSeq (tIfS _ _ _) _) _ _)); (fail_if_success (with_reducible show SX (tIfS _ _ _) _ _)); (fail_if_success (with_reducible show SX (tSeq (tAsg (tIf _ _ _) _) _) _ _)); walk_at "e"))
local macro_rules | `(tactic| walk_at "tv") => `(tactic| repeat' first | walk_at "e" | ((with_reducible show (_ = true → _) ∧ (_ = false → _)); refine And.intro (fun _ => ?_) (fun _ => ?_)))
/-! ### a tree bent -/
theorem set_cut2 {α : Type} (xs : List α) (o : Nat) (v : α) (h : o < xs.length) : xs.take o ++ [v] ++ xs.drop (o + 1) = xs.set o v := by
  rw [List.set_eq_take_append_cons_drop, if_pos h]
  simp
def hO : Option Tr → Nat
  | none => 0
  | some t => hT t
def zO : Option Tr → Nat
  | none => 0
  | some t => szT t
structure Bnt (o : Option Tr) (t : Tr) : Prop where
  s : Sane t
  b : BdT t
  h : hT t ≤ hO o + 1
  z : szT t ≤ 2 * zO o + 200
def OkO (o : Option Tr) : Prop := ∀ t, o = some t → Sane t ∧ BdT t
def R_bent (f : Nat) : Stt → List D → (D → Stt → Prop) → Prop := fun S vs Z => ∃ (n : Nat) (o : Option Tr), vs = [.int (n : Int), trD o] ∧ n ≤ 8 ∧ OkO o ∧ hO o < f ∧ Pu.Ok S ∧ ∀ t S', Pu.Ok S' → Bnt o t → Z (encT t) S'
theorem no_bent : ∀ S ds Z, ¬ R_bent 0 S ds Z := fun S ds Z h => by
  obtain ⟨n, o, _, _, _, h, _⟩ := h
  omega
theorem sane_mem : ∀ {ts : List Tr}, SaneL ts → ∀ t ∈ ts, Sane t
  | [], _, t, h => by cases h
  | s :: ts, h, t, ht => by
    rw [SaneL] at h
    rcases List.mem_cons.mp ht with rfl | q
    · exact h.1
    · exact sane_mem h.2 t q
/-- the bent ones that are put in anew -/
theorem bnt_w {o : Option Tr} : Bnt o .weight := ⟨by rw [Sane]; trivial, by rw [BdT]; trivial, by rw [hT]; omega, by rw [szT]; omega⟩
theorem bnt_a {o : Option Tr} {row : List Nat} (h : row.length ≤ 8) (b : ∀ x ∈ row, x < 100) : Bnt o (.apart row) := ⟨by rw [Sane]; omega, by rw [BdT]; exact b, by rw [hT]; omega, by rw [szT]; omega⟩
theorem bnt_l {t : Tr} {a r : Nat} (ha : a < 100) (hr : r ≤ 2) (h : Sane t ∧ BdT t) : Bnt (some t) (.load a (List.replicate r t)) := by
  refine ⟨?_, ?_, ?_, ?_⟩
  · rw [Sane]
    exact ⟨by rw [List.length_replicate]; omega, saneL_of fun x hx => by rw [List.eq_of_mem_replicate hx]; exact h.1⟩
  · rw [BdT]
    exact ⟨ha, bdTs_of fun x hx => by rw [List.eq_of_mem_replicate hx]; exact h.2⟩
  · rw [hT]
    have := hTs_le (b := hT t) (ts := List.replicate r t) fun x hx => by rw [List.eq_of_mem_replicate hx]; exact Nat.le_refl _
    show 1 + hTs (List.replicate r t) ≤ hT t + 1
    omega
  · rw [szT]
    have := szTs_le (b := szT t) (ts := List.replicate r t) fun x hx => by rw [List.eq_of_mem_replicate hx]; exact Nat.le_refl _
    rw [List.length_replicate] at this
    have h2 : r * (szT t + 2) ≤ 2 * (szT t + 2) := Nat.mul_le_mul_right _ hr
    show 30 + szTs (List.replicate r t) ≤ 2 * szT t + 200
    omega
theorem rep_T (t : Tr) (r : Nat) : (List.replicate r [encT t]).flatten = (List.replicate r t).map encT := by
  induction r with
  | zero => rfl
  | succ r ih => rw [List.replicate_succ, List.flatten_cons, ih, List.replicate_succ, List.map_cons]; rfl
theorem sx_bent_end (K : PySem.W.Frag) (f n : Nat) (o : Option Tr) (t : Tr) (S : Stt) (Z : D → Stt → Prop) (h8 : n ≤ 8) (et : o = some t) (oo : OkO o) (ok : Pu.Ok S) (z : ∀ t S', Pu.Ok S' → Bnt o t → Z (encT t) S') :
    SX (tSeq (tAsg (tLc (iRng1 (tCons (tVar 1) tNil)) (gName 5) (tTest (tOp (rEqP K) (tCall (spS R_take) [] E0 (tCons (tVar 0) (tCons (tC (.int 2)) tNil))) (tC (.int 0)))) (tVar 5) [5]) (gName 4))
    (tRet (tOp (rIxA K) (tLst (tCons (tTup (tCons (tC (.str "weight")) tNil)) (tCons (tTup (tCons (tC (.str "apart")) (tCons (tVar 4) tNil))) (tCons (tTup (tCons (tC (.str "apart")) (tCons (tRevL K (tVar 4)) tNil))) (tCons (tTup (tCons (tC (.str "load")) (tCons (tCall (spS R_take) [] E0 (tCons (tVar 0) (tCons (tOp (rPlus K) (tVar 1) (tC (.int 1))) tNil))) (tCons (tOp (rRepR) (tLst (tCons (tVar 2) tNil)) (tCall (spS R_take) [] E0 (tCons (tVar 0) (tCons (tC (.int 3)) tNil)))) tNil)))) tNil))))) (tCall (spS R_take) [] E0 (tCons (tVar 0) (tCons (tC (.int 4)) tNil)))))) [.st S, .val (.int (n : Int)), .val (encT t), .emp, .emp, .emp] { nx := fun ρ' => ∃ S', ρ'[0]? = some (.st S') ∧ Z .none S', rt := fun d ρ' => ∃ S', ρ'[0]? = some (.st S') ∧ Z d S' } := by
  refine sx_seq (sx_asg (ex_of (eo_lc (ei_rng1 ?_))))
  walk_at "es"
  rw [Int.toNat_natCast]
  refine ⟨by omega, fun k acc ρ' => ∃ (row : List Nat) (S : Stt), row.length ≤ k ∧ (∀ x ∈ row, x < 100) ∧ Pu.Ok S ∧ acc = row.map (fun k : Nat => PyData.int (k : Int)) ∧ ρ' = [.st S, .val (.int (n : Int)), .val (encT t), .emp, .emp, .emp], ⟨[], S, by simp, (fun x hx => by cases hx), ok, rfl, rfl⟩, ?_, ?_⟩
  · rintro k dd acc ρ' hd0 ⟨row, S1, rl, rg, ok1, rfl, rfl⟩
    obtain ⟨hk, rfl⟩ := rng_at hd0
    rw [Int.zero_add]
    refine ⟨(fun i hi => by simp at hi; subst hi; rfl), by rw [List.length_map]; omega, sg_name (by simp) ?_⟩
    walk_at "w"
    walk_at "es"
    refine ⟨2, rfl, by omega, by omega, ok1, fun x S2 x0 x1 ok2 => ?_⟩
    walk_at "es"
    refine ⟨fun _ => ?_, fun _ => ?_⟩
    · walk_at "es"
      exact ⟨row ++ [k], S2, by simp; omega, all_snoc rg (by omega), ok2, by rw [List.map_append]; rfl, rfl⟩
    · exact ⟨row, S2, by omega, rg, ok2, rfl, rfl⟩
  rintro acc ρ' ⟨row, S1, rl, rg, ok1, rfl, rfl⟩
  rw [rng_size] at rl
  refine nx_seq ?_
  walk_at "w"
  refine sx_ret ?_
  walk_at "es"
  refine ⟨(n : Int) + 1, rfl, by omega, by omega, ok1, fun a S2 a0 a1 ok2 => ?_⟩
  walk_at "es"
  refine ⟨3, rfl, by omega, by omega, ok2, fun r S3 r0 r1 ok3 => ?_⟩
  refine opd_rep (by omega) (by simp; omega) ?_
  walk_at "es"
  refine ⟨4, rfl, by omega, by omega, ok3, fun c S4 c0 c1 ok4 => ?_⟩
  rw [rep_T]
  obtain ⟨a, rfl⟩ : ∃ k : Nat, a = (k : Int) := ⟨a.toNat, by omega⟩
  refine opd_ixL (atI_in c0 (by simpa using c1)) ?_
  have zz : ∀ d ∈ ([PyData.tuple [.str (Str.ofString "weight")], .tuple [.str (Str.ofString "apart"), .list (row.map fun k : Nat => .int (k : Int))], .tuple [.str (Str.ofString "apart"), .list (row.map fun k : Nat => PyData.int (k : Int)).reverse], .tuple [.str (Str.ofString "load"), .int (a : Int), .list ((List.replicate r.toNat t).map encT)]] : List D), Z d S4 := fun d hd => by
    simp only [List.mem_cons, List.not_mem_nil, or_false] at hd
    rcases hd with rfl | rfl | rfl | rfl
    · have := z .weight S4 ok4 bnt_w
      rw [enc_w] at this
      exact this
    · have := z (.apart row) S4 ok4 (bnt_a (by omega) rg)
      rw [enc_a] at this
      exact this
    · have := z (.apart row.reverse) S4 ok4 (bnt_a (by rw [List.length_reverse]; omega) fun x hx => rg x (List.mem_reverse.mp hx))
      rw [enc_a] at this
      unfold natsD at this
      rw [List.map_reverse] at this
      exact this
    · have := z (.load a (List.replicate r.toNat t)) S4 ok4 (by rw [et]; exact bnt_l (by omega) (by omega) (oo t et))
      rw [enc_l] at this
      exact this
  exact ⟨S4, rfl, zz _ (List.getElem_mem _)⟩
theorem sx_l_bent_tree (K : PySem.W.Frag) (f : Nat) (S : Stt) (vs : List D) (Z : D → Stt → Prop) (h : R_bent (f + 1) S vs Z) :
    SX (T_l_bent_tree K R_take (R_bent f)) (.st S :: (vs.map .val ++ List.replicate (N_l_bent_tree.length - (vs.length + 1)) .emp)) { nx := fun ρ' => ∃ S', ρ'[0]? = some (.st S') ∧ Z .none S', rt := fun d ρ' => ∃ S', ρ'[0]? = some (.st S') ∧ Z d S' } := by
  obtain ⟨n, o, rfl, h8, oo, hf, ok, z⟩ := h
  show SX (T_l_bent_tree K R_take (R_bent f)) [.st S, .val (.int (n : Int)), .val (trD o), .emp, .emp, .emp] _
  unfold T_l_bent_tree
  cases o with
  | none =>
    unfold trD
    refine sx_seq (sx_if (et_val true ?_ ⟨fun _ => ?_, (fun q => by cases q)⟩))
    · walk_at "es"
      exact ⟨rfl, rfl⟩
    walk_at "es"
    have := z .weight S ok bnt_w
    rw [enc_w] at this
    exact ⟨S, rfl, this⟩
  | some t =>
    have hn : isN (encT t) = false := by cases t <;> rw [encT] <;> rfl
    have be := fun S ok => sx_bent_end K f n (some t) t S Z h8 rfl oo ok z
    rw [show trD (some t) = encT t from rfl]
    refine sx_seq (sx_if (et_val false ?_ ⟨(fun q => by cases q), fun _ => sx_next (nx_seq ?_)⟩))
    · walk_at "es"
      rw [hn]
      exact ⟨rfl, rfl⟩
    cases t with
    | weight =>
      rw [enc_w] at be ⊢
      refine sx_seq (sx_if (et_val false ?_ ⟨(fun q => by cases q), fun _ => sx_next (nx_seq (be S ok))⟩))
      walk_at "es"
      exact ⟨fun q => absurd q (by decide), fun _ => ⟨rfl, rfl⟩⟩
    | apart row =>
      rw [enc_a] at be ⊢
      refine sx_seq (sx_if (et_val false ?_ ⟨(fun q => by cases q), fun _ => sx_next (nx_seq (be S ok))⟩))
      walk_at "es"
      exact ⟨fun q => absurd q (by decide), fun _ => ⟨rfl, rfl⟩⟩
    | load a ts =>
      obtain ⟨sn, bd⟩ := oo _ rfl
      rw [enc_l] at be ⊢
      rw [Sane] at sn
      rw [BdT] at bd
      have hf : 1 + hTs ts < f + 1 := by
        have : hT (.load a ts) < f + 1 := hf
        rwa [hT] at this
      have go : ∀ S1, Pu.Ok S1 → SX (T_l_bent_tree K R_take (R_bent f)) [] { nx := fun _ => False, rt := fun _ _ => False } → True := fun _ _ _ => trivial
      clear go
      refine sx_seq (sx_if ?_)
      walk_at "es"
      refine ⟨fun _ => ?_, fun q => absurd q (by decide)⟩
      walk_at "es"
      rw [List.length_map]
      refine ⟨fun hp => ?_, fun _ => ⟨(fun q => by cases q), fun _ => sx_next (nx_seq (be S ok))⟩⟩
      have hp : (0 : Int) < (ts.length : Int) := of_decide_eq_true hp
      walk_at "es"
      refine ⟨3, rfl, by omega, by omega, ok, fun x S1 x0 x1 ok1 => ?_⟩
      walk_at "es"
      refine ⟨fun _ => ?_, fun _ => sx_next (nx_seq (be S1 ok1))⟩
      refine sx_seq (sx_asg ?_)
      walk_at "es"
      rw [List.length_map]
      refine ⟨(ts.length : Int), rfl, by omega, by omega, ok1, fun i S2 i0 i1 ok2 => ?_⟩
      obtain ⟨k, rfl⟩ : ∃ k : Nat, i = (k : Int) := ⟨i.toNat, by omega⟩
      have hk : k < ts.length := by omega
      have atT : atI (ts.map encT) (k : Int) = some (encT (ts.getD k .weight)) := by
        rw [atI_map .weight (by omega) (by omega), Int.toNat_natCast]
      have tm : ts.getD k .weight ∈ ts := by
        rw [List.getD_eq_getElem?_getD, List.getElem?_eq_getElem hk]
        exact List.getElem_mem hk
      refine nx_seq ?_
      walk_at "w"
      refine sx_ret ?_
      walk_at "es"
      rw [cut_n]
      walk_at "es"
      refine opd_ixL atT ?_
      walk_at "es"
      have hm := hTs_at tm
      refine ⟨n, some (ts.getD k .weight), rfl, h8, fun u hu => by cases hu; exact ⟨sane_mem sn.2 _ tm, bdTs_at bd.2 _ tm⟩, by show hT _ < f; omega, ok2, fun t' S3 ok3 bt => ?_⟩
      walk_at "es"
      refine opd_plusL (by rw [List.length_map, List.length_take]; show _ + 1 ≤ 1000000; omega) ?_
      walk_at "es"
      rw [show ((k : Int) + 1) = ((k + 1 : Nat) : Int) from rfl, cut_drop]
      refine opd_plusL (by rw [List.length_append, List.length_map, List.length_map, List.length_take, List.length_drop]; show _ + 1 + _ ≤ 1000000; omega) ?_
      walk_at "es"
      refine ⟨S3, rfl, ?_⟩
      have es : (ts.set k t').map encT = (ts.take k).map encT ++ [encT t'] ++ (ts.drop (k + 1)).map encT := by
        rw [← set_cut2 ts k t' hk, List.map_append, List.map_append]
        rfl
      have zz := z (.load a (ts.set k t')) S3 ok3 ?_
      · rw [enc_l, es] at zz
        exact zz
      · have mem : ∀ u ∈ ts.set k t', u ∈ ts ∨ u = t' := fun u hu => List.mem_or_eq_of_mem_set hu
        refine ⟨?_, ?_, ?_, ?_⟩
        · rw [Sane, List.length_set]
          refine ⟨sn.1, saneL_of fun u hu => ?_⟩
          rcases mem u hu with q | q
          · exact sane_mem sn.2 u q
          · rw [q]; exact bt.s
        · rw [BdT]
          refine ⟨bd.1, bdTs_of fun u hu => ?_⟩
          rcases mem u hu with q | q
          · exact bdTs_at bd.2 u q
          · rw [q]; exact bt.b
        · have := hTs_le (b := hTs ts + 1) (ts := ts.set k t') fun u hu => by
            rcases mem u hu with q | q
            · have := hTs_at q; omega
            · have h1 := bt.h
              have h2 : hT t' ≤ hT (ts.getD k .weight) + 1 := h1
              rw [q]; omega
          rw [hT]
          show 1 + hTs (ts.set k t') ≤ hT (.load a ts) + 1
          rw [hT]
          omega
        · have h1 : szT t' ≤ 2 * szT (ts.getD k .weight) + 200 := bt.z
          have h2 := szTs_set (ts := ts) (k := k) (t' := t') (c := szT (ts.getD k .weight) + 200) hk (by omega)
          have h3 := sz_mem hk
          rw [szT]
          show 30 + szTs (ts.set k t') ≤ 2 * szT (.load a ts) + 200
          rw [szT]
          omega
end Law_k64
namespace Law_k64
open PySem L2 Pu
local macro_rules | `(tactic| walk_at "e") => `(tactic| first
  | ((with_reducible refine nx_seq ?_); (try dsimp only [List.set_cons_succ, List.set_cons_zero]))
  | ((with_reducible refine ex_vr ?_); dsimp only [VQ, List.set_cons_succ, List.set_cons_zero, List.getElem?_cons_zero, List.getElem?_cons_succ]; (fail_if_success (with_reducible show False)))
  | (with_reducible refine sx_seq ?_)
  | (with_reducible refine sx_if ?_)
  | (with_reducible refine sx_next ?_)
  | (with_reducible refine sx_ret ?_)
  | ((fail_if_success (with_reducible refine sx_asgO (eo_lst ?_))); (with_reducible refine sx_asg ?_))
  | (with_reducible refine ex_int ?_)
  | (with_reducible refine ex_str ?_)
  | (with_reducible refine ex_bl ?_)
  | (with_reducible refine ex_non ?_)
  | (with_reducible refine ex_op ?_)
  | (with_reducible refine ex_un ?_)
  | (with_reducible refine ex_chain ?_)
  | (with_reducible refine ex_call ?_)
  | (with_reducible refine ex_isT ?_)
  | (with_reducible refine ex_cb ?_)
  | (with_reducible refine ex_sl ?_)
  | (with_reducible refine ex_tup ?_)
  | (with_reducible refine ex_if ?_)
  | (with_reducible refine ex_of (eo_lst ?_))
  | (with_reducible refine ex_notV ?_)
  | (with_reducible refine ea_nil ?_)
  | (with_reducible refine ea_cons ?_)
  | (with_reducible refine ep_no ?_)
  | (with_reducible refine ep_some ?_)
  | (with_reducible refine et_test ?_)
  | (with_reducible refine et_B ?_)
  | (with_reducible refine et_ch3 ?_)
  | (with_reducible refine et_and ?_)
  | (with_reducible refine et_or ?_)
  | (with_reducible refine et_not ?_)
  | (with_reducible refine et_yes ?_)
  | (with_reducible refine et_truL ?_)
  | (with_reducible refine opd_plusI ?_)
  | (with_reducible refine opd_I0 ?_)
  | (with_reducible refine opd_B0 ?_)
  | (with_reducible refine opd_eqI ?_)
  | (with_reducible refine opd_neI ?_)
  | (with_reducible refine opd_eqS ?_)
  | (with_reducible refine opd_neS ?_)
  | (with_reducible refine opd_is ?_)
  | (with_reducible refine opd_isnt ?_)
  | (with_reducible refine opd_ixT rfl ?_)
  | (with_reducible refine opd_ixL rfl ?_)
  | (with_reducible refine und_neg ?_)
  | (with_reducible refine cbd_lenL ?_)
  | (with_reducible refine cbd_lenT ?_)
  | (with_reducible refine cbd_min2 ?_)
  | (with_reducible refine cbd_max2 ?_)
  | (with_reducible refine cbd_abs ?_)
  | (with_reducible refine cbd_int ?_)
  | (with_reducible refine cbd_tupL ?_)
  | (with_reducible refine cbd_listL ?_)
  | (with_reducible refine cbd_listT ?_)
  | (with_reducible refine cbd_sum ?_)
  | (with_reducible refine sld_T ?_)
  | (with_reducible refine sld_L ?_)
  | (with_reducible refine ex_revL ?_)
  | (with_reducible refine ex_bmL ?_)
  | (with_reducible refine ex_andV ?_)
  | (with_reducible refine ei_list ?_)
  | (with_reducible refine ei_rng1 ?_)
  | (with_reducible refine ei_rng2 ?_)
  | (with_reducible refine ei_enum ?_)
  | (with_reducible refine ei_enumT ?_)
  | (with_reducible refine ei_zip ?_)
  | (with_reducible refine sx_par ?_)
  | (with_reducible refine Exists.intro _ (And.intro rfl ?_))
  | (with_reducible refine Exists.intro _ (Exists.intro _ (And.intro rfl ?_)))
  | ((with_reducible show EX (tCall (spS _) [] _ (tCons (tVar _) _)) _ _); refine ex_callS rfl ?_)
  | ((with_reducible refine And.intro (show (_ : Nat) ≤ 100000 from ?_) ?_); (focus (simp; done)))
  | ((with_reducible refine opd_I ?_ ?_); focus (first | omega | (show CDiv _ _; exact ⟨by omega, by omega⟩) | (show CMul _ _; first | exact Or.inl ⟨by omega, by omega⟩ | exact Or.inr ⟨by omega, by omega⟩))))
local macro_rules | `(tactic| walk_at "es") => `(tactic| repeat walk_at "e")
local macro_rules | `(tactic| walk_at "w") => `(tactic| try dsimp only [wipeE, List.foldl_cons, List.foldl_nil, List.set_cons_succ, List.set_cons_zero])
local macro_rules | `(tactic| walk_at "le") => `(tactic| repeat' first | exact LeE.nil | (refine LeE.eq rfl ?_) | (refine LeE.emp ?_) | (refine LeE.eq ?_ ?_))
local macro_rules | `(tactic| walk_at "no") => `(tactic| ((refine And.intro (fun hb => absurd hb ?_) (fun _ => ?_)); (focus (first | (exact Bool.false_ne_true) | (simp; done) | (simp; omega) | (simp only [decide_eq_true_eq]; omega)))))
local macro_rules | `(tactic| walk_at "yes") => `(tactic| ((refine And.intro (fun _ => ?_) (fun hb => absurd hb ?_)); (rotate_left); (focus (first | (exact Bool.noConfusion) | (simp; done) | (simp; omega) | (simp only [decide_eq_false_iff_not]; omega)))))
local macro_rules | `(tactic| walk_at "ei") => `(tactic| repeat ((fail_if_success (with_reducible show SX (tSeq (tIfS _ _ _) _) _ _)); (fail_if_success (with_reducible show SX (tIfS _ _ _) _ _)); (fail_if_success (with_reducible show SX (tSeq (tAsg (tIf _ _ _) _) _) _ _)); walk_at "e"))
local macro_rules | `(tactic| walk_at "tv") => `(tactic| repeat' first | walk_at "e" | ((with_reducible show (_ = true → _) ∧ (_ = false → _)); refine And.intro (fun _ => ?_) (fun _ => ?_)))
def T_B (K : PySem.W.Frag) : TS :=
    (tSeq (tPar 9 10 (tCons (tLc (iList K (tOp (rIxA K) (tVar 6) (tC (.int 1)))) (gName 11) tYes (tCB (rList K) (tCons (tVar 11) tNil)) [11]) (tCons (tOp (rIxA K) (tVar 6) (tC (.int 2))) tNil)))
    (tSeq (tAsg (tCall (spS R_take) [] E0 (tCons (tVar 1) (tCons (tC (.int 8)) tNil))) (gName 12))
    (tSeq (tAsg (tCall (spS R_take) [] E0 (tCons (tVar 1) (tCons (tCB (rMx2) (tCons (tC (.int 1)) (tCons (tCB (Pu.rLen K) (tCons (tVar 9) tNil)) tNil))) tNil))) (gName 13))
    (tSeq (tIfS (tOr (tTest (tOp (rI0 fun i j => .bl (decide (i < j))) (tVar 12) (tC (.int 3)))) (tTest (tOp (rEqP K) (tCB (Pu.rLen K) (tCons (tVar 9) tNil)) (tC (.int 0)))))
      (tAsg (tCall (spS (R_bent 10)) [] E0 (tCons (tVar 1) (tCons (tCB (Pu.rLen K) (tCons (tVar 2) tNil)) (tCons (tVar 10) tNil)))) (gName 10))
      (tIfS (tTest (tOp (rEqP K) (tVar 12) (tC (.int 3))))
      (tAsg (tSl (rSl K) (tOp (rIxA K) (tVar 9) (tVar 13)) (tPart (tC (.int 1))) tNoPart) (gSub (tVar 9) (tVar 13) rSetL))
      (tIfS (tTest (tOp (rEqP K) (tVar 12) (tC (.int 4))))
      (tAsg (tRevL K (tVar 9)) (gName 9))
      (tIfS (tTest (tOp (rEqP K) (tVar 12) (tC (.int 5))))
      (tSeq (tDrop (tBM K "list" rAppend (tOp (rIxA K) (tVar 9) (tCall (spS R_take) [] E0 (tCons (tVar 1) (tCons (tCB (Pu.rLen K) (tCons (tVar 9) tNil)) tNil)))) (tCons (tBM K "list" rPopAt (tOp (rIxA K) (tVar 9) (tVar 13)) (tCons (tC (.int 0)) tNil)) tNil)))
    (tAsg (tCB (rSrD K) (tCons (tLc (iList K (tVar 9)) (gName 11) tYes (tCB (rSrD K) (tCons (tVar 11) tNil)) [11]) tNil)) (gName 9)))
      (tIfS (tTest (tOp (rEqP K) (tVar 12) (tC (.int 6))))
      (tAsg (tCB (rSrD K) (tCons (tOp (rPlus K) (tOp (rPlus K) (tSl (rSl K) (tVar 9) tNoPart (tPart (tVar 13))) (tSl (rSl K) (tVar 9) (tPart (tOp (rPlus K) (tVar 13) (tC (.int 1)))) tNoPart)) (tLc (iList K (tOp (rIxA K) (tVar 9) (tVar 13))) (gName 14) tYes (tLst (tCons (tVar 14) tNil)) [14])) tNil)) (gName 9))
      (tAsg (tC .non) (gName 10)))))))
    (tAsg (tIf (tTest (tOp (rI0 fun i j => .bl (decide (j < i))) (tCall (spS R_take) [] E0 (tCons (tVar 1) (tCons (tC (.int 12)) tNil))) (tC (.int 0)))) (tTup (tCons (tC (.str "rooms")) (tCons (tVar 9) (tCons (tVar 10) tNil)))) (tTup (tCons (tC (.str "heavy")) (tCons (tC (.int 0)) tNil)))) (gName 8))))))
def T_E (K : PySem.W.Frag) : TS :=
    (tSeq (tAsg (tCB (rRepr K) (tCons (tVar 8) tNil)) (gName 15))
    (tIfS (tOr (tTest (tOp (rNeP K) (tCall (spP R_sf) [] E0 (tCons (tVar 2) (tCons (tVar 3) (tCons (tVar 4) (tCons (tVar 8) tNil))))) (tCall (spP R_sf) [] E0 (tCons (tVar 2) (tCons (tVar 3) (tCons (tVar 4) (tCons (tVar 8) tNil))))))) (tTest (tOp (rNeP K) (tCB (rRepr K) (tCons (tVar 8) tNil)) (tVar 15))))
      (tRet (tC (.bl false)))
      tNext))
def T_A (K : PySem.W.Frag) : TS :=
    (tAsg (tOp (rIxA K) (tLst (tCons (tTup (tCons (tC (.str "heavy")) (tCons (tOp (rPlus K) (tOp (rIxA K) (tVar 6) (tC (.int 1))) (tC (.int 1))) tNil))) (tCons (tTup (tCons (tC (.str "rooms")) (tCons (tLst tNil) (tCons (tC .non) tNil)))) tNil))) (tCall (spS R_take) [] E0 (tCons (tVar 1) (tCons (tC (.int 2)) tNil)))) (gName 8))
/-! ### bent rooms -/
structure Bnr (lots : List (List Nat)) (o : Option Tr) : Prop where
  n : lots.length ≤ 20
  l : ∀ l ∈ lots, l.length ≤ 20 ∧ ∀ x ∈ l, x < 100
  ok : OkO o
  h : hO o ≤ 10
  z : zO o ≤ 5000000
theorem bn_sane {lots : List (List Nat)} {o : Option Tr} (b : Bnr lots o) : SaneTo (.rooms lots o) := ⟨⟨b.n, fun l hl => by have := (b.l l hl).1; omega⟩, fun t ht => (b.ok t ht).1⟩
structure Shw (T : To) : Prop where
  s : SaneTo T
  sh : Sh 16000000 (toD T)
  dp : (toD T).depth ≤ 60
theorem tr_sh {o : Option Tr} (h : OkO o) : Sh (zO o + 10) (trD o) := by
  cases o with
  | none => exact sh_no
  | some t => exact (sh_T t (h t rfl).2).up (by show szT t ≤ szT t + 10; omega)
theorem tr_dp (o : Option Tr) : (trD o).depth ≤ 2 * hO o + 4 := by
  cases o with
  | none => show (PyData.none).depth ≤ _; simp [PyData.depth]
  | some t => exact dp_T t
theorem bn_shw {lots : List (List Nat)} {o : Option Tr} (b : Bnr lots o) : Shw (.rooms lots o) := by
  refine ⟨bn_sane b, ?_, ?_⟩
  · have h1 : ShL (lots.length * (84 + 2)) (lots.map natsD) := shl_mapC fun l hl => by
      obtain ⟨q1, q2⟩ := b.l l hl
      exact (sh_nats q2).up (by omega)
    have h2 := sh_tupS (shl_cons sh_w5 (shl_cons (sh_listS h1) (shl_cons (tr_sh b.ok) shl_nil)))
    have := b.n
    have := b.z
    exact h2.up (by omega)
  · have h1 := depthAll_le (n := 2) (dpn_map (xs := lots) (f := natsD) fun x _ => by rw [natsD_eq]; exact dpn_list (n := 1) (dpn_map fun y _ => dpn_int))
    have h2 := tr_dp o
    have h3 := b.h
    simp only [toD, lotsD, PyData.depth, PyData.depthAll]
    omega
theorem hv_shw {a : Nat} (h : a < 100) : Shw (.heavy (a : Int)) := ⟨trivial, (sh_tupS (shl_cons sh_w4 (shl_cons (sh_i2 h) shl_nil))).up (by omega), by simp [toD, PyData.depth, PyData.depthAll]⟩
def trO (p : Pb) (m : Nat) : Option Tr := if m = 0 then none else some (prF p (m - 1) (ordF p) [])
theorem trO_ok {p : Pb} (sz : Sz p) (m : Nat) : OkO (trO p m) ∧ hO (trO p m) ≤ 8 ∧ zO (trO p m) ≤ 2000000 := by
  have n8 := sz.np
  have ol := ord_len p
  unfold trO
  split
  · exact ⟨fun t h => (by cases h), by show 0 ≤ 8; omega, by show 0 ≤ 2000000; omega⟩
  · refine ⟨fun t h => by cases h; exact ⟨pr_sane _ _ (by rw [ol]; simp; omega), pr_bd n8 _ _ (ord_perm p)⟩, ?_, ?_⟩
    · have := pr_h (p := p) (m := m - 1) (ordF p) []
      show hT _ ≤ 8
      omega
    · have h1 := pr_sz (p := p) (m := m - 1) (ordF p) [] 0 (Nat.le_refl _) (by omega)
      have h2 := bT_le (n := (ordF p).length) (by omega)
      show szT _ ≤ 2000000
      omega
/-- what is known behind store -/
structure Kn (p : Pb) (m : Nat) (L : List (List Nat)) : Prop where
  sz : Sz p
  he : hvF p = []
  l : Lst p (ordF p) m
  m8 : m ≤ nP p
  g : Gd p L m
theorem kn_ne {p : Pb} {m : Nat} {L : List (List Nat)} (k : Kn p m L) : ∀ l ∈ srt L, l ≠ [] := fun l hl e => by
  obtain ⟨i, hi, ei⟩ := List.getElem_of_mem hl
  have r := k.g.room i hi
  unfold roomO at r
  rw [List.getD_eq_getElem?_getD, List.getElem?_eq_getElem hi, ei, e] at r
  cases r
theorem kn_bn {p : Pb} {m : Nat} {L : List (List Nat)} (k : Kn p m L) : Bnr (srt L) (trO p m) ∧ (srt L).length = m ∧ m ≤ 8 ∧ (∀ l ∈ srt L, l.length ≤ 8 ∧ ∀ x ∈ l, x < 100) := by
  obtain ⟨t1, t2, t3⟩ := trO_ok k.sz m
  have n8 := k.sz.np
  have m8 := k.m8
  obtain ⟨r1, r2, r3⟩ := ok_rt k.g.ok
  have hl : ∀ l ∈ srt L, l.length ≤ 8 ∧ ∀ x ∈ l, x < 100 := fun l hl => ⟨k.g.b1 l hl, fun x hx => by have := r2 l hl x hx; omega⟩
  exact ⟨⟨by rw [k.g.len]; omega, fun l q => ⟨by have := (hl l q).1; omega, (hl l q).2⟩, t1, by omega, by omega⟩, k.g.len, by omega, hl⟩
/-- lists of lists: changed as the law does -/
theorem map_set_row (lots : List (List Nat)) (k : Nat) (r : List Nat) : (lots.map rowN).set k (rowN r) = (lots.set k r).map rowN := by rw [List.map_set]
theorem bn_set {lots : List (List Nat)} {o : Option Tr} (b : Bnr lots o) (k : Nat) {r : List Nat} (h : r.length ≤ 20 ∧ ∀ x ∈ r, x < 100) : Bnr (lots.set k r) o := by
  refine ⟨by rw [List.length_set]; exact b.n, fun l hl => ?_, b.ok, b.h, b.z⟩
  rcases List.mem_or_eq_of_mem_set hl with q | q
  · exact b.l l q
  · rw [q]; exact h
theorem bn_tr {lots : List (List Nat)} {o o' : Option Tr} (b : Bnr lots o) (h1 : OkO o') (h2 : hO o' ≤ 10) (h3 : zO o' ≤ 5000000) : Bnr lots o' := ⟨b.n, b.l, h1, h2, h3⟩
theorem bn_of {lots lots' : List (List Nat)} {o : Option Tr} (b : Bnr lots o) (hn : lots'.length ≤ 20) (h : ∀ l ∈ lots', l.length ≤ 20 ∧ ∀ x ∈ l, x < 100) : Bnr lots' o := ⟨hn, h, b.ok, b.h, b.z⟩
theorem srt_bn {lots : List (List Nat)} {o : Option Tr} (b : Bnr lots o) : Bnr (srt lots) o := by
  refine bn_of b (by rw [srt_len]; exact b.n) fun l hl => ?_
  obtain ⟨k, hk, rfl⟩ := List.mem_map.mp ((srt_perm lots).mem_iff.mp hl)
  obtain ⟨q1, q2⟩ := b.l k hk
  exact ⟨by rw [(sN_perm k).length_eq]; exact q1, fun x hx => q2 x ((sN_perm k).mem_iff.mp hx)⟩
end Law_k64
namespace Law_k64
open PySem L2 Pu
local macro_rules | `(tactic| walk_at "e") => `(tactic| first
  | ((with_reducible refine nx_seq ?_); (try dsimp only [List.set_cons_succ, List.set_cons_zero]))
  | ((with_reducible refine ex_vr ?_); dsimp only [VQ, List.set_cons_succ, List.set_cons_zero, List.getElem?_cons_zero, List.getElem?_cons_succ]; (fail_if_success (with_reducible show False)))
  | (with_reducible refine sx_seq ?_)
  | (with_reducible refine sx_if ?_)
  | (with_reducible refine sx_next ?_)
  | (with_reducible refine sx_ret ?_)
  | ((fail_if_success (with_reducible refine sx_asgO (eo_lst ?_))); (with_reducible refine sx_asg ?_))
  | (with_reducible refine ex_int ?_)
  | (with_reducible refine ex_str ?_)
  | (with_reducible refine ex_bl ?_)
  | (with_reducible refine ex_non ?_)
  | (with_reducible refine ex_op ?_)
  | (with_reducible refine ex_un ?_)
  | (with_reducible refine ex_chain ?_)
  | (with_reducible refine ex_call ?_)
  | (with_reducible refine ex_isT ?_)
  | (with_reducible refine ex_cb ?_)
  | (with_reducible refine ex_sl ?_)
  | (with_reducible refine ex_tup ?_)
  | (with_reducible refine ex_if ?_)
  | (with_reducible refine ex_of (eo_lst ?_))
  | (with_reducible refine ex_notV ?_)
  | (with_reducible refine ea_nil ?_)
  | (with_reducible refine ea_cons ?_)
  | (with_reducible refine ep_no ?_)
  | (with_reducible refine ep_some ?_)
  | (with_reducible refine et_test ?_)
  | (with_reducible refine et_B ?_)
  | (with_reducible refine et_ch3 ?_)
  | (with_reducible refine et_and ?_)
  | (with_reducible refine et_or ?_)
  | (with_reducible refine et_not ?_)
  | (with_reducible refine et_yes ?_)
  | (with_reducible refine et_truL ?_)
  | (with_reducible refine opd_plusI ?_)
  | (with_reducible refine opd_I0 ?_)
  | (with_reducible refine opd_B0 ?_)
  | (with_reducible refine opd_eqI ?_)
  | (with_reducible refine opd_neI ?_)
  | (with_reducible refine opd_eqS ?_)
  | (with_reducible refine opd_neS ?_)
  | (with_reducible refine opd_is ?_)
  | (with_reducible refine opd_isnt ?_)
  | (with_reducible refine opd_ixT rfl ?_)
  | (with_reducible refine opd_ixL rfl ?_)
  | (with_reducible refine und_neg ?_)
  | (with_reducible refine cbd_lenL ?_)
  | (with_reducible refine cbd_lenT ?_)
  | (with_reducible refine cbd_min2 ?_)
  | (with_reducible refine cbd_max2 ?_)
  | (with_reducible refine cbd_abs ?_)
  | (with_reducible refine cbd_int ?_)
  | (with_reducible refine cbd_tupL ?_)
  | (with_reducible refine cbd_listL ?_)
  | (with_reducible refine cbd_listT ?_)
  | (with_reducible refine cbd_sum ?_)
  | (with_reducible refine sld_T ?_)
  | (with_reducible refine sld_L ?_)
  | (with_reducible refine ex_revL ?_)
  | (with_reducible refine ex_bmL ?_)
  | (with_reducible refine ex_andV ?_)
  | (with_reducible refine ei_list ?_)
  | (with_reducible refine ei_rng1 ?_)
  | (with_reducible refine ei_rng2 ?_)
  | (with_reducible refine ei_enum ?_)
  | (with_reducible refine ei_enumT ?_)
  | (with_reducible refine ei_zip ?_)
  | (with_reducible refine sx_par ?_)
  | (with_reducible refine Exists.intro _ (And.intro rfl ?_))
  | (with_reducible refine Exists.intro _ (Exists.intro _ (And.intro rfl ?_)))
  | ((with_reducible show EX (tCall (spS _) [] _ (tCons (tVar _) _)) _ _); refine ex_callS rfl ?_)
  | ((with_reducible refine And.intro (show (_ : Nat) ≤ 100000 from ?_) ?_); (focus (simp; done)))
  | ((with_reducible refine opd_I ?_ ?_); focus (first | omega | (show CDiv _ _; exact ⟨by omega, by omega⟩) | (show CMul _ _; first | exact Or.inl ⟨by omega, by omega⟩ | exact Or.inr ⟨by omega, by omega⟩))))
local macro_rules | `(tactic| walk_at "es") => `(tactic| repeat walk_at "e")
local macro_rules | `(tactic| walk_at "w") => `(tactic| try dsimp only [wipeE, List.foldl_cons, List.foldl_nil, List.set_cons_succ, List.set_cons_zero])
local macro_rules | `(tactic| walk_at "le") => `(tactic| repeat' first | exact LeE.nil | (refine LeE.eq rfl ?_) | (refine LeE.emp ?_) | (refine LeE.eq ?_ ?_))
local macro_rules | `(tactic| walk_at "no") => `(tactic| ((refine And.intro (fun hb => absurd hb ?_) (fun _ => ?_)); (focus (first | (exact Bool.false_ne_true) | (simp; done) | (simp; omega) | (simp only [decide_eq_true_eq]; omega)))))
local macro_rules | `(tactic| walk_at "yes") => `(tactic| ((refine And.intro (fun _ => ?_) (fun hb => absurd hb ?_)); (rotate_left); (focus (first | (exact Bool.noConfusion) | (simp; done) | (simp; omega) | (simp only [decide_eq_false_iff_not]; omega)))))
local macro_rules | `(tactic| walk_at "ei") => `(tactic| repeat ((fail_if_success (with_reducible show SX (tSeq (tIfS _ _ _) _) _ _)); (fail_if_success (with_reducible show SX (tIfS _ _ _) _ _)); (fail_if_success (with_reducible show SX (tSeq (tAsg (tIf _ _ _) _) _) _ _)); walk_at "e"))
local macro_rules | `(tactic| walk_at "tv") => `(tactic| repeat' first | walk_at "e" | ((with_reducible show (_ = true → _) ∧ (_ = false → _)); refine And.intro (fun _ => ?_) (fun _ => ?_)))
/-! ### the law bends what is told -/
theorem nxl {ρ : Pu.Env} {P : Po} (h : P.nx ρ) : NX P ρ := ⟨ρ, LeE.refl _, h⟩
def envB (p : Pb) (S : Stt) (kt td : D) (k : Nat) (a b c d e : Slot) : Pu.Env := [.emp, .st S, .val (lsD p), .val (fsD p), .val (.int p.r), .val kt, .val td, .val (.int (k : Int)), .emp, a, b, c, d, e, .emp, .emp]
theorem row_head {l : List Nat} (h : l ≠ []) : ∃ x r, l = x :: r := by
  cases l with
  | nil => exact absurd rfl h
  | cons x r => exact ⟨x, r, rfl⟩
theorem rows_at {lots : List (List Nat)} {k : Nat} (h : k < lots.length) : (lots.map rowN)[k]? = some (rowN (lots.getD k [])) := by
  rw [List.getElem?_map, List.getD_eq_getElem?_getD, List.getElem?_eq_getElem h]
  rfl
theorem rows_D2 (lots : List (List Nat)) (m : Nat) : (lots.map rowN).getD m [] = rowN (lots.getD m []) := by
  rw [List.getD_eq_getElem?_getD, List.getD_eq_getElem?_getD, List.getElem?_map]
  cases lots[m]? <;> rfl
theorem ixN_n {n i : Nat} (h : i < n) : ixN n (i : Int) = some i := by
  unfold ixN
  rw [if_pos (by omega), if_pos (by omega), Int.toNat_natCast]
theorem leN_D (xs : List (List Nat)) {K : PySem.W.Frag} {Q : D → Prop} (k : Q (.list ((xs.mergeSort leN).map natsD))) : CbD (rSrD K) [.list (xs.map natsD)] Q := cbd_sortN k
theorem sx_B (K : PySem.W.Frag) {p : Pb} {m : Nat} {L : List (List Nat)} {S0 : Stt} {kt : D} {k : Nat} (ok0 : Pu.Ok S0) (kn : Kn p m L) : SX (T_B K) [.emp, .st S0, .val (lsD p), .val (fsD p), .val (.int p.r), .val kt, .val (.tuple [.str (Str.ofString "rooms"), lotsD (srt L), trD (trO p m)]), .val (.int (k : Int)), .emp, .emp, .emp, .emp, .emp, .emp, .emp, .emp] { nx := fun ρ' => ∃ S' T, Pu.Ok S' ∧ Shw T ∧ ρ' = [.emp, .st S', .val (lsD p), .val (fsD p), .val (.int p.r), .val kt, .val (.tuple [.str (Str.ofString "rooms"), lotsD (srt L), trD (trO p m)]), .emp, .val (toD T), .emp, .emp, .emp, .emp, .emp, .emp, .emp], rt := fun _ _ => False } := by
  obtain ⟨bn, sl, m8, s8⟩ := kn_bn kn
  have sne := kn_ne kn
  obtain ⟨t1, t2, t3⟩ := trO_ok kn.sz m
  have n8 := kn.sz.np
  have pnl : p.ls.length ≤ 8 := n8
  unfold T_B lotsD
  generalize srt L = lots at *
  generalize trO p m = o at *
  refine sx_seq (sx_parNV (by decide) (en_grid ?_))
  walk_at "es"
  refine ⟨lots.map rowN, by rw [rows_D], by rw [List.length_map]; omega, by simp, ?_⟩
  walk_at "es"
  refine ⟨8, rfl, by omega, by omega, ok0, fun kd S1 k0 k1 ok1 => ?_⟩
  refine nx_seq ?_
  walk_at "w"
  refine sx_seq (sx_asg ?_)
  refine ex_callS rfl ?_
  refine ea_cons (ex_cb (ea_cons (ex_int (ea_cons (ex_lenG rfl (ea_nil ?_))))))
  walk_at "es"
  rw [List.length_map]
  refine ⟨max 1 (lots.length : Int), rfl, by omega, by omega, ok1, fun ai S2 a0 a1 ok2 => ?_⟩
  obtain ⟨ai, rfl⟩ : ∃ i : Nat, ai = (i : Int) := ⟨ai.toNat, by omega⟩
  refine nx_seq ?_
  walk_at "w"
  refine sx_seqJ (fun ρ' => ∃ S' lots' o', Pu.Ok S' ∧ Bnr lots' o' ∧ (ρ' = [.emp, .st S', .val (lsD p), .val (fsD p), .val (.int p.r), .val kt, .val (.tuple [.str (Str.ofString "rooms"), .list (lots.map natsD), trD o]), .emp, .emp, .val (.list (lots'.map natsD)), .val (trD o'), .emp, .emp, .emp, .emp, .emp] ∨ ρ' = [.emp, .st S', .val (lsD p), .val (fsD p), .val (.int p.r), .val kt, .val (.tuple [.str (Str.ofString "rooms"), .list (lots.map natsD), trD o]), .emp, .emp, .own (lots'.map natsD), .val (trD o'), .emp, .emp, .emp, .emp, .emp])) ?_ ?_
  · refine sx_if (et_val (decide (kd < 3) || decide (lots.length = 0)) ?_ ?_)
    · refine et_or ?_
      walk_at "es"
      refine ⟨fun hb => by rw [hb]; exact ⟨rfl, rfl⟩, fun hb => ?_⟩
      rw [hb, Bool.false_or]
      refine et_test (ex_op (ex_lenG rfl ?_))
      walk_at "es"
      rw [List.length_map]
      exact ⟨decide_eq_decide.mpr (by omega), rfl⟩
    refine ⟨fun _ => ?_, fun hb => ?_⟩
    · refine sx_frzG 9 (by decide) rfl ?_
      rw [rows_D]
      walk_at "w"
      refine sx_asg ?_
      refine ex_callS rfl ?_
      unfold lsD
      walk_at "es"
      rw [List.length_map]
      refine ⟨p.ls.length, o, rfl, by omega, t1, by omega, ok2, fun t S3 ok3 bt => ?_⟩
      walk_at "w"
      refine ⟨_, ?_, S3, lots, some t, ok3, bn_tr bn (fun u hu => by cases hu; exact ⟨bt.s, bt.b⟩) (by have := bt.h; show hT t ≤ 10; omega) (by have := bt.z; show szT t ≤ 5000000; omega), .inl rfl⟩
      walk_at "le"
    rw [Bool.or_eq_false_iff] at hb
    have lp : 0 < lots.length := by have := of_decide_eq_false hb.2; omega
    have al : ai < lots.length := by omega
    refine sx_if (et_val (decide (kd = 3)) (by walk_at "es"; exact ⟨rfl, rfl⟩) ⟨fun _ => ?_, fun _ => ?_⟩)
    · refine sx_grdOwn 9 (by decide) rfl ?_
      rw [rows_D]
      walk_at "w"
      have lb := s8 (lots.getD ai []) (by rw [List.getD_eq_getElem?_getD, List.getElem?_eq_getElem al]; exact List.getElem_mem al)
      have at1 := lots_at al
      generalize hr : lots.getD ai [] = row at lb at1
      refine sx_setO (es := lots.map natsD) ?_
      refine ex_sl (ex_ixO rfl ?_)
      walk_at "es"
      refine ⟨_, _, _, rfl, rfl, at1, ?_⟩
      unfold natsD
      walk_at "es"
      rw [show (1 : Int) = ((1 : Nat) : Int) from rfl, cut_drop]
      refine ⟨rfl, ?_⟩
      walk_at "es"
      refine ⟨_, _, ai, rfl, rfl, by rw [List.length_map]; exact ixN_n al, ?_⟩
      walk_at "w"
      refine ⟨_, ?_, S2, lots.set ai (row.drop 1), o, ok2, bn_set bn ai ⟨by rw [List.length_drop]; omega, fun x hx => lb.2 x (List.mem_of_mem_drop hx)⟩, .inr rfl⟩
      rw [List.map_set]
      walk_at "le"
    refine sx_if (et_val (decide (kd = 4)) (by walk_at "es"; exact ⟨rfl, rfl⟩) ⟨fun _ => ?_, fun _ => ?_⟩)
    · refine sx_frzG 9 (by decide) rfl ?_
      rw [rows_D]
      walk_at "w"
      refine sx_asg ?_
      walk_at "es"
      refine ⟨_, ?_, S2, lots.reverse, o, ok2, bn_of bn (by rw [List.length_reverse]; omega) fun l hl => bn.l l (List.mem_reverse.mp hl), .inl rfl⟩
      rw [List.map_reverse]
      walk_at "w"
      walk_at "le"
    refine sx_if (et_val (decide (kd = 5)) (by walk_at "es"; exact ⟨rfl, rfl⟩) ⟨fun _ => ?_, fun _ => ?_⟩)
    · obtain ⟨x, rest, hx⟩ := row_head (sne (lots.getD ai []) (by rw [List.getD_eq_getElem?_getD, List.getElem?_eq_getElem al]; exact List.getElem_mem al))
      have lb := s8 (lots.getD ai []) (by rw [List.getD_eq_getElem?_getD, List.getElem?_eq_getElem al]; exact List.getElem_mem al)
      rw [hx, List.length_cons] at lb
      have hr := rows_at al
      rw [hx] at hr
      refine sx_seq (sx_movG rfl (fun r hr => ?_) ?_)
      · obtain ⟨l, hl, rfl⟩ := List.mem_map.mp hr
        have := (s8 l hl).1
        unfold rowN
        rw [List.length_map]
        omega
      refine ex_callS rfl ?_
      refine ea_cons ?_
      refine ex_lenG rfl ?_
      refine ea_nil ?_
      rw [List.length_map]
      refine ⟨_, rfl, (lots.length : Int), rfl, by omega, by omega, ok2, fun ri S3 r0 r1 ok3 => ?_⟩
      obtain ⟨ri, rfl⟩ : ∃ i : Nat, ri = (i : Int) := ⟨ri.toNat, by omega⟩
      have rl : ri < lots.length := by omega
      refine ⟨(ri : Int), ri, rfl, rfl, by first | exact ixN_n rl | (rw [List.length_map]; exact ixN_n rl), ?_⟩
      refine ex_var rfl ?_
      refine ⟨(ai : Int), ai, some (x : Int), rowN rest, rfl, rfl, by first | exact ixN_n al | (rw [List.length_map]; exact ixN_n al), hr, ?_⟩
      rw [map_set_row, rows_D2, show rowN ((lots.set ai rest).getD ri []) ++ [some (x : Int)] = rowN ((lots.set ai rest).getD ri [] ++ [x]) by unfold rowN; rw [List.map_append]; rfl, map_set_row]
      have b1 : Bnr (lots.set ai rest) o := bn_set bn ai ⟨by omega, fun y hy => lb.2 y (by simp [hy])⟩
      have rl1 : ri < (lots.set ai rest).length := by rw [List.length_set]; exact rl
      have lb2 : ((lots.set ai rest).getD ri []).length ≤ 8 ∧ ∀ y ∈ (lots.set ai rest).getD ri [], y < 100 := by
        have m1 : (lots.set ai rest).getD ri [] ∈ lots.set ai rest := by
          rw [List.getD_eq_getElem?_getD, List.getElem?_eq_getElem rl1]
          exact List.getElem_mem rl1
        rcases List.mem_or_eq_of_mem_set m1 with q | q
        · exact s8 _ q
        · rw [q]; exact ⟨by omega, fun y hy => lb.2 y (by simp [hy])⟩
      have b2 : Bnr ((lots.set ai rest).set ri ((lots.set ai rest).getD ri [] ++ [x])) o := bn_set b1 ri ⟨by rw [List.length_append]; show _ + 1 ≤ 20; omega, fun y hy => by
        rcases List.mem_append.mp hy with q | q
        · exact lb2.2 y q
        · rw [List.mem_singleton.mp q]; exact lb.2 x (by simp)⟩
      have bl : ((lots.set ai rest).set ri ((lots.set ai rest).getD ri [] ++ [x])).length ≤ 20 := b2.n
      generalize (lots.set ai rest).set ri ((lots.set ai rest).getD ri [] ++ [x]) = lots2 at b2 bl ⊢
      refine nx_seq ?_
      refine sx_frzG 9 (by decide) rfl ?_
      rw [rows_D]
      walk_at "w"
      refine sx_asg ?_
      walk_at "es"
      refine ex_of (eo_lcP (α := List Nat) (fun _ => true) (fun l => natsD (sN l)) (ei_list ?_))
      walk_at "es"
      refine ⟨by omega, fun i hi => by simp at hi; subst hi; rfl, fun l hl => sg_name (by simp) ⟨rfl, ?_⟩, ?_⟩
      · rw [natsD_eq l]
        walk_at "w"
        refine et_yes ⟨rfl, rfl, fun _ => ?_⟩
        walk_at "es"
        refine cbd_sortI ?_
        rw [sN_D]
        exact ⟨rfl, rfl⟩
      rw [sorted_D]
      walk_at "es"
      refine cbd_sortN ?_
      rw [show (lots2.map sN).mergeSort leN = srt lots2 from rfl]
      walk_at "w"
      refine ⟨_, ?_, S3, srt lots2, o, ok3, srt_bn b2, .inl rfl⟩
      walk_at "le"
    refine sx_if (et_val (decide (kd = 6)) (by walk_at "es"; exact ⟨rfl, rfl⟩) ⟨fun _ => ?_, fun _ => ?_⟩)
    · have lb := s8 (lots.getD ai []) (by rw [List.getD_eq_getElem?_getD, List.getElem?_eq_getElem al]; exact List.getElem_mem al)
      have at1 := lots_at al
      generalize lots.getD ai [] = row at lb at1
      unfold natsD at at1
      refine sx_frzG 9 (by decide) rfl ?_
      rw [rows_D]
      walk_at "w"
      have tl : (lots.take ai).length ≤ 8 := by rw [List.length_take]; omega
      have dl : (lots.drop (ai + 1)).length ≤ 8 := by rw [List.length_drop]; omega
      refine sx_asg ?_
      walk_at "es"
      rw [cut_n]
      walk_at "es"
      rw [show ((ai : Int) + 1) = ((ai + 1 : Nat) : Int) from rfl, cut_drop]
      refine opd_plusL (by rw [List.length_map, List.length_map]; omega) ?_
      walk_at "es"
      refine ex_of (eo_lcP (α := Nat) (fun _ => true) (fun x => natsD [x]) (ei_list ?_))
      walk_at "es"
      refine opd_ixL at1 ?_
      refine ⟨_, rfl, row, fun k : Nat => .int (k : Int), rfl, by omega, fun i hi => by simp at hi; subst hi; rfl, fun x hx => sg_name (by simp) ⟨rfl, ?_⟩, ?_⟩
      · walk_at "w"
        refine et_yes ⟨rfl, rfl, fun _ => ?_⟩
        walk_at "es"
        exact ⟨rfl, rfl⟩
      rw [filt_all, show (row.map fun x => natsD [x]) = (row.map fun x => [x]).map natsD by rw [List.map_map]; rfl, ← List.map_append]
      refine opd_plusL (by rw [List.length_map, List.length_map, List.length_map, List.length_append]; omega) ?_
      rw [← List.map_append]
      walk_at "es"
      refine cbd_sortN ?_
      walk_at "w"
      refine ⟨_, ?_, S2, (lots.take ai ++ lots.drop (ai + 1) ++ row.map fun x => [x]).mergeSort leN, o, ok2, bn_of bn ?_ fun l hl => ?_, .inl rfl⟩
      · walk_at "le"
      · rw [(List.mergeSort_perm _ _).length_eq, List.length_append, List.length_append, List.length_map, List.length_take, List.length_drop]
        omega
      · have hl := (List.mergeSort_perm _ _).mem_iff.mp hl
        rcases List.mem_append.mp hl with q | q
        · rcases List.mem_append.mp q with q | q
          · exact bn.l l (List.mem_of_mem_take q)
          · exact bn.l l (List.mem_of_mem_drop q)
        · obtain ⟨x, hx, rfl⟩ := List.mem_map.mp q
          exact ⟨by simp, fun y hy => by rw [List.mem_singleton.mp hy]; exact lb.2 x hx⟩
    · refine sx_frzG 9 (by decide) rfl ?_
      rw [rows_D]
      walk_at "w"
      refine sx_asg ?_
      walk_at "es"
      refine ⟨_, ?_, S2, lots, none, ok2, bn_tr bn (fun u hu => by cases hu) (by show 0 ≤ 10; omega) (by show 0 ≤ 5000000; omega), .inl rfl⟩
      walk_at "w"
      walk_at "le"
  rintro ρ' ⟨S3, lots', o', ok3, b3, h3⟩
  have fin : SX (tAsg (tIf (tTest (tOp (rI0 fun i j => .bl (decide (j < i))) (tCall (spS R_take) [] E0 (tCons (tVar 1) (tCons (tC (.int 12)) tNil))) (tC (.int 0)))) (tTup (tCons (tC (.str "rooms")) (tCons (tVar 9) (tCons (tVar 10) tNil)))) (tTup (tCons (tC (.str "heavy")) (tCons (tC (.int 0)) tNil)))) (gName 8)) [.emp, .st S3, .val (lsD p), .val (fsD p), .val (.int p.r), .val kt, .val (.tuple [.str (Str.ofString "rooms"), .list (lots.map natsD), trD o]), .emp, .emp, .val (.list (lots'.map natsD)), .val (trD o'), .emp, .emp, .emp, .emp, .emp] { nx := fun ρ' => ∃ S' T, Pu.Ok S' ∧ Shw T ∧ ρ' = [.emp, .st S', .val (lsD p), .val (fsD p), .val (.int p.r), .val kt, .val (.tuple [.str (Str.ofString "rooms"), .list (lots.map natsD), trD o]), .emp, .val (toD T), .emp, .emp, .emp, .emp, .emp, .emp, .emp], rt := fun _ _ => False } := by
    refine sx_asg (ex_if (et_test (ex_op ?_)))
    refine ex_callS rfl ?_
    walk_at "es"
    refine ⟨12, rfl, by omega, by omega, ok3, fun c S4 c0 c1 ok4 => ?_⟩
    walk_at "es"
    refine ⟨fun _ => ?_, fun _ => ?_⟩
    · walk_at "es"
      refine ⟨_, ?_, S4, .rooms lots' o', ok4, bn_shw b3, rfl⟩
      unfold toD lotsD
      walk_at "w"
      walk_at "le"
    · walk_at "es"
      refine ⟨_, ?_, S4, .heavy ((0 : Nat) : Int), ok4, hv_shw (by omega), rfl⟩
      unfold toD
      walk_at "w"
      walk_at "le"
  rcases h3 with rfl | rfl
  · exact fin
  · refine sx_freeze 9 rfl ?_
    exact fin
end Law_k64
namespace Law_k64
open PySem L2 Pu
local macro_rules | `(tactic| walk_at "e") => `(tactic| first
  | ((with_reducible refine nx_seq ?_); (try dsimp only [List.set_cons_succ, List.set_cons_zero]))
  | ((with_reducible refine ex_vr ?_); dsimp only [VQ, List.set_cons_succ, List.set_cons_zero, List.getElem?_cons_zero, List.getElem?_cons_succ]; (fail_if_success (with_reducible show False)))
  | (with_reducible refine sx_seq ?_)
  | (with_reducible refine sx_if ?_)
  | (with_reducible refine sx_next ?_)
  | (with_reducible refine sx_ret ?_)
  | ((fail_if_success (with_reducible refine sx_asgO (eo_lst ?_))); (with_reducible refine sx_asg ?_))
  | (with_reducible refine ex_int ?_)
  | (with_reducible refine ex_str ?_)
  | (with_reducible refine ex_bl ?_)
  | (with_reducible refine ex_non ?_)
  | (with_reducible refine ex_op ?_)
  | (with_reducible refine ex_un ?_)
  | (with_reducible refine ex_chain ?_)
  | (with_reducible refine ex_call ?_)
  | (with_reducible refine ex_isT ?_)
  | (with_reducible refine ex_cb ?_)
  | (with_reducible refine ex_sl ?_)
  | (with_reducible refine ex_tup ?_)
  | (with_reducible refine ex_if ?_)
  | (with_reducible refine ex_of (eo_lst ?_))
  | (with_reducible refine ex_notV ?_)
  | (with_reducible refine ea_nil ?_)
  | (with_reducible refine ea_cons ?_)
  | (with_reducible refine ep_no ?_)
  | (with_reducible refine ep_some ?_)
  | (with_reducible refine et_test ?_)
  | (with_reducible refine et_B ?_)
  | (with_reducible refine et_ch3 ?_)
  | (with_reducible refine et_and ?_)
  | (with_reducible refine et_or ?_)
  | (with_reducible refine et_not ?_)
  | (with_reducible refine et_yes ?_)
  | (with_reducible refine et_truL ?_)
  | (with_reducible refine opd_plusI ?_)
  | (with_reducible refine opd_I0 ?_)
  | (with_reducible refine opd_B0 ?_)
  | (with_reducible refine opd_eqI ?_)
  | (with_reducible refine opd_neI ?_)
  | (with_reducible refine opd_eqS ?_)
  | (with_reducible refine opd_neS ?_)
  | (with_reducible refine opd_is ?_)
  | (with_reducible refine opd_isnt ?_)
  | (with_reducible refine opd_ixT rfl ?_)
  | (with_reducible refine opd_ixL rfl ?_)
  | (with_reducible refine und_neg ?_)
  | (with_reducible refine cbd_lenL ?_)
  | (with_reducible refine cbd_lenT ?_)
  | (with_reducible refine cbd_min2 ?_)
  | (with_reducible refine cbd_max2 ?_)
  | (with_reducible refine cbd_abs ?_)
  | (with_reducible refine cbd_int ?_)
  | (with_reducible refine cbd_tupL ?_)
  | (with_reducible refine cbd_listL ?_)
  | (with_reducible refine cbd_listT ?_)
  | (with_reducible refine cbd_sum ?_)
  | (with_reducible refine sld_T ?_)
  | (with_reducible refine sld_L ?_)
  | (with_reducible refine ex_revL ?_)
  | (with_reducible refine ex_bmL ?_)
  | (with_reducible refine ex_andV ?_)
  | (with_reducible refine ei_list ?_)
  | (with_reducible refine ei_rng1 ?_)
  | (with_reducible refine ei_rng2 ?_)
  | (with_reducible refine ei_enum ?_)
  | (with_reducible refine ei_enumT ?_)
  | (with_reducible refine ei_zip ?_)
  | (with_reducible refine sx_par ?_)
  | (with_reducible refine Exists.intro _ (And.intro rfl ?_))
  | (with_reducible refine Exists.intro _ (Exists.intro _ (And.intro rfl ?_)))
  | ((with_reducible show EX (tCall (spS _) [] _ (tCons (tVar _) _)) _ _); refine ex_callS rfl ?_)
  | ((with_reducible refine And.intro (show (_ : Nat) ≤ 100000 from ?_) ?_); (focus (simp; done)))
  | ((with_reducible refine opd_I ?_ ?_); focus (first | omega | (show CDiv _ _; exact ⟨by omega, by omega⟩) | (show CMul _ _; first | exact Or.inl ⟨by omega, by omega⟩ | exact Or.inr ⟨by omega, by omega⟩))))
local macro_rules | `(tactic| walk_at "es") => `(tactic| repeat walk_at "e")
local macro_rules | `(tactic| walk_at "w") => `(tactic| try dsimp only [wipeE, List.foldl_cons, List.foldl_nil, List.set_cons_succ, List.set_cons_zero])
local macro_rules | `(tactic| walk_at "le") => `(tactic| repeat' first | exact LeE.nil | (refine LeE.eq rfl ?_) | (refine LeE.emp ?_) | (refine LeE.eq ?_ ?_))
local macro_rules | `(tactic| walk_at "no") => `(tactic| ((refine And.intro (fun hb => absurd hb ?_) (fun _ => ?_)); (focus (first | (exact Bool.false_ne_true) | (simp; done) | (simp; omega) | (simp only [decide_eq_true_eq]; omega)))))
local macro_rules | `(tactic| walk_at "yes") => `(tactic| ((refine And.intro (fun _ => ?_) (fun hb => absurd hb ?_)); (rotate_left); (focus (first | (exact Bool.noConfusion) | (simp; done) | (simp; omega) | (simp only [decide_eq_false_iff_not]; omega)))))
local macro_rules | `(tactic| walk_at "ei") => `(tactic| repeat ((fail_if_success (with_reducible show SX (tSeq (tIfS _ _ _) _) _ _)); (fail_if_success (with_reducible show SX (tIfS _ _ _) _ _)); (fail_if_success (with_reducible show SX (tSeq (tAsg (tIf _ _ _) _) _) _ _)); walk_at "e"))
local macro_rules | `(tactic| walk_at "tv") => `(tactic| repeat' first | walk_at "e" | ((with_reducible show (_ = true → _) ∧ (_ = false → _)); refine And.intro (fun _ => ?_) (fun _ => ?_)))
/-! ### the law -/
def R_law : List D → (D → Prop) → Prop := fun vs Z => ∃ ns : List Int, vs = [.list (ns.map .int)] ∧ Z (.bool true)
theorem path_dp (path : List (Nat × Nat)) : DpN 3 (pathD path) := dpn_list (dpn_map fun x _ => dpn_tup (dpn_cons dpn_int (dpn_cons dpn_int dpn_nil)))
theorem flt_dp : ∀ f : Fl, DpN 4 (fltD f)
  | none => dpn_non
  | some f => dpn_tup (dpn_cons dpn_str (dpn_cons (path_dp f.2) dpn_nil))
theorem tree_dp : ∀ f : Fl, DpN 5 (treeD f)
  | none => dpn_non
  | some f => dpn_tup (dpn_cons dpn_str (dpn_cons (flt_dp (some f)) dpn_nil))
theorem end_dp (p : Pb) (lots : List (List Nat)) : ∀ o, DpN 5 (endD p lots o)
  | none => by
    show DpN 5 (if lots = [] then _ else _)
    split
    · exact dpn_non
    · exact dpn_tup (dpn_cons dpn_str (dpn_cons dpn_non dpn_nil))
  | some t => by
    show DpN 5 (if lots = [] then _ else _)
    split
    · exact dpn_tup (dpn_cons dpn_str (dpn_cons dpn_non dpn_nil))
    · exact tree_dp _
theorem room_dp {p : Pb} {lots : List (List Nat)} {i : Nat} {d : D} (h : roomO p lots i = some d) : DpN 5 d := by
  unfold roomO at h
  split at h
  · cases h
    exact dpn_tup (dpn_cons dpn_str (dpn_cons dpn_int dpn_nil))
  · obtain ⟨q, _, rfl⟩ := Option.map_eq_some_iff.mp h
    exact dpn_tup (dpn_cons dpn_str (dpn_cons dpn_int (dpn_cons dpn_int dpn_nil)))
theorem one_dp (s : String) : DpN 5 (oneD s) := dpn_tup (dpn_cons dpn_str dpn_nil)
theorem sf_dp5 (p : Pb) : ∀ T, DpN 5 (sfD p T)
  | .heavy a => by
    rw [sfD_h]
    split
    · exact dpn_non
    · exact one_dp _
  | .rooms lots tr => by
    rw [sfD_r]
    split
    · exact one_dp _
    split
    · cases e : (List.range lots.length).findSome? (roomO p lots) with
      | none => exact end_dp p lots tr
      | some d =>
        obtain ⟨i, _, hi⟩ := List.exists_of_findSome?_eq_some e
        exact room_dp hi
    · exact one_dp _
theorem sf_dp (p : Pb) (T : To) : (sfD p T).depth ≤ 60 := Nat.le_trans (sf_dp5 p T) (by decide)
theorem sx_ext {t : TS} {ρ : Pu.Env} {J : Pu.Env → Prop} {P : Po} (h : SX t ρ { nx := J, rt := fun _ _ => False }) (k : ∀ ρ1, J ρ1 → P.nx ρ1) : SX t ρ P := fun B σ F H w Dn n r b c => h B σ F H w Dn (fun ρ' σ' F' H' q w' => n ρ' σ' F' H' (k ρ' q) w') (fun _ _ _ _ _ _ q => q.elim) (fun _ _ _ _ q => q.elim) (fun _ _ _ _ q => q.elim)
theorem sx_E (K : PySem.W.Frag) {p : Pb} {S0 : Stt} {T : To} {kt td : D} (sz : Sz p) (sh : Shw T) : SX (T_E K) [.emp, .st S0, .val (lsD p), .val (fsD p), .val (.int p.r), .val kt, .val td, .emp, .val (toD T), .emp, .emp, .emp, .emp, .emp, .emp, .emp] { nx := fun ρ' => ρ' = [.emp, .st S0, .val (lsD p), .val (fsD p), .val (.int p.r), .val kt, .val td, .emp, .emp, .emp, .emp, .emp, .emp, .emp, .emp, .emp], rt := fun _ _ => False } := by
  unfold T_E
  refine sx_seq (sx_asg ?_)
  walk_at "es"
  refine cbd_repr (d := toD T) sh.sh (by decide) sh.dp ?_
  generalize hts : (toD T).shown = ts
  refine nx_seq ?_
  walk_at "w"
  refine sx_if (et_val false ?_ ⟨(fun q => by cases q), fun _ => sx_next ⟨_, by walk_at "le", rfl⟩⟩)
  walk_at "es"
  refine ⟨p, T, rfl, sz, sh.s, ?_⟩
  walk_at "es"
  refine ⟨p, T, rfl, sz, sh.s, ?_⟩
  refine opd_neSelf (sf_dp p T) ?_
  refine ⟨_, rfl, (fun q => by cases q), fun _ => ?_⟩
  walk_at "es"
  refine cbd_repr (d := toD T) sh.sh (by decide) sh.dp ?_
  rw [hts]
  walk_at "es"
  exact ⟨by simp, rfl⟩
theorem sx_A (K : PySem.W.Frag) {p : Pb} {S0 : Stt} {kt : D} {a k : Nat} (ok0 : Pu.Ok S0) (ha : a < 90) : SX (T_A K) [.emp, .st S0, .val (lsD p), .val (fsD p), .val (.int p.r), .val kt, .val (.tuple [.str (Str.ofString "heavy"), .int (a : Int)]), .val (.int (k : Int)), .emp, .emp, .emp, .emp, .emp, .emp, .emp, .emp] { nx := fun ρ' => ∃ S' T, Pu.Ok S' ∧ Shw T ∧ ρ' = [.emp, .st S', .val (lsD p), .val (fsD p), .val (.int p.r), .val kt, .val (.tuple [.str (Str.ofString "heavy"), .int (a : Int)]), .emp, .val (toD T), .emp, .emp, .emp, .emp, .emp, .emp, .emp], rt := fun _ _ => False } := by
  unfold T_A
  refine sx_asg (ex_op (ex_of (eo_lst ?_)))
  walk_at "es"
  refine ⟨2, rfl, by omega, by omega, ok0, fun c S1 c0 c1 ok1 => ?_⟩
  rcases (by omega : c = 0 ∨ c = 1) with rfl | rfl
  · refine opd_ixL rfl ?_
    refine ⟨_, ?_, S1, .heavy ((a + 1 : Nat) : Int), ok1, hv_shw (by omega), rfl⟩
    unfold toD
    walk_at "w"
    walk_at "le"
  · refine opd_ixL rfl ?_
    refine ⟨_, ?_, S1, .rooms [] none, ok1, bn_shw ⟨by simp, (fun l hl => by cases hl), (fun t ht => by cases ht), by show 0 ≤ 10; omega, by show 0 ≤ 5000000; omega⟩, rfl⟩
    unfold toD lotsD
    walk_at "w"
    walk_at "le"
/-- one round of the law's loop -/
def T_R (K : PySem.W.Frag) : TS :=
      (tSeq (tIfS (tTest (tOp (rEqP K) (tOp (rIxA K) (tVar 6) (tC (.int 0))) (tC (.str "heavy")))) (T_A K) (T_B K)) (T_E K))
/-- what store told -/
def Told (p : Pb) (td : D) : Prop := (∃ a : Nat, a < 90 ∧ td = .tuple [.str (Str.ofString "heavy"), .int (a : Int)]) ∨ ∃ m L, Kn p m L ∧ td = .tuple [.str (Str.ofString "rooms"), lotsD (srt L), trD (trO p m)]
theorem sx_R (K : PySem.W.Frag) {p : Pb} {S0 : Stt} {kt td : D} {k : Nat} (sz : Sz p) (ok0 : Pu.Ok S0) (h : Told p td) : SX (T_R K) [.emp, .st S0, .val (lsD p), .val (fsD p), .val (.int p.r), .val kt, .val td, .val (.int (k : Int)), .emp, .emp, .emp, .emp, .emp, .emp, .emp, .emp] { nx := fun ρ' => ∃ S', Pu.Ok S' ∧ ρ' = [.emp, .st S', .val (lsD p), .val (fsD p), .val (.int p.r), .val kt, .val td, .emp, .emp, .emp, .emp, .emp, .emp, .emp, .emp, .emp], rt := fun _ _ => False } := by
  unfold T_R
  refine sx_midP (fun ρ' => ∃ S' T, Pu.Ok S' ∧ Shw T ∧ ρ' = [.emp, .st S', .val (lsD p), .val (fsD p), .val (.int p.r), .val kt, .val td, .emp, .val (toD T), .emp, .emp, .emp, .emp, .emp, .emp, .emp]) ?_ ?_
  · rcases h with ⟨a, ha, rfl⟩ | ⟨m, L, kn, rfl⟩
    · refine sx_if (et_val true ?_ ⟨fun _ => sx_A K ok0 ha, (fun q => by cases q)⟩)
      walk_at "es"
      exact ⟨rfl, rfl⟩
    · refine sx_if (et_val false ?_ ⟨(fun q => by cases q), fun _ => sx_B K ok0 kn⟩)
      walk_at "es"
      exact ⟨decide_eq_false (by decide), rfl⟩
  · rintro ρ1 ⟨S', T, ok, sh, rfl⟩
    exact sx_ext (sx_E K sz sh) fun ρ' q => ⟨S', ok, q⟩
theorem keep_deep2 (p : Pb) : (PyData.tuple [lsD p, fsD p]).depth ≤ 60 := by
  have h1 := depthAll_le (n := 2) (dpn_map (xs := p.ls) (f := encL) fun x _ => dpn_tup (dpn_cons dpn_int (dpn_cons dpn_int dpn_nil)))
  have h2 := depthAll_le (n := 2) (dpn_map (xs := p.fs) (f := encP) fun x _ => dpn_tup (dpn_cons dpn_int (dpn_cons dpn_int dpn_nil)))
  simp only [lsD, fsD, PyData.depth, PyData.depthAll]
  omega
theorem sh_keep2 {p : Pb} (sz : Sz p) (dm : Dm p) : Sh 1000000 (.tuple [lsD p, fsD p]) := by
  have a : Sh (8 * (2 * 2002 + 4 + 2) + 4) (lsD p) := sh_list (sh_map fun l hl => by
    have := dm.l l hl
    exact sh_tup (m := 2) (sh_cons (sh_int (by omega)) (sh_cons (sh_int (by omega)) sh_nil)) (by simp)) (by rw [List.length_map]; exact sz.n)
  have b : Sh (100 * (2 * 2002 + 4 + 2) + 4) (fsD p) := sh_list (sh_map fun q hq => by
    have := dm.f q hq
    exact sh_tup (m := 2) (sh_cons (sh_int (by omega)) (sh_cons (sh_int (by omega)) sh_nil)) (by simp)) (by rw [List.length_map]; exact sz.f)
  exact (sh_tup (m := 2) (sh_cons (a.up (by decide)) (sh_cons b sh_nil)) (by simp)).up (by decide)
/-- the loop, and the last line -/
def T_L (K : PySem.W.Frag) : TS :=
    (tSeq (tFor (iRng1 (tCons (tC (.int 9)) tNil)) (gName 7) (T_R K))
    (tRet (tOp (rEqP K) (tCB (rRepr K) (tCons (tTup (tCons (tVar 2) (tCons (tVar 3) tNil))) tNil)) (tVar 5))))
theorem sx_L (K : PySem.W.Frag) (Z : D → Prop) (z : Z (.bool true)) {p : Pb} {S0 : Stt} {td : D} (sz : Sz p) (dm : Dm p) (ok0 : Pu.Ok S0) (h : Told p td) : SX (T_L K) [.emp, .st S0, .val (lsD p), .val (fsD p), .val (.int p.r), .val (.str (PyData.tuple [lsD p, fsD p]).shown), .val td, .emp, .emp, .emp, .emp, .emp, .emp, .emp, .emp, .emp] { nx := fun _ => Z .none, rt := fun d _ => Z d } := by
  have hR := fun (S1 : Stt) (k : Nat) (ok1 : Pu.Ok S1) => @sx_R K p S1 (.str (PyData.tuple [lsD p, fsD p]).shown) td k sz ok1 h
  unfold T_L
  generalize hkt : (PyData.tuple [lsD p, fsD p]).shown = kt at *
  generalize T_R K = T at *
  refine sx_seq (sx_for (J := [7]) (ei_rng1 ?_))
  walk_at "es"
  refine ⟨by omega, fun k ρ' => ∃ S, Pu.Ok S ∧ ρ' = [.emp, .st S, .val (lsD p), .val (fsD p), .val (.int p.r), .val (.str kt), .val td, .emp, .emp, .emp, .emp, .emp, .emp, .emp, .emp, .emp], ⟨S0, ok0, rfl⟩, ?_, ?_⟩
  · rintro k dd ρ' hd0 ⟨S, ok, rfl⟩
    obtain ⟨hi, rfl⟩ := rng_at hd0
    rw [Int.zero_add]
    refine sg_name (by simp) ?_
    walk_at "w"
    exact sx_ext (hR S k ok) fun ρ1 q => q
  rintro ρ' ⟨S, ok, rfl⟩
  refine nx_seq ?_
  refine sx_ret ?_
  walk_at "es"
  refine cbd_repr (d := .tuple [lsD p, fsD p]) (sh_keep2 sz dm) (by decide) (keep_deep2 p) ?_
  rw [hkt]
  walk_at "es"
  rw [decide_eq_true rfl]
  exact z
end Law_k64
namespace Law_k64
open PySem L2 Pu
local macro_rules | `(tactic| walk_at "e") => `(tactic| first
  | ((with_reducible refine nx_seq ?_); (try dsimp only [List.set_cons_succ, List.set_cons_zero]))
  | ((with_reducible refine ex_vr ?_); dsimp only [VQ, List.set_cons_succ, List.set_cons_zero, List.getElem?_cons_zero, List.getElem?_cons_succ]; (fail_if_success (with_reducible show False)))
  | (with_reducible refine sx_seq ?_)
  | (with_reducible refine sx_if ?_)
  | (with_reducible refine sx_next ?_)
  | (with_reducible refine sx_ret ?_)
  | ((fail_if_success (with_reducible refine sx_asgO (eo_lst ?_))); (with_reducible refine sx_asg ?_))
  | (with_reducible refine ex_int ?_)
  | (with_reducible refine ex_str ?_)
  | (with_reducible refine ex_bl ?_)
  | (with_reducible refine ex_non ?_)
  | (with_reducible refine ex_op ?_)
  | (with_reducible refine ex_un ?_)
  | (with_reducible refine ex_chain ?_)
  | (with_reducible refine ex_call ?_)
  | (with_reducible refine ex_isT ?_)
  | (with_reducible refine ex_cb ?_)
  | (with_reducible refine ex_sl ?_)
  | (with_reducible refine ex_tup ?_)
  | (with_reducible refine ex_if ?_)
  | (with_reducible refine ex_of (eo_lst ?_))
  | (with_reducible refine ex_notV ?_)
  | (with_reducible refine ea_nil ?_)
  | (with_reducible refine ea_cons ?_)
  | (with_reducible refine ep_no ?_)
  | (with_reducible refine ep_some ?_)
  | (with_reducible refine et_test ?_)
  | (with_reducible refine et_B ?_)
  | (with_reducible refine et_ch3 ?_)
  | (with_reducible refine et_and ?_)
  | (with_reducible refine et_or ?_)
  | (with_reducible refine et_not ?_)
  | (with_reducible refine et_yes ?_)
  | (with_reducible refine et_truL ?_)
  | (with_reducible refine opd_plusI ?_)
  | (with_reducible refine opd_I0 ?_)
  | (with_reducible refine opd_B0 ?_)
  | (with_reducible refine opd_eqI ?_)
  | (with_reducible refine opd_neI ?_)
  | (with_reducible refine opd_eqS ?_)
  | (with_reducible refine opd_neS ?_)
  | (with_reducible refine opd_is ?_)
  | (with_reducible refine opd_isnt ?_)
  | (with_reducible refine opd_ixT rfl ?_)
  | (with_reducible refine opd_ixL rfl ?_)
  | (with_reducible refine und_neg ?_)
  | (with_reducible refine cbd_lenL ?_)
  | (with_reducible refine cbd_lenT ?_)
  | (with_reducible refine cbd_min2 ?_)
  | (with_reducible refine cbd_max2 ?_)
  | (with_reducible refine cbd_abs ?_)
  | (with_reducible refine cbd_int ?_)
  | (with_reducible refine cbd_tupL ?_)
  | (with_reducible refine cbd_listL ?_)
  | (with_reducible refine cbd_listT ?_)
  | (with_reducible refine cbd_sum ?_)
  | (with_reducible refine sld_T ?_)
  | (with_reducible refine sld_L ?_)
  | (with_reducible refine ex_revL ?_)
  | (with_reducible refine ex_bmL ?_)
  | (with_reducible refine ex_andV ?_)
  | (with_reducible refine ei_list ?_)
  | (with_reducible refine ei_rng1 ?_)
  | (with_reducible refine ei_rng2 ?_)
  | (with_reducible refine ei_enum ?_)
  | (with_reducible refine ei_enumT ?_)
  | (with_reducible refine ei_zip ?_)
  | (with_reducible refine sx_par ?_)
  | (with_reducible refine Exists.intro _ (And.intro rfl ?_))
  | (with_reducible refine Exists.intro _ (Exists.intro _ (And.intro rfl ?_)))
  | ((with_reducible show EX (tCall (spS _) [] _ (tCons (tVar _) _)) _ _); refine ex_callS rfl ?_)
  | ((with_reducible refine And.intro (show (_ : Nat) ≤ 100000 from ?_) ?_); (focus (simp; done)))
  | ((with_reducible refine opd_I ?_ ?_); focus (first | omega | (show CDiv _ _; exact ⟨by omega, by omega⟩) | (show CMul _ _; first | exact Or.inl ⟨by omega, by omega⟩ | exact Or.inr ⟨by omega, by omega⟩))))
local macro_rules | `(tactic| walk_at "es") => `(tactic| repeat walk_at "e")
local macro_rules | `(tactic| walk_at "w") => `(tactic| try dsimp only [wipeE, List.foldl_cons, List.foldl_nil, List.set_cons_succ, List.set_cons_zero])
local macro_rules | `(tactic| walk_at "le") => `(tactic| repeat' first | exact LeE.nil | (refine LeE.eq rfl ?_) | (refine LeE.emp ?_) | (refine LeE.eq ?_ ?_))
local macro_rules | `(tactic| walk_at "no") => `(tactic| ((refine And.intro (fun hb => absurd hb ?_) (fun _ => ?_)); (focus (first | (exact Bool.false_ne_true) | (simp; done) | (simp; omega) | (simp only [decide_eq_true_eq]; omega)))))
local macro_rules | `(tactic| walk_at "yes") => `(tactic| ((refine And.intro (fun _ => ?_) (fun hb => absurd hb ?_)); (rotate_left); (focus (first | (exact Bool.noConfusion) | (simp; done) | (simp; omega) | (simp only [decide_eq_false_iff_not]; omega)))))
local macro_rules | `(tactic| walk_at "ei") => `(tactic| repeat ((fail_if_success (with_reducible show SX (tSeq (tIfS _ _ _) _) _ _)); (fail_if_success (with_reducible show SX (tIfS _ _ _) _ _)); (fail_if_success (with_reducible show SX (tSeq (tAsg (tIf _ _ _) _) _) _ _)); walk_at "e"))
local macro_rules | `(tactic| walk_at "tv") => `(tactic| repeat' first | walk_at "e" | ((with_reducible show (_ = true → _) ∧ (_ = false → _)); refine And.intro (fun _ => ?_) (fun _ => ?_)))
theorem head_lt {p : Pb} (h : hvF p ≠ []) : ∃ a : Nat, a < nP p ∧ headH p = (a : Int) := by
  refine ⟨(hvF p).getD 0 0, ?_, rfl⟩
  have m : (hvF p).getD 0 0 ∈ hvF p := by
    cases e : hvF p with
    | nil => exact absurd e h
    | cons x r => simp
  unfold hvF at m
  exact List.mem_range.mp (List.mem_filter.mp m).1
theorem sx_law (K : PySem.W.Frag) (vs : List D) (Z : D → Prop) (h : R_law vs Z) : SX (T_law K R_state R_loads R_store R_sf R_sf R_take (R_bent 10)) (startE N_law vs) { nx := fun _ => Z .none, rt := fun d _ => Z d } := by
  obtain ⟨ns, rfl, z⟩ := h
  show SX (T_law K R_state R_loads R_store R_sf R_sf R_take (R_bent 10)) [.val (.list (ns.map .int)), .emp, .emp, .emp, .emp, .emp, .emp, .emp, .emp, .emp, .emp, .emp, .emp, .emp, .emp, .emp] _
  unfold T_law
  have hL := @sx_L K Z z
  change SX (tSeq _ (tSeq _ (tSeq _ (tSeq _ (tSeq _ (T_L K)))))) _ _
  generalize T_L K = T at hL ⊢
  refine sx_seq (sx_asgN (by decide) ?_)
  walk_at "es"
  refine ⟨ns, rfl, fun S0 ok0 => ?_⟩
  refine nx_seq ?_
  walk_at "w"
  refine sx_seq (sx_asgT (J := [2, 3, 4]) ?_)
  refine ex_callS rfl ?_
  walk_at "es"
  refine ⟨8, rfl, by omega, ok0, fun p S1 sz dm ok1 => ?_⟩
  refine sg_tup rfl (sgs_cons (sg_name (by simp) (sgs_cons (sg_name (by simp) (sgs_cons (sg_name (by simp) (sgs_nil ?_)))))))
  walk_at "w"
  refine nx_seq ?_
  refine sx_seq (sx_asg ?_)
  walk_at "es"
  refine cbd_repr (d := .tuple [lsD p, fsD p]) (sh_keep2 sz dm) (by decide) (keep_deep2 p) ?_
  have fin := fun (td : D) (td' : Told p td) => @hL p S1 td sz dm ok1 td'
  generalize hkt : (PyData.tuple [lsD p, fsD p]).shown = kt at fin ⊢
  refine nx_seq ?_
  walk_at "w"
  refine sx_seq (sx_asg ?_)
  walk_at "es"
  refine ⟨p, rfl, sz, fun hne => ?_, fun he m L m8 l e => ?_⟩
  · have hn := heavy_none hne
    obtain ⟨a, al, ha⟩ := head_lt hne
    have n8 := sz.np
    refine nx_seq ?_
    unfold toD
    rw [ha] at hn ⊢
    walk_at "w"
    refine sx_seq (sx_if (et_val false ?_ ⟨(fun q => by cases q), fun _ => sx_next (nx_seq ?_)⟩))
    · walk_at "es"
      refine ⟨p, .heavy (a : Int), rfl, sz, trivial, ?_⟩
      rw [hn]
      walk_at "es"
      refine ⟨(fun q => by cases q), fun _ => ?_⟩
      walk_at "es"
      refine ⟨p, .heavy (a : Int), rfl, sz, trivial, ?_⟩
      rw [hn]
      walk_at "es"
      exact ⟨rfl, rfl⟩
    refine sx_weak ?_ (fin _ (.inl ⟨a, by omega, rfl⟩))
    walk_at "le"
  · have hw := hv_ok he
    obtain ⟨g, fl⟩ := put_good hw (good0 p m) (rest0 (ord_perm p)) e
    have Ll := way_len sz.ok sz.r.1 (ord_perm p) l g fl
    have gd := gd_of sz.np g fl Ll
    have kn : Kn p m L := ⟨sz, he, l, m8, gd⟩
    have hn : sfD p (.rooms (srt L) (trO p m)) = .none := told_none sz he l gd
    have hs : SaneTo (.rooms (srt L) (trO p m)) := told_sane sz gd (by have := sz.np; omega)
    refine nx_seq ?_
    rw [show (if m = 0 then none else some (prF p (m - 1) (ordF p) [])) = trO p m from rfl]
    unfold toD
    walk_at "w"
    refine sx_seq (sx_if (et_val false ?_ ⟨(fun q => by cases q), fun _ => sx_next (nx_seq ?_)⟩))
    · walk_at "es"
      refine ⟨p, .rooms (srt L) (trO p m), rfl, sz, hs, ?_⟩
      rw [hn]
      walk_at "es"
      refine ⟨(fun q => by cases q), fun _ => ?_⟩
      walk_at "es"
      refine ⟨p, .rooms (srt L) (trO p m), rfl, sz, hs, ?_⟩
      rw [hn]
      walk_at "es"
      exact ⟨rfl, rfl⟩
    refine sx_weak ?_ (fin _ (.inr ⟨m, L, kn, rfl⟩))
    walk_at "le"
end Law_k64
namespace Law_k64
open PySem L2 Pu

def topS (i : Nat) : Stmt := PySem.Challenge.pw_firescore_k64_stores_judged.main.body.getD i (.Pass ⟨0, 0, 0, 0⟩)
abbrev s_may_join : Stmt := topS 1
abbrev s_foe_pair : Stmt := topS 2
abbrev s_with_load : Stmt := topS 4
abbrev s_store : Stmt := topS 5
abbrev s_tree_fault : Stmt := topS 6
abbrev s_store_fault : Stmt := topS 7
abbrev s_l_state : Stmt := topS 9
abbrev s_l_take : Stmt := topS 10
abbrev s_l_loads : Stmt := topS 11
abbrev s_l_join : Stmt := topS 12
abbrev s_l_spots : Stmt := topS 13
abbrev s_l_put : Stmt := topS 14
abbrev s_l_tree_fault : Stmt := topS 15
abbrev s_l_fault : Stmt := topS 16
abbrev s_l_bent_tree : Stmt := topS 17
abbrev s_law : Stmt := topS 18
abbrev s_Rooms_init : Stmt := inClass (topS 3) 0
abbrev s_Rooms_spots : Stmt := inClass (topS 3) 1
abbrev s_Rooms_put : Stmt := inClass (topS 3) 2
abbrev s_Rooms_apart : Stmt := inClass (topS 3) 3
abbrev s_Rooms_prove : Stmt := inClass (topS 3) 4
theorem sc_may_join : FnScope N_may_join ["loads", "foes", "room", "lot", "at"] (defScope s_may_join) := ⟨rfl, rfl, rfl, by decide +kernel, rfl, by decide +kernel, by decide +kernel⟩
theorem sc_foe_pair : FnScope N_foe_pair ["foes", "one", "other"] (defScope s_foe_pair) := ⟨rfl, rfl, rfl, by decide +kernel, rfl, by decide +kernel, by decide +kernel⟩
theorem sc_with_load : FnScope N_with_load ["lots", "one", "at"] (defScope s_with_load) := ⟨rfl, rfl, rfl, by decide +kernel, rfl, by decide +kernel, by decide +kernel⟩
theorem sc_store : FnScope N_store ["loads", "foes", "room"] (defScope s_store) := ⟨rfl, rfl, rfl, by decide +kernel, rfl, by decide +kernel, by decide +kernel⟩
theorem sc_tree_fault : FnScope N_tree_fault ["search", "lots", "many", "path", "tree"] (defScope s_tree_fault) := ⟨rfl, rfl, rfl, by decide +kernel, rfl, by decide +kernel, by decide +kernel⟩
theorem sc_store_fault : FnScope N_store_fault ["loads", "foes", "room", "told"] (defScope s_store_fault) := ⟨rfl, rfl, rfl, by decide +kernel, rfl, by decide +kernel, by decide +kernel⟩
theorem sc_l_state : FnScope N_l_state ["script"] (defScope s_l_state) := ⟨rfl, rfl, rfl, by decide +kernel, rfl, by decide +kernel, by decide +kernel⟩
theorem sc_l_take : FnScope N_l_take ["state", "most"] (defScope s_l_take) := ⟨rfl, rfl, rfl, by decide +kernel, rfl, by decide +kernel, by decide +kernel⟩
theorem sc_l_loads : FnScope N_l_loads ["state", "most"] (defScope s_l_loads) := ⟨rfl, rfl, rfl, by decide +kernel, rfl, by decide +kernel, by decide +kernel⟩
theorem sc_l_join : FnScope N_l_join ["loads", "foes", "room", "lot", "at"] (defScope s_l_join) := ⟨rfl, rfl, rfl, by decide +kernel, rfl, by decide +kernel, by decide +kernel⟩
theorem sc_l_spots : FnScope N_l_spots ["loads", "foes", "room", "lots", "at", "many"] (defScope s_l_spots) := ⟨rfl, rfl, rfl, by decide +kernel, rfl, by decide +kernel, by decide +kernel⟩
theorem sc_l_put : FnScope N_l_put ["lots", "one", "at"] (defScope s_l_put) := ⟨rfl, rfl, rfl, by decide +kernel, rfl, by decide +kernel, by decide +kernel⟩
theorem sc_l_tree_fault : FnScope N_l_tree_fault ["loads", "foes", "room", "lots", "many", "path", "tree"] (defScope s_l_tree_fault) := ⟨rfl, rfl, rfl, by decide +kernel, rfl, by decide +kernel, by decide +kernel⟩
theorem sc_l_fault : FnScope N_l_fault ["loads", "foes", "room", "told"] (defScope s_l_fault) := ⟨rfl, rfl, rfl, by decide +kernel, rfl, by decide +kernel, by decide +kernel⟩
theorem sc_l_bent_tree : FnScope N_l_bent_tree ["state", "many", "tree"] (defScope s_l_bent_tree) := ⟨rfl, rfl, rfl, by decide +kernel, rfl, by decide +kernel, by decide +kernel⟩
theorem sc_law : FnScope N_law ["script"] (defScope s_law) := ⟨rfl, rfl, rfl, by decide +kernel, rfl, by decide +kernel, by decide +kernel⟩
theorem sc_Rooms_init : FnScope N_Rooms_init ["self", "loads", "foes", "room"] (defScope s_Rooms_init) := ⟨rfl, rfl, rfl, by decide +kernel, rfl, by decide +kernel, by decide +kernel⟩
theorem sc_Rooms_spots : FnScope N_Rooms_spots ["self", "lots", "at", "many"] (defScope s_Rooms_spots) := ⟨rfl, rfl, rfl, by decide +kernel, rfl, by decide +kernel, by decide +kernel⟩
theorem sc_Rooms_put : FnScope N_Rooms_put ["self", "lots", "turn", "many"] (defScope s_Rooms_put) := ⟨rfl, rfl, rfl, by decide +kernel, rfl, by decide +kernel, by decide +kernel⟩
theorem sc_Rooms_apart : FnScope N_Rooms_apart ["self", "left"] (defScope s_Rooms_apart) := ⟨rfl, rfl, rfl, by decide +kernel, rfl, by decide +kernel, by decide +kernel⟩
theorem sc_Rooms_prove : FnScope N_Rooms_prove ["self", "lots", "turn", "many"] (defScope s_Rooms_prove) := ⟨rfl, rfl, rfl, by decide +kernel, rfl, by decide +kernel, by decide +kernel⟩
section
variable {P : Program} {w : World} {K : PySem.W.Frag} {mg : Str → Option Value} {base : Heap} {f : Addr} {fd : FuncData} {k : Nat}
theorem ps_may_join {cdv : Value} {A : Around} {outer : List PySem.Env} {s : Shared} {H : Hp} {E : XK} (bn : Bn mg) (hr : Room k (A.deeper (PyProof.Rows.envOfC "may_join" (defScope s_may_join) s.heap.objs.size f cdv))) {R_foe_pair : List D → (D → Prop) → Prop} {k_foe_pair : Nat} (C_foe_pair : Cal P w K mg base "foe_pair" ["foes", "one", "other"] (spP R_foe_pair) k_foe_pair) (h_foe_pair : k_foe_pair ≤ k) :
    PSs (cxOf CX0 P w K mg base N_may_join "may_join" (defScope s_may_join) f cdv A outer s H E).nox (defBody s_may_join) (T_may_join K R_foe_pair) :=
  have nd := sc_may_join.nd
  (pss_cons (ps_if (pt_cmpR op_gt (pe_op op_plus (pe_callB (cr_sum rfl) (by rfl) bn.sum_ (by decide +kernel) (pa_cons (pe_lc (own := [("one", 5)]) (g := (gName 5)) (tt := tYes) rfl nd (pi_list (pv 3)) (blkOk_by (N := N_may_join) (sc := defScope s_may_join) (by decide +kernel)) (fun _ _ _ _ _ => (pg_name (i := 5) nd rfl (by first | exact Or.inl rfl | exact Or.inr rfl))) (fun _ _ _ _ _ => pts_nil) (fun _ _ _ _ _ => (pe_ix ix_any (pe_ix ix_any (pv 0) (pv 5) (fun _ _ => rfl)) pe_int (fun _ _ => rfl)))) pa_nil)) (pe_ix ix_any (pe_ix ix_any (pv 0) (pv 4) (fun _ _ => rfl)) pe_int (fun _ _ => rfl))) (pv 2) (nomark _))
      (pss_one (ps_ret pe_bl))
      pss_nil)
    (pss_one (ps_ret (pe_not (pe_callB (cb_any rfl) (by rfl) bn.any_ (by decide +kernel) (pa_cons (pe_lc (own := [("one", 5)]) (g := (gName 5)) (tt := tYes) rfl nd (pi_list (pv 3)) (blkOk_by (N := N_may_join) (sc := defScope s_may_join) (by decide +kernel)) (fun _ _ _ _ _ => (pg_name (i := 5) nd rfl (by first | exact Or.inl rfl | exact Or.inr rfl))) (fun _ _ _ _ _ => pts_nil) (fun _ _ _ _ _ => (pe_cal C_foe_pair (hr.mono h_foe_pair) (by rfl) (pa_cons (pv 1) (pa_cons (pe_ix ix_any (pe_ix ix_any (pv 0) (pv 5) (fun _ _ => rfl)) pe_int (fun _ _ => rfl)) (pa_cons (pe_ix ix_any (pe_ix ix_any (pv 0) (pv 4) (fun _ _ => rfl)) pe_int (fun _ _ => rfl)) pa_nil)))))) pa_nil))))))
theorem ok_may_join {R : List D → (D → Prop) → Prop} (F : Fun K "may_join" "may_join" s_may_join f fd) (bn : Bn mg) {R_foe_pair : List D → (D → Prop) → Prop} {k_foe_pair : Nat} (C_foe_pair : Cal P w K mg base "foe_pair" ["foes", "one", "other"] (spP R_foe_pair) k_foe_pair) (h_foe_pair : k_foe_pair ≤ k) (len : ∀ ds Z, R ds Z → ds.length = 5) (sx : ∀ ds Z, R ds Z → SX (T_may_join K R_foe_pair) (startE N_may_join ds) { nx := fun _ => Z .none, rt := fun d _ => Z d }) :
    FnOk P w K mg base CX0 (k + 1) f fd ["loads", "foes", "room", "lot", "at"] (spP R) := fn_pure F sc_may_join len fun cdv A outer s H E hr => ⟨_, ps_may_join bn hr C_foe_pair h_foe_pair, sx⟩
theorem ps_foe_pair {cdv : Value} {A : Around} {outer : List PySem.Env} {s : Shared} {H : Hp} {E : XK} (bn : Bn mg) (hr : Room k (A.deeper (PyProof.Rows.envOfC "foe_pair" (defScope s_foe_pair) s.heap.objs.size f cdv))) :
    PSs (cxOf CX0 P w K mg base N_foe_pair "foe_pair" (defScope s_foe_pair) f cdv A outer s H E).nox (defBody s_foe_pair) (T_foe_pair K) :=
  have nd := sc_foe_pair.nd
  (pss_one (ps_ret (pe_cmpR (op_inP hr.units) (pe_tup (pa_cons (pe_callB (cb_min2 rfl) (by rfl) bn.min_ (by decide +kernel) (pa_cons (pv 1) (pa_cons (pv 2) pa_nil))) (pa_cons (pe_callB (cb_max2 rfl) (by rfl) bn.max_ (by decide +kernel) (pa_cons (pv 1) (pa_cons (pv 2) pa_nil))) pa_nil))) (pv 0) (by rfl))))
theorem ok_foe_pair {R : List D → (D → Prop) → Prop} (F : Fun K "foe_pair" "foe_pair" s_foe_pair f fd) (bn : Bn mg) (len : ∀ ds Z, R ds Z → ds.length = 3) (sx : ∀ ds Z, R ds Z → SX (T_foe_pair K) (startE N_foe_pair ds) { nx := fun _ => Z .none, rt := fun d _ => Z d }) :
    FnOk P w K mg base CX0 (k + 1) f fd ["foes", "one", "other"] (spP R) := fn_pure F sc_foe_pair len fun cdv A outer s H E hr => ⟨_, ps_foe_pair bn hr, sx⟩
theorem ps_with_load {cdv : Value} {A : Around} {outer : List PySem.Env} {s : Shared} {H : Hp} {E : XK} (bn : Bn mg) (hr : Room k (A.deeper (PyProof.Rows.envOfC "with_load" (defScope s_with_load) s.heap.objs.size f cdv))) :
    PSs (cxOf CX0 P w K mg base N_with_load "with_load" (defScope s_with_load) f cdv A outer s H E).nox (defBody s_with_load) (T_with_load K) :=
  have nd := sc_with_load.nd
  (pss_cons (ps_if (pt_cmpR (op_eqP hr.units) (pv 1) (pe_callB Pu.cb_len (by rfl) bn.len_ (by decide +kernel) (pa_cons (pv 0) pa_nil)) (nomark _))
      (pss_one (ps_ret (pe_op op_plus (pv 0) (pe_lst (pa_cons (pe_lst (pa_cons (pv 2) pa_nil)) pa_nil)))))
      pss_nil)
    (pss_one (ps_ret (pe_op op_plus (pe_op op_plus (pe_slice sl_any (pv 0) po_none (po_some (pv 1))) (pe_lst (pa_cons (pe_op op_plus (pe_ix ix_any (pv 0) (pv 1) (fun _ _ => rfl)) (pe_lst (pa_cons (pv 2) pa_nil))) pa_nil))) (pe_slice sl_any (pv 0) (po_some (pe_op op_plus (pv 1) pe_int)) po_none)))))
theorem ok_with_load {R : List D → (D → Prop) → Prop} (F : Fun K "with_load" "with_load" s_with_load f fd) (bn : Bn mg) (len : ∀ ds Z, R ds Z → ds.length = 3) (sx : ∀ ds Z, R ds Z → SX (T_with_load K) (startE N_with_load ds) { nx := fun _ => Z .none, rt := fun d _ => Z d }) :
    FnOk P w K mg base CX0 (k + 1) f fd ["lots", "one", "at"] (spP R) := fn_pure F sc_with_load len fun cdv A outer s H E hr => ⟨_, ps_with_load bn hr, sx⟩
theorem ps_store {cdv : Value} {A : Around} {outer : List PySem.Env} {s : Shared} {H : Hp} {E : XK} (bn : Bn mg) (hr : Room k (A.deeper (PyProof.Rows.envOfC "store" (defScope s_store) s.heap.objs.size f cdv))) {C_Rooms : Addr} (O_Rooms : ObF K C_Rooms ["loads", "foes", "room", "order"]) {R_Rooms_init : Stt → List D → (D → Stt → Prop) → Prop} {k_Rooms_init : Nat} (M_Rooms_init : CalC P w K mg base C_Rooms "Rooms" ["self", "loads", "foes", "room"] (spS R_Rooms_init) k_Rooms_init) (h_Rooms_init : k_Rooms_init + 1 ≤ k) {R_Rooms_put : Stt → List D → (D → Stt → Prop) → Prop} {k_Rooms_put : Nat} (M_Rooms_put : CalM P w K mg base C_Rooms "put" ["self", "lots", "turn", "many"] (spS R_Rooms_put) k_Rooms_put) (h_Rooms_put : k_Rooms_put ≤ k) {R_Rooms_prove : Stt → List D → (D → Stt → Prop) → Prop} {k_Rooms_prove : Nat} (M_Rooms_prove : CalM P w K mg base C_Rooms "prove" ["self", "lots", "turn", "many"] (spS R_Rooms_prove) k_Rooms_prove) (h_Rooms_prove : k_Rooms_prove ≤ k) :
    PSs (cxOf CX0 P w K mg base N_store "store" (defScope s_store) f cdv A outer s H E).nox (defBody s_store) (T_store K C_Rooms R_Rooms_init R_Rooms_put R_Rooms_prove) :=
  have nd := sc_store.nd
  (pss_cons (ps_for PassesOwn.never rfl (pi_enum (by rfl) bn.enumerate_ (pa_cons (pv 0) pa_nil)) (pg_tup (n := 2) rfl (pgs_cons (pg_name (i := 3) nd rfl (by first | exact Or.inl rfl | exact Or.inr rfl)) (pgs_cons (pg_name (i := 4) nd rfl (by first | exact Or.inl rfl | exact Or.inr rfl)) pgs_nil)))
      (pss_one (ps_if (pt_cmpR op_gt (pe_ix ix_any (pv 4) pe_int (fun _ _ => rfl)) (pv 2) (nomark _))
      (pss_one (ps_ret (pe_tup (pa_cons pe_str (pa_cons (pv 3) pa_nil)))))
      pss_nil)))
    (pss_cons (ps_set (i := 5) nd rfl (by first | exact Or.inl rfl | exact Or.inr rfl) (pe_mkC M_Rooms_init (hr.mono h_Rooms_init) (by rfl) (pa_cons (pv 0) (pa_cons (pv 1) (pa_cons (pv 2) pa_nil)))))
    (pss_cons (ps_set (i := 6) nd rfl (by first | exact Or.inl rfl | exact Or.inr rfl) pe_int)
    (pss_cons (ps_set (i := 7) nd rfl (by first | exact Or.inl rfl | exact Or.inr rfl) (pe_calM M_Rooms_put O_Rooms (hr.mono h_Rooms_put) (pv 5) (pa_cons (pe_lst pa_nil) (pa_cons pe_int (pa_cons (pv 6) pa_nil)))))
    (pss_cons (ps_while PassesOwn.never (pt_cmpR op_is (pv 7) pe_non (nomark _))
      (pss_cons (ps_set (i := 6) nd rfl (by first | exact Or.inl rfl | exact Or.inr rfl) (pe_op op_plus (pv 6) pe_int))
    (pss_one (ps_set (i := 7) nd rfl (by first | exact Or.inl rfl | exact Or.inr rfl) (pe_calM M_Rooms_put O_Rooms (hr.mono h_Rooms_put) (pv 5) (pa_cons (pe_lst pa_nil) (pa_cons pe_int (pa_cons (pv 6) pa_nil))))))))
    (pss_one (ps_ret (pe_tup (pa_cons pe_str (pa_cons (pe_callB (cb_sortD hr.units) (by rfl) bn.sorted_ (by decide +kernel) (pa_cons (pe_lc (own := [("lot", 8)]) (g := (gName 8)) (tt := tYes) rfl nd (pi_list (pv 7)) (blkOk_by (N := N_store) (sc := defScope s_store) (by decide +kernel)) (fun _ _ _ _ _ => (pg_name (i := 8) nd rfl (by first | exact Or.inl rfl | exact Or.inr rfl))) (fun _ _ _ _ _ => pts_nil) (fun _ _ _ _ _ => (pe_callB (cb_sortD hr.units) (by rfl) bn.sorted_ (by decide +kernel) (pa_cons (pv 8) pa_nil)))) pa_nil)) (pa_cons (pe_ifExp (pt_cmpR (op_eqP hr.units) (pv 6) pe_int (nomark _)) pe_non (pe_calM M_Rooms_prove O_Rooms (hr.mono h_Rooms_prove) (pv 5) (pa_cons (pe_lst pa_nil) (pa_cons pe_int (pa_cons (pe_op op_sub (pv 6) pe_int) pa_nil))))) pa_nil)))))))))))
theorem ok_store {R : List D → (D → Prop) → Prop} (F : Fun K "store" "store" s_store f fd) (bn : Bn mg) {C_Rooms : Addr} (O_Rooms : ObF K C_Rooms ["loads", "foes", "room", "order"]) {R_Rooms_init : Stt → List D → (D → Stt → Prop) → Prop} {k_Rooms_init : Nat} (M_Rooms_init : CalC P w K mg base C_Rooms "Rooms" ["self", "loads", "foes", "room"] (spS R_Rooms_init) k_Rooms_init) (h_Rooms_init : k_Rooms_init + 1 ≤ k) {R_Rooms_put : Stt → List D → (D → Stt → Prop) → Prop} {k_Rooms_put : Nat} (M_Rooms_put : CalM P w K mg base C_Rooms "put" ["self", "lots", "turn", "many"] (spS R_Rooms_put) k_Rooms_put) (h_Rooms_put : k_Rooms_put ≤ k) {R_Rooms_prove : Stt → List D → (D → Stt → Prop) → Prop} {k_Rooms_prove : Nat} (M_Rooms_prove : CalM P w K mg base C_Rooms "prove" ["self", "lots", "turn", "many"] (spS R_Rooms_prove) k_Rooms_prove) (h_Rooms_prove : k_Rooms_prove ≤ k) (len : ∀ ds Z, R ds Z → ds.length = 3) (sx : ∀ ds Z, R ds Z → SX (T_store K C_Rooms R_Rooms_init R_Rooms_put R_Rooms_prove) (startE N_store ds) { nx := fun _ => Z .none, rt := fun d _ => Z d }) :
    FnOk P w K mg base CX0 (k + 1) f fd ["loads", "foes", "room"] (spP R) := fn_pure F sc_store len fun cdv A outer s H E hr => ⟨_, ps_store bn hr O_Rooms M_Rooms_init h_Rooms_init M_Rooms_put h_Rooms_put M_Rooms_prove h_Rooms_prove, sx⟩
theorem ps_tree_fault {cdv : Value} {A : Around} {outer : List PySem.Env} {s : Shared} {H : Hp} {E : XK} (bn : Bn mg) (hr : Room k (A.deeper (PyProof.Rows.envOfC "tree_fault" (defScope s_tree_fault) s.heap.objs.size f cdv))) {C_Rooms : Addr} (O_Rooms : ObF K C_Rooms ["loads", "foes", "room", "order"]) {R_Rooms_spots : Stt → List D → (D → Stt → Prop) → Prop} {k_Rooms_spots : Nat} (M_Rooms_spots : CalM P w K mg base C_Rooms "spots" ["self", "lots", "at", "many"] (spS R_Rooms_spots) k_Rooms_spots) (h_Rooms_spots : k_Rooms_spots ≤ k) {R_tree_fault : Stt → List D → (D → Stt → Prop) → Prop} {k_tree_fault : Nat} (C_tree_fault : Cal P w K mg base "tree_fault" ["search", "lots", "many", "path", "tree"] (spS R_tree_fault) k_tree_fault) (h_tree_fault : k_tree_fault ≤ k) {R_with_load : List D → (D → Prop) → Prop} {k_with_load : Nat} (C_with_load : Cal P w K mg base "with_load" ["lots", "one", "at"] (spP R_with_load) k_with_load) (h_with_load : k_with_load ≤ k) {R_may_join : List D → (D → Prop) → Prop} {k_may_join : Nat} (C_may_join : Cal P w K mg base "may_join" ["loads", "foes", "room", "lot", "at"] (spP R_may_join) k_may_join) (h_may_join : k_may_join ≤ k) :
    PSs (cxOf CX0 P w K mg base N_tree_fault "tree_fault" (defScope s_tree_fault) f cdv A outer s H E).nox (defBody s_tree_fault) (T_tree_fault K C_Rooms R_Rooms_spots R_tree_fault R_with_load R_may_join) :=
  have nd := sc_tree_fault.nd
  (pss_cons (ps_set (i := 5) nd rfl (by first | exact Or.inl rfl | exact Or.inr rfl) (pe_lc2 (own := [("lot", 7), ("at", 6)]) (vs1 := [6]) (g := (gName 7)) (tt := tYes) (wi1 := (iList K (tVar 7))) (g1 := (gName 6)) (tt1 := tYes) (te := (tVar 6)) rfl nd (pi_list (pv 1)) (blkOk_by (N := N_tree_fault) (sc := defScope s_tree_fault) (by decide +kernel)) (by decide) (fun _ _ _ _ _ => (pg_name (i := 7) nd rfl (by first | exact Or.inl rfl | exact Or.inr rfl))) (fun _ _ _ _ _ => pts_nil) (fun _ _ _ _ _ => (pi_list (pv 7))) (fun _ _ _ _ _ => (pg_name (i := 6) nd rfl (by first | exact Or.inl rfl | exact Or.inr rfl))) (fun _ _ _ _ _ => pts_nil) (fun _ _ _ _ _ => (pv 6))))
    (pss_cons (ps_set (i := 8) nd rfl (by first | exact Or.inl rfl | exact Or.inr rfl) (pe_lc (own := [("at", 6)]) (g := (gName 6)) (tt := (tTest (tOp (rNinP K) (tVar 6) (tVar 5)))) rfl nd (pi_range1 (by rfl) bn.range_ (pa_cons (pe_callB Pu.cb_len (by rfl) bn.len_ (by decide +kernel) (pa_cons (pe_fldC O_Rooms (by simp) (pv 0) rfl) pa_nil)) pa_nil)) (blkOk_by (N := N_tree_fault) (sc := defScope s_tree_fault) (by decide +kernel)) (fun _ _ _ _ _ => (pg_name (i := 6) nd rfl (by first | exact Or.inl rfl | exact Or.inr rfl))) (fun _ _ _ _ _ => (pts_one (pt_cmpR (op_ninP hr.units) (pv 6) (pv 5) (by rfl)))) (fun _ _ _ _ _ => (pv 6))))
    (pss_cons (ps_if (pt_cmpR (op_eqP hr.units) (pe_ix ix_any (pv 4) pe_int (fun _ _ => rfl)) pe_str (nomark _))
      (pss_cons (ps_set (i := 9) nd rfl (by first | exact Or.inl rfl | exact Or.inr rfl) (pe_and (pe_notT (pv 1)) (pe_one (pe_cmpR op_gt (pe_callB (cr_sum rfl) (by rfl) bn.sum_ (by decide +kernel) (pa_cons (pe_lc (own := [("load", 10)]) (g := (gName 10)) (tt := tYes) rfl nd (pi_list (pe_fldC O_Rooms (by simp) (pv 0) rfl)) (blkOk_by (N := N_tree_fault) (sc := defScope s_tree_fault) (by decide +kernel)) (fun _ _ _ _ _ => (pg_name (i := 10) nd rfl (by first | exact Or.inl rfl | exact Or.inr rfl))) (fun _ _ _ _ _ => pts_nil) (fun _ _ _ _ _ => (pe_ix ix_any (pv 10) pe_int (fun _ _ => rfl)))) pa_nil)) (pe_op op_mul (pv 2) (pe_fldC O_Rooms (by simp) (pv 0) rfl)) (nomark _)))))
    (pss_one (ps_ret (pe_ifExp (pt_val (pv 9)) pe_non (pe_tup (pa_cons pe_str (pa_cons (pv 3) pa_nil)))))))
      pss_nil)
    (pss_cons (ps_if (pt_cmpR (op_eqP hr.units) (pe_ix ix_any (pv 4) pe_int (fun _ _ => rfl)) pe_str (nomark _))
      (pss_cons (ps_set (i := 11) nd rfl (by first | exact Or.inl rfl | exact Or.inr rfl) (pe_ix ix_any (pv 4) pe_int (fun _ _ => rfl)))
    (pss_cons (ps_if (PW.pt (pw_or (pt_tru (pt_truth (pv 1) (fun _ => rfl))) (pw_or (pt_cmpR (op_neP hr.units) (pv 11) (pe_sortSet rfl (by rfl) bn.sorted_ (by rfl) bn.set_ (pv 11)) (nomark _)) (pw_or (pt_not (pt_val (pe_callB (cb_all rfl) (by rfl) bn.all_ (by decide +kernel) (pa_cons (pe_lc (own := [("at", 6)]) (g := (gName 6)) (tt := tYes) rfl nd (pi_list (pv 11)) (blkOk_by (N := N_tree_fault) (sc := defScope s_tree_fault) (by decide +kernel)) (fun _ _ _ _ _ => (pg_name (i := 6) nd rfl (by first | exact Or.inl rfl | exact Or.inr rfl))) (fun _ _ _ _ _ => pts_nil) (fun _ _ _ _ _ => (pe_cmpR (op_inP hr.units) (pv 6) (pv 8) (by rfl)))) pa_nil)))) (pw_or1 (pt_cmpR op_le (pe_callB Pu.cb_len (by rfl) bn.len_ (by decide +kernel) (pa_cons (pv 11) pa_nil)) (pv 2) (nomark _)))))))
      (pss_one (ps_ret (pe_tup (pa_cons pe_str (pa_cons (pv 3) pa_nil)))))
      pss_nil)
    (pss_cons (ps_for PassesOwn.never rfl (pi_enum (by rfl) bn.enumerate_ (pa_cons (pv 11) pa_nil)) (pg_tup (n := 2) rfl (pgs_cons (pg_name (i := 12) nd rfl (by first | exact Or.inl rfl | exact Or.inr rfl)) (pgs_cons (pg_name (i := 6) nd rfl (by first | exact Or.inl rfl | exact Or.inr rfl)) pgs_nil)))
      (pss_one (ps_if (pt_val (pe_callB (cb_any rfl) (by rfl) bn.any_ (by decide +kernel) (pa_cons (pe_lc (own := [("other", 13)]) (g := (gName 13)) (tt := tYes) rfl nd (pi_list (pe_slice sl_any (pv 11) po_none (po_some (pv 12)))) (blkOk_by (N := N_tree_fault) (sc := defScope s_tree_fault) (by decide +kernel)) (fun _ _ _ _ _ => (pg_name (i := 13) nd rfl (by first | exact Or.inl rfl | exact Or.inr rfl))) (fun _ _ _ _ _ => pts_nil) (fun _ _ _ _ _ => (pe_cal C_may_join (hr.mono h_may_join) (by rfl) (pa_cons (pe_fldC O_Rooms (by simp) (pv 0) rfl) (pa_cons (pe_fldC O_Rooms (by simp) (pv 0) rfl) (pa_cons (pe_fldC O_Rooms (by simp) (pv 0) rfl) (pa_cons (pe_lst (pa_cons (pv 13) pa_nil)) (pa_cons (pv 6) pa_nil)))))))) pa_nil)))
      (pss_one (ps_ret (pe_tup (pa_cons pe_str (pa_cons (pv 3) pa_nil)))))
      pss_nil)))
    (pss_one (ps_ret pe_non)))))
      pss_nil)
    (pss_cons (ps_if (pt_cmpR (op_ninP hr.units) (pe_ix ix_any (pv 4) pe_int (fun _ _ => rfl)) (pv 8) (by rfl))
      (pss_one (ps_ret (pe_tup (pa_cons pe_str (pa_cons (pv 3) pa_nil)))))
      pss_nil)
    (pss_cons (ps_set (i := 14) nd rfl (by first | exact Or.inl rfl | exact Or.inr rfl) (pe_calM M_Rooms_spots O_Rooms (hr.mono h_Rooms_spots) (pv 0) (pa_cons (pv 1) (pa_cons (pe_ix ix_any (pv 4) pe_int (fun _ _ => rfl)) (pa_cons (pv 2) pa_nil)))))
    (pss_cons (ps_if (pt_cmpR (op_neP hr.units) (pe_callB Pu.cb_len (by rfl) bn.len_ (by decide +kernel) (pa_cons (pe_ix ix_any (pv 4) pe_int (fun _ _ => rfl)) pa_nil)) (pe_callB Pu.cb_len (by rfl) bn.len_ (by decide +kernel) (pa_cons (pv 14) pa_nil)) (nomark _))
      (pss_one (ps_ret (pe_tup (pa_cons pe_str (pa_cons (pv 3) pa_nil)))))
      pss_nil)
    (pss_cons (ps_for PassesOwn.never rfl (pi_zip (by rfl) bn.zip_ (pa_cons (pv 14) (pa_cons (pe_ix ix_any (pv 4) pe_int (fun _ _ => rfl)) pa_nil))) (pg_tup (n := 2) rfl (pgs_cons (pg_name (i := 15) nd rfl (by first | exact Or.inl rfl | exact Or.inr rfl)) (pgs_cons (pg_name (i := 16) nd rfl (by first | exact Or.inl rfl | exact Or.inr rfl)) pgs_nil)))
      (pss_cons (ps_set (i := 17) nd rfl (by first | exact Or.inl rfl | exact Or.inr rfl) (pe_cal C_tree_fault (hr.mono h_tree_fault) (by rfl) (pa_cons (pv 0) (pa_cons (pe_cal C_with_load (hr.mono h_with_load) (by rfl) (pa_cons (pv 1) (pa_cons (pv 15) (pa_cons (pe_ix ix_any (pv 4) pe_int (fun _ _ => rfl)) pa_nil)))) (pa_cons (pv 2) (pa_cons (pe_op op_plus (pv 3) (pe_lst (pa_cons (pe_tup (pa_cons (pe_ix ix_any (pv 4) pe_int (fun _ _ => rfl)) (pa_cons (pv 15) pa_nil))) pa_nil))) (pa_cons (pv 16) pa_nil)))))))
    (pss_one (ps_if (pt_cmpR op_isnt (pv 17) pe_non (nomark _))
      (pss_one (ps_ret (pv 17)))
      pss_nil))))
    (pss_one (ps_ret pe_non))))))))))
theorem ok_tree_fault {R : Stt → List D → (D → Stt → Prop) → Prop} (F : Fun K "tree_fault" "tree_fault" s_tree_fault f fd) (bn : Bn mg) {C_Rooms : Addr} (O_Rooms : ObF K C_Rooms ["loads", "foes", "room", "order"]) {R_Rooms_spots : Stt → List D → (D → Stt → Prop) → Prop} {k_Rooms_spots : Nat} (M_Rooms_spots : CalM P w K mg base C_Rooms "spots" ["self", "lots", "at", "many"] (spS R_Rooms_spots) k_Rooms_spots) (h_Rooms_spots : k_Rooms_spots ≤ k) {R_tree_fault : Stt → List D → (D → Stt → Prop) → Prop} {k_tree_fault : Nat} (C_tree_fault : Cal P w K mg base "tree_fault" ["search", "lots", "many", "path", "tree"] (spS R_tree_fault) k_tree_fault) (h_tree_fault : k_tree_fault ≤ k) {R_with_load : List D → (D → Prop) → Prop} {k_with_load : Nat} (C_with_load : Cal P w K mg base "with_load" ["lots", "one", "at"] (spP R_with_load) k_with_load) (h_with_load : k_with_load ≤ k) {R_may_join : List D → (D → Prop) → Prop} {k_may_join : Nat} (C_may_join : Cal P w K mg base "may_join" ["loads", "foes", "room", "lot", "at"] (spP R_may_join) k_may_join) (h_may_join : k_may_join ≤ k) (len : ∀ S ds Z, R S ds Z → ds.length + 1 = 5) (sx : ∀ S ds Z, R S ds Z → SX (T_tree_fault K C_Rooms R_Rooms_spots R_tree_fault R_with_load R_may_join) (.st S :: (ds.map .val ++ List.replicate (N_tree_fault.length - (ds.length + 1)) .emp)) { nx := fun ρ' => ∃ S', ρ'[0]? = some (.st S') ∧ Z .none S', rt := fun d ρ' => ∃ S', ρ'[0]? = some (.st S') ∧ Z d S' }) :
    FnOk P w K mg base CX0 (k + 1) f fd ["search", "lots", "many", "path", "tree"] (spS R) := fn_state F sc_tree_fault len fun cdv A outer s H E hr => ⟨_, ps_tree_fault bn hr O_Rooms M_Rooms_spots h_Rooms_spots C_tree_fault h_tree_fault C_with_load h_with_load C_may_join h_may_join, sx⟩
theorem ps_store_fault {cdv : Value} {A : Around} {outer : List PySem.Env} {s : Shared} {H : Hp} {E : XK} (bn : Bn mg) (hr : Room k (A.deeper (PyProof.Rows.envOfC "store_fault" (defScope s_store_fault) s.heap.objs.size f cdv))) {C_Rooms : Addr} (O_Rooms : ObF K C_Rooms ["loads", "foes", "room", "order"]) {R_tree_fault : Stt → List D → (D → Stt → Prop) → Prop} {k_tree_fault : Nat} (C_tree_fault : Cal P w K mg base "tree_fault" ["search", "lots", "many", "path", "tree"] (spS R_tree_fault) k_tree_fault) (h_tree_fault : k_tree_fault ≤ k) {R_Rooms_init : Stt → List D → (D → Stt → Prop) → Prop} {k_Rooms_init : Nat} (M_Rooms_init : CalC P w K mg base C_Rooms "Rooms" ["self", "loads", "foes", "room"] (spS R_Rooms_init) k_Rooms_init) (h_Rooms_init : k_Rooms_init + 1 ≤ k) {R_foe_pair : List D → (D → Prop) → Prop} {k_foe_pair : Nat} (C_foe_pair : Cal P w K mg base "foe_pair" ["foes", "one", "other"] (spP R_foe_pair) k_foe_pair) (h_foe_pair : k_foe_pair ≤ k) :
    PSs (cxOf CX0 P w K mg base N_store_fault "store_fault" (defScope s_store_fault) f cdv A outer s H E).nox (defBody s_store_fault) (T_store_fault K C_Rooms R_tree_fault R_Rooms_init R_foe_pair) :=
  have nd := sc_store_fault.nd
  (pss_cons (ps_setLc (i := 4) (own := [("at", 5), ("load", 6)]) (g := (gTup K 2 (gCons (gName 5) (gCons (gName 6) gNil)))) (tt := (tTest (tOp (rI0 fun i j => .bl (decide (j < i))) (tOp (rIxA K) (tVar 6) (tC (.int 1))) (tVar 2)))) rfl nd rfl rfl (sw_true rfl rfl rfl (by decide +kernel)) (pi_enum (by rfl) bn.enumerate_ (pa_cons (pv 0) pa_nil)) (blkOk_by (N := N_store_fault) (sc := defScope s_store_fault) (by decide +kernel)) (fun _ _ _ _ _ => (pg_tup (n := 2) rfl (pgs_cons (pg_name (i := 5) nd rfl (by first | exact Or.inl rfl | exact Or.inr rfl)) (pgs_cons (pg_name (i := 6) nd rfl (by first | exact Or.inl rfl | exact Or.inr rfl)) pgs_nil)))) (fun _ _ _ _ _ => (pts_one (pt_cmpR op_gt (pe_ix ix_any (pv 6) pe_int (fun _ _ => rfl)) (pv 2) (nomark _)))) (fun _ _ _ _ _ => (pv 5)))
    (pss_cons (ps_if (PW.pt (pw_or (pt_cmpR (op_eqP hr.units) (pe_ix ix_any (pv 3) pe_int (fun _ _ => rfl)) pe_str (nomark _)) (pw_or1 (pt_tru (pt_truth (pv 4) (fun _ => rfl))))))
      (pss_one (ps_ret (pe_ifExp (PW.pt (pw_and (pt_cmpR (op_eqP hr.units) (pe_ix ix_any (pv 3) pe_int (fun _ _ => rfl)) pe_str (nomark _)) (pw_and (pt_tru (pt_truth (pv 4) (fun _ => rfl))) (pw_and1 (pt_cmpR (op_eqP hr.units) (pe_ix ix_any (pv 3) pe_int (fun _ _ => rfl)) (pe_ix ix_any (pv 4) pe_int (fun _ _ => rfl)) (nomark _)))))) pe_non (pe_tup (pa_cons pe_str pa_nil)))))
      pss_nil)
    (pss_cons (ps_asg (pv 3) (pg_tup (n := 3) rfl (pgs_cons (pg_name (i := 7) nd rfl (by first | exact Or.inl rfl | exact Or.inr rfl)) (pgs_cons (pg_name (i := 8) nd rfl (by first | exact Or.inl rfl | exact Or.inr rfl)) (pgs_cons (pg_name (i := 9) nd rfl (by first | exact Or.inl rfl | exact Or.inr rfl)) pgs_nil)))))
    (pss_cons (ps_set (i := 10) nd rfl (by first | exact Or.inl rfl | exact Or.inr rfl) (pe_callB (cb_sortD hr.units) (by rfl) bn.sorted_ (by decide +kernel) (pa_cons (pe_lc2 (own := [("lot", 11), ("at", 5)]) (vs1 := [5]) (g := (gName 11)) (tt := tYes) (wi1 := (iList K (tVar 11))) (g1 := (gName 5)) (tt1 := tYes) (te := (tVar 5)) rfl nd (pi_list (pv 8)) (blkOk_by (N := N_store_fault) (sc := defScope s_store_fault) (by decide +kernel)) (by decide) (fun _ _ _ _ _ => (pg_name (i := 11) nd rfl (by first | exact Or.inl rfl | exact Or.inr rfl))) (fun _ _ _ _ _ => pts_nil) (fun _ _ _ _ _ => (pi_list (pv 11))) (fun _ _ _ _ _ => (pg_name (i := 5) nd rfl (by first | exact Or.inl rfl | exact Or.inr rfl))) (fun _ _ _ _ _ => pts_nil) (fun _ _ _ _ _ => (pv 5))) pa_nil)))
    (pss_cons (ps_if (PW.pt (pw_or (pt_cmpR (op_neP hr.units) (pv 8) (pe_callB (cb_sortD hr.units) (by rfl) bn.sorted_ (by decide +kernel) (pa_cons (pe_lc (own := [("lot", 11)]) (g := (gName 11)) (tt := tYes) rfl nd (pi_list (pv 8)) (blkOk_by (N := N_store_fault) (sc := defScope s_store_fault) (by decide +kernel)) (fun _ _ _ _ _ => (pg_name (i := 11) nd rfl (by first | exact Or.inl rfl | exact Or.inr rfl))) (fun _ _ _ _ _ => pts_nil) (fun _ _ _ _ _ => (pe_callB (cb_sortD hr.units) (by rfl) bn.sorted_ (by decide +kernel) (pa_cons (pv 11) pa_nil)))) pa_nil)) (nomark _)) (pw_or1 (pt_cmpR (op_neP hr.units) (pv 10) (pe_listRg rfl (by rfl) bn.list_ (prg_1 (by rfl) bn.range_ (pe_callB Pu.cb_len (by rfl) bn.len_ (by decide +kernel) (pa_cons (pv 0) pa_nil)))) (nomark _)))))
      (pss_one (ps_ret (pe_tup (pa_cons pe_str pa_nil))))
      pss_nil)
    (pss_cons (ps_for PassesOwn.never rfl (pi_enum (by rfl) bn.enumerate_ (pa_cons (pv 8) pa_nil)) (pg_tup (n := 2) rfl (pgs_cons (pg_name (i := 12) nd rfl (by first | exact Or.inl rfl | exact Or.inr rfl)) (pgs_cons (pg_name (i := 11) nd rfl (by first | exact Or.inl rfl | exact Or.inr rfl)) pgs_nil)))
      (pss_cons (ps_if (PW.pt (pw_or (pt_not (pt_tru (pt_truth (pv 11) (fun _ => rfl)))) (pw_or1 (pt_cmpR op_gt (pe_callB (cr_sum rfl) (by rfl) bn.sum_ (by decide +kernel) (pa_cons (pe_lc (own := [("at", 5)]) (g := (gName 5)) (tt := tYes) rfl nd (pi_list (pv 11)) (blkOk_by (N := N_store_fault) (sc := defScope s_store_fault) (by decide +kernel)) (fun _ _ _ _ _ => (pg_name (i := 5) nd rfl (by first | exact Or.inl rfl | exact Or.inr rfl))) (fun _ _ _ _ _ => pts_nil) (fun _ _ _ _ _ => (pe_ix ix_any (pe_ix ix_any (pv 0) (pv 5) (fun _ _ => rfl)) pe_int (fun _ _ => rfl)))) pa_nil)) (pv 2) (nomark _)))))
      (pss_one (ps_ret (pe_tup (pa_cons pe_str (pa_cons (pv 12) pa_nil)))))
      pss_nil)
    (pss_one (ps_for PassesOwn.never rfl (pi_enum (by rfl) bn.enumerate_ (pa_cons (pv 11) pa_nil)) (pg_tup (n := 2) rfl (pgs_cons (pg_name (i := 13) nd rfl (by first | exact Or.inl rfl | exact Or.inr rfl)) (pgs_cons (pg_name (i := 5) nd rfl (by first | exact Or.inl rfl | exact Or.inr rfl)) pgs_nil)))
      (pss_one (ps_for PassesOwn.never rfl (pi_list (pe_slice sl_any (pv 11) po_none (po_some (pv 13)))) (pg_name (i := 14) nd rfl (by first | exact Or.inl rfl | exact Or.inr rfl))
      (pss_one (ps_if (pt_val (pe_cal C_foe_pair (hr.mono h_foe_pair) (by rfl) (pa_cons (pv 1) (pa_cons (pe_ix ix_any (pe_ix ix_any (pv 0) (pv 14) (fun _ _ => rfl)) pe_int (fun _ _ => rfl)) (pa_cons (pe_ix ix_any (pe_ix ix_any (pv 0) (pv 5) (fun _ _ => rfl)) pe_int (fun _ _ => rfl)) pa_nil)))))
      (pss_one (ps_ret (pe_tup (pa_cons pe_str (pa_cons (pv 14) (pa_cons (pv 5) pa_nil))))))
      pss_nil))))))))
    (pss_cons (ps_if (pt_cmpR (op_neP hr.units) (pe_cmpR op_is (pv 9) pe_non (nomark _)) (pe_cmpR (op_eqP hr.units) (pe_callB Pu.cb_len (by rfl) bn.len_ (by decide +kernel) (pa_cons (pv 8) pa_nil)) pe_int (nomark _)) (nomark _))
      (pss_one (ps_ret (pe_tup (pa_cons pe_str (pa_cons pe_non pa_nil)))))
      pss_nil)
    (pss_cons (ps_if (pt_cmpR op_is (pv 9) pe_non (nomark _))
      (pss_one (ps_ret pe_non))
      pss_nil)
    (pss_cons (ps_set (i := 15) nd rfl (by first | exact Or.inl rfl | exact Or.inr rfl) (pe_cal C_tree_fault (hr.mono h_tree_fault) (by rfl) (pa_cons (pe_mkC M_Rooms_init (hr.mono h_Rooms_init) (by rfl) (pa_cons (pv 0) (pa_cons (pv 1) (pa_cons (pv 2) pa_nil)))) (pa_cons (pe_lst pa_nil) (pa_cons (pe_op op_sub (pe_callB Pu.cb_len (by rfl) bn.len_ (by decide +kernel) (pa_cons (pv 8) pa_nil)) pe_int) (pa_cons (pe_lst pa_nil) (pa_cons (pv 9) pa_nil)))))))
    (pss_one (ps_ret (pe_ifExp (pt_cmpR op_is (pv 15) pe_non (nomark _)) pe_non (pe_tup (pa_cons pe_str (pa_cons (pv 15) pa_nil)))))))))))))))
theorem ok_store_fault {R : List D → (D → Prop) → Prop} (F : Fun K "store_fault" "store_fault" s_store_fault f fd) (bn : Bn mg) {C_Rooms : Addr} (O_Rooms : ObF K C_Rooms ["loads", "foes", "room", "order"]) {R_tree_fault : Stt → List D → (D → Stt → Prop) → Prop} {k_tree_fault : Nat} (C_tree_fault : Cal P w K mg base "tree_fault" ["search", "lots", "many", "path", "tree"] (spS R_tree_fault) k_tree_fault) (h_tree_fault : k_tree_fault ≤ k) {R_Rooms_init : Stt → List D → (D → Stt → Prop) → Prop} {k_Rooms_init : Nat} (M_Rooms_init : CalC P w K mg base C_Rooms "Rooms" ["self", "loads", "foes", "room"] (spS R_Rooms_init) k_Rooms_init) (h_Rooms_init : k_Rooms_init + 1 ≤ k) {R_foe_pair : List D → (D → Prop) → Prop} {k_foe_pair : Nat} (C_foe_pair : Cal P w K mg base "foe_pair" ["foes", "one", "other"] (spP R_foe_pair) k_foe_pair) (h_foe_pair : k_foe_pair ≤ k) (len : ∀ ds Z, R ds Z → ds.length = 4) (sx : ∀ ds Z, R ds Z → SX (T_store_fault K C_Rooms R_tree_fault R_Rooms_init R_foe_pair) (startE N_store_fault ds) { nx := fun _ => Z .none, rt := fun d _ => Z d }) :
    FnOk P w K mg base CX0 (k + 1) f fd ["loads", "foes", "room", "told"] (spP R) := fn_pure F sc_store_fault len fun cdv A outer s H E hr => ⟨_, ps_store_fault bn hr O_Rooms C_tree_fault h_tree_fault M_Rooms_init h_Rooms_init C_foe_pair h_foe_pair, sx⟩
theorem ps_l_state {cdv : Value} {A : Around} {outer : List PySem.Env} {s : Shared} {H : Hp} {E : XK} (bn : Bn mg) (hr : Room k (A.deeper (PyProof.Rows.envOfC "_law_state" (defScope s_l_state) s.heap.objs.size f cdv))) :
    PSs (cxOf CX0 P w K mg base N_l_state "_law_state" (defScope s_l_state) f cdv A outer s H E).nox (defBody s_l_state) (T_l_state K) :=
  have nd := sc_l_state.nd
  (pss_cons (ps_setLc (i := 1) (own := [("cell", 2)]) (g := (gName 2)) (tt := tYes) rfl nd rfl rfl (sw_true rfl rfl rfl (by decide +kernel)) (pi_list (pe_slice sl_any (pv 0) po_none (po_some pe_int))) (blkOk_by (N := N_l_state) (sc := defScope s_l_state) (by decide +kernel)) (fun _ _ _ _ _ => (pg_name (i := 2) nd rfl (by first | exact Or.inl rfl | exact Or.inr rfl))) (fun _ _ _ _ _ => pts_nil) (fun _ _ _ _ _ => (pe_callB cb_abs (by rfl) bn.abs_ (by decide +kernel) (pa_cons (pv 2) pa_nil))))
    (pss_cons (ps_if (pt_cmpR (op_eqP hr.units) (pe_callB Pu.cb_len (by rfl) bn.len_ (by decide +kernel) (pa_cons (pv 1) pa_nil)) pe_int (nomark _))
      (pss_one (ps_set (i := 1) nd rfl (by first | exact Or.inl rfl | exact Or.inr rfl) (pe_lst (pa_cons pe_int pa_nil))))
      pss_nil)
    (pss_one (ps_ret (pe_lst (pa_cons pe_int (pa_cons (pv 1) pa_nil)))))))
theorem ps_l_take {cdv : Value} {A : Around} {outer : List PySem.Env} {s : Shared} {H : Hp} {E : XK} (bn : Bn mg) (hr : Room k (A.deeper (PyProof.Rows.envOfC "_law_take" (defScope s_l_take) s.heap.objs.size f cdv))) :
    PSs (cxOf CX0 P w K mg base N_l_take "_law_take" (defScope s_l_take) f cdv A outer s H E).nox (defBody s_l_take) (T_l_take K) :=
  have nd := sc_l_take.nd
  (pss_cons (ps_set (i := 2) nd rfl (by first | exact Or.inl rfl | exact Or.inr rfl) (pe_ix ix_any (pv 0) pe_int (fun _ _ => rfl)))
    (pss_cons (ps_set (i := 3) nd rfl (by first | exact Or.inl rfl | exact Or.inr rfl) (pe_op op_mod (pe_ix ix_any (pv 0) pe_int (fun _ _ => rfl)) (pe_callB Pu.cb_len (by rfl) bn.len_ (by decide +kernel) (pa_cons (pv 2) pa_nil))))
    (pss_cons (ps_set (i := 4) nd rfl (by first | exact Or.inl rfl | exact Or.inr rfl) (pe_ix ix_any (pv 2) (pv 3) (fun _ _ => rfl)))
    (pss_cons (ps_if (pt_cmpR op_ge (pv 4) pe_int (nomark _))
      (pss_cons (ps_asg (pe_op op_fdiv (pv 4) (pv 1)) (pg_sub (pv 2) (pv 3) set_list))
    (pss_one (ps_ret (pe_op op_mod (pv 4) (pv 1)))))
      pss_nil)
    (pss_cons (ps_asg (pe_op op_plus (pe_ix ix_any (pv 0) pe_int (fun _ _ => rfl)) pe_int) (pg_sub (pv 0) pe_int set_list))
    (pss_cons (ps_set (i := 5) nd rfl (by first | exact Or.inl rfl | exact Or.inr rfl) (pe_op op_mod (pe_callTy cb_int (by rfl) bn.int_ (by decide +kernel) (pa_cons (pe_op op_plus (pe_op op_mul (pv 4) pe_int) (pe_op op_mul (pe_ix ix_any (pv 0) pe_int (fun _ _ => rfl)) pe_int)) pa_nil)) pe_int))
    (pss_cons (ps_set (i := 5) nd rfl (by first | exact Or.inl rfl | exact Or.inr rfl) (pe_op op_mod (pe_callTy cb_int (by rfl) bn.int_ (by decide +kernel) (pa_cons (pe_op op_plus (pe_op op_mul (pv 5) pe_int) (pe_op op_mul (pe_ix ix_any (pv 0) pe_int (fun _ _ => rfl)) pe_int)) pa_nil)) pe_int))
    (pss_one (ps_ret (pe_op op_mod (pe_op op_fdiv (pv 5) pe_int) (pv 1)))))))))))
theorem ps_l_loads {cdv : Value} {A : Around} {outer : List PySem.Env} {s : Shared} {H : Hp} {E : XK} (bn : Bn mg) (hr : Room k (A.deeper (PyProof.Rows.envOfC "_law_loads" (defScope s_l_loads) s.heap.objs.size f cdv))) {R_l_take : Stt → List D → (D → Stt → Prop) → Prop} {k_l_take : Nat} (C_l_take : Cal P w K mg base "_law_take" ["state", "most"] (spS R_l_take) k_l_take) (h_l_take : k_l_take ≤ k) :
    PSs (cxOf CX0 P w K mg base N_l_loads "_law_loads" (defScope s_l_loads) f cdv A outer s H E).nox (defBody s_l_loads) (T_l_loads K R_l_take) :=
  have nd := sc_l_loads.nd
  (pss_cons (ps_set (i := 2) nd rfl (by first | exact Or.inl rfl | exact Or.inr rfl) (pe_op op_plus pe_int (pe_cal C_l_take (hr.mono h_l_take) (by rfl) (pa_cons (pv 0) (pa_cons pe_int pa_nil)))))
    (pss_cons (ps_setLc (i := 3) (own := [("k", 4)]) (g := (gName 4)) (tt := tYes) rfl nd rfl rfl (sw_true rfl rfl rfl (by decide +kernel)) (pi_range1 (by rfl) bn.range_ (pa_cons (pe_cal C_l_take (hr.mono h_l_take) (by rfl) (pa_cons (pv 0) (pa_cons (pe_op op_plus (pv 1) pe_int) pa_nil))) pa_nil)) (blkOk_by (N := N_l_loads) (sc := defScope s_l_loads) (by decide +kernel)) (fun _ _ _ _ _ => (pg_name (i := 4) nd rfl (by first | exact Or.inl rfl | exact Or.inr rfl))) (fun _ _ _ _ _ => pts_nil) (fun _ _ _ _ _ => (pe_tup (pa_cons (pe_cal C_l_take (hr.mono h_l_take) (by rfl) (pa_cons (pv 0) (pa_cons (pv 2) pa_nil))) (pa_cons (pe_cal C_l_take (hr.mono h_l_take) (by rfl) (pa_cons (pv 0) (pa_cons pe_int pa_nil))) pa_nil)))))
    (pss_cons (ps_set (i := 5) nd rfl (by first | exact Or.inl rfl | exact Or.inr rfl) (pe_lst pa_nil))
    (pss_cons (ps_for PassesOwn.never rfl (pi_range1 (by rfl) bn.range_ (pa_cons (pv 2) pa_nil)) (pg_name (i := 6) nd rfl (by first | exact Or.inl rfl | exact Or.inr rfl))
      (pss_one (ps_expr (pe_bm PySem.F.plainAttrs_list PySem.F.slot_list_extend PySem.F.type_list_extend mt_extR (pv 5) (pa_cons (pe_lc (own := [("other", 7)]) (g := (gName 7)) (tt := (tTest (tOp (rEqP K) (tCall (spS R_l_take) [] E0 (tCons (tVar 0) (tCons (tC (.int 4)) tNil))) (tC (.int 0))))) rfl nd (pi_range2 (by rfl) bn.range_ (pa_cons (pv 6) (pa_cons (pv 2) pa_nil))) (blkOk_by (N := N_l_loads) (sc := defScope s_l_loads) (by decide +kernel)) (fun _ _ _ _ _ => (pg_name (i := 7) nd rfl (by first | exact Or.inl rfl | exact Or.inr rfl))) (fun _ _ _ _ _ => (pts_one (pt_cmpR (op_eqP hr.units) (pe_cal C_l_take (hr.mono h_l_take) (by rfl) (pa_cons (pv 0) (pa_cons pe_int pa_nil))) pe_int (nomark _)))) (fun _ _ _ _ _ => (pe_tup (pa_cons (pv 6) (pa_cons (pv 7) pa_nil))))) pa_nil)))))
    (pss_one (ps_ret (pe_tup (pa_cons (pv 3) (pa_cons (pv 5) (pa_cons (pe_op op_plus pe_int (pe_cal C_l_take (hr.mono h_l_take) (by rfl) (pa_cons (pv 0) (pa_cons pe_int pa_nil)))) pa_nil))))))))))
theorem ok_l_loads {R : Stt → List D → (D → Stt → Prop) → Prop} (F : Fun K "_law_loads" "_law_loads" s_l_loads f fd) (bn : Bn mg) {R_l_take : Stt → List D → (D → Stt → Prop) → Prop} {k_l_take : Nat} (C_l_take : Cal P w K mg base "_law_take" ["state", "most"] (spS R_l_take) k_l_take) (h_l_take : k_l_take ≤ k) (len : ∀ S ds Z, R S ds Z → ds.length + 1 = 2) (sx : ∀ S ds Z, R S ds Z → SX (T_l_loads K R_l_take) (.st S :: (ds.map .val ++ List.replicate (N_l_loads.length - (ds.length + 1)) .emp)) { nx := fun ρ' => ∃ S', ρ'[0]? = some (.st S') ∧ Z .none S', rt := fun d ρ' => ∃ S', ρ'[0]? = some (.st S') ∧ Z d S' }) :
    FnOk P w K mg base CX0 (k + 1) f fd ["state", "most"] (spS R) := fn_state F sc_l_loads len fun cdv A outer s H E hr => ⟨_, ps_l_loads bn hr C_l_take h_l_take, sx⟩
theorem ps_l_join {cdv : Value} {A : Around} {outer : List PySem.Env} {s : Shared} {H : Hp} {E : XK} (bn : Bn mg) (hr : Room k (A.deeper (PyProof.Rows.envOfC "_law_join" (defScope s_l_join) s.heap.objs.size f cdv))) :
    PSs (cxOf CX0 P w K mg base N_l_join "_law_join" (defScope s_l_join) f cdv A outer s H E).nox (defBody s_l_join) (T_l_join K) :=
  have nd := sc_l_join.nd
  (pss_cons (ps_if (pt_cmpR op_gt (pe_op op_plus (pe_callB (cr_sum rfl) (by rfl) bn.sum_ (by decide +kernel) (pa_cons (pe_lc (own := [("one", 5)]) (g := (gName 5)) (tt := tYes) rfl nd (pi_list (pv 3)) (blkOk_by (N := N_l_join) (sc := defScope s_l_join) (by decide +kernel)) (fun _ _ _ _ _ => (pg_name (i := 5) nd rfl (by first | exact Or.inl rfl | exact Or.inr rfl))) (fun _ _ _ _ _ => pts_nil) (fun _ _ _ _ _ => (pe_ix ix_any (pe_ix ix_any (pv 0) (pv 5) (fun _ _ => rfl)) pe_int (fun _ _ => rfl)))) pa_nil)) (pe_ix ix_any (pe_ix ix_any (pv 0) (pv 4) (fun _ _ => rfl)) pe_int (fun _ _ => rfl))) (pv 2) (nomark _))
      (pss_one (ps_ret pe_bl))
      pss_nil)
    (pss_one (ps_ret (pe_cmpR (op_eqP hr.units) (pe_callB Pu.cb_len (by rfl) bn.len_ (by decide +kernel) (pa_cons (pe_lc (own := [("one", 5)]) (g := (gName 5)) (tt := (tTest (tOp (rInP K) (tCB (rTup K) (tCons (tCB (rSrD K) (tCons (tLst (tCons (tOp (rIxA K) (tOp (rIxA K) (tVar 0) (tVar 5)) (tC (.int 0))) (tCons (tOp (rIxA K) (tOp (rIxA K) (tVar 0) (tVar 4)) (tC (.int 0))) tNil))) tNil)) tNil)) (tVar 1)))) rfl nd (pi_list (pv 3)) (blkOk_by (N := N_l_join) (sc := defScope s_l_join) (by decide +kernel)) (fun _ _ _ _ _ => (pg_name (i := 5) nd rfl (by first | exact Or.inl rfl | exact Or.inr rfl))) (fun _ _ _ _ _ => (pts_one (pt_cmpR (op_inP hr.units) (pe_callTy cb_tuple (by rfl) bn.tuple_ (by decide +kernel) (pa_cons (pe_callB (cb_sortD hr.units) (by rfl) bn.sorted_ (by decide +kernel) (pa_cons (pe_lst (pa_cons (pe_ix ix_any (pe_ix ix_any (pv 0) (pv 5) (fun _ _ => rfl)) pe_int (fun _ _ => rfl)) (pa_cons (pe_ix ix_any (pe_ix ix_any (pv 0) (pv 4) (fun _ _ => rfl)) pe_int (fun _ _ => rfl)) pa_nil))) pa_nil)) pa_nil)) (pv 1) (by rfl)))) (fun _ _ _ _ _ => (pv 5))) pa_nil)) pe_int (nomark _)))))
theorem ok_l_join {R : List D → (D → Prop) → Prop} (F : Fun K "_law_join" "_law_join" s_l_join f fd) (bn : Bn mg) (len : ∀ ds Z, R ds Z → ds.length = 5) (sx : ∀ ds Z, R ds Z → SX (T_l_join K) (startE N_l_join ds) { nx := fun _ => Z .none, rt := fun d _ => Z d }) :
    FnOk P w K mg base CX0 (k + 1) f fd ["loads", "foes", "room", "lot", "at"] (spP R) := fn_pure F sc_l_join len fun cdv A outer s H E hr => ⟨_, ps_l_join bn hr, sx⟩
theorem ps_l_spots {cdv : Value} {A : Around} {outer : List PySem.Env} {s : Shared} {H : Hp} {E : XK} (bn : Bn mg) (hr : Room k (A.deeper (PyProof.Rows.envOfC "_law_spots" (defScope s_l_spots) s.heap.objs.size f cdv))) {R_l_join : List D → (D → Prop) → Prop} {k_l_join : Nat} (C_l_join : Cal P w K mg base "_law_join" ["loads", "foes", "room", "lot", "at"] (spP R_l_join) k_l_join) (h_l_join : k_l_join ≤ k) :
    PSs (cxOf CX0 P w K mg base N_l_spots "_law_spots" (defScope s_l_spots) f cdv A outer s H E).nox (defBody s_l_spots) (T_l_spots K R_l_join) :=
  have nd := sc_l_spots.nd
  (pss_one (ps_ret (pe_op op_plus (pe_lc (own := [("k", 6)]) (g := (gName 6)) (tt := (tB (tCall (spP R_l_join) [] E0 (tCons (tVar 0) (tCons (tVar 1) (tCons (tVar 2) (tCons (tOp (rIxA K) (tVar 3) (tVar 6)) (tCons (tVar 4) tNil)))))))) rfl nd (pi_range1 (by rfl) bn.range_ (pa_cons (pe_callB Pu.cb_len (by rfl) bn.len_ (by decide +kernel) (pa_cons (pv 3) pa_nil)) pa_nil)) (blkOk_by (N := N_l_spots) (sc := defScope s_l_spots) (by decide +kernel)) (fun _ _ _ _ _ => (pg_name (i := 6) nd rfl (by first | exact Or.inl rfl | exact Or.inr rfl))) (fun _ _ _ _ _ => (pts_one (pt_val (pe_cal C_l_join (hr.mono h_l_join) (by rfl) (pa_cons (pv 0) (pa_cons (pv 1) (pa_cons (pv 2) (pa_cons (pe_ix ix_any (pv 3) (pv 6) (fun _ _ => rfl)) (pa_cons (pv 4) pa_nil))))))))) (fun _ _ _ _ _ => (pv 6))) (pe_ifExp (pt_cmpR op_lt (pe_callB Pu.cb_len (by rfl) bn.len_ (by decide +kernel) (pa_cons (pv 3) pa_nil)) (pv 5) (nomark _)) (pe_lst (pa_cons (pe_callB Pu.cb_len (by rfl) bn.len_ (by decide +kernel) (pa_cons (pv 3) pa_nil)) pa_nil)) (pe_lst pa_nil)))))
theorem ok_l_spots {R : List D → (D → Prop) → Prop} (F : Fun K "_law_spots" "_law_spots" s_l_spots f fd) (bn : Bn mg) {R_l_join : List D → (D → Prop) → Prop} {k_l_join : Nat} (C_l_join : Cal P w K mg base "_law_join" ["loads", "foes", "room", "lot", "at"] (spP R_l_join) k_l_join) (h_l_join : k_l_join ≤ k) (len : ∀ ds Z, R ds Z → ds.length = 6) (sx : ∀ ds Z, R ds Z → SX (T_l_spots K R_l_join) (startE N_l_spots ds) { nx := fun _ => Z .none, rt := fun d _ => Z d }) :
    FnOk P w K mg base CX0 (k + 1) f fd ["loads", "foes", "room", "lots", "at", "many"] (spP R) := fn_pure F sc_l_spots len fun cdv A outer s H E hr => ⟨_, ps_l_spots bn hr C_l_join h_l_join, sx⟩
theorem ps_l_put {cdv : Value} {A : Around} {outer : List PySem.Env} {s : Shared} {H : Hp} {E : XK} (bn : Bn mg) (hr : Room k (A.deeper (PyProof.Rows.envOfC "_law_put" (defScope s_l_put) s.heap.objs.size f cdv))) :
    PSs (cxOf CX0 P w K mg base N_l_put "_law_put" (defScope s_l_put) f cdv A outer s H E).nox (defBody s_l_put) (T_l_put K) :=
  have nd := sc_l_put.nd
  (pss_cons (ps_set (i := 3) nd rfl (by first | exact Or.inl rfl | exact Or.inr rfl) (pe_op op_plus (pe_lc (own := [("lot", 4)]) (g := (gName 4)) (tt := tYes) rfl nd (pi_list (pv 0)) (blkOk_by (N := N_l_put) (sc := defScope s_l_put) (by decide +kernel)) (fun _ _ _ _ _ => (pg_name (i := 4) nd rfl (by first | exact Or.inl rfl | exact Or.inr rfl))) (fun _ _ _ _ _ => pts_nil) (fun _ _ _ _ _ => (pe_callTy cb_list (by rfl) bn.list_ (by decide +kernel) (pa_cons (pv 4) pa_nil)))) (pe_ifExp (pt_cmpR (op_eqP hr.units) (pv 1) (pe_callB Pu.cb_len (by rfl) bn.len_ (by decide +kernel) (pa_cons (pv 0) pa_nil)) (nomark _)) (pe_lst (pa_cons (pe_lst pa_nil) pa_nil)) (pe_lst pa_nil))))
    (pss_cons (ps_expr (pe_bm PySem.F.plainAttrs_list PySem.F.slot_list_append PySem.F.type_list_append mt_append (pe_ix ix_any (pv 3) (pv 1) (fun _ _ => rfl)) (pa_cons (pv 2) pa_nil)))
    (pss_one (ps_ret (pv 3)))))
theorem ok_l_put {R : List D → (D → Prop) → Prop} (F : Fun K "_law_put" "_law_put" s_l_put f fd) (bn : Bn mg) (len : ∀ ds Z, R ds Z → ds.length = 3) (sx : ∀ ds Z, R ds Z → SX (T_l_put K) (startE N_l_put ds) { nx := fun _ => Z .none, rt := fun d _ => Z d }) :
    FnOk P w K mg base CX0 (k + 1) f fd ["lots", "one", "at"] (spP R) := fn_pure F sc_l_put len fun cdv A outer s H E hr => ⟨_, ps_l_put bn hr, sx⟩
theorem ps_l_tree_fault {cdv : Value} {A : Around} {outer : List PySem.Env} {s : Shared} {H : Hp} {E : XK} (bn : Bn mg) (hr : Room k (A.deeper (PyProof.Rows.envOfC "_law_tree_fault" (defScope s_l_tree_fault) s.heap.objs.size f cdv))) {R_l_spots : List D → (D → Prop) → Prop} {k_l_spots : Nat} (C_l_spots : Cal P w K mg base "_law_spots" ["loads", "foes", "room", "lots", "at", "many"] (spP R_l_spots) k_l_spots) (h_l_spots : k_l_spots ≤ k) {R_l_tree_fault : List D → (D → Prop) → Prop} {k_l_tree_fault : Nat} (C_l_tree_fault : Cal P w K mg base "_law_tree_fault" ["loads", "foes", "room", "lots", "many", "path", "tree"] (spP R_l_tree_fault) k_l_tree_fault) (h_l_tree_fault : k_l_tree_fault ≤ k) {R_l_put : List D → (D → Prop) → Prop} {k_l_put : Nat} (C_l_put : Cal P w K mg base "_law_put" ["lots", "one", "at"] (spP R_l_put) k_l_put) (h_l_put : k_l_put ≤ k) {R_l_join : List D → (D → Prop) → Prop} {k_l_join : Nat} (C_l_join : Cal P w K mg base "_law_join" ["loads", "foes", "room", "lot", "at"] (spP R_l_join) k_l_join) (h_l_join : k_l_join ≤ k) :
    PSs (cxOf CX0 P w K mg base N_l_tree_fault "_law_tree_fault" (defScope s_l_tree_fault) f cdv A outer s H E).nox (defBody s_l_tree_fault) (T_l_tree_fault K R_l_spots R_l_tree_fault R_l_put R_l_join) :=
  have nd := sc_l_tree_fault.nd
  (pss_cons (ps_set (i := 7) nd rfl (by first | exact Or.inl rfl | exact Or.inr rfl) (pe_lst pa_nil))
    (pss_cons (ps_for PassesOwn.never rfl (pi_list (pv 3)) (pg_name (i := 8) nd rfl (by first | exact Or.inl rfl | exact Or.inr rfl))
      (pss_one (ps_expr (pe_bm PySem.F.plainAttrs_list PySem.F.slot_list_extend PySem.F.type_list_extend mt_extR (pv 7) (pa_cons (pv 8) pa_nil)))))
    (pss_cons (ps_set (i := 9) nd rfl (by first | exact Or.inl rfl | exact Or.inr rfl) (pe_lc (own := [("k", 10)]) (g := (gName 10)) (tt := (tTest (tOp (rNinP K) (tVar 10) (tVar 7)))) rfl nd (pi_range1 (by rfl) bn.range_ (pa_cons (pe_callB Pu.cb_len (by rfl) bn.len_ (by decide +kernel) (pa_cons (pv 0) pa_nil)) pa_nil)) (blkOk_by (N := N_l_tree_fault) (sc := defScope s_l_tree_fault) (by decide +kernel)) (fun _ _ _ _ _ => (pg_name (i := 10) nd rfl (by first | exact Or.inl rfl | exact Or.inr rfl))) (fun _ _ _ _ _ => (pts_one (pt_cmpR (op_ninP hr.units) (pv 10) (pv 7) (by rfl)))) (fun _ _ _ _ _ => (pv 10))))
    (pss_cons (ps_if (pt_cmpR (op_eqP hr.units) (pe_ix ix_any (pv 6) pe_int (fun _ _ => rfl)) pe_str (nomark _))
      (pss_one (ps_ret (pe_ifExp (PW.pt (pw_and (pt_cmpR (op_eqP hr.units) (pe_callB Pu.cb_len (by rfl) bn.len_ (by decide +kernel) (pa_cons (pv 3) pa_nil)) pe_int (nomark _)) (pw_and1 (pt_cmpR op_gt (pe_callB (cr_sum rfl) (by rfl) bn.sum_ (by decide +kernel) (pa_cons (pe_lc (own := [("kind", 12), ("weight", 11)]) (g := (gTup K 2 (gCons (gName 12) (gCons (gName 11) gNil)))) (tt := tYes) rfl nd (pi_list (pv 0)) (blkOk_by (N := N_l_tree_fault) (sc := defScope s_l_tree_fault) (by decide +kernel)) (fun _ _ _ _ _ => (pg_tup (n := 2) rfl (pgs_cons (pg_name (i := 12) nd rfl (by first | exact Or.inl rfl | exact Or.inr rfl)) (pgs_cons (pg_name (i := 11) nd rfl (by first | exact Or.inl rfl | exact Or.inr rfl)) pgs_nil)))) (fun _ _ _ _ _ => pts_nil) (fun _ _ _ _ _ => (pv 11))) pa_nil)) (pe_op op_mul (pv 4) (pv 2)) (nomark _))))) pe_non (pe_tup (pa_cons pe_str (pa_cons (pv 5) pa_nil))))))
      pss_nil)
    (pss_cons (ps_if (pt_cmpR (op_eqP hr.units) (pe_ix ix_any (pv 6) pe_int (fun _ _ => rfl)) pe_str (nomark _))
      (pss_cons (ps_set (i := 13) nd rfl (by first | exact Or.inl rfl | exact Or.inr rfl) (pe_ix ix_any (pv 6) pe_int (fun _ _ => rfl)))
    (pss_cons (ps_if (PW.pt (pw_or (pt_cmpR op_gt (pe_callB Pu.cb_len (by rfl) bn.len_ (by decide +kernel) (pa_cons (pv 3) pa_nil)) pe_int (nomark _)) (pw_or (pt_cmpR (op_neP hr.units) (pv 13) (pe_sortSet rfl (by rfl) bn.sorted_ (by rfl) bn.set_ (pv 13)) (nomark _)) (pw_or (pt_cmpR op_gt (pe_callB Pu.cb_len (by rfl) bn.len_ (by decide +kernel) (pa_cons (pe_lc (own := [("k", 10)]) (g := (gName 10)) (tt := (tTest (tOp (rNinP K) (tVar 10) (tVar 9)))) rfl nd (pi_list (pv 13)) (blkOk_by (N := N_l_tree_fault) (sc := defScope s_l_tree_fault) (by decide +kernel)) (fun _ _ _ _ _ => (pg_name (i := 10) nd rfl (by first | exact Or.inl rfl | exact Or.inr rfl))) (fun _ _ _ _ _ => (pts_one (pt_cmpR (op_ninP hr.units) (pv 10) (pv 9) (by rfl)))) (fun _ _ _ _ _ => (pv 10))) pa_nil)) pe_int (nomark _)) (pw_or1 (pt_cmpR op_le (pe_callB Pu.cb_len (by rfl) bn.len_ (by decide +kernel) (pa_cons (pv 13) pa_nil)) (pv 4) (nomark _)))))))
      (pss_one (ps_ret (pe_tup (pa_cons pe_str (pa_cons (pv 5) pa_nil)))))
      pss_nil)
    (pss_cons (ps_for PassesOwn.never rfl (pi_list (pv 13)) (pg_name (i := 10) nd rfl (by first | exact Or.inl rfl | exact Or.inr rfl))
      (pss_one (ps_if (pt_cmpR op_gt (pe_callB Pu.cb_len (by rfl) bn.len_ (by decide +kernel) (pa_cons (pe_lc (own := [("j", 14)]) (g := (gName 14)) (tt := (tAnd (tTest (tOp (rI0 fun i j => .bl (decide (i < j))) (tVar 14) (tVar 10))) (tB (tCall (spP R_l_join) [] E0 (tCons (tVar 0) (tCons (tVar 1) (tCons (tVar 2) (tCons (tLst (tCons (tVar 14) tNil)) (tCons (tVar 10) tNil))))))))) rfl nd (pi_list (pv 13)) (blkOk_by (N := N_l_tree_fault) (sc := defScope s_l_tree_fault) (by decide +kernel)) (fun _ _ _ _ _ => (pg_name (i := 14) nd rfl (by first | exact Or.inl rfl | exact Or.inr rfl))) (fun _ _ _ _ _ => (pts_one (PW.pt (pw_and (pt_cmpR op_lt (pv 14) (pv 10) (nomark _)) (pw_and1 (pt_val (pe_cal C_l_join (hr.mono h_l_join) (by rfl) (pa_cons (pv 0) (pa_cons (pv 1) (pa_cons (pv 2) (pa_cons (pe_lst (pa_cons (pv 14) pa_nil)) (pa_cons (pv 10) pa_nil)))))))))))) (fun _ _ _ _ _ => (pv 14))) pa_nil)) pe_int (nomark _))
      (pss_one (ps_ret (pe_tup (pa_cons pe_str (pa_cons (pv 5) pa_nil)))))
      pss_nil)))
    (pss_one (ps_ret pe_non)))))
      pss_nil)
    (pss_cons (ps_if (pt_cmpR (op_ninP hr.units) (pe_ix ix_any (pv 6) pe_int (fun _ _ => rfl)) (pv 9) (by rfl))
      (pss_one (ps_ret (pe_tup (pa_cons pe_str (pa_cons (pv 5) pa_nil)))))
      pss_nil)
    (pss_cons (ps_set (i := 15) nd rfl (by first | exact Or.inl rfl | exact Or.inr rfl) (pe_cal C_l_spots (hr.mono h_l_spots) (by rfl) (pa_cons (pv 0) (pa_cons (pv 1) (pa_cons (pv 2) (pa_cons (pv 3) (pa_cons (pe_ix ix_any (pv 6) pe_int (fun _ _ => rfl)) (pa_cons (pv 4) pa_nil))))))))
    (pss_cons (ps_if (pt_cmpR (op_neP hr.units) (pe_callB Pu.cb_len (by rfl) bn.len_ (by decide +kernel) (pa_cons (pe_ix ix_any (pv 6) pe_int (fun _ _ => rfl)) pa_nil)) (pe_callB Pu.cb_len (by rfl) bn.len_ (by decide +kernel) (pa_cons (pv 15) pa_nil)) (nomark _))
      (pss_one (ps_ret (pe_tup (pa_cons pe_str (pa_cons (pv 5) pa_nil)))))
      pss_nil)
    (pss_cons (ps_for PassesOwn.never rfl (pi_range1 (by rfl) bn.range_ (pa_cons (pe_callB Pu.cb_len (by rfl) bn.len_ (by decide +kernel) (pa_cons (pv 15) pa_nil)) pa_nil)) (pg_name (i := 10) nd rfl (by first | exact Or.inl rfl | exact Or.inr rfl))
      (pss_cons (ps_set (i := 16) nd rfl (by first | exact Or.inl rfl | exact Or.inr rfl) (pe_cal C_l_tree_fault (hr.mono h_l_tree_fault) (by rfl) (pa_cons (pv 0) (pa_cons (pv 1) (pa_cons (pv 2) (pa_cons (pe_cal C_l_put (hr.mono h_l_put) (by rfl) (pa_cons (pv 3) (pa_cons (pe_ix ix_any (pv 15) (pv 10) (fun _ _ => rfl)) (pa_cons (pe_ix ix_any (pv 6) pe_int (fun _ _ => rfl)) pa_nil)))) (pa_cons (pv 4) (pa_cons (pe_op op_plus (pv 5) (pe_lst (pa_cons (pe_tup (pa_cons (pe_ix ix_any (pv 6) pe_int (fun _ _ => rfl)) (pa_cons (pe_ix ix_any (pv 15) (pv 10) (fun _ _ => rfl)) pa_nil))) pa_nil))) (pa_cons (pe_ix ix_any (pe_ix ix_any (pv 6) pe_int (fun _ _ => rfl)) (pv 10) (fun _ _ => rfl)) pa_nil)))))))))
    (pss_one (ps_if (pt_cmpR op_isnt (pv 16) pe_non (nomark _))
      (pss_one (ps_ret (pv 16)))
      pss_nil))))
    (pss_one (ps_ret pe_non)))))))))))
theorem ok_l_tree_fault {R : List D → (D → Prop) → Prop} (F : Fun K "_law_tree_fault" "_law_tree_fault" s_l_tree_fault f fd) (bn : Bn mg) {R_l_spots : List D → (D → Prop) → Prop} {k_l_spots : Nat} (C_l_spots : Cal P w K mg base "_law_spots" ["loads", "foes", "room", "lots", "at", "many"] (spP R_l_spots) k_l_spots) (h_l_spots : k_l_spots ≤ k) {R_l_tree_fault : List D → (D → Prop) → Prop} {k_l_tree_fault : Nat} (C_l_tree_fault : Cal P w K mg base "_law_tree_fault" ["loads", "foes", "room", "lots", "many", "path", "tree"] (spP R_l_tree_fault) k_l_tree_fault) (h_l_tree_fault : k_l_tree_fault ≤ k) {R_l_put : List D → (D → Prop) → Prop} {k_l_put : Nat} (C_l_put : Cal P w K mg base "_law_put" ["lots", "one", "at"] (spP R_l_put) k_l_put) (h_l_put : k_l_put ≤ k) {R_l_join : List D → (D → Prop) → Prop} {k_l_join : Nat} (C_l_join : Cal P w K mg base "_law_join" ["loads", "foes", "room", "lot", "at"] (spP R_l_join) k_l_join) (h_l_join : k_l_join ≤ k) (len : ∀ ds Z, R ds Z → ds.length = 7) (sx : ∀ ds Z, R ds Z → SX (T_l_tree_fault K R_l_spots R_l_tree_fault R_l_put R_l_join) (startE N_l_tree_fault ds) { nx := fun _ => Z .none, rt := fun d _ => Z d }) :
    FnOk P w K mg base CX0 (k + 1) f fd ["loads", "foes", "room", "lots", "many", "path", "tree"] (spP R) := fn_pure F sc_l_tree_fault len fun cdv A outer s H E hr => ⟨_, ps_l_tree_fault bn hr C_l_spots h_l_spots C_l_tree_fault h_l_tree_fault C_l_put h_l_put C_l_join h_l_join, sx⟩
theorem ps_l_fault {cdv : Value} {A : Around} {outer : List PySem.Env} {s : Shared} {H : Hp} {E : XK} (bn : Bn mg) (hr : Room k (A.deeper (PyProof.Rows.envOfC "_law_fault" (defScope s_l_fault) s.heap.objs.size f cdv))) {R_l_tree_fault : List D → (D → Prop) → Prop} {k_l_tree_fault : Nat} (C_l_tree_fault : Cal P w K mg base "_law_tree_fault" ["loads", "foes", "room", "lots", "many", "path", "tree"] (spP R_l_tree_fault) k_l_tree_fault) (h_l_tree_fault : k_l_tree_fault ≤ k) :
    PSs (cxOf CX0 P w K mg base N_l_fault "_law_fault" (defScope s_l_fault) f cdv A outer s H E).nox (defBody s_l_fault) (T_l_fault K R_l_tree_fault) :=
  have nd := sc_l_fault.nd
  (pss_cons (ps_setLc (i := 4) (own := [("k", 5)]) (g := (gName 5)) (tt := (tTest (tOp (rI0 fun i j => .bl (decide (j < i))) (tOp (rIxA K) (tOp (rIxA K) (tVar 0) (tVar 5)) (tC (.int 1))) (tVar 2)))) rfl nd rfl rfl (sw_true rfl rfl rfl (by decide +kernel)) (pi_range1 (by rfl) bn.range_ (pa_cons (pe_callB Pu.cb_len (by rfl) bn.len_ (by decide +kernel) (pa_cons (pv 0) pa_nil)) pa_nil)) (blkOk_by (N := N_l_fault) (sc := defScope s_l_fault) (by decide +kernel)) (fun _ _ _ _ _ => (pg_name (i := 5) nd rfl (by first | exact Or.inl rfl | exact Or.inr rfl))) (fun _ _ _ _ _ => (pts_one (pt_cmpR op_gt (pe_ix ix_any (pe_ix ix_any (pv 0) (pv 5) (fun _ _ => rfl)) pe_int (fun _ _ => rfl)) (pv 2) (nomark _)))) (fun _ _ _ _ _ => (pv 5)))
    (pss_cons (ps_if (PW.pt (pw_or (pt_cmpR (op_eqP hr.units) (pe_ix ix_any (pv 3) pe_int (fun _ _ => rfl)) pe_str (nomark _)) (pw_or1 (pt_cmpR op_gt (pe_callB Pu.cb_len (by rfl) bn.len_ (by decide +kernel) (pa_cons (pv 4) pa_nil)) pe_int (nomark _)))))
      (pss_one (ps_ret (pe_ifExp (PW.pt (pw_and (pt_cmpR (op_eqP hr.units) (pe_ix ix_any (pv 3) pe_int (fun _ _ => rfl)) pe_str (nomark _)) (pw_and (pt_cmpR op_gt (pe_callB Pu.cb_len (by rfl) bn.len_ (by decide +kernel) (pa_cons (pv 4) pa_nil)) pe_int (nomark _)) (pw_and1 (pt_cmpR (op_eqP hr.units) (pe_ix ix_any (pv 3) pe_int (fun _ _ => rfl)) (pe_ix ix_any (pv 4) pe_int (fun _ _ => rfl)) (nomark _)))))) pe_non (pe_tup (pa_cons pe_str pa_nil)))))
      pss_nil)
    (pss_cons (ps_asg (pv 3) (pg_tup (n := 3) rfl (pgs_cons (pg_name (i := 6) nd rfl (by first | exact Or.inl rfl | exact Or.inr rfl)) (pgs_cons (pg_name (i := 7) nd rfl (by first | exact Or.inl rfl | exact Or.inr rfl)) (pgs_cons (pg_name (i := 8) nd rfl (by first | exact Or.inl rfl | exact Or.inr rfl)) pgs_nil)))))
    (pss_cons (ps_set (i := 9) nd rfl (by first | exact Or.inl rfl | exact Or.inr rfl) (pe_lst pa_nil))
    (pss_cons (ps_for PassesOwn.never rfl (pi_list (pv 7)) (pg_name (i := 10) nd rfl (by first | exact Or.inl rfl | exact Or.inr rfl))
      (pss_one (ps_expr (pe_bm PySem.F.plainAttrs_list PySem.F.slot_list_extend PySem.F.type_list_extend mt_extR (pv 9) (pa_cons (pv 10) pa_nil)))))
    (pss_cons (ps_if (PW.pt (pw_or (pt_cmpR (op_neP hr.units) (pv 7) (pe_callB (cb_sortD hr.units) (by rfl) bn.sorted_ (by decide +kernel) (pa_cons (pe_lc (own := [("lot", 10)]) (g := (gName 10)) (tt := tYes) rfl nd (pi_list (pv 7)) (blkOk_by (N := N_l_fault) (sc := defScope s_l_fault) (by decide +kernel)) (fun _ _ _ _ _ => (pg_name (i := 10) nd rfl (by first | exact Or.inl rfl | exact Or.inr rfl))) (fun _ _ _ _ _ => pts_nil) (fun _ _ _ _ _ => (pe_callB (cb_sortD hr.units) (by rfl) bn.sorted_ (by decide +kernel) (pa_cons (pv 10) pa_nil)))) pa_nil)) (nomark _)) (pw_or1 (pt_cmpR (op_neP hr.units) (pe_callB (cb_sortD hr.units) (by rfl) bn.sorted_ (by decide +kernel) (pa_cons (pv 9) pa_nil)) (pe_listRg rfl (by rfl) bn.list_ (prg_1 (by rfl) bn.range_ (pe_callB Pu.cb_len (by rfl) bn.len_ (by decide +kernel) (pa_cons (pv 0) pa_nil)))) (nomark _)))))
      (pss_one (ps_ret (pe_tup (pa_cons pe_str pa_nil))))
      pss_nil)
    (pss_cons (ps_for PassesOwn.never rfl (pi_range1 (by rfl) bn.range_ (pa_cons (pe_callB Pu.cb_len (by rfl) bn.len_ (by decide +kernel) (pa_cons (pv 7) pa_nil)) pa_nil)) (pg_name (i := 11) nd rfl (by first | exact Or.inl rfl | exact Or.inr rfl))
      (pss_cons (ps_if (PW.pt (pw_or (pt_cmpR (op_eqP hr.units) (pe_callB Pu.cb_len (by rfl) bn.len_ (by decide +kernel) (pa_cons (pe_ix ix_any (pv 7) (pv 11) (fun _ _ => rfl)) pa_nil)) pe_int (nomark _)) (pw_or1 (pt_cmpR op_gt (pe_callB (cr_sum rfl) (by rfl) bn.sum_ (by decide +kernel) (pa_cons (pe_lc (own := [("k", 5)]) (g := (gName 5)) (tt := tYes) rfl nd (pi_list (pe_ix ix_any (pv 7) (pv 11) (fun _ _ => rfl))) (blkOk_by (N := N_l_fault) (sc := defScope s_l_fault) (by decide +kernel)) (fun _ _ _ _ _ => (pg_name (i := 5) nd rfl (by first | exact Or.inl rfl | exact Or.inr rfl))) (fun _ _ _ _ _ => pts_nil) (fun _ _ _ _ _ => (pe_ix ix_any (pe_ix ix_any (pv 0) (pv 5) (fun _ _ => rfl)) pe_int (fun _ _ => rfl)))) pa_nil)) (pv 2) (nomark _)))))
      (pss_one (ps_ret (pe_tup (pa_cons pe_str (pa_cons (pv 11) pa_nil)))))
      pss_nil)
    (pss_one (ps_for PassesOwn.never rfl (pi_list (pe_ix ix_any (pv 7) (pv 11) (fun _ _ => rfl))) (pg_name (i := 5) nd rfl (by first | exact Or.inl rfl | exact Or.inr rfl))
      (pss_cons (ps_setLc (i := 12) (own := [("j", 13)]) (g := (gName 13)) (tt := (tAnd (tTest (tOp (rI0 fun i j => .bl (decide (i < j))) (tVar 13) (tVar 5))) (tTest (tOp (rInP K) (tCB (rTup K) (tCons (tCB (rSrD K) (tCons (tLst (tCons (tOp (rIxA K) (tOp (rIxA K) (tVar 0) (tVar 13)) (tC (.int 0))) (tCons (tOp (rIxA K) (tOp (rIxA K) (tVar 0) (tVar 5)) (tC (.int 0))) tNil))) tNil)) tNil)) (tVar 1))))) rfl nd rfl rfl (sw_true rfl rfl rfl (by decide +kernel)) (pi_list (pe_ix ix_any (pv 7) (pv 11) (fun _ _ => rfl))) (blkOk_by (N := N_l_fault) (sc := defScope s_l_fault) (by decide +kernel)) (fun _ _ _ _ _ => (pg_name (i := 13) nd rfl (by first | exact Or.inl rfl | exact Or.inr rfl))) (fun _ _ _ _ _ => (pts_one (PW.pt (pw_and (pt_cmpR op_lt (pv 13) (pv 5) (nomark _)) (pw_and1 (pt_cmpR (op_inP hr.units) (pe_callTy cb_tuple (by rfl) bn.tuple_ (by decide +kernel) (pa_cons (pe_callB (cb_sortD hr.units) (by rfl) bn.sorted_ (by decide +kernel) (pa_cons (pe_lst (pa_cons (pe_ix ix_any (pe_ix ix_any (pv 0) (pv 13) (fun _ _ => rfl)) pe_int (fun _ _ => rfl)) (pa_cons (pe_ix ix_any (pe_ix ix_any (pv 0) (pv 5) (fun _ _ => rfl)) pe_int (fun _ _ => rfl)) pa_nil))) pa_nil)) pa_nil)) (pv 1) (by rfl))))))) (fun _ _ _ _ _ => (pv 13)))
    (pss_one (ps_if (pt_cmpR op_gt (pe_callB Pu.cb_len (by rfl) bn.len_ (by decide +kernel) (pa_cons (pv 12) pa_nil)) pe_int (nomark _))
      (pss_one (ps_ret (pe_tup (pa_cons pe_str (pa_cons (pe_ix ix_any (pv 12) pe_int (fun _ _ => rfl)) (pa_cons (pv 5) pa_nil))))))
      pss_nil)))))))
    (pss_cons (ps_if (pt_cmpR (op_neP hr.units) (pe_cmpR op_is (pv 8) pe_non (nomark _)) (pe_cmpR (op_eqP hr.units) (pe_callB Pu.cb_len (by rfl) bn.len_ (by decide +kernel) (pa_cons (pv 7) pa_nil)) pe_int (nomark _)) (nomark _))
      (pss_one (ps_ret (pe_tup (pa_cons pe_str (pa_cons pe_non pa_nil)))))
      pss_nil)
    (pss_cons (ps_if (pt_cmpR op_is (pv 8) pe_non (nomark _))
      (pss_one (ps_ret pe_non))
      pss_nil)
    (pss_cons (ps_set (i := 14) nd rfl (by first | exact Or.inl rfl | exact Or.inr rfl) (pe_cal C_l_tree_fault (hr.mono h_l_tree_fault) (by rfl) (pa_cons (pv 0) (pa_cons (pv 1) (pa_cons (pv 2) (pa_cons (pe_lst pa_nil) (pa_cons (pe_op op_sub (pe_callB Pu.cb_len (by rfl) bn.len_ (by decide +kernel) (pa_cons (pv 7) pa_nil)) pe_int) (pa_cons (pe_lst pa_nil) (pa_cons (pv 8) pa_nil)))))))))
    (pss_one (ps_ret (pe_ifExp (pt_cmpR op_is (pv 14) pe_non (nomark _)) pe_non (pe_tup (pa_cons pe_str (pa_cons (pv 14) pa_nil))))))))))))))))
theorem ok_l_fault {R : List D → (D → Prop) → Prop} (F : Fun K "_law_fault" "_law_fault" s_l_fault f fd) (bn : Bn mg) {R_l_tree_fault : List D → (D → Prop) → Prop} {k_l_tree_fault : Nat} (C_l_tree_fault : Cal P w K mg base "_law_tree_fault" ["loads", "foes", "room", "lots", "many", "path", "tree"] (spP R_l_tree_fault) k_l_tree_fault) (h_l_tree_fault : k_l_tree_fault ≤ k) (len : ∀ ds Z, R ds Z → ds.length = 4) (sx : ∀ ds Z, R ds Z → SX (T_l_fault K R_l_tree_fault) (startE N_l_fault ds) { nx := fun _ => Z .none, rt := fun d _ => Z d }) :
    FnOk P w K mg base CX0 (k + 1) f fd ["loads", "foes", "room", "told"] (spP R) := fn_pure F sc_l_fault len fun cdv A outer s H E hr => ⟨_, ps_l_fault bn hr C_l_tree_fault h_l_tree_fault, sx⟩
theorem ps_l_bent_tree {cdv : Value} {A : Around} {outer : List PySem.Env} {s : Shared} {H : Hp} {E : XK} (bn : Bn mg) (hr : Room k (A.deeper (PyProof.Rows.envOfC "_law_bent_tree" (defScope s_l_bent_tree) s.heap.objs.size f cdv))) {R_l_take : Stt → List D → (D → Stt → Prop) → Prop} {k_l_take : Nat} (C_l_take : Cal P w K mg base "_law_take" ["state", "most"] (spS R_l_take) k_l_take) (h_l_take : k_l_take ≤ k) {R_l_bent_tree : Stt → List D → (D → Stt → Prop) → Prop} {k_l_bent_tree : Nat} (C_l_bent_tree : Cal P w K mg base "_law_bent_tree" ["state", "many", "tree"] (spS R_l_bent_tree) k_l_bent_tree) (h_l_bent_tree : k_l_bent_tree ≤ k) :
    PSs (cxOf CX0 P w K mg base N_l_bent_tree "_law_bent_tree" (defScope s_l_bent_tree) f cdv A outer s H E).nox (defBody s_l_bent_tree) (T_l_bent_tree K R_l_take R_l_bent_tree) :=
  have nd := sc_l_bent_tree.nd
  (pss_cons (ps_if (pt_cmpR op_is (pv 2) pe_non (nomark _))
      (pss_one (ps_ret (pe_tup (pa_cons pe_str pa_nil))))
      pss_nil)
    (pss_cons (ps_if (PW.pt (pw_and (pt_cmpR (op_eqP hr.units) (pe_ix ix_any (pv 2) pe_int (fun _ _ => rfl)) pe_str (nomark _)) (pw_and (pt_cmpR op_gt (pe_callB Pu.cb_len (by rfl) bn.len_ (by decide +kernel) (pa_cons (pe_ix ix_any (pv 2) pe_int (fun _ _ => rfl)) pa_nil)) pe_int (nomark _)) (pw_and1 (pt_cmpR op_gt (pe_cal C_l_take (hr.mono h_l_take) (by rfl) (pa_cons (pv 0) (pa_cons pe_int pa_nil))) pe_int (nomark _))))))
      (pss_cons (ps_set (i := 3) nd rfl (by first | exact Or.inl rfl | exact Or.inr rfl) (pe_cal C_l_take (hr.mono h_l_take) (by rfl) (pa_cons (pv 0) (pa_cons (pe_callB Pu.cb_len (by rfl) bn.len_ (by decide +kernel) (pa_cons (pe_ix ix_any (pv 2) pe_int (fun _ _ => rfl)) pa_nil)) pa_nil))))
    (pss_one (ps_ret (pe_tup (pa_cons (pe_ix ix_any (pv 2) pe_int (fun _ _ => rfl)) (pa_cons (pe_ix ix_any (pv 2) pe_int (fun _ _ => rfl)) (pa_cons (pe_op op_plus (pe_op op_plus (pe_slice sl_any (pe_ix ix_any (pv 2) pe_int (fun _ _ => rfl)) po_none (po_some (pv 3))) (pe_lst (pa_cons (pe_cal C_l_bent_tree (hr.mono h_l_bent_tree) (by rfl) (pa_cons (pv 0) (pa_cons (pv 1) (pa_cons (pe_ix ix_any (pe_ix ix_any (pv 2) pe_int (fun _ _ => rfl)) (pv 3) (fun _ _ => rfl)) pa_nil)))) pa_nil))) (pe_slice sl_any (pe_ix ix_any (pv 2) pe_int (fun _ _ => rfl)) (po_some (pe_op op_plus (pv 3) pe_int)) po_none)) pa_nil)))))))
      pss_nil)
    (pss_cons (ps_setLc (i := 4) (own := [("k", 5)]) (g := (gName 5)) (tt := (tTest (tOp (rEqP K) (tCall (spS R_l_take) [] E0 (tCons (tVar 0) (tCons (tC (.int 2)) tNil))) (tC (.int 0))))) rfl nd rfl rfl (sw_true rfl rfl rfl (by decide +kernel)) (pi_range1 (by rfl) bn.range_ (pa_cons (pv 1) pa_nil)) (blkOk_by (N := N_l_bent_tree) (sc := defScope s_l_bent_tree) (by decide +kernel)) (fun _ _ _ _ _ => (pg_name (i := 5) nd rfl (by first | exact Or.inl rfl | exact Or.inr rfl))) (fun _ _ _ _ _ => (pts_one (pt_cmpR (op_eqP hr.units) (pe_cal C_l_take (hr.mono h_l_take) (by rfl) (pa_cons (pv 0) (pa_cons pe_int pa_nil))) pe_int (nomark _)))) (fun _ _ _ _ _ => (pv 5)))
    (pss_one (ps_ret (pe_ix ix_any (pe_lst (pa_cons (pe_tup (pa_cons pe_str pa_nil)) (pa_cons (pe_tup (pa_cons pe_str (pa_cons (pv 4) pa_nil))) (pa_cons (pe_tup (pa_cons pe_str (pa_cons (pe_revL (pv 4)) pa_nil))) (pa_cons (pe_tup (pa_cons pe_str (pa_cons (pe_cal C_l_take (hr.mono h_l_take) (by rfl) (pa_cons (pv 0) (pa_cons (pe_op op_plus (pv 1) pe_int) pa_nil))) (pa_cons (pe_op op_repR (pe_lst (pa_cons (pv 2) pa_nil)) (pe_cal C_l_take (hr.mono h_l_take) (by rfl) (pa_cons (pv 0) (pa_cons pe_int pa_nil)))) pa_nil)))) pa_nil))))) (pe_cal C_l_take (hr.mono h_l_take) (by rfl) (pa_cons (pv 0) (pa_cons pe_int pa_nil))) (fun _ _ => rfl)))))))
theorem ok_l_bent_tree {R : Stt → List D → (D → Stt → Prop) → Prop} (F : Fun K "_law_bent_tree" "_law_bent_tree" s_l_bent_tree f fd) (bn : Bn mg) {R_l_take : Stt → List D → (D → Stt → Prop) → Prop} {k_l_take : Nat} (C_l_take : Cal P w K mg base "_law_take" ["state", "most"] (spS R_l_take) k_l_take) (h_l_take : k_l_take ≤ k) {R_l_bent_tree : Stt → List D → (D → Stt → Prop) → Prop} {k_l_bent_tree : Nat} (C_l_bent_tree : Cal P w K mg base "_law_bent_tree" ["state", "many", "tree"] (spS R_l_bent_tree) k_l_bent_tree) (h_l_bent_tree : k_l_bent_tree ≤ k) (len : ∀ S ds Z, R S ds Z → ds.length + 1 = 3) (sx : ∀ S ds Z, R S ds Z → SX (T_l_bent_tree K R_l_take R_l_bent_tree) (.st S :: (ds.map .val ++ List.replicate (N_l_bent_tree.length - (ds.length + 1)) .emp)) { nx := fun ρ' => ∃ S', ρ'[0]? = some (.st S') ∧ Z .none S', rt := fun d ρ' => ∃ S', ρ'[0]? = some (.st S') ∧ Z d S' }) :
    FnOk P w K mg base CX0 (k + 1) f fd ["state", "many", "tree"] (spS R) := fn_state F sc_l_bent_tree len fun cdv A outer s H E hr => ⟨_, ps_l_bent_tree bn hr C_l_take h_l_take C_l_bent_tree h_l_bent_tree, sx⟩
theorem ps_law {cdv : Value} {A : Around} {outer : List PySem.Env} {s : Shared} {H : Hp} {E : XK} (bn : Bn mg) (hr : Room k (A.deeper (PyProof.Rows.envOfC "law" (defScope s_law) s.heap.objs.size f cdv))) (hgd : (A.deeper (PyProof.Rows.envOfC "law" (defScope s_law) s.heap.objs.size f cdv)).guards = some []) {R_l_state : List D → (Stt → Prop) → Prop} {k_l_state : Nat} (C_l_state : Cal P w K mg base "_law_state" ["script"] (spN R_l_state) k_l_state) (h_l_state : k_l_state ≤ k) {R_l_loads : Stt → List D → (D → Stt → Prop) → Prop} {k_l_loads : Nat} (C_l_loads : Cal P w K mg base "_law_loads" ["state", "most"] (spS R_l_loads) k_l_loads) (h_l_loads : k_l_loads ≤ k) {R_store : List D → (D → Prop) → Prop} {k_store : Nat} (C_store : Cal P w K mg base "store" ["loads", "foes", "room"] (spP R_store) k_store) (h_store : k_store ≤ k) {R_l_fault : List D → (D → Prop) → Prop} {k_l_fault : Nat} (C_l_fault : Cal P w K mg base "_law_fault" ["loads", "foes", "room", "told"] (spP R_l_fault) k_l_fault) (h_l_fault : k_l_fault ≤ k) {R_store_fault : List D → (D → Prop) → Prop} {k_store_fault : Nat} (C_store_fault : Cal P w K mg base "store_fault" ["loads", "foes", "room", "told"] (spP R_store_fault) k_store_fault) (h_store_fault : k_store_fault ≤ k) {R_l_take : Stt → List D → (D → Stt → Prop) → Prop} {k_l_take : Nat} (C_l_take : Cal P w K mg base "_law_take" ["state", "most"] (spS R_l_take) k_l_take) (h_l_take : k_l_take ≤ k) {R_l_bent_tree : Stt → List D → (D → Stt → Prop) → Prop} {k_l_bent_tree : Nat} (C_l_bent_tree : Cal P w K mg base "_law_bent_tree" ["state", "many", "tree"] (spS R_l_bent_tree) k_l_bent_tree) (h_l_bent_tree : k_l_bent_tree ≤ k) :
    PSs (cxOf CX0 P w K mg base N_law "law" (defScope s_law) f cdv A outer s H E).nox (defBody s_law) (T_law K R_l_state R_l_loads R_store R_l_fault R_store_fault R_l_take R_l_bent_tree) :=
  have nd := sc_law.nd
  (pss_cons (ps_set (i := 1) nd rfl (by first | exact Or.inl rfl | exact Or.inr rfl) (pe_cal C_l_state (hr.mono h_l_state) (by rfl) (pa_cons (pv 0) pa_nil)))
    (pss_cons (ps_asg (pe_cal C_l_loads (hr.mono h_l_loads) (by rfl) (pa_cons (pv 1) (pa_cons pe_int pa_nil))) (pg_tup (n := 3) rfl (pgs_cons (pg_name (i := 2) nd rfl (by first | exact Or.inl rfl | exact Or.inr rfl)) (pgs_cons (pg_name (i := 3) nd rfl (by first | exact Or.inl rfl | exact Or.inr rfl)) (pgs_cons (pg_name (i := 4) nd rfl (by first | exact Or.inl rfl | exact Or.inr rfl)) pgs_nil)))))
    (pss_cons (ps_set (i := 5) nd rfl (by first | exact Or.inl rfl | exact Or.inr rfl) (pe_callB (cb_repr hr.units hgd) (by rfl) bn.repr_ (by decide +kernel) (pa_cons (pe_tup (pa_cons (pv 2) (pa_cons (pv 3) pa_nil))) pa_nil)))
    (pss_cons (ps_set (i := 6) nd rfl (by first | exact Or.inl rfl | exact Or.inr rfl) (pe_cal C_store (hr.mono h_store) (by rfl) (pa_cons (pv 2) (pa_cons (pv 3) (pa_cons (pv 4) pa_nil)))))
    (pss_cons (ps_if (PW.pt (pw_or (pt_cmpR op_isnt (pe_cal C_l_fault (hr.mono h_l_fault) (by rfl) (pa_cons (pv 2) (pa_cons (pv 3) (pa_cons (pv 4) (pa_cons (pv 6) pa_nil))))) pe_non (nomark _)) (pw_or1 (pt_cmpR op_isnt (pe_cal C_store_fault (hr.mono h_store_fault) (by rfl) (pa_cons (pv 2) (pa_cons (pv 3) (pa_cons (pv 4) (pa_cons (pv 6) pa_nil))))) pe_non (nomark _)))))
      (pss_one (ps_ret pe_bl))
      pss_nil)
    (pss_cons (ps_for PassesOwn.never rfl (pi_range1 (by rfl) bn.range_ (pa_cons pe_int pa_nil)) (pg_name (i := 7) nd rfl (by first | exact Or.inl rfl | exact Or.inr rfl))
      (pss_cons (ps_if (pt_cmpR (op_eqP hr.units) (pe_ix ix_any (pv 6) pe_int (fun _ _ => rfl)) pe_str (nomark _))
      (pss_one (ps_set (i := 8) nd rfl (by first | exact Or.inl rfl | exact Or.inr rfl) (pe_ix ix_any (pe_lst (pa_cons (pe_tup (pa_cons pe_str (pa_cons (pe_op op_plus (pe_ix ix_any (pv 6) pe_int (fun _ _ => rfl)) pe_int) pa_nil))) (pa_cons (pe_tup (pa_cons pe_str (pa_cons (pe_lst pa_nil) (pa_cons pe_non pa_nil)))) pa_nil))) (pe_cal C_l_take (hr.mono h_l_take) (by rfl) (pa_cons (pv 1) (pa_cons pe_int pa_nil))) (fun _ _ => rfl))))
      (pss_cons (ps_par (i := 9) (j := 10) rfl nd rfl rfl (by decide) rfl rfl (pa_cons (pe_lc (own := [("lot", 11)]) (g := (gName 11)) (tt := tYes) rfl nd (pi_list (pe_ix ix_any (pv 6) pe_int (fun _ _ => rfl))) (blkOk_by (N := N_law) (sc := defScope s_law) (by decide +kernel)) (fun _ _ _ _ _ => (pg_name (i := 11) nd rfl (by first | exact Or.inl rfl | exact Or.inr rfl))) (fun _ _ _ _ _ => pts_nil) (fun _ _ _ _ _ => (pe_callTy cb_list (by rfl) bn.list_ (by decide +kernel) (pa_cons (pv 11) pa_nil)))) (pa_cons (pe_ix ix_any (pv 6) pe_int (fun _ _ => rfl)) pa_nil)) (by rfl))
    (pss_cons (ps_set (i := 12) nd rfl (by first | exact Or.inl rfl | exact Or.inr rfl) (pe_cal C_l_take (hr.mono h_l_take) (by rfl) (pa_cons (pv 1) (pa_cons pe_int pa_nil))))
    (pss_cons (ps_set (i := 13) nd rfl (by first | exact Or.inl rfl | exact Or.inr rfl) (pe_cal C_l_take (hr.mono h_l_take) (by rfl) (pa_cons (pv 1) (pa_cons (pe_callB (cb_max2 rfl) (by rfl) bn.max_ (by decide +kernel) (pa_cons pe_int (pa_cons (pe_callB Pu.cb_len (by rfl) bn.len_ (by decide +kernel) (pa_cons (pv 9) pa_nil)) pa_nil))) pa_nil))))
    (pss_cons (ps_if (PW.pt (pw_or (pt_cmpR op_lt (pv 12) pe_int (nomark _)) (pw_or1 (pt_cmpR (op_eqP hr.units) (pe_callB Pu.cb_len (by rfl) bn.len_ (by decide +kernel) (pa_cons (pv 9) pa_nil)) pe_int (nomark _)))))
      (pss_one (ps_set (i := 10) nd rfl (by first | exact Or.inl rfl | exact Or.inr rfl) (pe_cal C_l_bent_tree (hr.mono h_l_bent_tree) (by rfl) (pa_cons (pv 1) (pa_cons (pe_callB Pu.cb_len (by rfl) bn.len_ (by decide +kernel) (pa_cons (pv 2) pa_nil)) (pa_cons (pv 10) pa_nil))))))
      (pss_one (ps_if (pt_cmpR (op_eqP hr.units) (pv 12) pe_int (nomark _))
      (pss_one (ps_asg (pe_slice sl_any (pe_ix ix_any (pv 9) (pv 13) (fun _ _ => rfl)) (po_some pe_int) po_none) (pg_sub (pv 9) (pv 13) set_list)))
      (pss_one (ps_if (pt_cmpR (op_eqP hr.units) (pv 12) pe_int (nomark _))
      (pss_one (ps_set (i := 9) nd rfl (by first | exact Or.inl rfl | exact Or.inr rfl) (pe_revL (pv 9))))
      (pss_one (ps_if (pt_cmpR (op_eqP hr.units) (pv 12) pe_int (nomark _))
      (pss_cons (ps_expr (pe_bm PySem.F.plainAttrs_list PySem.F.slot_list_append PySem.F.type_list_append mt_append (pe_ix ix_any (pv 9) (pe_cal C_l_take (hr.mono h_l_take) (by rfl) (pa_cons (pv 1) (pa_cons (pe_callB Pu.cb_len (by rfl) bn.len_ (by decide +kernel) (pa_cons (pv 9) pa_nil)) pa_nil))) (fun _ _ => rfl)) (pa_cons (pe_bm PySem.F.plainAttrs_list PySem.F.slot_list_pop PySem.F.type_list_pop mt_popAt (pe_ix ix_any (pv 9) (pv 13) (fun _ _ => rfl)) (pa_cons pe_int pa_nil)) pa_nil)))
    (pss_one (ps_set (i := 9) nd rfl (by first | exact Or.inl rfl | exact Or.inr rfl) (pe_callB (cb_sortD hr.units) (by rfl) bn.sorted_ (by decide +kernel) (pa_cons (pe_lc (own := [("lot", 11)]) (g := (gName 11)) (tt := tYes) rfl nd (pi_list (pv 9)) (blkOk_by (N := N_law) (sc := defScope s_law) (by decide +kernel)) (fun _ _ _ _ _ => (pg_name (i := 11) nd rfl (by first | exact Or.inl rfl | exact Or.inr rfl))) (fun _ _ _ _ _ => pts_nil) (fun _ _ _ _ _ => (pe_callB (cb_sortD hr.units) (by rfl) bn.sorted_ (by decide +kernel) (pa_cons (pv 11) pa_nil)))) pa_nil)))))
      (pss_one (ps_if (pt_cmpR (op_eqP hr.units) (pv 12) pe_int (nomark _))
      (pss_one (ps_set (i := 9) nd rfl (by first | exact Or.inl rfl | exact Or.inr rfl) (pe_callB (cb_sortD hr.units) (by rfl) bn.sorted_ (by decide +kernel) (pa_cons (pe_op op_plus (pe_op op_plus (pe_slice sl_any (pv 9) po_none (po_some (pv 13))) (pe_slice sl_any (pv 9) (po_some (pe_op op_plus (pv 13) pe_int)) po_none)) (pe_lc (own := [("one", 14)]) (g := (gName 14)) (tt := tYes) rfl nd (pi_list (pe_ix ix_any (pv 9) (pv 13) (fun _ _ => rfl))) (blkOk_by (N := N_law) (sc := defScope s_law) (by decide +kernel)) (fun _ _ _ _ _ => (pg_name (i := 14) nd rfl (by first | exact Or.inl rfl | exact Or.inr rfl))) (fun _ _ _ _ _ => pts_nil) (fun _ _ _ _ _ => (pe_lst (pa_cons (pv 14) pa_nil))))) pa_nil))))
      (pss_one (ps_set (i := 10) nd rfl (by first | exact Or.inl rfl | exact Or.inr rfl) pe_non)))))))))))
    (pss_one (ps_set (i := 8) nd rfl (by first | exact Or.inl rfl | exact Or.inr rfl) (pe_ifExp (pt_cmpR op_gt (pe_cal C_l_take (hr.mono h_l_take) (by rfl) (pa_cons (pv 1) (pa_cons pe_int pa_nil))) pe_int (nomark _)) (pe_tup (pa_cons pe_str (pa_cons (pv 9) (pa_cons (pv 10) pa_nil)))) (pe_tup (pa_cons pe_str (pa_cons pe_int pa_nil)))))))))))
    (pss_cons (ps_set (i := 15) nd rfl (by first | exact Or.inl rfl | exact Or.inr rfl) (pe_callB (cb_repr hr.units hgd) (by rfl) bn.repr_ (by decide +kernel) (pa_cons (pv 8) pa_nil)))
    (pss_one (ps_if (PW.pt (pw_or (pt_cmpR (op_neP hr.units) (pe_cal C_store_fault (hr.mono h_store_fault) (by rfl) (pa_cons (pv 2) (pa_cons (pv 3) (pa_cons (pv 4) (pa_cons (pv 8) pa_nil))))) (pe_cal C_l_fault (hr.mono h_l_fault) (by rfl) (pa_cons (pv 2) (pa_cons (pv 3) (pa_cons (pv 4) (pa_cons (pv 8) pa_nil))))) (nomark _)) (pw_or1 (pt_cmpR (op_neP hr.units) (pe_callB (cb_repr hr.units hgd) (by rfl) bn.repr_ (by decide +kernel) (pa_cons (pv 8) pa_nil)) (pv 15) (nomark _)))))
      (pss_one (ps_ret pe_bl))
      pss_nil)))))
    (pss_one (ps_ret (pe_cmpR (op_eqP hr.units) (pe_callB (cb_repr hr.units hgd) (by rfl) bn.repr_ (by decide +kernel) (pa_cons (pe_tup (pa_cons (pv 2) (pa_cons (pv 3) pa_nil))) pa_nil)) (pv 5) (nomark _))))))))))
theorem top_law {R : List D → (D → Prop) → Prop} (F : Fun K "law" "law" s_law f fd) (bn : Bn mg) {R_l_state : List D → (Stt → Prop) → Prop} {k_l_state : Nat} (C_l_state : Cal P w K mg base "_law_state" ["script"] (spN R_l_state) k_l_state) (h_l_state : k_l_state ≤ k) {R_l_loads : Stt → List D → (D → Stt → Prop) → Prop} {k_l_loads : Nat} (C_l_loads : Cal P w K mg base "_law_loads" ["state", "most"] (spS R_l_loads) k_l_loads) (h_l_loads : k_l_loads ≤ k) {R_store : List D → (D → Prop) → Prop} {k_store : Nat} (C_store : Cal P w K mg base "store" ["loads", "foes", "room"] (spP R_store) k_store) (h_store : k_store ≤ k) {R_l_fault : List D → (D → Prop) → Prop} {k_l_fault : Nat} (C_l_fault : Cal P w K mg base "_law_fault" ["loads", "foes", "room", "told"] (spP R_l_fault) k_l_fault) (h_l_fault : k_l_fault ≤ k) {R_store_fault : List D → (D → Prop) → Prop} {k_store_fault : Nat} (C_store_fault : Cal P w K mg base "store_fault" ["loads", "foes", "room", "told"] (spP R_store_fault) k_store_fault) (h_store_fault : k_store_fault ≤ k) {R_l_take : Stt → List D → (D → Stt → Prop) → Prop} {k_l_take : Nat} (C_l_take : Cal P w K mg base "_law_take" ["state", "most"] (spS R_l_take) k_l_take) (h_l_take : k_l_take ≤ k) {R_l_bent_tree : Stt → List D → (D → Stt → Prop) → Prop} {k_l_bent_tree : Nat} (C_l_bent_tree : Cal P w K mg base "_law_bent_tree" ["state", "many", "tree"] (spS R_l_bent_tree) k_l_bent_tree) (h_l_bent_tree : k_l_bent_tree ≤ k) (room : RoomTop (k + 1)) (len : ∀ ds Z, R ds Z → ds.length = 1) (sx : ∀ ds Z, R ds Z → SX (T_law K R_l_state R_l_loads R_store R_l_fault R_store_fault R_l_take R_l_bent_tree) (startE N_law ds) { nx := fun _ => Z .none, rt := fun d _ => Z d }) :
    TopOk P w K mg base f fd ["script"] (spP R) := top_pure F sc_law len room fun cdv s H E hr => ⟨_, ps_law bn hr rfl C_l_state h_l_state C_l_loads h_l_loads C_store h_store C_l_fault h_l_fault C_store_fault h_store_fault C_l_take h_l_take C_l_bent_tree h_l_bent_tree, sx⟩
theorem ps_Rooms_init {cdv : Value} {A : Around} {outer : List PySem.Env} {s : Shared} {H : Hp} {E : XK} (bn : Bn mg) (hr : Room k (A.deeper (PyProof.Rows.envOfC "Rooms.__init__" (defScope s_Rooms_init) s.heap.objs.size f cdv))) {C_Rooms : Addr} (O_Rooms : ObF K C_Rooms ["loads", "foes", "room", "order"]) :
    PSs (cxOf CX0 P w K mg base N_Rooms_init "Rooms.__init__" (defScope s_Rooms_init) f cdv A outer s H E).nox (defBody s_Rooms_init) (T_Rooms_init K C_Rooms) :=
  have nd := sc_Rooms_init.nd
  (pss_cons (ps_fldC O_Rooms (by simp) (pv 0) (pv 1) rfl)
    (pss_cons (ps_fldC O_Rooms (by simp) (pv 0) (pv 2) rfl)
    (pss_cons (ps_fldC O_Rooms (by simp) (pv 0) (pv 3) rfl)
    (pss_one (ps_fldC O_Rooms (by simp) (pv 0) (pe_lc (own := [("size", 5), ("at", 4)]) (g := (gTup K 2 (gCons (gName 5) (gCons (gName 4) gNil)))) (tt := tYes) rfl nd (pi_list (pe_callB (cb_sortD hr.units) (by rfl) bn.sorted_ (by decide +kernel) (pa_cons (pe_lc (own := [("at", 4), ("load", 6)]) (g := (gTup K 2 (gCons (gName 4) (gCons (gName 6) gNil)))) (tt := tYes) rfl nd (pi_enum (by rfl) bn.enumerate_ (pa_cons (pv 1) pa_nil)) (blkOk_by (N := N_Rooms_init) (sc := defScope s_Rooms_init) (by decide +kernel)) (fun _ _ _ _ _ => (pg_tup (n := 2) rfl (pgs_cons (pg_name (i := 4) nd rfl (by first | exact Or.inl rfl | exact Or.inr rfl)) (pgs_cons (pg_name (i := 6) nd rfl (by first | exact Or.inl rfl | exact Or.inr rfl)) pgs_nil)))) (fun _ _ _ _ _ => pts_nil) (fun _ _ _ _ _ => (pe_tup (pa_cons (pe_op op_sub pe_int (pe_ix ix_any (pv 6) pe_int (fun _ _ => rfl))) (pa_cons (pv 4) pa_nil))))) pa_nil))) (blkOk_by (N := N_Rooms_init) (sc := defScope s_Rooms_init) (by decide +kernel)) (fun _ _ _ _ _ => (pg_tup (n := 2) rfl (pgs_cons (pg_name (i := 5) nd rfl (by first | exact Or.inl rfl | exact Or.inr rfl)) (pgs_cons (pg_name (i := 4) nd rfl (by first | exact Or.inl rfl | exact Or.inr rfl)) pgs_nil)))) (fun _ _ _ _ _ => pts_nil) (fun _ _ _ _ _ => (pv 4))) rfl)))))
theorem ok_Rooms_init {R : Stt → List D → (D → Stt → Prop) → Prop} (F : Fun K "__init__" "Rooms.__init__" s_Rooms_init f fd) (bn : Bn mg) {C_Rooms : Addr} (O_Rooms : ObF K C_Rooms ["loads", "foes", "room", "order"]) (len : ∀ S ds Z, R S ds Z → ds.length + 1 = 4) (sx : ∀ S ds Z, R S ds Z → SX (T_Rooms_init K C_Rooms) (.st S :: (ds.map .val ++ List.replicate (N_Rooms_init.length - (ds.length + 1)) .emp)) { nx := fun ρ' => ∃ S', ρ'[0]? = some (.st S') ∧ Z .none S', rt := fun d ρ' => ∃ S', ρ'[0]? = some (.st S') ∧ Z d S' }) :
    FnOk P w K mg base CX0 (k + 1) f fd ["self", "loads", "foes", "room"] (spS R) := fn_state F sc_Rooms_init len fun cdv A outer s H E hr => ⟨_, ps_Rooms_init bn hr O_Rooms, sx⟩
theorem ps_Rooms_spots {cdv : Value} {A : Around} {outer : List PySem.Env} {s : Shared} {H : Hp} {E : XK} (bn : Bn mg) (hr : Room k (A.deeper (PyProof.Rows.envOfC "Rooms.spots" (defScope s_Rooms_spots) s.heap.objs.size f cdv))) {C_Rooms : Addr} (O_Rooms : ObF K C_Rooms ["loads", "foes", "room", "order"]) {R_may_join : List D → (D → Prop) → Prop} {k_may_join : Nat} (C_may_join : Cal P w K mg base "may_join" ["loads", "foes", "room", "lot", "at"] (spP R_may_join) k_may_join) (h_may_join : k_may_join ≤ k) :
    PSs (cxOf CX0 P w K mg base N_Rooms_spots "Rooms.spots" (defScope s_Rooms_spots) f cdv A outer s H E).nox (defBody s_Rooms_spots) (T_Rooms_spots K C_Rooms R_may_join) :=
  have nd := sc_Rooms_spots.nd
  (pss_cons (ps_setLc (i := 4) (own := [("one", 5), ("lot", 6)]) (g := (gTup K 2 (gCons (gName 5) (gCons (gName 6) gNil)))) (tt := (tB (tCall (spP R_may_join) [] E0 (tCons (tFldC C_Rooms (tVar 0) "loads") (tCons (tFldC C_Rooms (tVar 0) "foes") (tCons (tFldC C_Rooms (tVar 0) "room") (tCons (tVar 6) (tCons (tVar 2) tNil)))))))) rfl nd rfl rfl (sw_true rfl rfl rfl (by decide +kernel)) (pi_enum (by rfl) bn.enumerate_ (pa_cons (pv 1) pa_nil)) (blkOk_by (N := N_Rooms_spots) (sc := defScope s_Rooms_spots) (by decide +kernel)) (fun _ _ _ _ _ => (pg_tup (n := 2) rfl (pgs_cons (pg_name (i := 5) nd rfl (by first | exact Or.inl rfl | exact Or.inr rfl)) (pgs_cons (pg_name (i := 6) nd rfl (by first | exact Or.inl rfl | exact Or.inr rfl)) pgs_nil)))) (fun _ _ _ _ _ => (pts_one (pt_val (pe_cal C_may_join (hr.mono h_may_join) (by rfl) (pa_cons (pe_fldC O_Rooms (by simp) (pv 0) rfl) (pa_cons (pe_fldC O_Rooms (by simp) (pv 0) rfl) (pa_cons (pe_fldC O_Rooms (by simp) (pv 0) rfl) (pa_cons (pv 6) (pa_cons (pv 2) pa_nil))))))))) (fun _ _ _ _ _ => (pv 5)))
    (pss_one (ps_ret (pe_op op_plus (pv 4) (pe_ifExp (pt_cmpR op_lt (pe_callB Pu.cb_len (by rfl) bn.len_ (by decide +kernel) (pa_cons (pv 1) pa_nil)) (pv 3) (nomark _)) (pe_lst (pa_cons (pe_callB Pu.cb_len (by rfl) bn.len_ (by decide +kernel) (pa_cons (pv 1) pa_nil)) pa_nil)) (pe_lst pa_nil))))))
theorem ok_Rooms_spots {R : Stt → List D → (D → Stt → Prop) → Prop} (F : Fun K "spots" "Rooms.spots" s_Rooms_spots f fd) (bn : Bn mg) {C_Rooms : Addr} (O_Rooms : ObF K C_Rooms ["loads", "foes", "room", "order"]) {R_may_join : List D → (D → Prop) → Prop} {k_may_join : Nat} (C_may_join : Cal P w K mg base "may_join" ["loads", "foes", "room", "lot", "at"] (spP R_may_join) k_may_join) (h_may_join : k_may_join ≤ k) (len : ∀ S ds Z, R S ds Z → ds.length + 1 = 4) (sx : ∀ S ds Z, R S ds Z → SX (T_Rooms_spots K C_Rooms R_may_join) (.st S :: (ds.map .val ++ List.replicate (N_Rooms_spots.length - (ds.length + 1)) .emp)) { nx := fun ρ' => ∃ S', ρ'[0]? = some (.st S') ∧ Z .none S', rt := fun d ρ' => ∃ S', ρ'[0]? = some (.st S') ∧ Z d S' }) :
    FnOk P w K mg base CX0 (k + 1) f fd ["self", "lots", "at", "many"] (spS R) := fn_state F sc_Rooms_spots len fun cdv A outer s H E hr => ⟨_, ps_Rooms_spots bn hr O_Rooms C_may_join h_may_join, sx⟩
theorem ps_Rooms_put {cdv : Value} {A : Around} {outer : List PySem.Env} {s : Shared} {H : Hp} {E : XK} (bn : Bn mg) (hr : Room k (A.deeper (PyProof.Rows.envOfC "Rooms.put" (defScope s_Rooms_put) s.heap.objs.size f cdv))) {C_Rooms : Addr} (O_Rooms : ObF K C_Rooms ["loads", "foes", "room", "order"]) {R_Rooms_spots : Stt → List D → (D → Stt → Prop) → Prop} {k_Rooms_spots : Nat} (M_Rooms_spots : CalM P w K mg base C_Rooms "spots" ["self", "lots", "at", "many"] (spS R_Rooms_spots) k_Rooms_spots) (h_Rooms_spots : k_Rooms_spots ≤ k) {R_Rooms_put : Stt → List D → (D → Stt → Prop) → Prop} {k_Rooms_put : Nat} (M_Rooms_put : CalM P w K mg base C_Rooms "put" ["self", "lots", "turn", "many"] (spS R_Rooms_put) k_Rooms_put) (h_Rooms_put : k_Rooms_put ≤ k) {R_with_load : List D → (D → Prop) → Prop} {k_with_load : Nat} (C_with_load : Cal P w K mg base "with_load" ["lots", "one", "at"] (spP R_with_load) k_with_load) (h_with_load : k_with_load ≤ k) :
    PSs (cxOf CX0 P w K mg base N_Rooms_put "Rooms.put" (defScope s_Rooms_put) f cdv A outer s H E).nox (defBody s_Rooms_put) (T_Rooms_put K C_Rooms R_Rooms_spots R_Rooms_put R_with_load) :=
  have nd := sc_Rooms_put.nd
  (pss_cons (ps_if (pt_cmpR (op_eqP hr.units) (pv 2) (pe_callB Pu.cb_len (by rfl) bn.len_ (by decide +kernel) (pa_cons (pe_fldC O_Rooms (by simp) (pv 0) rfl) pa_nil)) (nomark _))
      (pss_one (ps_ret (pv 1)))
      pss_nil)
    (pss_cons (ps_set (i := 4) nd rfl (by first | exact Or.inl rfl | exact Or.inr rfl) (pe_ix ix_any (pe_fldC O_Rooms (by simp) (pv 0) rfl) (pv 2) (fun _ _ => rfl)))
    (pss_cons (ps_for PassesOwn.never rfl (pi_list (pe_calM M_Rooms_spots O_Rooms (hr.mono h_Rooms_spots) (pv 0) (pa_cons (pv 1) (pa_cons (pv 4) (pa_cons (pv 3) pa_nil))))) (pg_name (i := 5) nd rfl (by first | exact Or.inl rfl | exact Or.inr rfl))
      (pss_cons (ps_set (i := 6) nd rfl (by first | exact Or.inl rfl | exact Or.inr rfl) (pe_calM M_Rooms_put O_Rooms (hr.mono h_Rooms_put) (pv 0) (pa_cons (pe_cal C_with_load (hr.mono h_with_load) (by rfl) (pa_cons (pv 1) (pa_cons (pv 5) (pa_cons (pv 4) pa_nil)))) (pa_cons (pe_op op_plus (pv 2) pe_int) (pa_cons (pv 3) pa_nil)))))
    (pss_one (ps_if (pt_cmpR op_isnt (pv 6) pe_non (nomark _))
      (pss_one (ps_ret (pv 6)))
      pss_nil))))
    (pss_one (ps_ret pe_non)))))
theorem ok_Rooms_put {R : Stt → List D → (D → Stt → Prop) → Prop} (F : Fun K "put" "Rooms.put" s_Rooms_put f fd) (bn : Bn mg) {C_Rooms : Addr} (O_Rooms : ObF K C_Rooms ["loads", "foes", "room", "order"]) {R_Rooms_spots : Stt → List D → (D → Stt → Prop) → Prop} {k_Rooms_spots : Nat} (M_Rooms_spots : CalM P w K mg base C_Rooms "spots" ["self", "lots", "at", "many"] (spS R_Rooms_spots) k_Rooms_spots) (h_Rooms_spots : k_Rooms_spots ≤ k) {R_Rooms_put : Stt → List D → (D → Stt → Prop) → Prop} {k_Rooms_put : Nat} (M_Rooms_put : CalM P w K mg base C_Rooms "put" ["self", "lots", "turn", "many"] (spS R_Rooms_put) k_Rooms_put) (h_Rooms_put : k_Rooms_put ≤ k) {R_with_load : List D → (D → Prop) → Prop} {k_with_load : Nat} (C_with_load : Cal P w K mg base "with_load" ["lots", "one", "at"] (spP R_with_load) k_with_load) (h_with_load : k_with_load ≤ k) (len : ∀ S ds Z, R S ds Z → ds.length + 1 = 4) (sx : ∀ S ds Z, R S ds Z → SX (T_Rooms_put K C_Rooms R_Rooms_spots R_Rooms_put R_with_load) (.st S :: (ds.map .val ++ List.replicate (N_Rooms_put.length - (ds.length + 1)) .emp)) { nx := fun ρ' => ∃ S', ρ'[0]? = some (.st S') ∧ Z .none S', rt := fun d ρ' => ∃ S', ρ'[0]? = some (.st S') ∧ Z d S' }) :
    FnOk P w K mg base CX0 (k + 1) f fd ["self", "lots", "turn", "many"] (spS R) := fn_state F sc_Rooms_put len fun cdv A outer s H E hr => ⟨_, ps_Rooms_put bn hr O_Rooms M_Rooms_spots h_Rooms_spots M_Rooms_put h_Rooms_put C_with_load h_with_load, sx⟩
theorem ps_Rooms_apart {cdv : Value} {A : Around} {outer : List PySem.Env} {s : Shared} {H : Hp} {E : XK} (bn : Bn mg) (hr : Room k (A.deeper (PyProof.Rows.envOfC "Rooms.apart" (defScope s_Rooms_apart) s.heap.objs.size f cdv))) {C_Rooms : Addr} (O_Rooms : ObF K C_Rooms ["loads", "foes", "room", "order"]) {R_may_join : List D → (D → Prop) → Prop} {k_may_join : Nat} (C_may_join : Cal P w K mg base "may_join" ["loads", "foes", "room", "lot", "at"] (spP R_may_join) k_may_join) (h_may_join : k_may_join ≤ k) :
    PSs (cxOf CX0 P w K mg base N_Rooms_apart "Rooms.apart" (defScope s_Rooms_apart) f cdv A outer s H E).nox (defBody s_Rooms_apart) (T_Rooms_apart K C_Rooms R_may_join) :=
  have nd := sc_Rooms_apart.nd
  (pss_cons (ps_set (i := 2) nd rfl (by first | exact Or.inl rfl | exact Or.inr rfl) (pe_lst pa_nil))
    (pss_cons (ps_for PassesOwn.never rfl (pi_list (pv 1)) (pg_name (i := 3) nd rfl (by first | exact Or.inl rfl | exact Or.inr rfl))
      (pss_one (ps_if (pt_not (pt_val (pe_callB (cb_any rfl) (by rfl) bn.any_ (by decide +kernel) (pa_cons (pe_lc (own := [("other", 4)]) (g := (gName 4)) (tt := tYes) rfl nd (pi_list (pv 2)) (blkOk_by (N := N_Rooms_apart) (sc := defScope s_Rooms_apart) (by decide +kernel)) (fun _ _ _ _ _ => (pg_name (i := 4) nd rfl (by first | exact Or.inl rfl | exact Or.inr rfl))) (fun _ _ _ _ _ => pts_nil) (fun _ _ _ _ _ => (pe_cal C_may_join (hr.mono h_may_join) (by rfl) (pa_cons (pe_fldC O_Rooms (by simp) (pv 0) rfl) (pa_cons (pe_fldC O_Rooms (by simp) (pv 0) rfl) (pa_cons (pe_fldC O_Rooms (by simp) (pv 0) rfl) (pa_cons (pe_lst (pa_cons (pv 4) pa_nil)) (pa_cons (pv 3) pa_nil)))))))) pa_nil))))
      (pss_one (ps_expr (pe_bm PySem.F.plainAttrs_list PySem.F.slot_list_append PySem.F.type_list_append mt_append (pv 2) (pa_cons (pv 3) pa_nil))))
      pss_nil)))
    (pss_one (ps_ret (pe_callB (cb_sortD hr.units) (by rfl) bn.sorted_ (by decide +kernel) (pa_cons (pv 2) pa_nil))))))
theorem ok_Rooms_apart {R : Stt → List D → (D → Stt → Prop) → Prop} (F : Fun K "apart" "Rooms.apart" s_Rooms_apart f fd) (bn : Bn mg) {C_Rooms : Addr} (O_Rooms : ObF K C_Rooms ["loads", "foes", "room", "order"]) {R_may_join : List D → (D → Prop) → Prop} {k_may_join : Nat} (C_may_join : Cal P w K mg base "may_join" ["loads", "foes", "room", "lot", "at"] (spP R_may_join) k_may_join) (h_may_join : k_may_join ≤ k) (len : ∀ S ds Z, R S ds Z → ds.length + 1 = 2) (sx : ∀ S ds Z, R S ds Z → SX (T_Rooms_apart K C_Rooms R_may_join) (.st S :: (ds.map .val ++ List.replicate (N_Rooms_apart.length - (ds.length + 1)) .emp)) { nx := fun ρ' => ∃ S', ρ'[0]? = some (.st S') ∧ Z .none S', rt := fun d ρ' => ∃ S', ρ'[0]? = some (.st S') ∧ Z d S' }) :
    FnOk P w K mg base CX0 (k + 1) f fd ["self", "left"] (spS R) := fn_state F sc_Rooms_apart len fun cdv A outer s H E hr => ⟨_, ps_Rooms_apart bn hr O_Rooms C_may_join h_may_join, sx⟩
theorem ps_Rooms_prove {cdv : Value} {A : Around} {outer : List PySem.Env} {s : Shared} {H : Hp} {E : XK} (bn : Bn mg) (hr : Room k (A.deeper (PyProof.Rows.envOfC "Rooms.prove" (defScope s_Rooms_prove) s.heap.objs.size f cdv))) {C_Rooms : Addr} (O_Rooms : ObF K C_Rooms ["loads", "foes", "room", "order"]) {R_Rooms_apart : Stt → List D → (D → Stt → Prop) → Prop} {k_Rooms_apart : Nat} (M_Rooms_apart : CalM P w K mg base C_Rooms "apart" ["self", "left"] (spS R_Rooms_apart) k_Rooms_apart) (h_Rooms_apart : k_Rooms_apart ≤ k) {R_Rooms_prove : Stt → List D → (D → Stt → Prop) → Prop} {k_Rooms_prove : Nat} (M_Rooms_prove : CalM P w K mg base C_Rooms "prove" ["self", "lots", "turn", "many"] (spS R_Rooms_prove) k_Rooms_prove) (h_Rooms_prove : k_Rooms_prove ≤ k) {R_Rooms_spots : Stt → List D → (D → Stt → Prop) → Prop} {k_Rooms_spots : Nat} (M_Rooms_spots : CalM P w K mg base C_Rooms "spots" ["self", "lots", "at", "many"] (spS R_Rooms_spots) k_Rooms_spots) (h_Rooms_spots : k_Rooms_spots ≤ k) {R_with_load : List D → (D → Prop) → Prop} {k_with_load : Nat} (C_with_load : Cal P w K mg base "with_load" ["lots", "one", "at"] (spP R_with_load) k_with_load) (h_with_load : k_with_load ≤ k) :
    PSs (cxOf CX0 P w K mg base N_Rooms_prove "Rooms.prove" (defScope s_Rooms_prove) f cdv A outer s H E).nox (defBody s_Rooms_prove) (T_Rooms_prove K C_Rooms R_Rooms_apart R_Rooms_prove R_Rooms_spots R_with_load) :=
  have nd := sc_Rooms_prove.nd
  (pss_cons (ps_if (pt_not (pt_tru (pt_truth (pv 1) (fun _ => rfl))))
      (pss_cons (ps_set (i := 4) nd rfl (by first | exact Or.inl rfl | exact Or.inr rfl) (pe_calM M_Rooms_apart O_Rooms (hr.mono h_Rooms_apart) (pv 0) (pa_cons (pe_fldC O_Rooms (by simp) (pv 0) rfl) pa_nil)))
    (pss_cons (ps_if (pt_cmpR op_gt (pe_callB Pu.cb_len (by rfl) bn.len_ (by decide +kernel) (pa_cons (pv 4) pa_nil)) (pv 3) (nomark _))
      (pss_one (ps_ret (pe_tup (pa_cons pe_str (pa_cons (pv 4) pa_nil)))))
      pss_nil)
    (pss_one (ps_if (pt_cmpR op_gt (pe_callB (cr_sum rfl) (by rfl) bn.sum_ (by decide +kernel) (pa_cons (pe_lc (own := [("load", 5)]) (g := (gName 5)) (tt := tYes) rfl nd (pi_list (pe_fldC O_Rooms (by simp) (pv 0) rfl)) (blkOk_by (N := N_Rooms_prove) (sc := defScope s_Rooms_prove) (by decide +kernel)) (fun _ _ _ _ _ => (pg_name (i := 5) nd rfl (by first | exact Or.inl rfl | exact Or.inr rfl))) (fun _ _ _ _ _ => pts_nil) (fun _ _ _ _ _ => (pe_ix ix_any (pv 5) pe_int (fun _ _ => rfl)))) pa_nil)) (pe_op op_mul (pv 3) (pe_fldC O_Rooms (by simp) (pv 0) rfl)) (nomark _))
      (pss_one (ps_ret (pe_tup (pa_cons pe_str pa_nil))))
      pss_nil))))
      pss_nil)
    (pss_cons (ps_set (i := 6) nd rfl (by first | exact Or.inl rfl | exact Or.inr rfl) (pe_ix ix_any (pe_fldC O_Rooms (by simp) (pv 0) rfl) (pv 2) (fun _ _ => rfl)))
    (pss_cons (ps_setLc (i := 7) (own := [("one", 8)]) (g := (gName 8)) (tt := tYes) rfl nd rfl rfl (sw_true rfl rfl rfl (by decide +kernel)) (pi_list (pe_calM M_Rooms_spots O_Rooms (hr.mono h_Rooms_spots) (pv 0) (pa_cons (pv 1) (pa_cons (pv 6) (pa_cons (pv 3) pa_nil))))) (blkOk_by (N := N_Rooms_prove) (sc := defScope s_Rooms_prove) (by decide +kernel)) (fun _ _ _ _ _ => (pg_name (i := 8) nd rfl (by first | exact Or.inl rfl | exact Or.inr rfl))) (fun _ _ _ _ _ => pts_nil) (fun _ _ _ _ _ => (pe_calM M_Rooms_prove O_Rooms (hr.mono h_Rooms_prove) (pv 0) (pa_cons (pe_cal C_with_load (hr.mono h_with_load) (by rfl) (pa_cons (pv 1) (pa_cons (pv 8) (pa_cons (pv 6) pa_nil)))) (pa_cons (pe_op op_plus (pv 2) pe_int) (pa_cons (pv 3) pa_nil))))))
    (pss_one (ps_ret (pe_tup (pa_cons pe_str (pa_cons (pv 6) (pa_cons (pv 7) pa_nil)))))))))
theorem ok_Rooms_prove {R : Stt → List D → (D → Stt → Prop) → Prop} (F : Fun K "prove" "Rooms.prove" s_Rooms_prove f fd) (bn : Bn mg) {C_Rooms : Addr} (O_Rooms : ObF K C_Rooms ["loads", "foes", "room", "order"]) {R_Rooms_apart : Stt → List D → (D → Stt → Prop) → Prop} {k_Rooms_apart : Nat} (M_Rooms_apart : CalM P w K mg base C_Rooms "apart" ["self", "left"] (spS R_Rooms_apart) k_Rooms_apart) (h_Rooms_apart : k_Rooms_apart ≤ k) {R_Rooms_prove : Stt → List D → (D → Stt → Prop) → Prop} {k_Rooms_prove : Nat} (M_Rooms_prove : CalM P w K mg base C_Rooms "prove" ["self", "lots", "turn", "many"] (spS R_Rooms_prove) k_Rooms_prove) (h_Rooms_prove : k_Rooms_prove ≤ k) {R_Rooms_spots : Stt → List D → (D → Stt → Prop) → Prop} {k_Rooms_spots : Nat} (M_Rooms_spots : CalM P w K mg base C_Rooms "spots" ["self", "lots", "at", "many"] (spS R_Rooms_spots) k_Rooms_spots) (h_Rooms_spots : k_Rooms_spots ≤ k) {R_with_load : List D → (D → Prop) → Prop} {k_with_load : Nat} (C_with_load : Cal P w K mg base "with_load" ["lots", "one", "at"] (spP R_with_load) k_with_load) (h_with_load : k_with_load ≤ k) (len : ∀ S ds Z, R S ds Z → ds.length + 1 = 4) (sx : ∀ S ds Z, R S ds Z → SX (T_Rooms_prove K C_Rooms R_Rooms_apart R_Rooms_prove R_Rooms_spots R_with_load) (.st S :: (ds.map .val ++ List.replicate (N_Rooms_prove.length - (ds.length + 1)) .emp)) { nx := fun ρ' => ∃ S', ρ'[0]? = some (.st S') ∧ Z .none S', rt := fun d ρ' => ∃ S', ρ'[0]? = some (.st S') ∧ Z d S' }) :
    FnOk P w K mg base CX0 (k + 1) f fd ["self", "lots", "turn", "many"] (spS R) := fn_state F sc_Rooms_prove len fun cdv A outer s H E hr => ⟨_, ps_Rooms_prove bn hr O_Rooms M_Rooms_apart h_Rooms_apart M_Rooms_prove h_Rooms_prove M_Rooms_spots h_Rooms_spots C_with_load h_with_load, sx⟩
end
end Law_k64
namespace Law_k64
open PySem L2 Pu
section
variable {P : Program} {w : World} {K : PySem.W.Frag} {mg : Str → Option Value} {base : Heap} {f : Addr} {fd : FuncData} {k : Nat}
theorem len_l_loads : ∀ S ds Z, R_loads S ds Z → ds.length + 1 = 2 := by
  intro S ds Z h
  unfold R_loads at h
  repeat (obtain ⟨e, h⟩ := h; try subst e)
  all_goals rfl
theorem len_Rooms_init {C_Rooms : Addr} : ∀ S ds Z, R_init C_Rooms S ds Z → ds.length + 1 = 4 := by
  intro S ds Z h
  unfold R_init at h
  repeat (obtain ⟨e, h⟩ := h; try subst e)
  all_goals rfl
theorem len_foe_pair : ∀ ds Z, R_fp ds Z → ds.length = 3 := by
  intro ds Z h
  unfold R_fp at h
  repeat (obtain ⟨e, h⟩ := h; try subst e)
  all_goals rfl
theorem len_may_join : ∀ ds Z, R_mj ds Z → ds.length = 5 := by
  intro ds Z h
  unfold R_mj at h
  repeat (obtain ⟨e, h⟩ := h; try subst e)
  all_goals rfl
theorem len_Rooms_spots {C_Rooms : Addr} : ∀ S ds Z, R_spots C_Rooms S ds Z → ds.length + 1 = 4 := by
  intro S ds Z h
  unfold R_spots at h
  repeat (obtain ⟨e, h⟩ := h; try subst e)
  all_goals rfl
theorem len_with_load : ∀ ds Z, R_wl ds Z → ds.length = 3 := by
  intro ds Z h
  unfold R_wl at h
  repeat (obtain ⟨e, h⟩ := h; try subst e)
  all_goals rfl
theorem len_Rooms_put {C_Rooms : Addr} : ∀ (n : Nat) S ds Z, R_put C_Rooms n S ds Z → ds.length + 1 = 4 := by
  intro n S ds Z h
  unfold R_put at h
  repeat (obtain ⟨e, h⟩ := h; try subst e)
  all_goals rfl
theorem len_Rooms_apart {C_Rooms : Addr} : ∀ S ds Z, R_apart C_Rooms S ds Z → ds.length + 1 = 2 := by
  intro S ds Z h
  unfold R_apart at h
  repeat (obtain ⟨e, h⟩ := h; try subst e)
  all_goals rfl
theorem len_Rooms_prove {C_Rooms : Addr} : ∀ (n : Nat) S ds Z, R_prove C_Rooms n S ds Z → ds.length + 1 = 4 := by
  intro n S ds Z h
  unfold R_prove at h
  repeat (obtain ⟨e, h⟩ := h; try subst e)
  all_goals rfl
theorem len_store : ∀ ds Z, R_store ds Z → ds.length = 3 := by
  intro ds Z h
  unfold R_store at h
  repeat (obtain ⟨e, h⟩ := h; try subst e)
  all_goals rfl
theorem len_l_join : ∀ ds Z, R_mj ds Z → ds.length = 5 := by
  intro ds Z h
  unfold R_mj at h
  repeat (obtain ⟨e, h⟩ := h; try subst e)
  all_goals rfl
theorem len_l_spots : ∀ ds Z, R_lsp ds Z → ds.length = 6 := by
  intro ds Z h
  unfold R_lsp at h
  repeat (obtain ⟨e, h⟩ := h; try subst e)
  all_goals rfl
theorem len_l_put : ∀ ds Z, R_wl ds Z → ds.length = 3 := by
  intro ds Z h
  unfold R_wl at h
  repeat (obtain ⟨e, h⟩ := h; try subst e)
  all_goals rfl
theorem len_l_tree_fault : ∀ (n : Nat) ds Z, R_ltf n ds Z → ds.length = 7 := by
  intro n ds Z h
  unfold R_ltf at h
  repeat (obtain ⟨e, h⟩ := h; try subst e)
  all_goals rfl
theorem len_l_fault : ∀ ds Z, R_sf ds Z → ds.length = 4 := by
  intro ds Z h
  unfold R_sf at h
  repeat (obtain ⟨e, h⟩ := h; try subst e)
  all_goals rfl
theorem len_tree_fault {C_Rooms : Addr} : ∀ (n : Nat) S ds Z, R_tf C_Rooms n S ds Z → ds.length + 1 = 5 := by
  intro n S ds Z h
  unfold R_tf at h
  repeat (obtain ⟨e, h⟩ := h; try subst e)
  all_goals rfl
theorem len_store_fault : ∀ ds Z, R_sf ds Z → ds.length = 4 := by
  intro ds Z h
  unfold R_sf at h
  repeat (obtain ⟨e, h⟩ := h; try subst e)
  all_goals rfl
theorem len_l_bent_tree : ∀ (n : Nat) S ds Z, R_bent n S ds Z → ds.length + 1 = 3 := by
  intro n S ds Z h
  unfold R_bent at h
  repeat (obtain ⟨e, h⟩ := h; try subst e)
  all_goals rfl
theorem len_law : ∀ ds Z, R_law ds Z → ds.length = 1 := by
  intro ds Z h
  unfold R_law at h
  repeat (obtain ⟨e, h⟩ := h; try subst e)
  all_goals rfl
theorem rec_Rooms_put {C_Rooms : Addr} (F : Fun K "put" "Rooms.put" s_Rooms_put f fd) (hm : Meth K C_Rooms "put" f) (bd : Binds K fd ["self", "lots", "turn", "many"] []) (bn : Bn mg) {j : Nat} (O_Rooms : ObF K C_Rooms ["loads", "foes", "room", "order"]) {k_Rooms_spots : Nat} (M_Rooms_spots : CalM P w K mg base C_Rooms "spots" ["self", "lots", "at", "many"] (spS (R_spots C_Rooms)) k_Rooms_spots) (h_Rooms_spots : k_Rooms_spots ≤ j) {k_with_load : Nat} (C_with_load : Cal P w K mg base "with_load" ["lots", "one", "at"] (spP R_wl) k_with_load) (h_with_load : k_with_load ≤ j) : ∀ n : Nat, FnOk P w K mg base CX0 (j + n) f fd ["self", "lots", "turn", "many"] (spS (R_put C_Rooms n))
  | 0 => fn_noS (no_put)
  | n + 1 => by
    have ih := rec_Rooms_put F hm bd bn (j := j) O_Rooms M_Rooms_spots h_Rooms_spots C_with_load h_with_load n
    exact ok_Rooms_put (k := j + n) F bn O_Rooms M_Rooms_spots (Nat.le_trans h_Rooms_spots (Nat.le_add_right j n)) ⟨_, _, ih, hm, bd⟩ (Nat.le_refl _) C_with_load (Nat.le_trans h_with_load (Nat.le_add_right j n)) (len_Rooms_put (n + 1)) (sx_Rooms_put K C_Rooms n)
theorem rec_Rooms_prove {C_Rooms : Addr} (F : Fun K "prove" "Rooms.prove" s_Rooms_prove f fd) (hm : Meth K C_Rooms "prove" f) (bd : Binds K fd ["self", "lots", "turn", "many"] []) (bn : Bn mg) {j : Nat} (O_Rooms : ObF K C_Rooms ["loads", "foes", "room", "order"]) {k_Rooms_apart : Nat} (M_Rooms_apart : CalM P w K mg base C_Rooms "apart" ["self", "left"] (spS (R_apart C_Rooms)) k_Rooms_apart) (h_Rooms_apart : k_Rooms_apart ≤ j) {k_Rooms_spots : Nat} (M_Rooms_spots : CalM P w K mg base C_Rooms "spots" ["self", "lots", "at", "many"] (spS (R_spots C_Rooms)) k_Rooms_spots) (h_Rooms_spots : k_Rooms_spots ≤ j) {k_with_load : Nat} (C_with_load : Cal P w K mg base "with_load" ["lots", "one", "at"] (spP R_wl) k_with_load) (h_with_load : k_with_load ≤ j) : ∀ n : Nat, FnOk P w K mg base CX0 (j + n) f fd ["self", "lots", "turn", "many"] (spS (R_prove C_Rooms n))
  | 0 => fn_noS (no_prove)
  | n + 1 => by
    have ih := rec_Rooms_prove F hm bd bn (j := j) O_Rooms M_Rooms_apart h_Rooms_apart M_Rooms_spots h_Rooms_spots C_with_load h_with_load n
    exact ok_Rooms_prove (k := j + n) F bn O_Rooms M_Rooms_apart (Nat.le_trans h_Rooms_apart (Nat.le_add_right j n)) ⟨_, _, ih, hm, bd⟩ (Nat.le_refl _) M_Rooms_spots (Nat.le_trans h_Rooms_spots (Nat.le_add_right j n)) C_with_load (Nat.le_trans h_with_load (Nat.le_add_right j n)) (len_Rooms_prove (n + 1)) (sx_Rooms_prove K C_Rooms n)
theorem rec_l_tree_fault (F : Fun K "_law_tree_fault" "_law_tree_fault" s_l_tree_fault f fd) (hm : mg "_law_tree_fault" = some (.ref f)) (bd : Binds K fd ["loads", "foes", "room", "lots", "many", "path", "tree"] []) (bn : Bn mg) {j : Nat} {k_l_spots : Nat} (C_l_spots : Cal P w K mg base "_law_spots" ["loads", "foes", "room", "lots", "at", "many"] (spP R_lsp) k_l_spots) (h_l_spots : k_l_spots ≤ j) {k_l_put : Nat} (C_l_put : Cal P w K mg base "_law_put" ["lots", "one", "at"] (spP R_wl) k_l_put) (h_l_put : k_l_put ≤ j) {k_l_join : Nat} (C_l_join : Cal P w K mg base "_law_join" ["loads", "foes", "room", "lot", "at"] (spP R_mj) k_l_join) (h_l_join : k_l_join ≤ j) : ∀ n : Nat, FnOk P w K mg base CX0 (j + n) f fd ["loads", "foes", "room", "lots", "many", "path", "tree"] (spP (R_ltf n))
  | 0 => fn_noP (no_ltf)
  | n + 1 => by
    have ih := rec_l_tree_fault F hm bd bn (j := j) C_l_spots h_l_spots C_l_put h_l_put C_l_join h_l_join n
    exact ok_l_tree_fault (k := j + n) F bn C_l_spots (Nat.le_trans h_l_spots (Nat.le_add_right j n)) ⟨_, _, ih, hm, F.kp, bd⟩ (Nat.le_refl _) C_l_put (Nat.le_trans h_l_put (Nat.le_add_right j n)) C_l_join (Nat.le_trans h_l_join (Nat.le_add_right j n)) (len_l_tree_fault (n + 1)) (sx_l_tree_fault K n)
theorem rec_tree_fault {C_Rooms : Addr} (F : Fun K "tree_fault" "tree_fault" s_tree_fault f fd) (hm : mg "tree_fault" = some (.ref f)) (bd : Binds K fd ["search", "lots", "many", "path", "tree"] []) (bn : Bn mg) {j : Nat} (O_Rooms : ObF K C_Rooms ["loads", "foes", "room", "order"]) {k_Rooms_spots : Nat} (M_Rooms_spots : CalM P w K mg base C_Rooms "spots" ["self", "lots", "at", "many"] (spS (R_spots C_Rooms)) k_Rooms_spots) (h_Rooms_spots : k_Rooms_spots ≤ j) {k_with_load : Nat} (C_with_load : Cal P w K mg base "with_load" ["lots", "one", "at"] (spP R_wl) k_with_load) (h_with_load : k_with_load ≤ j) {k_may_join : Nat} (C_may_join : Cal P w K mg base "may_join" ["loads", "foes", "room", "lot", "at"] (spP R_mj) k_may_join) (h_may_join : k_may_join ≤ j) : ∀ n : Nat, FnOk P w K mg base CX0 (j + n) f fd ["search", "lots", "many", "path", "tree"] (spS (R_tf C_Rooms n))
  | 0 => fn_noS (no_tf)
  | n + 1 => by
    have ih := rec_tree_fault F hm bd bn (j := j) O_Rooms M_Rooms_spots h_Rooms_spots C_with_load h_with_load C_may_join h_may_join n
    exact ok_tree_fault (k := j + n) F bn O_Rooms M_Rooms_spots (Nat.le_trans h_Rooms_spots (Nat.le_add_right j n)) ⟨_, _, ih, hm, F.kp, bd⟩ (Nat.le_refl _) C_with_load (Nat.le_trans h_with_load (Nat.le_add_right j n)) C_may_join (Nat.le_trans h_may_join (Nat.le_add_right j n)) (len_tree_fault (n + 1)) (sx_tree_fault K C_Rooms n)
theorem rec_l_bent_tree (F : Fun K "_law_bent_tree" "_law_bent_tree" s_l_bent_tree f fd) (hm : mg "_law_bent_tree" = some (.ref f)) (bd : Binds K fd ["state", "many", "tree"] []) (bn : Bn mg) {j : Nat} {k_l_take : Nat} (C_l_take : Cal P w K mg base "_law_take" ["state", "most"] (spS R_take) k_l_take) (h_l_take : k_l_take ≤ j) : ∀ n : Nat, FnOk P w K mg base CX0 (j + n) f fd ["state", "many", "tree"] (spS (R_bent n))
  | 0 => fn_noS (no_bent)
  | n + 1 => by
    have ih := rec_l_bent_tree F hm bd bn (j := j) C_l_take h_l_take n
    exact ok_l_bent_tree (k := j + n) F bn C_l_take (Nat.le_trans h_l_take (Nat.le_add_right j n)) ⟨_, _, ih, hm, F.kp, bd⟩ (Nat.le_refl _) (len_l_bent_tree (n + 1)) (sx_l_bent_tree K n)
end
theorem all_mk {l : PySem.W.OpenLaw} {w : World} {K : PySem.W.Frag} {h : Heap} {mg : Str → Option Value} {fa f1 f2 f3 f4 f5 f6 f7 f8 f9 f10 f11 f12 f13 f14 f15 f16 f17 f18 f19 f20 f21 C_Rooms : Addr} (X : K.In h) (G : h.Ns mainGlobals mg) (hfa : mg "law" = some (.ref fa))
    {od1 an1 od2 an2 od3 an3 od4 an4 od5 an5 od6 an6 od7 an7 od8 an8 od9 an9 od10 an10 od11 an11 od12 an12 od13 an13 od14 an14 od15 an15 od16 an16 od17 an17 od18 an18 od19 an19 od20 an20 od21 an21 : Option Addr} {sl1 sl2 sl3 sl4 sl5 sl6 sl7 sl8 sl9 sl10 sl11 sl12 sl13 sl14 sl15 sl16 sl17 sl18 sl19 sl20 sl21 : Array (Option Value)}
    {oc1 kV1 dc1 pm1 cd1 ct1 oc2 kV2 dc2 pm2 cd2 ct2 oc3 kV3 dc3 pm3 cd3 ct3 oc4 kV4 dc4 pm4 cd4 ct4 oc5 kV5 dc5 pm5 cd5 ct5 oc6 kV6 dc6 pm6 cd6 ct6 oc7 kV7 dc7 pm7 cd7 ct7 oc8 kV8 dc8 pm8 cd8 ct8 oc9 kV9 dc9 pm9 cd9 ct9 oc10 kV10 dc10 pm10 cd10 ct10 oc11 kV11 dc11 pm11 cd11 ct11 oc12 kV12 dc12 pm12 cd12 ct12 oc13 kV13 dc13 pm13 cd13 ct13 oc14 kV14 dc14 pm14 cd14 ct14 oc15 kV15 dc15 pm15 cd15 ct15 oc16 kV16 dc16 pm16 cd16 ct16 oc17 kV17 dc17 pm17 cd17 ct17 oc18 kV18 dc18 pm18 cd18 ct18 oc19 kV19 dc19 pm19 cd19 ct19 oc20 kV20 dc20 pm20 cd20 ct20 oc21 kV21 dc21 pm21 cd21 ct21 : Value}
    (a1 : PySem.W.nsIn K mainGlobals "may_join" = some (some (.ref f1))) (l1 : K.lookup f1 = some ⟨oc1, od1, .func (PySem.W.fnOf "may_join" "may_join" (defArgs s_may_join) (defBody s_may_join) (defScope s_may_join) .none kV1 dc1 pm1 an1 cd1 ct1), sl1⟩) (c1 : PySem.W.codeIn K cd1 "may_join" = true) (k1 : PySem.W.keepIn K (.ref f1) = true)
    (a2 : PySem.W.nsIn K mainGlobals "foe_pair" = some (some (.ref f2))) (l2 : K.lookup f2 = some ⟨oc2, od2, .func (PySem.W.fnOf "foe_pair" "foe_pair" (defArgs s_foe_pair) (defBody s_foe_pair) (defScope s_foe_pair) .none kV2 dc2 pm2 an2 cd2 ct2), sl2⟩) (c2 : PySem.W.codeIn K cd2 "foe_pair" = true) (k2 : PySem.W.keepIn K (.ref f2) = true)
    (a3 : PySem.W.nsIn K mainGlobals "with_load" = some (some (.ref f3))) (l3 : K.lookup f3 = some ⟨oc3, od3, .func (PySem.W.fnOf "with_load" "with_load" (defArgs s_with_load) (defBody s_with_load) (defScope s_with_load) .none kV3 dc3 pm3 an3 cd3 ct3), sl3⟩) (c3 : PySem.W.codeIn K cd3 "with_load" = true) (k3 : PySem.W.keepIn K (.ref f3) = true)
    (a4 : PySem.W.nsIn K mainGlobals "store" = some (some (.ref f4))) (l4 : K.lookup f4 = some ⟨oc4, od4, .func (PySem.W.fnOf "store" "store" (defArgs s_store) (defBody s_store) (defScope s_store) .none kV4 dc4 pm4 an4 cd4 ct4), sl4⟩) (c4 : PySem.W.codeIn K cd4 "store" = true) (k4 : PySem.W.keepIn K (.ref f4) = true)
    (a5 : PySem.W.nsIn K mainGlobals "tree_fault" = some (some (.ref f5))) (l5 : K.lookup f5 = some ⟨oc5, od5, .func (PySem.W.fnOf "tree_fault" "tree_fault" (defArgs s_tree_fault) (defBody s_tree_fault) (defScope s_tree_fault) .none kV5 dc5 pm5 an5 cd5 ct5), sl5⟩) (c5 : PySem.W.codeIn K cd5 "tree_fault" = true) (k5 : PySem.W.keepIn K (.ref f5) = true)
    (a6 : PySem.W.nsIn K mainGlobals "store_fault" = some (some (.ref f6))) (l6 : K.lookup f6 = some ⟨oc6, od6, .func (PySem.W.fnOf "store_fault" "store_fault" (defArgs s_store_fault) (defBody s_store_fault) (defScope s_store_fault) .none kV6 dc6 pm6 an6 cd6 ct6), sl6⟩) (c6 : PySem.W.codeIn K cd6 "store_fault" = true) (k6 : PySem.W.keepIn K (.ref f6) = true)
    (a7 : PySem.W.nsIn K mainGlobals "_law_state" = some (some (.ref f7))) (l7 : K.lookup f7 = some ⟨oc7, od7, .func (PySem.W.fnOf "_law_state" "_law_state" (defArgs s_l_state) (defBody s_l_state) (defScope s_l_state) .none kV7 dc7 pm7 an7 cd7 ct7), sl7⟩) (c7 : PySem.W.codeIn K cd7 "_law_state" = true) (k7 : PySem.W.keepIn K (.ref f7) = true)
    (a8 : PySem.W.nsIn K mainGlobals "_law_take" = some (some (.ref f8))) (l8 : K.lookup f8 = some ⟨oc8, od8, .func (PySem.W.fnOf "_law_take" "_law_take" (defArgs s_l_take) (defBody s_l_take) (defScope s_l_take) .none kV8 dc8 pm8 an8 cd8 ct8), sl8⟩) (c8 : PySem.W.codeIn K cd8 "_law_take" = true) (k8 : PySem.W.keepIn K (.ref f8) = true)
    (a9 : PySem.W.nsIn K mainGlobals "_law_loads" = some (some (.ref f9))) (l9 : K.lookup f9 = some ⟨oc9, od9, .func (PySem.W.fnOf "_law_loads" "_law_loads" (defArgs s_l_loads) (defBody s_l_loads) (defScope s_l_loads) .none kV9 dc9 pm9 an9 cd9 ct9), sl9⟩) (c9 : PySem.W.codeIn K cd9 "_law_loads" = true) (k9 : PySem.W.keepIn K (.ref f9) = true)
    (a10 : PySem.W.nsIn K mainGlobals "_law_join" = some (some (.ref f10))) (l10 : K.lookup f10 = some ⟨oc10, od10, .func (PySem.W.fnOf "_law_join" "_law_join" (defArgs s_l_join) (defBody s_l_join) (defScope s_l_join) .none kV10 dc10 pm10 an10 cd10 ct10), sl10⟩) (c10 : PySem.W.codeIn K cd10 "_law_join" = true) (k10 : PySem.W.keepIn K (.ref f10) = true)
    (a11 : PySem.W.nsIn K mainGlobals "_law_spots" = some (some (.ref f11))) (l11 : K.lookup f11 = some ⟨oc11, od11, .func (PySem.W.fnOf "_law_spots" "_law_spots" (defArgs s_l_spots) (defBody s_l_spots) (defScope s_l_spots) .none kV11 dc11 pm11 an11 cd11 ct11), sl11⟩) (c11 : PySem.W.codeIn K cd11 "_law_spots" = true) (k11 : PySem.W.keepIn K (.ref f11) = true)
    (a12 : PySem.W.nsIn K mainGlobals "_law_put" = some (some (.ref f12))) (l12 : K.lookup f12 = some ⟨oc12, od12, .func (PySem.W.fnOf "_law_put" "_law_put" (defArgs s_l_put) (defBody s_l_put) (defScope s_l_put) .none kV12 dc12 pm12 an12 cd12 ct12), sl12⟩) (c12 : PySem.W.codeIn K cd12 "_law_put" = true) (k12 : PySem.W.keepIn K (.ref f12) = true)
    (a13 : PySem.W.nsIn K mainGlobals "_law_tree_fault" = some (some (.ref f13))) (l13 : K.lookup f13 = some ⟨oc13, od13, .func (PySem.W.fnOf "_law_tree_fault" "_law_tree_fault" (defArgs s_l_tree_fault) (defBody s_l_tree_fault) (defScope s_l_tree_fault) .none kV13 dc13 pm13 an13 cd13 ct13), sl13⟩) (c13 : PySem.W.codeIn K cd13 "_law_tree_fault" = true) (k13 : PySem.W.keepIn K (.ref f13) = true)
    (a14 : PySem.W.nsIn K mainGlobals "_law_fault" = some (some (.ref f14))) (l14 : K.lookup f14 = some ⟨oc14, od14, .func (PySem.W.fnOf "_law_fault" "_law_fault" (defArgs s_l_fault) (defBody s_l_fault) (defScope s_l_fault) .none kV14 dc14 pm14 an14 cd14 ct14), sl14⟩) (c14 : PySem.W.codeIn K cd14 "_law_fault" = true) (k14 : PySem.W.keepIn K (.ref f14) = true)
    (a15 : PySem.W.nsIn K mainGlobals "_law_bent_tree" = some (some (.ref f15))) (l15 : K.lookup f15 = some ⟨oc15, od15, .func (PySem.W.fnOf "_law_bent_tree" "_law_bent_tree" (defArgs s_l_bent_tree) (defBody s_l_bent_tree) (defScope s_l_bent_tree) .none kV15 dc15 pm15 an15 cd15 ct15), sl15⟩) (c15 : PySem.W.codeIn K cd15 "_law_bent_tree" = true) (k15 : PySem.W.keepIn K (.ref f15) = true)
    (a16 : PySem.W.nsIn K mainGlobals "law" = some (some (.ref f16))) (l16 : K.lookup f16 = some ⟨oc16, od16, .func (PySem.W.fnOf "law" "law" (defArgs s_law) (defBody s_law) (defScope s_law) .none kV16 dc16 pm16 an16 cd16 ct16), sl16⟩) (c16 : PySem.W.codeIn K cd16 "law" = true) (k16 : PySem.W.keepIn K (.ref f16) = true)
    (a17 : PySem.W.findIn K (.ref C_Rooms) "__init__" = some (some (.ref f17))) (i17 : PySem.W.isFn K (.ref f17) = true) (l17 : K.lookup f17 = some ⟨oc17, od17, .func (PySem.W.fnOf "__init__" "Rooms.__init__" (defArgs s_Rooms_init) (defBody s_Rooms_init) (defScope s_Rooms_init) .none kV17 dc17 pm17 an17 cd17 ct17), sl17⟩) (c17 : PySem.W.codeIn K cd17 "Rooms.__init__" = true) (k17 : PySem.W.keepIn K (.ref f17) = true)
    (a18 : PySem.W.findIn K (.ref C_Rooms) "spots" = some (some (.ref f18))) (i18 : PySem.W.isFn K (.ref f18) = true) (l18 : K.lookup f18 = some ⟨oc18, od18, .func (PySem.W.fnOf "spots" "Rooms.spots" (defArgs s_Rooms_spots) (defBody s_Rooms_spots) (defScope s_Rooms_spots) .none kV18 dc18 pm18 an18 cd18 ct18), sl18⟩) (c18 : PySem.W.codeIn K cd18 "Rooms.spots" = true) (k18 : PySem.W.keepIn K (.ref f18) = true)
    (a19 : PySem.W.findIn K (.ref C_Rooms) "put" = some (some (.ref f19))) (i19 : PySem.W.isFn K (.ref f19) = true) (l19 : K.lookup f19 = some ⟨oc19, od19, .func (PySem.W.fnOf "put" "Rooms.put" (defArgs s_Rooms_put) (defBody s_Rooms_put) (defScope s_Rooms_put) .none kV19 dc19 pm19 an19 cd19 ct19), sl19⟩) (c19 : PySem.W.codeIn K cd19 "Rooms.put" = true) (k19 : PySem.W.keepIn K (.ref f19) = true)
    (a20 : PySem.W.findIn K (.ref C_Rooms) "apart" = some (some (.ref f20))) (i20 : PySem.W.isFn K (.ref f20) = true) (l20 : K.lookup f20 = some ⟨oc20, od20, .func (PySem.W.fnOf "apart" "Rooms.apart" (defArgs s_Rooms_apart) (defBody s_Rooms_apart) (defScope s_Rooms_apart) .none kV20 dc20 pm20 an20 cd20 ct20), sl20⟩) (c20 : PySem.W.codeIn K cd20 "Rooms.apart" = true) (k20 : PySem.W.keepIn K (.ref f20) = true)
    (a21 : PySem.W.findIn K (.ref C_Rooms) "prove" = some (some (.ref f21))) (i21 : PySem.W.isFn K (.ref f21) = true) (l21 : K.lookup f21 = some ⟨oc21, od21, .func (PySem.W.fnOf "prove" "Rooms.prove" (defArgs s_Rooms_prove) (defBody s_Rooms_prove) (defScope s_Rooms_prove) .none kV21 dc21 pm21 an21 cd21 ct21), sl21⟩) (c21 : PySem.W.codeIn K cd21 "Rooms.prove" = true) (k21 : PySem.W.keepIn K (.ref f21) = true)
    (aC_Rooms : PySem.W.nsIn K mainGlobals "Rooms" = some (some (.ref C_Rooms))) (pg_Rooms : PySem.W.plainGet K C_Rooms Str.empty = true) (hd_Rooms : PySem.W.hasDictIn K C_Rooms = true) (po_Rooms : PySem.W.plainOver K C_Rooms = true) (sa_Rooms : PySem.W.findIn K (.ref C_Rooms) "__setattr__" = some (some (.builtin "object.__setattr__"))) (mk_Rooms : PySem.W.makesIn K C_Rooms = true) (kc_Rooms : PySem.W.keepIn K (.ref C_Rooms) = true)
    (n_Rooms_0 : PySem.W.findIn K (.ref C_Rooms) "loads" = some none) (n_Rooms_1 : PySem.W.findIn K (.ref C_Rooms) "foes" = some none) (n_Rooms_2 : PySem.W.findIn K (.ref C_Rooms) "room" = some none) (n_Rooms_3 : PySem.W.findIn K (.ref C_Rooms) "order" = some none)
    (z1 : PySem.W.nsIn K mainGlobals "len" = some none) (z2 : PySem.W.nsIn K mainGlobals "range" = some none) (z3 : PySem.W.nsIn K mainGlobals "min" = some none) (z4 : PySem.W.nsIn K mainGlobals "max" = some none) (z5 : PySem.W.nsIn K mainGlobals "abs" = some none) (z6 : PySem.W.nsIn K mainGlobals "sum" = some none) (z7 : PySem.W.nsIn K mainGlobals "int" = some none) (z8 : PySem.W.nsIn K mainGlobals "list" = some none) (z9 : PySem.W.nsIn K mainGlobals "tuple" = some none) (z10 : PySem.W.nsIn K mainGlobals "sorted" = some none) (z11 : PySem.W.nsIn K mainGlobals "isinstance" = some none) (z12 : PySem.W.nsIn K mainGlobals "enumerate" = some none) (z13 : PySem.W.nsIn K mainGlobals "zip" = some none) (z14 : PySem.W.nsIn K mainGlobals "set" = some none) (z15 : PySem.W.nsIn K mainGlobals "repr" = some none) (z16 : PySem.W.nsIn K mainGlobals "all" = some none) (z17 : PySem.W.nsIn K mainGlobals "any" = some none) (z18 : PySem.W.nsIn K mainGlobals "dict" = some none) (z19 : PySem.W.nsIn K mainGlobals "reversed" = some none) (z20 : PySem.W.nsIn K mainGlobals "str" = some none) :
    ∃ fd : FuncData, (∀ (s : Shared) (v : Value), BindsTo s fd ⟨[v], []⟩ [("script", v)]) ∧ ∀ base : Heap, K.In base → base.Ns mainGlobals mg → TopOk l.prog w K mg base fa fd ["script"] (spP R_law) := by
  have e := hfa.symm.trans (PySem.W.mg_of X G a16)
  cases e
  have bn : Bn mg := ⟨PySem.W.mg_none_of X G z1, PySem.W.mg_none_of X G z2, PySem.W.mg_none_of X G z3, PySem.W.mg_none_of X G z4, PySem.W.mg_none_of X G z5, PySem.W.mg_none_of X G z6, PySem.W.mg_none_of X G z7, PySem.W.mg_none_of X G z8, PySem.W.mg_none_of X G z9, PySem.W.mg_none_of X G z10, PySem.W.mg_none_of X G z11, PySem.W.mg_none_of X G z12, PySem.W.mg_none_of X G z13, PySem.W.mg_none_of X G z14, PySem.W.mg_none_of X G z15, PySem.W.mg_none_of X G z16, PySem.W.mg_none_of X G z17, PySem.W.mg_none_of X G z18, PySem.W.mg_none_of X G z19, PySem.W.mg_none_of X G z20⟩
  have O_Rooms : ObF K C_Rooms ["loads", "foes", "room", "order"] := ⟨⟨pg_Rooms, hd_Rooms, po_Rooms, sa_Rooms⟩, fun f hf => by
    simp only [List.mem_cons, List.not_mem_nil, or_false] at hf
    rcases hf with rfl | rfl | rfl | rfl
    · exact n_Rooms_0
    · exact n_Rooms_1
    · exact n_Rooms_2
    · exact n_Rooms_3⟩
  have F1 := fun_mk (st := s_may_join) l1 c1 k1
  have b1 := F1.binds (ps := ["loads", "foes", "room", "lot", "at"]) fun _ _ _ _ _ _ us hl => match us, hl with | [_, _, _, _, _], _ => rfl
  have F2 := fun_mk (st := s_foe_pair) l2 c2 k2
  have b2 := F2.binds (ps := ["foes", "one", "other"]) fun _ _ _ _ _ _ us hl => match us, hl with | [_, _, _], _ => rfl
  have F3 := fun_mk (st := s_with_load) l3 c3 k3
  have b3 := F3.binds (ps := ["lots", "one", "at"]) fun _ _ _ _ _ _ us hl => match us, hl with | [_, _, _], _ => rfl
  have F4 := fun_mk (st := s_store) l4 c4 k4
  have b4 := F4.binds (ps := ["loads", "foes", "room"]) fun _ _ _ _ _ _ us hl => match us, hl with | [_, _, _], _ => rfl
  have F5 := fun_mk (st := s_tree_fault) l5 c5 k5
  have b5 := F5.binds (ps := ["search", "lots", "many", "path", "tree"]) fun _ _ _ _ _ _ us hl => match us, hl with | [_, _, _, _, _], _ => rfl
  have F6 := fun_mk (st := s_store_fault) l6 c6 k6
  have b6 := F6.binds (ps := ["loads", "foes", "room", "told"]) fun _ _ _ _ _ _ us hl => match us, hl with | [_, _, _, _], _ => rfl
  have F7 := fun_mk (st := s_l_state) l7 c7 k7
  have b7 := F7.binds (ps := ["script"]) fun _ _ _ _ _ _ us hl => match us, hl with | [_], _ => rfl
  have F8 := fun_mk (st := s_l_take) l8 c8 k8
  have b8 := F8.binds (ps := ["state", "most"]) fun _ _ _ _ _ _ us hl => match us, hl with | [_, _], _ => rfl
  have F9 := fun_mk (st := s_l_loads) l9 c9 k9
  have b9 := F9.binds (ps := ["state", "most"]) fun _ _ _ _ _ _ us hl => match us, hl with | [_, _], _ => rfl
  have F10 := fun_mk (st := s_l_join) l10 c10 k10
  have b10 := F10.binds (ps := ["loads", "foes", "room", "lot", "at"]) fun _ _ _ _ _ _ us hl => match us, hl with | [_, _, _, _, _], _ => rfl
  have F11 := fun_mk (st := s_l_spots) l11 c11 k11
  have b11 := F11.binds (ps := ["loads", "foes", "room", "lots", "at", "many"]) fun _ _ _ _ _ _ us hl => match us, hl with | [_, _, _, _, _, _], _ => rfl
  have F12 := fun_mk (st := s_l_put) l12 c12 k12
  have b12 := F12.binds (ps := ["lots", "one", "at"]) fun _ _ _ _ _ _ us hl => match us, hl with | [_, _, _], _ => rfl
  have F13 := fun_mk (st := s_l_tree_fault) l13 c13 k13
  have b13 := F13.binds (ps := ["loads", "foes", "room", "lots", "many", "path", "tree"]) fun _ _ _ _ _ _ us hl => match us, hl with | [_, _, _, _, _, _, _], _ => rfl
  have F14 := fun_mk (st := s_l_fault) l14 c14 k14
  have b14 := F14.binds (ps := ["loads", "foes", "room", "told"]) fun _ _ _ _ _ _ us hl => match us, hl with | [_, _, _, _], _ => rfl
  have F15 := fun_mk (st := s_l_bent_tree) l15 c15 k15
  have b15 := F15.binds (ps := ["state", "many", "tree"]) fun _ _ _ _ _ _ us hl => match us, hl with | [_, _, _], _ => rfl
  have F16 := fun_mk (st := s_law) l16 c16 k16
  have b16 := F16.binds (ps := ["script"]) fun _ _ _ _ _ _ us hl => match us, hl with | [_], _ => rfl
  have F17 := fun_mk (st := s_Rooms_init) l17 c17 k17
  have b17 := F17.binds (ps := ["self", "loads", "foes", "room"]) fun _ _ _ _ _ _ us hl => match us, hl with | [_, _, _, _], _ => rfl
  have F18 := fun_mk (st := s_Rooms_spots) l18 c18 k18
  have b18 := F18.binds (ps := ["self", "lots", "at", "many"]) fun _ _ _ _ _ _ us hl => match us, hl with | [_, _, _, _], _ => rfl
  have F19 := fun_mk (st := s_Rooms_put) l19 c19 k19
  have b19 := F19.binds (ps := ["self", "lots", "turn", "many"]) fun _ _ _ _ _ _ us hl => match us, hl with | [_, _, _, _], _ => rfl
  have F20 := fun_mk (st := s_Rooms_apart) l20 c20 k20
  have b20 := F20.binds (ps := ["self", "left"]) fun _ _ _ _ _ _ us hl => match us, hl with | [_, _], _ => rfl
  have F21 := fun_mk (st := s_Rooms_prove) l21 c21 k21
  have b21 := F21.binds (ps := ["self", "lots", "turn", "many"]) fun _ _ _ _ _ _ us hl => match us, hl with | [_, _, _, _], _ => rfl
  refine ⟨PySem.W.fnOf "law" "law" (defArgs s_law) (defBody s_law) (defScope s_law) .none kV16 dc16 pm16 an16 cd16 ct16, fun s v => .of_eq rfl, fun base _ _ => ?_⟩
  have C_l_state : Cal l.prog w K mg base "_law_state" ["script"] (spN R_state) 1 := ⟨_, _, fn_newstate (k := 0) F7 sc_l_state fun cdv A outer s H E hr => ps_l_state bn hr, PySem.W.mg_of X G a7, F7.kp, b7⟩
  have C_l_take : Cal l.prog w K mg base "_law_take" ["state", "most"] (spS R_take) 1 := ⟨_, _, fn_take (k := 0) F8 sc_l_take fun cdv A outer s H E hr => ps_l_take bn hr, PySem.W.mg_of X G a8, F8.kp, b8⟩
  have C_l_loads : Cal l.prog w K mg base "_law_loads" ["state", "most"] (spS R_loads) 2 := ⟨_, _, ok_l_loads (k := 1) F9 bn C_l_take (by decide) len_l_loads (sx_l_loads K), PySem.W.mg_of X G a9, F9.kp, b9⟩
  have M_Rooms_init : CalC l.prog w K mg base C_Rooms "Rooms" ["self", "loads", "foes", "room"] (spS (R_init C_Rooms)) 1 := ⟨_, _, ok_Rooms_init (k := 0) F17 bn O_Rooms len_Rooms_init (sx_Rooms_init K C_Rooms), PySem.W.mg_of X G aC_Rooms, ⟨mk_Rooms, a17, i17, kc_Rooms⟩, b17⟩
  have C_foe_pair : Cal l.prog w K mg base "foe_pair" ["foes", "one", "other"] (spP R_fp) 1 := ⟨_, _, ok_foe_pair (k := 0) F2 bn len_foe_pair (sx_foe_pair K), PySem.W.mg_of X G a2, F2.kp, b2⟩
  have C_may_join : Cal l.prog w K mg base "may_join" ["loads", "foes", "room", "lot", "at"] (spP R_mj) 2 := ⟨_, _, ok_may_join (k := 1) F1 bn C_foe_pair (by decide) len_may_join (sx_may_join K), PySem.W.mg_of X G a1, F1.kp, b1⟩
  have M_Rooms_spots : CalM l.prog w K mg base C_Rooms "spots" ["self", "lots", "at", "many"] (spS (R_spots C_Rooms)) 3 := ⟨_, _, ok_Rooms_spots (k := 2) F18 bn O_Rooms C_may_join (by decide) len_Rooms_spots (sx_Rooms_spots K C_Rooms), ⟨a18, i18, F18.kp⟩, b18⟩
  have C_with_load : Cal l.prog w K mg base "with_load" ["lots", "one", "at"] (spP R_wl) 1 := ⟨_, _, ok_with_load (k := 0) F3 bn len_with_load (sx_with_load K), PySem.W.mg_of X G a3, F3.kp, b3⟩
  have M_Rooms_put : CalM l.prog w K mg base C_Rooms "put" ["self", "lots", "turn", "many"] (spS (R_put C_Rooms 10)) 13 := ⟨_, _, rec_Rooms_put F19 ⟨a19, i19, F19.kp⟩ b19 bn (j := 3) O_Rooms M_Rooms_spots (by decide) C_with_load (by decide) 10, ⟨a19, i19, F19.kp⟩, b19⟩
  have M_Rooms_apart : CalM l.prog w K mg base C_Rooms "apart" ["self", "left"] (spS (R_apart C_Rooms)) 3 := ⟨_, _, ok_Rooms_apart (k := 2) F20 bn O_Rooms C_may_join (by decide) len_Rooms_apart (sx_Rooms_apart K C_Rooms), ⟨a20, i20, F20.kp⟩, b20⟩
  have M_Rooms_prove : CalM l.prog w K mg base C_Rooms "prove" ["self", "lots", "turn", "many"] (spS (R_prove C_Rooms 10)) 13 := ⟨_, _, rec_Rooms_prove F21 ⟨a21, i21, F21.kp⟩ b21 bn (j := 3) O_Rooms M_Rooms_apart (by decide) M_Rooms_spots (by decide) C_with_load (by decide) 10, ⟨a21, i21, F21.kp⟩, b21⟩
  have C_store : Cal l.prog w K mg base "store" ["loads", "foes", "room"] (spP R_store) 14 := ⟨_, _, ok_store (k := 13) F4 bn O_Rooms M_Rooms_init (by decide) M_Rooms_put (by decide) M_Rooms_prove (by decide) len_store (sx_store K C_Rooms), PySem.W.mg_of X G a4, F4.kp, b4⟩
  have C_l_join : Cal l.prog w K mg base "_law_join" ["loads", "foes", "room", "lot", "at"] (spP R_mj) 1 := ⟨_, _, ok_l_join (k := 0) F10 bn len_l_join (sx_l_join K), PySem.W.mg_of X G a10, F10.kp, b10⟩
  have C_l_spots : Cal l.prog w K mg base "_law_spots" ["loads", "foes", "room", "lots", "at", "many"] (spP R_lsp) 2 := ⟨_, _, ok_l_spots (k := 1) F11 bn C_l_join (by decide) len_l_spots (sx_l_spots K), PySem.W.mg_of X G a11, F11.kp, b11⟩
  have C_l_put : Cal l.prog w K mg base "_law_put" ["lots", "one", "at"] (spP R_wl) 1 := ⟨_, _, ok_l_put (k := 0) F12 bn len_l_put (sx_l_put K), PySem.W.mg_of X G a12, F12.kp, b12⟩
  have C_l_tree_fault : Cal l.prog w K mg base "_law_tree_fault" ["loads", "foes", "room", "lots", "many", "path", "tree"] (spP (R_ltf 10)) 12 := ⟨_, _, rec_l_tree_fault F13 (PySem.W.mg_of X G a13) b13 bn (j := 2) C_l_spots (by decide) C_l_put (by decide) C_l_join (by decide) 10, PySem.W.mg_of X G a13, F13.kp, b13⟩
  have C_l_fault : Cal l.prog w K mg base "_law_fault" ["loads", "foes", "room", "told"] (spP R_sf) 13 := ⟨_, _, ok_l_fault (k := 12) F14 bn C_l_tree_fault (by decide) len_l_fault (sx_l_fault K), PySem.W.mg_of X G a14, F14.kp, b14⟩
  have C_tree_fault : Cal l.prog w K mg base "tree_fault" ["search", "lots", "many", "path", "tree"] (spS (R_tf C_Rooms 10)) 13 := ⟨_, _, rec_tree_fault F5 (PySem.W.mg_of X G a5) b5 bn (j := 3) O_Rooms M_Rooms_spots (by decide) C_with_load (by decide) C_may_join (by decide) 10, PySem.W.mg_of X G a5, F5.kp, b5⟩
  have C_store_fault : Cal l.prog w K mg base "store_fault" ["loads", "foes", "room", "told"] (spP R_sf) 14 := ⟨_, _, ok_store_fault (k := 13) F6 bn O_Rooms C_tree_fault (by decide) M_Rooms_init (by decide) C_foe_pair (by decide) len_store_fault (sx_store_fault K C_Rooms), PySem.W.mg_of X G a6, F6.kp, b6⟩
  have C_l_bent_tree : Cal l.prog w K mg base "_law_bent_tree" ["state", "many", "tree"] (spS (R_bent 10)) 11 := ⟨_, _, rec_l_bent_tree F15 (PySem.W.mg_of X G a15) b15 bn (j := 1) C_l_take (by decide) 10, PySem.W.mg_of X G a15, F15.kp, b15⟩
  exact top_law (k := 14) F16 bn C_l_state (by decide) C_l_loads (by decide) C_store (by decide) C_l_fault (by decide) C_store_fault (by decide) C_l_take (by decide) C_l_bent_tree (by decide) ⟨rfl, by decide, by decide⟩ len_law (sx_law K)
theorem walk {l : PySem.W.OpenLaw} {q : Program} {loose : List Str} {XP : (Str → Option Value) → Heap → Prop} {YP : World → Heap → Prop} {d : DefRec} {K : Params → PySem.W.Frag} (hn : l.most = some 63) (hdf : d.params.defaults = [])
    (hY : ∀ (w : World) (h : Heap), YP w h → (K w.params).In h) (nl : ∀ w : World, noLs (K w.params) = true)
    (F : ∀ (w : World) (mg : Str → Option Value) (fa : Addr) (h : Heap), (K w.params).In h → h.Ns mainGlobals mg → mg d.name = some (.ref fa) →
      ∃ fd : FuncData, (∀ (s : Shared) (u : Value), BindsTo s fd ⟨[u], []⟩ [("script", u)]) ∧ ∀ base : Heap, (K w.params).In base → base.Ns mainGlobals mg → TopOk l.prog w (K w.params) mg base fa fd ["script"] (spP R_law)) :
    PySem.W.WalkO q loose XP YP l.row.toRowW d [] (fun f vs => PySem.call f vs) :=
  walk_top (n := 63) (x := "script") (R := R_law) hn (by decide) hdf hY nl F fun ns hl => ⟨ns, rfl, rfl⟩
end Law_k64
open PySem PySem.W PyProof.Rows
set_option maxHeartbeats 0 in
theorem PySem.Challenge.cw_firescore_k64_stores_judged_holds : PySem.Challenge.rw_firescore_k64_stores_judged.Holds := by
  w_on; o_law; k_head; (case hw => w_witness2)
  k_fill
  refine Law_k64.walk (l := PySem.Challenge.rw_firescore_k64_stores_judged) rfl rfl (fun w h Y => PySem.W.kIn_of Y) (fun w => ?NL) ?F
  case NL => rfl
  case F =>
    intro w mg fa h KX G hmg
    refine' Law_k64.all_mk KX G hmg ?a1 ?l1 ?c1 ?k1 ?a2 ?l2 ?c2 ?k2 ?a3 ?l3 ?c3 ?k3 ?a4 ?l4 ?c4 ?k4 ?a5 ?l5 ?c5 ?k5 ?a6 ?l6 ?c6 ?k6 ?a7 ?l7 ?c7 ?k7 ?a8 ?l8 ?c8 ?k8 ?a9 ?l9 ?c9 ?k9 ?a10 ?l10 ?c10 ?k10 ?a11 ?l11 ?c11 ?k11 ?a12 ?l12 ?c12 ?k12 ?a13 ?l13 ?c13 ?k13 ?a14 ?l14 ?c14 ?k14 ?a15 ?l15 ?c15 ?k15 ?a16 ?l16 ?c16 ?k16 ?a17 ?i17 ?l17 ?c17 ?k17 ?a18 ?i18 ?l18 ?c18 ?k18 ?a19 ?i19 ?l19 ?c19 ?k19 ?a20 ?i20 ?l20 ?c20 ?k20 ?a21 ?i21 ?l21 ?c21 ?k21 ?aC_Rooms ?pg_Rooms ?hd_Rooms ?po_Rooms ?sa_Rooms ?mk_Rooms ?kc_Rooms ?n_Rooms_0 ?n_Rooms_1 ?n_Rooms_2 ?n_Rooms_3 ?z1 ?z2 ?z3 ?z4 ?z5 ?z6 ?z7 ?z8 ?z9 ?z10 ?z11 ?z12 ?z13 ?z14 ?z15 ?z16 ?z17 ?z18 ?z19 ?z20
    (case aC_Rooms => k_is)
    (case a1 => k_is); (case l1 => k_is); (case c1 => k_is); (case k1 => k_is)
    (case a2 => k_is); (case l2 => k_is); (case c2 => k_is); (case k2 => k_is)
    (case a3 => k_is); (case l3 => k_is); (case c3 => k_is); (case k3 => k_is)
    (case a4 => k_is); (case l4 => k_is); (case c4 => k_is); (case k4 => k_is)
    (case a5 => k_is); (case l5 => k_is); (case c5 => k_is); (case k5 => k_is)
    (case a6 => k_is); (case l6 => k_is); (case c6 => k_is); (case k6 => k_is)
    (case a7 => k_is); (case l7 => k_is); (case c7 => k_is); (case k7 => k_is)
    (case a8 => k_is); (case l8 => k_is); (case c8 => k_is); (case k8 => k_is)
    (case a9 => k_is); (case l9 => k_is); (case c9 => k_is); (case k9 => k_is)
    (case a10 => k_is); (case l10 => k_is); (case c10 => k_is); (case k10 => k_is)
    (case a11 => k_is); (case l11 => k_is); (case c11 => k_is); (case k11 => k_is)
    (case a12 => k_is); (case l12 => k_is); (case c12 => k_is); (case k12 => k_is)
    (case a13 => k_is); (case l13 => k_is); (case c13 => k_is); (case k13 => k_is)
    (case a14 => k_is); (case l14 => k_is); (case c14 => k_is); (case k14 => k_is)
    (case a15 => k_is); (case l15 => k_is); (case c15 => k_is); (case k15 => k_is)
    (case a16 => k_is); (case l16 => k_is); (case c16 => k_is); (case k16 => k_is)
    (case a17 => k_is); (case l17 => k_is); (case c17 => k_is); (case k17 => k_is)
    (case i17 => k_is)
    (case a18 => k_is); (case l18 => k_is); (case c18 => k_is); (case k18 => k_is)
    (case i18 => k_is)
    (case a19 => k_is); (case l19 => k_is); (case c19 => k_is); (case k19 => k_is)
    (case i19 => k_is)
    (case a20 => k_is); (case l20 => k_is); (case c20 => k_is); (case k20 => k_is)
    (case i20 => k_is)
    (case a21 => k_is); (case l21 => k_is); (case c21 => k_is); (case k21 => k_is)
    (case i21 => k_is)
    (case pg_Rooms => k_is)
    (case hd_Rooms => k_is)
    (case po_Rooms => k_is)
    (case sa_Rooms => k_is)
    (case mk_Rooms => k_is)
    (case kc_Rooms => k_is)
    (case n_Rooms_0 => k_is)
    (case n_Rooms_1 => k_is)
    (case n_Rooms_2 => k_is)
    (case n_Rooms_3 => k_is)
    (case z1 => k_is)
    (case z2 => k_is)
    (case z3 => k_is)
    (case z4 => k_is)
    (case z5 => k_is)
    (case z6 => k_is)
    (case z7 => k_is)
    (case z8 => k_is)
    (case z9 => k_is)
    (case z10 => k_is)
    (case z11 => k_is)
    (case z12 => k_is)
    (case z13 => k_is)
    (case z14 => k_is)
    (case z15 => k_is)
    (case z16 => k_is)
    (case z17 => k_is)
    (case z18 => k_is)
    (case z19 => k_is)
    (case z20 => k_is)
