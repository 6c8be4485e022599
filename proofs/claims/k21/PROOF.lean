import PyProof.Rows.All
import Wide.All
import OpenK.AllK
import Wide.FinOn
import HandS.ForMost
import HandS.TupAny
import HandS.Zip
import KE.SortData
import KE.DataMinMax
import KE.DataEq
import KE.DataFind
import HandS.Style
import HandS.Dict
import KE.DatumIndex
import KE.GoesMore
import HandS.Deep
import HandS.Set
import HandS.SetFor
import KE.DataAny
import HandS.Conv
import HandS.NoneIn
import HandS.DictComp
import HandS.SortKw
import HandS.TupSets
import HandS.Wide
import PySem.Challenge.RW_firescore_k21_whole_rings_and_winds
set_option Elab.async false
set_option linter.all false
set_option autoImplicit false
set_option maxRecDepth 100000
set_option maxHeartbeats 4000000
/-! Pu: the hand layer's readings over pure data: slots hold data, own lists, a state; no addresses. -/
namespace Pu
open PySem L2

abbrev D := PyData
mutual
/-- the value v reads as the datum d in the frozen part F of the heap -/
inductive Rp (F : Hp) : V → D → Prop
  | non : Rp F .non .none
  | bl (b : Bool) : Rp F (.bl b) (.bool b)
  | int (i : Int) : Rp F (.int i) (.int i)
  | str (x : Str) : Rp F (.str x) (.str x)
  | lst {a : Addr} {xs : List V} {ds : List D} : Rd F a (.lst xs) → RpA F xs ds → Rp F (.ref a) (.list ds)
  | tup {a : Addr} {xs : List V} {ds : List D} : F a = some (.tup xs) → RpA F xs ds → Rp F (.ref a) (.tuple ds)
inductive RpA (F : Hp) : List V → List D → Prop
  | nil : RpA F [] []
  | cons {v : V} {vs : List V} {d : D} {ds : List D} : Rp F v d → RpA F vs ds → RpA F (v :: vs) (d :: ds)
end
theorem rd_mono {F G : Hp} {a : Addr} {u : HO} (e : Same F G) (h : Rd F a u) : Rd G a u := by
  rcases h with h | ⟨o, h⟩
  · exact .inl (e _ _ h)
  · exact .inr ⟨o, e _ _ h⟩
mutual
theorem Rp.mono {F G : Hp} (e : Same F G) : ∀ (d : D) {v : V}, Rp F v d → Rp G v d
  | .none, _, h => by cases h; exact .non
  | .bool b, _, h => by cases h; exact .bl b
  | .int i, _, h => by cases h; exact .int i
  | .str x, _, h => by cases h; exact .str x
  | .list ds, _, h => by
    cases h with
    | lst h1 h2 => exact .lst (rd_mono e h1) (RpA.mono e ds h2)
  | .tuple ds, _, h => by
    cases h with
    | tup h1 h2 => exact .tup (e _ _ h1) (RpA.mono e ds h2)
  | .dict _, _, h => by cases h
theorem RpA.mono {F G : Hp} (e : Same F G) : ∀ (ds : List D) {vs : List V}, RpA F vs ds → RpA G vs ds
  | [], _, h => by cases h; exact .nil
  | d :: ds, _, h => by
    cases h with
    | cons h1 h2 => exact .cons (Rp.mono e d h1) (RpA.mono e ds h2)
end
theorem Rp.up {F G : Hp} {d : D} {v : V} (h : Rp F v d) (e : Same F G) : Rp G v d := Rp.mono e d h
theorem RpA.up {F G : Hp} {ds : List D} {vs : List V} (h : RpA F vs ds) (e : Same F G) : RpA G vs ds := RpA.mono e ds h
theorem sqL_rd {K : PySem.W.Frag} {F H : Hp} {a : Addr} {xs : List V} (h : Rd F a (.lst xs)) (e : Same F H) : SqL K H a xs := .inl (rd_mono e h)
theorem sqT_rd {K : PySem.W.Frag} {F H : Hp} {a : Addr} {xs : List V} (h : F a = some (.tup xs)) (e : Same F H) : SqT K H a xs := .inl (.inl (e _ _ h))
mutual
theorem Rp.dp {K : PySem.W.Frag} {F H : Hp} (e : Same F H) : ∀ (d : D) {v : V}, Rp F v d → Dp K H v d
  | .none, _, h => by cases h; exact .non
  | .bool b, _, h => by cases h; exact .bl b
  | .int i, _, h => by cases h; exact .int i
  | .str x, _, h => by cases h; exact .str x
  | .list ds, _, h => by
    cases h with
    | lst h1 h2 => exact .lst (sqL_rd h1 e) (RpA.dp e ds h2)
  | .tuple ds, _, h => by
    cases h with
    | tup h1 h2 => exact .tup (sqT_rd h1 e) (RpA.dp e ds h2)
  | .dict _, _, h => by cases h
theorem RpA.dp {K : PySem.W.Frag} {F H : Hp} (e : Same F H) : ∀ (ds : List D) {vs : List V}, RpA F vs ds → DpAll K H vs ds
  | [], _, h => by cases h; exact .nil
  | d :: ds, _, h => by
    cases h with
    | cons h1 h2 => exact .cons (Rp.dp e d h1) (RpA.dp e ds h2)
end
section
variable {F : Hp}
theorem Rp.int_inv {v : V} {i : Int} (h : Rp F v (.int i)) : v = .int i := by cases h; rfl
theorem Rp.bl_inv {v : V} {b : Bool} (h : Rp F v (.bool b)) : v = .bl b := by cases h; rfl
theorem Rp.str_inv {v : V} {x : Str} (h : Rp F v (.str x)) : v = .str x := by cases h; rfl
theorem Rp.non_inv {v : V} (h : Rp F v .none) : v = .non := by cases h; rfl
theorem Rp.lst_inv {v : V} {ds : List D} (h : Rp F v (.list ds)) : ∃ a xs, v = .ref a ∧ Rd F a (.lst xs) ∧ RpA F xs ds := by
  cases h with
  | lst h1 h2 => exact ⟨_, _, rfl, h1, h2⟩
theorem Rp.tup_inv {v : V} {ds : List D} (h : Rp F v (.tuple ds)) : ∃ a xs, v = .ref a ∧ F a = some (.tup xs) ∧ RpA F xs ds := by
  cases h with
  | tup h1 h2 => exact ⟨_, _, rfl, h1, h2⟩
theorem RpA.len : ∀ {vs : List V} {ds : List D}, RpA F vs ds → vs.length = ds.length
  | _, [], h => by cases h; rfl
  | _, d :: ds, h => by
    cases h with
    | cons h1 h2 => simp [RpA.len h2]
theorem RpA.get : ∀ {vs : List V} {ds : List D} {k : Nat} {d : D}, RpA F vs ds → ds[k]? = some d → ∃ v, vs[k]? = some v ∧ Rp F v d
  | _, [], k, d, h, e => by simp at e
  | _, a :: ds, 0, d, h, e => by
    cases h with
    | cons h1 h2 =>
      simp at e
      subst e
      exact ⟨_, rfl, h1⟩
  | _, a :: ds, k + 1, d, h, e => by
    cases h with
    | cons h1 h2 =>
      obtain ⟨v, e1, e2⟩ := RpA.get (k := k) h2 (by simpa using e)
      exact ⟨v, by simpa using e1, e2⟩
theorem RpA.get' : ∀ {vs : List V} {ds : List D} {k : Nat} {v : V}, RpA F vs ds → vs[k]? = some v → ∃ d, ds[k]? = some d ∧ Rp F v d := fun {vs ds k v} h e => by
  have hk : k < ds.length := by rw [← h.len]; exact (List.getElem?_eq_some_iff.mp e).1
  obtain ⟨w, e1, e2⟩ := h.get (List.getElem?_eq_getElem hk)
  rw [e] at e1
  cases e1
  exact ⟨_, List.getElem?_eq_getElem hk, e2⟩
theorem RpA.app : ∀ {vs ws : List V} {ds es : List D}, RpA F vs ds → RpA F ws es → RpA F (vs ++ ws) (ds ++ es)
  | _, _, [], es, h, g => by cases h; exact g
  | _, _, d :: ds, es, h, g => by
    cases h with
    | cons h1 h2 => exact .cons h1 (RpA.app h2 g)
theorem RpA.take : ∀ {vs : List V} {ds : List D} (n : Nat), RpA F vs ds → RpA F (vs.take n) (ds.take n)
  | _, _, 0, h => by simp; exact .nil
  | _, [], n + 1, h => by cases h; exact .nil
  | _, d :: ds, n + 1, h => by
    cases h with
    | cons h1 h2 => exact .cons h1 (RpA.take n h2)
theorem RpA.drop : ∀ {vs : List V} {ds : List D} (n : Nat), RpA F vs ds → RpA F (vs.drop n) (ds.drop n)
  | _, _, 0, h => by simpa using h
  | _, [], n + 1, h => by cases h; exact .nil
  | _, d :: ds, n + 1, h => by
    cases h with
    | cons h1 h2 => exact RpA.drop n h2
theorem RpA.set : ∀ {vs : List V} {ds : List D} {v : V} {d : D} (n : Nat), RpA F vs ds → Rp F v d → RpA F (vs.set n v) (ds.set n d)
  | _, [], _, _, n, h, g => by cases h; exact .nil
  | _, e :: ds, _, _, 0, h, g => by
    cases h with
    | cons h1 h2 => exact .cons g h2
  | _, e :: ds, _, _, n + 1, h, g => by
    cases h with
    | cons h1 h2 => exact .cons h1 (RpA.set n h2 g)
theorem RpA.ints : ∀ (ns : List Int), RpA F (ns.map V.int) (ns.map PyData.int)
  | [] => .nil
  | n :: ns => .cons (.int n) (RpA.ints ns)
theorem RpA.ints_inv : ∀ {ns : List Int} {vs : List V}, RpA F vs (ns.map PyData.int) → vs = ns.map V.int
  | [], _, h => by cases h; rfl
  | n :: ns, _, h => by
    cases h with
    | cons h1 h2 =>
      rw [h1.int_inv, RpA.ints_inv h2]
      rfl
theorem RpA.rev {vs : List V} {ds : List D} (h : RpA F vs ds) : RpA F vs.reverse ds.reverse := by
  induction ds generalizing vs with
  | nil => cases h; exact .nil
  | cons d ds ih =>
    cases h with
    | cons h1 h2 =>
      rw [List.reverse_cons, List.reverse_cons]
      exact (ih h2).app (.cons h1 .nil)
end

/-! ### state, slots, the world -/
inductive Stt where
  | two (a b : Int)
  | cel (a : Int) (cs : List Int)
  | dct (kvs : List (Int × Int))
  /-- a dict whose keys are ints, each with True -/
  | dbl (ks : List Int)
  /-- a list of lists of ints and None that nobody else has -/
  | grd (rows : List (List (Option Int)))
  /-- an instance of the class at C whose attributes are data -/
  | obj (C : Addr) (fs : List (Str × D))
  /-- a dict whose keys are pairs of ints -/
  | dtt (kvs : List ((Int × Int) × Int))
def ov : Option Int → V
  | none => .non
  | some i => .int i
/-- the inner lists -/
def GrA (H : Hp) : List Addr → List (List (Option Int)) → Prop
  | [], [] => True
  | q :: qs, r :: rows => H q = some (.lst (r.map ov)) ∧ GrA H qs rows
  | _, _ => False
/-- the attributes of an instance -/
def FldA (F : Hp) : List (Str × V) → List (Str × D) → Prop
  | [], [] => True
  | (f, v) :: vs, (g, d) :: fs => f = g ∧ Rp F v d ∧ FldA F vs fs
  | _, _ => False
theorem FldA.up {F F' : Hp} : ∀ {vs : List (Str × V)} {fs : List (Str × D)}, FldA F vs fs → Same F F' → FldA F' vs fs
  | [], [], _, _ => trivial
  | (_, _) :: _, (_, _) :: _, h, e => ⟨h.1, h.2.1.up e, FldA.up h.2.2 e⟩
  | [], _ :: _, h, _ => h.elim
  | _ :: _, [], h, _ => h.elim
def StAt (F H : Hp) : Stt → Addr → List Addr → Prop
  | .two a b, s, as => as = [s] ∧ H s = some (.lst [.int a, .int b])
  | .cel a cs, s, as => ∃ c, as = [s, c] ∧ s ≠ c ∧ H s = some (.lst [.int a, .ref c]) ∧ H c = some (.lst (cs.map V.int))
  | .dct kvs, s, as => as = [s] ∧ H s = some (.dK (kvs.map fun p => ((.inl p.1 : Key), V.int p.2)))
  | .dbl ks, s, as => as = [s] ∧ H s = some (.dK (ks.map fun k => ((.inl k : Key), V.bl true)))
  | .grd rows, s, as => ∃ qs, as = s :: qs ∧ (s :: qs).Nodup ∧ H s = some (.lst (qs.map V.ref)) ∧ GrA H qs rows
  | .obj C fs, s, as => ∃ dx vs, as = [s] ∧ H s = some (.ins C dx vs) ∧ FldA F vs fs
  | .dtt kvs, s, as => as = [s] ∧ H s = some (.dT (kvs.map fun p => (([.inl p.1.1, .inl p.1.2] : List Key), V.int p.2)))
theorem GrA.mem {H : Hp} : ∀ {qs : List Addr} {rows : List (List (Option Int))}, GrA H qs rows → ∀ q ∈ qs, H q ≠ none
  | q :: qs, r :: rows, h, x, hx => by
    rcases List.mem_cons.mp hx with rfl | hx
    · rw [h.1]; intro z; cases z
    · exact GrA.mem h.2 x hx
  | [], _, _, x, hx => by cases hx
  | _ :: _, [], h, _, _ => h.elim
theorem GrA.keep {H H' : Hp} : ∀ {qs : List Addr} {rows : List (List (Option Int))}, GrA H qs rows → (∀ q ∈ qs, ∀ o, H q = some o → H' q = some o) → GrA H' qs rows
  | q :: qs, r :: rows, h, k => ⟨k q (by simp) _ h.1, GrA.keep h.2 fun x hx => k x (by simp [hx])⟩
  | [], [], _, _ => trivial
  | [], _ :: _, h, _ => h.elim
  | _ :: _, [], h, _ => h.elim
theorem StAt.mem {F H : Hp} {S : Stt} {s : Addr} {as : List Addr} (h : StAt F H S s as) : s ∈ as ∧ ∀ a ∈ as, H a ≠ none := by
  cases S with
  | two a b =>
    obtain ⟨rfl, h⟩ := h
    exact ⟨by simp, fun x hx => by
      have e : x = s := by simpa using hx
      rw [e, h]; intro z; cases z⟩
  | dct kvs =>
    obtain ⟨rfl, h⟩ := h
    exact ⟨by simp, fun x hx => by
      have e : x = s := by simpa using hx
      rw [e, h]; intro z; cases z⟩
  | dbl ks =>
    obtain ⟨rfl, h⟩ := h
    exact ⟨by simp, fun x hx => by
      have e : x = s := by simpa using hx
      rw [e, h]; intro z; cases z⟩
  | cel a cs =>
    obtain ⟨c, rfl, _, h1, h2⟩ := h
    exact ⟨by simp, fun x hx => by
      have e : x = s ∨ x = c := by simpa using hx
      rcases e with e | e
      · rw [e, h1]; intro z; cases z
      · rw [e, h2]; intro z; cases z⟩
  | grd rows =>
    obtain ⟨qs, rfl, _, h1, h2⟩ := h
    exact ⟨by simp, fun x hx => by
      rcases List.mem_cons.mp hx with rfl | hx
      · rw [h1]; intro z; cases z
      · exact h2.mem x hx⟩
  | dtt kvs =>
    obtain ⟨rfl, h⟩ := h
    exact ⟨by simp, fun x hx => by
      have e : x = s := by simpa using hx
      rw [e, h]; intro z; cases z⟩
  | obj C fs =>
    obtain ⟨dx, vs, rfl, h, _⟩ := h
    exact ⟨by simp, fun x hx => by
      have e : x = s := by simpa using hx
      rw [e, h]; intro z; cases z⟩
theorem StAt.keep {F F' H H' : Hp} {S : Stt} {s : Addr} {as : List Addr} (h : StAt F H S s as) (f : Same F F') (k : ∀ a ∈ as, ∀ o, H a = some o → H' a = some o) : StAt F' H' S s as := by
  cases S with
  | two a b =>
    obtain ⟨rfl, h⟩ := h
    exact ⟨rfl, k s (by simp) _ h⟩
  | dct kvs =>
    obtain ⟨rfl, h⟩ := h
    exact ⟨rfl, k s (by simp) _ h⟩
  | dbl ks =>
    obtain ⟨rfl, h⟩ := h
    exact ⟨rfl, k s (by simp) _ h⟩
  | cel a cs =>
    obtain ⟨c, rfl, ne, h1, h2⟩ := h
    exact ⟨c, rfl, ne, k s (by simp) _ h1, k c (by simp) _ h2⟩
  | grd rows =>
    obtain ⟨qs, rfl, nd, h1, h2⟩ := h
    exact ⟨qs, rfl, nd, k s (by simp) _ h1, h2.keep fun q hq => k q (by simp [hq])⟩
  | dtt kvs =>
    obtain ⟨rfl, h⟩ := h
    exact ⟨rfl, k s (by simp) _ h⟩
  | obj C fs =>
    obtain ⟨dx, vs, rfl, h1, h2⟩ := h
    exact ⟨dx, vs, rfl, k s (by simp) _ h1, h2.up f⟩
/-- is it an instance? -/
def Stt.ob : Stt → Bool
  | .obj _ _ => true
  | _ => false
theorem StAt.down {F F' H : Hp} {S : Stt} {s : Addr} {as : List Addr} (h : StAt F' H S s as) (n : S.ob = false) : StAt F H S s as := by
  cases S with
  | obj C fs => cases n
  | two a b => exact h
  | cel a cs => exact h
  | dct kvs => exact h
  | dbl ks => exact h
  | grd rows => exact h
  | dtt kvs => exact h
inductive Slot where
  | emp
  | val (d : D)
  | own (ds : List D)
  | st (S : Stt)
abbrev Env := List Slot
/-- no instance is there -/
def NoOb (ρ : Env) : Prop := ∀ S, Slot.st S ∈ ρ → S.ob = false
def noObP : Env → Prop
  | [] => True
  | .st S :: ρ => S.ob = false ∧ noObP ρ
  | .emp :: ρ => noObP ρ
  | .val _ :: ρ => noObP ρ
  | .own _ :: ρ => noObP ρ
theorem noob_of : ∀ {ρ : Env}, noObP ρ → NoOb ρ
  | [], _, _, h => by cases h
  | .st S :: ρ, h, T, m => by
    rcases List.mem_cons.mp m with e | m
    · cases e; exact h.1
    · exact noob_of h.2 T m
  | .emp :: ρ, h, T, m => by
    rcases List.mem_cons.mp m with e | m
    · cases e
    · exact noob_of (ρ := ρ) h T m
  | .val _ :: ρ, h, T, m => by
    rcases List.mem_cons.mp m with e | m
    · cases e
    · exact noob_of (ρ := ρ) h T m
  | .own _ :: ρ, h, T, m => by
    rcases List.mem_cons.mp m with e | m
    · cases e
    · exact noob_of (ρ := ρ) h T m
/-- a state of the laws from k60 on: a counter, cells from 0 on -/
def Ok : Stt → Prop
  | .cel a cs => 0 < cs.length ∧ cs.length ≤ 100000 ∧ 0 ≤ a ∧ ∀ c ∈ cs, 0 ≤ c
  | _ => False
theorem Ok.nob : ∀ {S : Stt}, Ok S → S.ob = false
  | .two _ _, h => h.elim
  | .cel _ _, _ => rfl
  | .dct _, h => h.elim
  | .dbl _, h => h.elim
  | .grd _, h => h.elim
  | .obj _ _, h => h.elim
  | .dtt _, h => h.elim
/-- a state of the laws up to k45 -/
def Ok2 : Stt → Prop
  | .two a b => 0 ≤ a ∧ 0 ≤ b
  | _ => False
theorem Ok2.nob : ∀ {S : Stt}, Ok2 S → S.ob = false
  | .two _ _, _ => rfl
  | .cel _ _, _ => rfl
  | .dct _, _ => rfl
  | .dbl _, _ => rfl
  | .grd _, _ => rfl
  | .dtt _, _ => rfl
  | .obj _ _, h => h.elim
structure Base where
  F0 : Hp
  H0 : Hp
  M : Addr → Prop
  pin : Option (Addr × List Addr) := none
/-- from (F, H) to (F', H'): all is kept but what M has -/
structure Gr (M : Addr → Prop) (F H F' H' : Hp) : Prop where
  ff : Same F F'
  fh : Same F' H'
  kp : ∀ a o, H a = some o → ¬ M a → H' a = some o
  al : ∀ a, H a ≠ none → H' a ≠ none
  fr : ∀ a, H a ≠ none → F a = none → F' a = none
theorem Gr.refl {M : Addr → Prop} {F H : Hp} (e : Same F H) : Gr M F H F H := ⟨Same.refl F, e, fun _ _ h _ => h, fun _ h => h, fun _ _ h => h⟩
theorem Gr.trans {M M1 M2 : Addr → Prop} {F H F1 H1 F2 H2 : Hp} (a : Gr M1 F H F1 H1) (b : Gr M2 F1 H1 F2 H2) (i1 : ∀ x, H x ≠ none → M1 x → M x) (i2 : ∀ x, H x ≠ none → M2 x → M x) : Gr M F H F2 H2 :=
  ⟨a.ff.trans b.ff, b.fh, fun x o h m => b.kp x o (a.kp x o h fun z => m (i1 x (by rw [h]; intro q; cases q) z)) fun z => m (i2 x (by rw [h]; intro q; cases q) z), fun x h => b.al x (a.al x h), fun x h e => b.fr x (a.al x h) (a.fr x h e)⟩
/-- nothing changes -/
abbrev Non : Addr → Prop := fun _ => False

def SlotOk (B : Base) (F H : Hp) : Slot → Option (Option V) → List Addr → Prop
  | .emp, _, as => as = []
  | .val d, x, as => as = [] ∧ ∃ v, x = some (some v) ∧ Rp F v d
  | .own ds, x, as => ∃ p vs, as = [p] ∧ B.H0 p = none ∧ x = some (some (.ref p)) ∧ H p = some (.lst vs) ∧ RpA F vs ds
  | .st S, x, as => ∃ s, x = some (some (.ref s)) ∧ StAt F H S s as
/-- a state that came as the first argument stays where it is -/
def PinOk (B : Base) (ad : Nat → List Addr) (ρ : Env) (σ : St) : Prop := ∀ s as, B.pin = some (s, as) → ∀ S, ρ[0]? = some (Slot.st S) → σ[0]? = some (some (.ref s)) ∧ ad 0 = as
theorem PinOk.to {B : Base} {ad ad' : Nat → List Addr} {ρ ρ' : Env} {σ σ' : St} (h : PinOk B ad ρ σ) (k : ∀ S, ρ'[0]? = some (Slot.st S) → (∃ S', ρ[0]? = some (Slot.st S')) ∧ σ'[0]? = σ[0]? ∧ ad' 0 = ad 0) : PinOk B ad' ρ' σ' := fun s as e S q => by
  obtain ⟨⟨S', e1⟩, e2, e3⟩ := k S q
  rw [e2, e3]
  exact h s as e S' e1
structure WA (B : Base) (ad : Nat → List Addr) (ρ : Env) (σ : St) (F H : Hp) : Prop where
  gr : Gr B.M B.F0 B.H0 F H
  len : σ.length = ρ.length
  sl : ∀ i s, ρ[i]? = some s → SlotOk B F H s σ[i]? (ad i)
  fz : ∀ i p, p ∈ ad i → F p = none ∧ (B.H0 p = none ∨ (B.M p ∧ i = 0))
  dj : ∀ i j p, p ∈ ad i → p ∈ ad j → i = j
  out : ∀ i, ρ[i]? = none → ad i = []
  pin : PinOk B ad ρ σ
def W (B : Base) (ρ : Env) (σ : St) (F H : Hp) : Prop := ∃ ad, WA B ad ρ σ F H
/-- the addresses of the states -/
def MS (ad : Nat → List Addr) (ρ : Env) (a : Addr) : Prop := ∃ (i : Nat) (S : Stt), ρ[i]? = some (Slot.st S) ∧ a ∈ ad i
/-- behind an expression -/
structure Post (B : Base) (ad : Nat → List Addr) (σ : St) (ρ : Env) (F H : Hp) (ρ' : Env) (F' H' : Hp) : Prop where
  wa : WA B ad ρ' σ F' H'
  gr : Gr (MS ad ρ) F H F' H'
  sh : ∀ (i : Nat) (S' : Stt), ρ'[i]? = some (Slot.st S') → ∃ S, ρ[i]? = some (Slot.st S)
section
variable {B : Base} {ad : Nat → List Addr} {ρ ρ' ρ1 ρ2 : Env} {σ : St} {F H F' H' F1 H1 F2 H2 : Hp}
theorem Post.refl (w : WA B ad ρ σ F H) : Post B ad σ ρ F H ρ F H := ⟨w, Gr.refl w.gr.fh, fun i S h => ⟨S, h⟩⟩
theorem Post.trans (a : Post B ad σ ρ F H ρ1 F1 H1) (b : Post B ad σ ρ1 F1 H1 ρ2 F2 H2) : Post B ad σ ρ F H ρ2 F2 H2 :=
  ⟨b.wa, a.gr.trans b.gr (fun _ _ h => h) fun x _ ⟨i, S, h, m⟩ => let ⟨S', h'⟩ := a.sh i S h; ⟨i, S', h', m⟩, fun i S h => let ⟨S1, h1⟩ := b.sh i S h; a.sh i S1 h1⟩
theorem WA.lv (w : WA B ad ρ σ F H) {i : Nat} {p : Addr} (h : p ∈ ad i) : H p ≠ none := by
  cases e : ρ[i]? with
  | none => rw [w.out i e] at h; cases h
  | some s =>
    have k := w.sl i s e
    cases s with
    | emp => have k : ad i = [] := k; rw [k] at h; cases h
    | val d => have k : ad i = [] := k.1; rw [k] at h; cases h
    | own ds =>
      obtain ⟨q, vs, k, _, _, k2, _⟩ := k
      rw [k] at h
      have e : p = q := by simpa using h
      rw [e, k2]
      intro z; cases z
    | st S =>
      obtain ⟨s, _, k⟩ := k
      exact k.mem.2 p h
/-- nothing tracked changes, F grows -/
theorem WA.grow (w : WA B ad ρ σ F H) (g : Gr Non F H F' H') : WA B ad ρ σ F' H' where
  gr := w.gr.trans g (fun _ _ h => h) fun _ _ h => h.elim
  len := w.len
  sl := fun i s h => by
    have k := w.sl i s h
    cases s with
    | emp => exact k
    | val d =>
      obtain ⟨k, v, e, r⟩ := k
      exact ⟨k, v, e, r.up g.ff⟩
    | own ds =>
      obtain ⟨p, vs, k, k0, k1, k2, r⟩ := k
      exact ⟨p, vs, k, k0, k1, g.kp _ _ k2 id, r.up g.ff⟩
    | st S =>
      obtain ⟨s, k1, k⟩ := k
      exact ⟨s, k1, k.keep g.ff fun a _ o e => g.kp a o e id⟩
  fz := fun i p h => ⟨g.fr p (w.lv h) (w.fz i p h).1, (w.fz i p h).2⟩
  dj := w.dj
  out := w.out
  pin := w.pin
theorem Post.of (w : WA B ad ρ σ F H) (g : Gr Non F H F' H') : Post B ad σ ρ F H ρ F' H' := ⟨w.grow g, ⟨g.ff, g.fh, fun a o h _ => g.kp a o h id, g.al, g.fr⟩, fun i S h => ⟨S, h⟩⟩
theorem Gr.heap (e : Same F H) (g : Same H H') : Gr Non F H F H' where
  ff := Same.refl F
  fh := e.trans g
  kp := fun a o h _ => g a o h
  al := fun a h => by
    cases q : H a with
    | none => exact absurd q h
    | some o =>
      rw [g a o q]
      intro z
      cases z
  fr := fun _ _ h => h
theorem same_upd {p : Addr} {o : HO} (h : H p = none) : Same H (upd H p o) := fun b u q => by rw [upd_ne (ne_of_none q h)]; exact q
/-- a new object is laid and frozen -/
theorem Gr.new {p : Addr} {o : HO} (e : Same F H) (h : H p = none) : Gr Non F H (upd F p o) (upd H p o) where
  ff := same_upd (by
    cases q : F p with
    | none => rfl
    | some u => rw [e p u q] at h; cases h)
  fh := fun a u q => by
    by_cases ha : a = p
    · subst ha; rw [upd_same] at q ⊢; exact q
    · rw [upd_ne ha] at q ⊢; exact e a u q
  kp := fun a u q _ => by rw [upd_ne (ne_of_none q h)]; exact q
  al := fun a q => by
    by_cases ha : a = p
    · subst ha; rw [upd_same]; intro z; cases z
    · rw [upd_ne ha]; exact q
  fr := fun a q z => by
    have ha : a ≠ p := fun z => q (z ▸ h)
    rw [upd_ne ha]
    exact z
end

/-! ### expressions over pure data -/
def EX (te : TE) (ρ : Env) (Q : D → Env → Prop) : Prop := ∀ B ad σ F H, WA B ad ρ σ F H → ∀ Z : VK, (∀ d ρ' v F' H', Q d ρ' → Post B ad σ ρ F H ρ' F' H' → Rp F' v d → Z v H') → te σ H Z
def EA (ta : TA) (ρ : Env) (Q : List D → Env → Prop) : Prop := ∀ B ad σ F H, WA B ad ρ σ F H → ∀ Z : List V → Hp → Prop, (∀ ds ρ' vs F' H', Q ds ρ' → Post B ad σ ρ F H ρ' F' H' → RpA F' vs ds → Z vs H') → ta σ H Z
def ET (tt : TT) (ρ : Env) (Q : Bool → Env → Prop) : Prop := ∀ B ad σ F H, WA B ad ρ σ F H → ∀ Z : Bool → Hp → Prop, (∀ b ρ' F' H', Q b ρ' → Post B ad σ ρ F H ρ' F' H' → Z b H') → tt σ H Z
/-- a new list, not yet frozen -/
def EO (te : TE) (ρ : Env) (Q : List D → Env → Prop) : Prop := ∀ B ad σ F H, WA B ad ρ σ F H → ∀ Z : VK,
  (∀ ds ρ' p vs F' H', Q ds ρ' → Post B ad σ ρ F H ρ' F' H' → F' p = none → H p = none → H' p = some (.lst vs) → RpA F' vs ds → Z (.ref p) H') → te σ H Z
def EPt (to : TO) (ρ : Env) (Q : Option Int → Env → Prop) : Prop := ∀ B ad σ F H, WA B ad ρ σ F H → ∀ Z : Option Int → Hp → Prop, (∀ o ρ' F' H', Q o ρ' → Post B ad σ ρ F H ρ' F' H' → Z o H') → to σ H Z
/-- operations by data -/
def OpD (r : R2) (d1 d2 : D) (K : D → Prop) : Prop := ∀ F H x y, Same F H → Rp F x d1 → Rp F y d2 → ∀ Z : VK, (∀ d v F' H', K d → Gr Non F H F' H' → Rp F' v d → Z v H') → r x y H Z
def OpO (r : R2) (d1 d2 : D) (K : List D → Prop) : Prop := ∀ F H x y, Same F H → Rp F x d1 → Rp F y d2 → ∀ Z : VK, (∀ ds p vs H', K ds → Same H H' → H p = none → H' p = some (.lst vs) → RpA F vs ds → Z (.ref p) H') → r x y H Z
def UnD (r : V → Hp → VK → Prop) (d1 : D) (K : D → Prop) : Prop := ∀ F H x, Same F H → Rp F x d1 → ∀ Z : VK, (∀ d v F' H', K d → Gr Non F H F' H' → Rp F' v d → Z v H') → r x H Z
def CbD (r : List V → Hp → VK → Prop) (ds : List D) (K : D → Prop) : Prop := ∀ F H vs, Same F H → RpA F vs ds → ∀ Z : VK, (∀ d v F' H', K d → Gr Non F H F' H' → Rp F' v d → Z v H') → r vs H Z
def CbO (r : List V → Hp → VK → Prop) (ds : List D) (K : List D → Prop) : Prop := ∀ F H vs, Same F H → RpA F vs ds → ∀ Z : VK, (∀ es p ws H', K es → Same H H' → H p = none → H' p = some (.lst ws) → RpA F ws es → Z (.ref p) H') → r vs H Z
def SlD (r : V → Option Int → Option Int → Hp → VK → Prop) (d1 : D) (lo hi : Option Int) (K : D → Prop) : Prop := ∀ F H x, Same F H → Rp F x d1 → ∀ Z : VK, (∀ d v F' H', K d → Gr Non F H F' H' → Rp F' v d → Z v H') → r x lo hi H Z
def SlO (r : V → Option Int → Option Int → Hp → VK → Prop) (d1 : D) (lo hi : Option Int) (K : List D → Prop) : Prop := ∀ F H x, Same F H → Rp F x d1 → ∀ Z : VK, (∀ ds p vs H', K ds → Same H H' → H p = none → H' p = some (.lst vs) → RpA F vs ds → Z (.ref p) H') → r x lo hi H Z

section
variable {B : Base} {ad : Nat → List Addr} {ρ ρ' ρ1 ρ2 : Env} {σ : St} {F H F' H' F1 H1 F2 H2 : Hp} {te ta tb tc : TE} {tt tu : TT} {t : TA} {Q Q' : D → Env → Prop}
theorem WA.newp (w : WA B ad ρ σ F H) {p : Addr} (h : H p = none) : F p = none ∧ B.H0 p = none ∧ ∀ i, p ∉ ad i := by
  refine ⟨w.gr.fh.free h, ?_, fun i m => w.lv m h⟩
  cases q : B.H0 p with
  | none => rfl
  | some o => exact absurd h (w.gr.al p (by rw [q]; intro z; cases z))
/-- a list that nobody owns is frozen -/
theorem WA.freeze (w : WA B ad ρ σ F H) {p : Addr} {vs : List V} (hF : F p = none) (h0 : B.H0 p = none) (hn : ∀ i, p ∉ ad i) (hp : H p = some (.lst vs)) : WA B ad ρ σ (upd F p (.lst vs)) H where
  gr := ⟨w.gr.ff.trans (same_upd hF), fun a o e => by
    by_cases ha : a = p
    · subst ha; rw [upd_same] at e; rw [hp]; exact e
    · rw [upd_ne ha] at e; exact w.gr.fh a o e, w.gr.kp, w.gr.al, fun a e z => by
    have ha : a ≠ p := fun q => e (by rw [q]; exact h0)
    rw [upd_ne ha]
    exact w.gr.fr a e z⟩
  len := w.len
  sl := fun i s e => by
    have k := w.sl i s e
    have up := same_upd (o := .lst vs) hF
    cases s with
    | emp => exact k
    | val d =>
      obtain ⟨k, v, e, r⟩ := k
      exact ⟨k, v, e, r.up up⟩
    | own ds =>
      obtain ⟨q, ws, k, k0, k1, k2, r⟩ := k
      exact ⟨q, ws, k, k0, k1, k2, r.up up⟩
    | st S =>
      obtain ⟨s, k1, k⟩ := k
      exact ⟨s, k1, k.keep up fun _ _ _ e => e⟩
  fz := fun i q m => by
    have ne : q ≠ p := fun z => hn i (z ▸ m)
    rw [upd_ne ne]
    exact w.fz i q m
  dj := w.dj
  out := w.out
  pin := w.pin
theorem Post.freeze (w : Post B ad σ ρ F H ρ' F' H') (w0 : WA B ad ρ σ F H) {p : Addr} {vs : List V} (hF : F' p = none) (hH : H p = none) (hp : H' p = some (.lst vs)) : Post B ad σ ρ F H ρ' (upd F' p (.lst vs)) H' :=
  have n := w0.newp hH
  have f := w.wa.freeze hF n.2.1 n.2.2 hp
  ⟨f, ⟨w.gr.ff.trans (same_upd hF), f.gr.fh, w.gr.kp, w.gr.al, fun a e z => by
    have ha : a ≠ p := fun q => e (by rw [q]; exact hH)
    rw [upd_ne ha]
    exact w.gr.fr a e z⟩, w.sh⟩

/-! #### the rules -/
theorem EX.imp (h : EX te ρ Q) (k : ∀ d ρ', Q d ρ' → Q' d ρ') : EX te ρ Q' := fun B ad σ F H w Z z => h B ad σ F H w Z fun d ρ' v F' H' q p r => z d ρ' v F' H' (k d ρ' q) p r
theorem ex_of {Q : D → Env → Prop} (h : EO te ρ fun ds ρ' => Q (.list ds) ρ') : EX te ρ Q := fun B ad σ F H w Z z => h B ad σ F H w Z fun ds ρ' p vs F' H' q P hF hH hp r =>
  z _ ρ' _ (upd F' p (.lst vs)) H' q (P.freeze w hF hH hp) (.lst (.inl upd_same) (r.up (same_upd hF)))
theorem ex_var {i : Nat} {d : D} (h : ρ[i]? = some (.val d)) (q : Q d ρ) : EX (tVar i) ρ Q := fun B ad σ F H w Z z => by
  obtain ⟨_, v, e, r⟩ := w.sl i _ h
  exact ⟨v, e, z d ρ v F H q (Post.refl w) r⟩
theorem ex_c {v : V} {d : D} (r : ∀ F, Rp F v d) (q : Q d ρ) : EX (tC v) ρ Q := fun B ad σ F H w Z z => z d ρ v F H q (Post.refl w) (r F)
theorem ex_int {i : Int} (q : Q (.int i) ρ) : EX (tC (.int i)) ρ Q := ex_c (fun _ => .int i) q
theorem ex_str {x : Str} (q : Q (.str x) ρ) : EX (tC (.str x)) ρ Q := ex_c (fun _ => .str x) q
theorem ex_bl {b : Bool} (q : Q (.bool b) ρ) : EX (tC (.bl b)) ρ Q := ex_c (fun _ => .bl b) q
theorem ex_non (q : Q .none ρ) : EX (tC .non) ρ Q := ex_c (fun _ => .non) q
theorem ex_op {r : R2} (h : EX ta ρ fun d1 ρ1 => EX tb ρ1 fun d2 ρ2 => OpD r d1 d2 fun d => Q d ρ2) : EX (tOp r ta tb) ρ Q := fun B ad σ F H w Z z =>
  h B ad σ F H w _ fun d1 ρ1 x F1 H1 q1 p1 r1 => q1 B ad σ F1 H1 p1.wa _ fun d2 ρ2 y F2 H2 q2 p2 r2 =>
    q2 F2 H2 x y p2.wa.gr.fh (r1.up p2.gr.ff) r2 Z fun d v F' H' kd g rv => z d ρ2 v F' H' kd ((p1.trans p2).trans (Post.of p2.wa g)) rv
theorem eo_op {r : R2} {Q : List D → Env → Prop} (h : EX ta ρ fun d1 ρ1 => EX tb ρ1 fun d2 ρ2 => OpO r d1 d2 fun d => Q d ρ2) : EO (tOp r ta tb) ρ Q := fun B ad σ F H w Z z =>
  h B ad σ F H w _ fun d1 ρ1 x F1 H1 q1 p1 r1 => q1 B ad σ F1 H1 p1.wa _ fun d2 ρ2 y F2 H2 q2 p2 r2 =>
    q2 F2 H2 x y p2.wa.gr.fh (r1.up p2.gr.ff) r2 Z fun ds p vs H' kd e hn hp rv => z ds ρ2 p vs F2 H' kd ((p1.trans p2).trans (Post.of p2.wa (Gr.heap p2.wa.gr.fh e))) (p2.wa.newp hn).1 (by
      cases q : H p with
      | none => rfl
      | some o => exact absurd hn (p2.gr.al p (p1.gr.al p (by rw [q]; intro z; cases z)))) hp rv
theorem ex_un {r : V → Hp → VK → Prop} (h : EX ta ρ fun d1 ρ1 => UnD r d1 fun d => Q d ρ1) : EX (tUn r ta) ρ Q := fun B ad σ F H w Z z =>
  h B ad σ F H w _ fun d1 ρ1 x F1 H1 q1 p1 r1 => q1 F1 H1 x p1.wa.gr.fh r1 Z fun d v F' H' kd g rv => z d ρ1 v F' H' kd (p1.trans (Post.of p1.wa g)) rv
theorem ea_nil {Q : List D → Env → Prop} (q : Q [] ρ) : EA tNil ρ Q := fun B ad σ F H w Z z => z [] ρ [] F H q (Post.refl w) .nil
theorem ea_cons {Q : List D → Env → Prop} (h : EX te ρ fun d ρ1 => EA t ρ1 fun ds ρ2 => Q (d :: ds) ρ2) : EA (tCons te t) ρ Q := fun B ad σ F H w Z z =>
  h B ad σ F H w _ fun d ρ1 v F1 H1 q1 p1 r1 => q1 B ad σ F1 H1 p1.wa _ fun ds ρ2 vs F2 H2 q2 p2 r2 => z (d :: ds) ρ2 (v :: vs) F2 H2 q2 (p1.trans p2) (.cons (r1.up p2.gr.ff) r2)
theorem ex_cb {r : List V → Hp → VK → Prop} (h : EA t ρ fun ds ρ1 => CbD r ds fun d => Q d ρ1) : EX (tCB r t) ρ Q := fun B ad σ F H w Z z =>
  h B ad σ F H w _ fun ds ρ1 vs F1 H1 q1 p1 r1 => q1 F1 H1 vs p1.wa.gr.fh r1 Z fun d v F' H' kd g rv => z d ρ1 v F' H' kd (p1.trans (Post.of p1.wa g)) rv
theorem eo_cb {r : List V → Hp → VK → Prop} {Q : List D → Env → Prop} (h : EA t ρ fun ds ρ1 => CbO r ds fun d => Q d ρ1) : EO (tCB r t) ρ Q := fun B ad σ F H w Z z =>
  h B ad σ F H w _ fun ds ρ1 vs F1 H1 q1 p1 r1 => q1 F1 H1 vs p1.wa.gr.fh r1 Z fun es p ws H' kd e hn hp rv => z es ρ1 p ws F1 H' kd (p1.trans (Post.of p1.wa (Gr.heap p1.wa.gr.fh e))) (p1.wa.newp hn).1 (by
      cases q : H p with
      | none => rfl
      | some o => exact absurd hn (p1.gr.al p (by rw [q]; intro z; cases z))) hp rv
theorem ex_tup (h : EA t ρ fun ds ρ1 => ds.length ≤ 100000 ∧ Q (.tuple ds) ρ1) : EX (tTup t) ρ Q := fun B ad σ F H w Z z =>
  h B ad σ F H w _ fun ds ρ1 vs F1 H1 q1 p1 r1 => ⟨Nat.le_trans (by rw [r1.len]; exact q1.1) (by decide), fun p hp =>
    z _ ρ1 _ (upd F1 p (.tup vs)) _ q1.2 (p1.trans (Post.of p1.wa (Gr.new p1.wa.gr.fh hp))) (.tup upd_same (r1.up (Gr.new p1.wa.gr.fh hp).ff))⟩
theorem eo_lst {Q : List D → Env → Prop} (h : EA t ρ fun ds ρ1 => ds.length ≤ 100000 ∧ Q ds ρ1) : EO (tLst t) ρ Q := fun B ad σ F H w Z z =>
  h B ad σ F H w _ fun ds ρ1 vs F1 H1 q1 p1 r1 => ⟨Nat.le_trans (by rw [r1.len]; exact q1.1) (by decide), fun p hp =>
    z _ ρ1 p vs F1 _ q1.2 (p1.trans (Post.of p1.wa (Gr.heap p1.wa.gr.fh (same_upd hp)))) (p1.wa.newp hp).1 (by
      cases q : H p with
      | none => rfl
      | some o => exact absurd hp (p1.gr.al p (by rw [q]; intro z; cases z))) upd_same r1⟩
/-! slices -/
theorem ep_no {Q : Option Int → Env → Prop} (q : Q none ρ) : EPt tNoPart ρ Q := fun B ad σ F H w Z z => z none ρ F H q (Post.refl w)
theorem ep_some {Q : Option Int → Env → Prop} (h : EX te ρ fun d ρ1 => ∃ i, d = .int i ∧ Q (some i) ρ1) : EPt (tPart te) ρ Q := fun B ad σ F H w Z z =>
  h B ad σ F H w _ fun d ρ1 v F1 H1 q1 p1 r1 => by
    obtain ⟨i, rfl, q⟩ := q1
    exact ⟨i, r1.int_inv, z _ ρ1 F1 H1 q p1⟩
theorem ex_sl {r : V → Option Int → Option Int → Hp → VK → Prop} {tl th : TO} (h : EX te ρ fun d1 ρ1 => EPt tl ρ1 fun lo ρ2 => EPt th ρ2 fun hi ρ3 => SlD r d1 lo hi fun d => Q d ρ3) : EX (tSl r te tl th) ρ Q := fun B ad σ F H w Z z =>
  h B ad σ F H w _ fun d1 ρ1 x F1 H1 q1 p1 r1 => q1 B ad σ F1 H1 p1.wa _ fun lo ρ2 F2 H2 q2 p2 => q2 B ad σ F2 H2 p2.wa _ fun hi ρ3 F3 H3 q3 p3 =>
    q3 F3 H3 x p3.wa.gr.fh ((r1.up p2.gr.ff).up p3.gr.ff) Z fun d v F' H' kd g rv => z d ρ3 v F' H' kd (((p1.trans p2).trans p3).trans (Post.of p3.wa g)) rv
theorem eo_sl {r : V → Option Int → Option Int → Hp → VK → Prop} {tl th : TO} {Q : List D → Env → Prop} (h : EX te ρ fun d1 ρ1 => EPt tl ρ1 fun lo ρ2 => EPt th ρ2 fun hi ρ3 => SlO r d1 lo hi fun d => Q d ρ3) : EO (tSl r te tl th) ρ Q := fun B ad σ F H w Z z =>
  h B ad σ F H w _ fun d1 ρ1 x F1 H1 q1 p1 r1 => q1 B ad σ F1 H1 p1.wa _ fun lo ρ2 F2 H2 q2 p2 => q2 B ad σ F2 H2 p2.wa _ fun hi ρ3 F3 H3 q3 p3 =>
    q3 F3 H3 x p3.wa.gr.fh ((r1.up p2.gr.ff).up p3.gr.ff) Z fun ds p vs H' kd e hn hp rv => z ds ρ3 p vs F3 H' kd (((p1.trans p2).trans p3).trans (Post.of p3.wa (Gr.heap p3.wa.gr.fh e))) (p3.wa.newp hn).1 (by
      cases q : H p with
      | none => rfl
      | some o => exact absurd hn (p3.gr.al p (p2.gr.al p (p1.gr.al p (by rw [q]; intro z; cases z))))) hp rv
/-! tests -/
theorem et_imp {Q Q' : Bool → Env → Prop} (h : ET tt ρ Q) (k : ∀ b ρ', Q b ρ' → Q' b ρ') : ET tt ρ Q' := fun B ad σ F H w Z z => h B ad σ F H w Z fun b ρ' F' H' q p => z b ρ' F' H' (k b ρ' q) p
theorem et_test {Q : Bool → Env → Prop} (h : EX te ρ fun d ρ1 => ∃ b, d = .bool b ∧ Q b ρ1) : ET (tTest te) ρ Q := fun B ad σ F H w Z z =>
  h B ad σ F H w _ fun d ρ1 v F1 H1 q1 p1 r1 => by
    obtain ⟨b, rfl, q⟩ := q1
    exact ⟨b, r1.bl_inv, z b ρ1 F1 H1 q p1⟩
theorem et_B {Q : Bool → Env → Prop} (h : EX te ρ fun d ρ1 => ∃ b, d = .bool b ∧ Q b ρ1) : ET (tB te) ρ Q := et_test h
theorem et_and {Q : Bool → Env → Prop} (h : ET tt ρ fun b ρ1 => (b = true → ET tu ρ1 Q) ∧ (b = false → Q false ρ1)) : ET (tAnd tt tu) ρ Q := fun B ad σ F H w Z z =>
  h B ad σ F H w _ fun b ρ1 F1 H1 q1 p1 => by
    cases b with
    | true =>
      show tu σ H1 Z
      exact q1.1 rfl B ad σ F1 H1 p1.wa Z fun b ρ' F' H' q p => z b ρ' F' H' q (p1.trans p)
    | false =>
      show Z false H1
      exact z false ρ1 F1 H1 (q1.2 rfl) p1
theorem et_or {Q : Bool → Env → Prop} (h : ET tt ρ fun b ρ1 => (b = true → Q true ρ1) ∧ (b = false → ET tu ρ1 Q)) : ET (tOr tt tu) ρ Q := fun B ad σ F H w Z z =>
  h B ad σ F H w _ fun b ρ1 F1 H1 q1 p1 => by
    cases b with
    | true =>
      show Z true H1
      exact z true ρ1 F1 H1 (q1.1 rfl) p1
    | false =>
      show tu σ H1 Z
      exact q1.2 rfl B ad σ F1 H1 p1.wa Z fun b ρ' F' H' q p => z b ρ' F' H' q (p1.trans p)
theorem et_not {Q : Bool → Env → Prop} (h : ET tt ρ fun b ρ1 => Q (!b) ρ1) : ET (tNot tt) ρ Q := fun B ad σ F H w Z z => h B ad σ F H w _ fun b ρ1 F1 H1 q p => z (!b) ρ1 F1 H1 q p
theorem ex_andV (h : EX ta ρ fun d ρ1 => ∃ b, d = .bool b ∧ (b = true → EX tb ρ1 Q) ∧ (b = false → Q (.bool false) ρ1)) : EX (tAndV ta tb) ρ Q := fun B ad σ F H w Z z =>
  h B ad σ F H w _ fun d ρ1 v F1 H1 q1 p1 r1 => by
    obtain ⟨b, rfl, k1, k2⟩ := q1
    refine ⟨b, r1.bl_inv, ?_⟩
    cases b with
    | true =>
      show tb σ H1 Z
      exact k1 rfl B ad σ F1 H1 p1.wa Z fun d ρ' v F' H' q p r => z d ρ' v F' H' q (p1.trans p) r
    | false =>
      show Z (.bl false) H1
      exact z _ ρ1 _ F1 H1 (k2 rfl) p1 (.bl false)
theorem ex_orV (h : EX ta ρ fun d ρ1 => ∃ b, d = .bool b ∧ (b = true → Q (.bool true) ρ1) ∧ (b = false → EX tb ρ1 Q)) : EX (tOrV ta tb) ρ Q := fun B ad σ F H w Z z =>
  h B ad σ F H w _ fun d ρ1 v F1 H1 q1 p1 r1 => by
    obtain ⟨b, rfl, k1, k2⟩ := q1
    refine ⟨b, r1.bl_inv, ?_⟩
    cases b with
    | true =>
      show Z (.bl true) H1
      exact z _ ρ1 _ F1 H1 (k1 rfl) p1 (.bl true)
    | false =>
      show tb σ H1 Z
      exact k2 rfl B ad σ F1 H1 p1.wa Z fun d ρ' v F' H' q p r => z d ρ' v F' H' q (p1.trans p) r
theorem ex_notV (h : EX ta ρ fun d ρ1 => ∃ b, d = .bool b ∧ Q (.bool !b) ρ1) : EX (tNotV ta) ρ Q := fun B ad σ F H w Z z =>
  h B ad σ F H w _ fun d ρ1 v F1 H1 q1 p1 r1 => by
    obtain ⟨b, rfl, k⟩ := q1
    exact ⟨b, r1.bl_inv, z _ ρ1 _ F1 H1 k p1 (.bl _)⟩
theorem ex_if (h : ET tt ρ fun b ρ1 => (b = true → EX ta ρ1 Q) ∧ (b = false → EX tb ρ1 Q)) : EX (tIf tt ta tb) ρ Q := fun B ad σ F H w Z z =>
  h B ad σ F H w _ fun b ρ1 F1 H1 q1 p1 => by
    cases b with
    | true =>
      show ta σ H1 Z
      exact q1.1 rfl B ad σ F1 H1 p1.wa Z fun d ρ' v F' H' q p r => z d ρ' v F' H' q (p1.trans p) r
    | false =>
      show tb σ H1 Z
      exact q1.2 rfl B ad σ F1 H1 p1.wa Z fun d ρ' v F' H' q p r => z d ρ' v F' H' q (p1.trans p) r
theorem ex_chain {r r' : R2} (h : EX ta ρ fun d1 ρ1 => EX tb ρ1 fun d2 ρ2 => OpD r d1 d2 fun d => ∃ b, d = .bool b ∧ (b = true → EX tc ρ2 fun d3 ρ3 => OpD r' d2 d3 fun d => Q d ρ3) ∧ (b = false → Q (.bool false) ρ2)) : EX (tChain r r' ta tb tc) ρ Q := fun B ad σ F H w Z z =>
  h B ad σ F H w _ fun d1 ρ1 x F1 H1 q1 p1 r1 => q1 B ad σ F1 H1 p1.wa _ fun d2 ρ2 y F2 H2 q2 p2 r2 =>
    q2 F2 H2 x y p2.wa.gr.fh (r1.up p2.gr.ff) r2 _ fun d v F3 H3 kd g rv => by
      obtain ⟨b, rfl, k1, k2⟩ := kd
      refine ⟨b, rv.bl_inv, ?_⟩
      have p3 := (p1.trans p2).trans (Post.of p2.wa g)
      cases b with
      | true =>
        show tc σ H3 fun w' H4 => r' y w' H4 Z
        exact k1 rfl B ad σ F3 H3 p3.wa _ fun d3 ρ3 u F4 H4 q4 p4 r4 => q4 F4 H4 y u p4.wa.gr.fh ((r2.up g.ff).up p4.gr.ff) r4 Z fun d v F' H' kd g rv => z d ρ3 v F' H' kd ((p3.trans p4).trans (Post.of p4.wa g)) rv
      | false =>
        show Z (.bl false) H3
        exact z _ ρ2 _ F3 H3 (k2 rfl) p3 (.bl false)
end
/-! ### operations -/
section
variable {K : PySem.W.Frag} {Q : D → Prop} {i j : Int} {d d1 d2 : D} {ds es : List D}
theorem opd_I0 {g : Int → Int → Int} (k : Q (.int (g i j))) : OpD (rI0 fun i j => .int (g i j)) (.int i) (.int j) Q := fun F H x y e rx ry Z z => ⟨i, j, rx.int_inv, ry.int_inv, z _ _ F H k (Gr.refl e) (.int _)⟩
theorem opd_B0 {g : Int → Int → Bool} (k : Q (.bool (g i j))) : OpD (rI0 fun i j => .bl (g i j)) (.int i) (.int j) Q := fun F H x y e rx ry Z z => ⟨i, j, rx.int_inv, ry.int_inv, z _ _ F H k (Gr.refl e) (.bl _)⟩
theorem opd_I {C : Int → Int → Prop} {g : Int → Int → Int} (c : C i j) (k : Q (.int (g i j))) : OpD (rI C fun i j => .int (g i j)) (.int i) (.int j) Q := fun F H x y e rx ry Z z => ⟨i, j, rx.int_inv, ry.int_inv, c, z _ _ F H k (Gr.refl e) (.int _)⟩
theorem und_neg (k : Q (.int (-i))) : UnD (rU fun i => .int (-i)) (.int i) Q := fun F H x e rx Z z => ⟨i, rx.int_inv, z _ _ F H k (Gr.refl e) (.int _)⟩
theorem opd_eq (s1 : SeqAt.shaped d1 = true) (s2 : SeqAt.shaped d2 = true) (k : Q (.bool (PyData.eqv d1 d2))) : OpD (rEqD K) d1 d2 Q := fun F H x y e rx ry Z z => ⟨d1, d2, rx.dp e, ry.dp e, s1, s2, z _ _ F H k (Gr.refl e) (.bl _)⟩
theorem opd_ne (s1 : SeqAt.shaped d1 = true) (s2 : SeqAt.shaped d2 = true) (k : Q (.bool (!PyData.eqv d1 d2))) : OpD (rNeD K) d1 d2 Q := fun F H x y e rx ry Z z => ⟨d1, d2, rx.dp e, ry.dp e, s1, s2, z _ _ F H k (Gr.refl e) (.bl _)⟩
def isN : D → Bool
  | .none => true
  | _ => false
theorem isN_of {F : Hp} {x : V} (r : Rp F x d) : decide (x = .non) = isN d := by cases r <;> rfl
def rIs : R2 := fun x y H Q => y = .non ∧ Q (.bl (decide (x = .non))) H
def rIsnt : R2 := fun x y H Q => y = .non ∧ Q (.bl (!decide (x = .non))) H
theorem op_is {X : Cx} : OpR X (compareOp .Is) rIs := op_isN
theorem op_isnt {X : Cx} : OpR X (compareOp .IsNot) rIsnt := op_notN
theorem opd_is (k : Q (.bool (isN d))) : OpD rIs d .none Q := fun F H x y e rx ry Z z => ⟨ry.non_inv, by rw [isN_of rx]; exact z _ _ F H k (Gr.refl e) (.bl _)⟩
theorem opd_isnt (k : Q (.bool (!isN d))) : OpD rIsnt d .none Q := fun F H x y e rx ry Z z => ⟨ry.non_inv, by rw [isN_of rx]; exact z _ _ F H k (Gr.refl e) (.bl _)⟩
/-! an item -/
theorem RpA.at_ {F : Hp} {vs : List V} (r : RpA F vs ds) (h : atI ds i = some d) : ∃ v, atI vs i = some v ∧ Rp F v d := by
  unfold atI at h ⊢
  rw [r.len]
  cases e : ixN ds.length i with
  | none => rw [e] at h; cases h
  | some k =>
    rw [e] at h
    exact r.get (k := k) h
def rIxA (K : PySem.W.Frag) : R2 := fun x y H Q => rIxL K x y H Q ∨ rIxT K x y H Q
theorem ix_any {X : Cx} : IxR X (rIxA X.K) := IxR.or ix_list ix_tup
theorem opd_ixL (h : atI ds i = some d) (k : Q d) : OpD (rIxA K) (.list ds) (.int i) Q := fun F H x y e rx ry Z z => by
  obtain ⟨a, xs, rfl, h1, h2⟩ := rx.lst_inv
  obtain ⟨v, hv, rv⟩ := h2.at_ h
  exact .inl ⟨a, xs, i, v, rfl, ry.int_inv, sqL_rd h1 e, hv, z _ _ F H k (Gr.refl e) rv⟩
theorem opd_ixT (h : atI ds i = some d) (k : Q d) : OpD (rIxA K) (.tuple ds) (.int i) Q := fun F H x y e rx ry Z z => by
  obtain ⟨a, xs, rfl, h1, h2⟩ := rx.tup_inv
  obtain ⟨v, hv, rv⟩ := h2.at_ h
  exact .inr ⟨a, xs, i, v, rfl, ry.int_inv, sqT_rd h1 e, hv, z _ _ F H k (Gr.refl e) rv⟩
/-! + -/
def rCatR : R2 := fun x y H Q => ∃ l b xs zs, x = .ref l ∧ y = .ref b ∧ Rd H l (.lst xs) ∧ Rd H b (.lst zs) ∧ xs.length + zs.length ≤ sizeLine ∧ ∀ p, H p = none → Q (.ref p) (upd H p (.lst (xs ++ zs)))
theorem op_catR {X : Cx} : OpR X (binaryOp .Add) rCatR := by
  intro pins s σ H x y v u Q I rx ry h
  obtain ⟨l, b, xs, zs, rfl, rfl, hH, hB, hz, q⟩ := h
  cases rx
  cases ry
  obtain ⟨z, its, n, r, e⟩ := hH.ok I.hok
  obtain ⟨z2, its2, n2, r2, e2⟩ := hB.ok I.hok
  have hl := r.length
  have hl2 := r2.length
  refine PySem.P.add_list e e2 ?_ (by rw [List.size_toArray, List.size_toArray]; omega)
  have ea : its.toArray ++ its2.toArray = (its ++ its2).toArray := by simp
  rw [ea]
  exact ⟨.ref _, _, I.lnew (t' := s.toks) (r.append r2) (by rw [List.length_append]; omega), rfl, q _ I.fresh⟩
def rPlus (K : PySem.W.Frag) : R2 := fun x y H Q => (fun x y H Q => rI0 (fun i j => .int (i + j)) x y H Q ∨ rCatR x y H Q) x y H Q ∨ rCatA K x y H Q
theorem op_plus {X : Cx} : OpR X (binaryOp .Add) (rPlus X.K) := OpR.or (OpR.or op_add op_catR) op_catA
theorem opd_plusI (k : Q (.int (i + j))) : OpD (rPlus K) (.int i) (.int j) Q := fun F H x y e rx ry Z z => .inl (.inl (opd_I0 k F H x y e rx ry Z z))
theorem opo_plusL {Q : List D → Prop} (hz : ds.length + es.length ≤ 1000000) (k : Q (ds ++ es)) : OpO (rPlus K) (.list ds) (.list es) Q := fun F H x y e rx ry Z z => by
  obtain ⟨a, xs, rfl, h1, h2⟩ := rx.lst_inv
  obtain ⟨b, ys, rfl, g1, g2⟩ := ry.lst_inv
  exact .inl (.inr ⟨a, b, xs, ys, rfl, rfl, rd_mono e h1, rd_mono e g1, Nat.le_trans (by rw [h2.len, g2.len]; exact hz) (by decide), fun p hp => z _ p _ _ k (same_upd hp) hp upd_same (h2.app g2)⟩)
theorem opd_plusT (hz : ds.length + es.length ≤ 1000000) (k : Q (.tuple (ds ++ es))) : OpD (rPlus K) (.tuple ds) (.tuple es) Q := fun F H x y e rx ry Z z => by
  obtain ⟨a, xs, rfl, h1, h2⟩ := rx.tup_inv
  obtain ⟨b, ys, rfl, g1, g2⟩ := ry.tup_inv
  refine .inr ⟨a, b, xs, ys, rfl, rfl, sqT_rd h1 e, sqT_rd g1 e, Nat.le_trans (by rw [h2.len, g2.len]; exact hz) (by decide), fun q => ?_, fun _ q => ?_, fun _ _ p hp => ?_⟩
  · subst q
    cases h2
    exact z _ _ F H k (Gr.refl e) ry
  · subst q
    cases g2
    rw [List.append_nil] at k
    exact z _ _ F H k (Gr.refl e) rx
  · exact z _ _ _ _ k (Gr.new e hp) (.tup upd_same ((h2.app g2).up (Gr.new e hp).ff))
/-! slices -/
def rSl (K : PySem.W.Frag) : V → Option Int → Option Int → Hp → VK → Prop := fun x lo hi H Q => rSlL K x lo hi H Q ∨ rSlA K x lo hi H Q
theorem sl_any {X : Cx} : SlR X (rSl X.K) := SlR.or sl_list sl_tupA
def cutD (xs : List D) (lo hi : Option Int) : List D := (xs.drop (HT.sIx xs.length 0 lo)).take (HT.sIx xs.length xs.length hi - HT.sIx xs.length 0 lo)
theorem RpA.cut {F : Hp} {vs : List V} (r : RpA F vs ds) (lo hi : Option Int) : RpA F (cutV vs lo hi) (cutD ds lo hi) := by
  unfold cutV cutD
  rw [r.len]
  exact (r.drop _).take _
theorem slo_L {Q : List D → Prop} {lo hi : Option Int} (k : Q (cutD ds lo hi)) : SlO (rSl K) (.list ds) lo hi Q := fun F H x e rx Z z => by
  obtain ⟨a, xs, rfl, h1, h2⟩ := rx.lst_inv
  exact .inl ⟨a, xs, rfl, sqL_rd h1 e, fun p hp => z _ p _ _ k (same_upd hp) hp upd_same (h2.cut lo hi)⟩
theorem sld_T {lo hi : Option Int} (k : Q (.tuple (cutD ds lo hi))) : SlD (rSl K) (.tuple ds) lo hi Q := fun F H x e rx Z z => by
  obtain ⟨a, xs, rfl, h1, h2⟩ := rx.tup_inv
  refine .inr ⟨a, xs, rfl, sqT_rd h1 e, fun w => ?_, fun w p hp => z _ _ _ _ k (Gr.new e hp) (.tup upd_same ((h2.cut lo hi).up (Gr.new e hp).ff))⟩
  have ec : cutD ds lo hi = ds := by
    rw [h2.len] at w
    unfold cutD
    rw [w.1, w.2, List.drop_zero, Nat.sub_zero, List.take_length]
  rw [ec] at k
  exact z _ _ F H k (Gr.refl e) rx
/-! built-ins -/
def rLen (K : PySem.W.Frag) : List V → Hp → VK → Prop := fun xs H Q => ∃ x n, xs = [x] ∧ LenV K x H n ∧ Q (.int (n : Int)) H
theorem cb_len {X : Cx} : CallR X (.builtin "len") (rLen X.K) := call_len
theorem RpA.one {F : Hp} {vs : List V} (h : RpA F vs [d]) : ∃ v, vs = [v] ∧ Rp F v d := by
  cases h with
  | cons h1 h2 => cases h2; exact ⟨_, rfl, h1⟩
theorem RpA.two {F : Hp} {vs : List V} (h : RpA F vs [d1, d2]) : ∃ v u, vs = [v, u] ∧ Rp F v d1 ∧ Rp F u d2 := by
  cases h with
  | cons h1 h2 => obtain ⟨u, rfl, r⟩ := h2.one; exact ⟨_, _, rfl, h1, r⟩
theorem cbd_lenL (k : Q (.int (ds.length : Int))) : CbD (rLen K) [.list ds] Q := fun F H vs e r Z z => by
  obtain ⟨v, rfl, rv⟩ := r.one
  obtain ⟨a, xs, rfl, h1, h2⟩ := rv.lst_inv
  exact ⟨_, ds.length, rfl, .inl ⟨xs, sqL_rd h1 e, h2.len.symm⟩, z _ _ F H k (Gr.refl e) (.int _)⟩
theorem cbd_lenT (k : Q (.int (ds.length : Int))) : CbD (rLen K) [.tuple ds] Q := fun F H vs e r Z z => by
  obtain ⟨v, rfl, rv⟩ := r.one
  obtain ⟨a, xs, rfl, h1, h2⟩ := rv.tup_inv
  exact ⟨_, ds.length, rfl, .inr ⟨xs, sqT_rd h1 e, h2.len.symm⟩, z _ _ F H k (Gr.refl e) (.int _)⟩
def rAbs : List V → Hp → VK → Prop := fun xs H Q => ∃ i, xs = [.int i] ∧ Q (.int (if i < 0 then -i else i)) H
theorem cb_abs {X : Cx} : CallR X (.builtin "abs") rAbs := call_abs
theorem cbd_abs (k : Q (.int (i.natAbs : Int))) : CbD rAbs [.int i] Q := fun F H vs e r Z z => by
  obtain ⟨v, rfl, rv⟩ := r.one
  refine ⟨i, by rw [rv.int_inv], ?_⟩
  have e2 : (if i < 0 then -i else i) = (i.natAbs : Int) := by
    by_cases h : i < 0
    · rw [if_pos h]; omega
    · rw [if_neg h]; omega
  rw [e2]
  exact z _ _ F H k (Gr.refl e) (.int _)
def rMx2 : List V → Hp → VK → Prop := fun xs H Q => ∃ i j, xs = [.int i, .int j] ∧ Q (.int (if j > i then j else i)) H
def rMn2 : List V → Hp → VK → Prop := fun xs H Q => ∃ i j, xs = [.int i, .int j] ∧ Q (.int (if j < i then j else i)) H
theorem cb_max2 {X : Cx} (hc : X.calm = true) : CallR X (.builtin "max") rMx2 := call_max2 hc
theorem cb_min2 {X : Cx} (hc : X.calm = true) : CallR X (.builtin "min") rMn2 := call_min2 hc
theorem cbd_max2 (k : Q (.int (max i j))) : CbD rMx2 [.int i, .int j] Q := fun F H vs e r Z z => by
  obtain ⟨v, u, rfl, rv, ru⟩ := r.two
  refine ⟨i, j, by rw [rv.int_inv, ru.int_inv], ?_⟩
  have e2 : (if j > i then j else i) = max i j := by
    by_cases h : j > i
    · rw [if_pos h]; omega
    · rw [if_neg h]; omega
  rw [e2]
  exact z _ _ F H k (Gr.refl e) (.int _)
theorem cbd_min2 (k : Q (.int (min i j))) : CbD rMn2 [.int i, .int j] Q := fun F H vs e r Z z => by
  obtain ⟨v, u, rfl, rv, ru⟩ := r.two
  refine ⟨i, j, by rw [rv.int_inv, ru.int_inv], ?_⟩
  have e2 : (if j < i then j else i) = min i j := by
    by_cases h : j < i
    · rw [if_pos h]; omega
    · rw [if_neg h]; omega
  rw [e2]
  exact z _ _ F H k (Gr.refl e) (.int _)
def rInt : List V → Hp → VK → Prop := fun xs H Q => (∃ i, xs = [.int i] ∧ Q (.int i) H) ∨ ∃ k, xs = [.bl k] ∧ Q (.int (if k then 1 else 0)) H
theorem cb_int {X : Cx} : CallR X (.type "int") rInt := call_int1
theorem cbd_int (k : Q (.int i)) : CbD rInt [.int i] Q := fun F H vs e r Z z => by
  obtain ⟨v, rfl, rv⟩ := r.one
  exact .inl ⟨i, by rw [rv.int_inv], z _ _ F H k (Gr.refl e) (.int _)⟩
def rList (K : PySem.W.Frag) : List V → Hp → VK → Prop := fun xs H Q => ∃ p ys, xs = [.ref p] ∧ (SqL K H p ys ∨ SqT K H p ys) ∧ ∀ l, H l = none → Q (.ref l) (upd H l (.lst ys))
theorem cb_list {X : Cx} : CallR X (.type "list") (rList X.K) := call_list_of
theorem cbo_listL {Q : List D → Prop} (k : Q ds) : CbO (rList K) [.list ds] Q := fun F H vs e r Z z => by
  obtain ⟨v, rfl, rv⟩ := r.one
  obtain ⟨a, xs, rfl, h1, h2⟩ := rv.lst_inv
  exact ⟨a, xs, rfl, .inl (sqL_rd h1 e), fun p hp => z _ p _ _ k (same_upd hp) hp upd_same h2⟩
theorem cbo_listT {Q : List D → Prop} (k : Q ds) : CbO (rList K) [.tuple ds] Q := fun F H vs e r Z z => by
  obtain ⟨v, rfl, rv⟩ := r.one
  obtain ⟨a, xs, rfl, h1, h2⟩ := rv.tup_inv
  exact ⟨a, xs, rfl, .inr (sqT_rd h1 e), fun p hp => z _ p _ _ k (same_upd hp) hp upd_same h2⟩
def rTup (K : PySem.W.Frag) : List V → Hp → VK → Prop := fun xs H Q => ∃ p ys, xs = [.ref p] ∧ ((SqL K H p ys ∧ ∀ l, H l = none → Q (.ref l) (upd H l (.tup ys))) ∨ (SqT K H p ys ∧ Q (.ref p) H))
theorem cb_tuple {X : Cx} : CallR X (.type "tuple") (rTup X.K) := call_tuple_of
theorem cbd_tupL (k : Q (.tuple ds)) : CbD (rTup K) [.list ds] Q := fun F H vs e r Z z => by
  obtain ⟨v, rfl, rv⟩ := r.one
  obtain ⟨a, xs, rfl, h1, h2⟩ := rv.lst_inv
  exact ⟨a, xs, rfl, .inl ⟨sqL_rd h1 e, fun p hp => z _ _ _ _ k (Gr.new e hp) (.tup upd_same (h2.up (Gr.new e hp).ff))⟩⟩
theorem cbd_sum {ns : List Int} (k : Q (.int ns.sum)) : CbD (rSum K) [.list (ns.map .int)] Q := fun F H vs e r Z z => by
  obtain ⟨v, rfl, rv⟩ := r.one
  obtain ⟨a, xs, rfl, h1, h2⟩ := rv.lst_inv
  exact ⟨a, ns, rfl, by rw [← h2.ints_inv]; exact sqL_rd h1 e, z _ _ F H k (Gr.refl e) (.int _)⟩
/-- isinstance(x, tuple) -/
theorem ex_isT {te : TE} {ρ : Env} {Q : D → Env → Prop} (h : EX te ρ fun d ρ1 => ∃ ds, d = .tuple ds ∧ Q (.bool true) ρ1) : EX (tCB RZ.rIsTy (tCons te (tCons (tC (.ty "tuple")) tNil))) ρ Q := fun B ad σ F H w Z z =>
  h B ad σ F H w _ fun d ρ1 v F1 H1 q1 p1 r1 => by
    obtain ⟨ds, rfl, q⟩ := q1
    obtain ⟨a, xs, rfl, h1, h2⟩ := r1.tup_inv
    exact ⟨.ref a, "tuple", rfl, .tup (p1.wa.gr.fh _ _ h1), z _ ρ1 _ F1 H1 q p1 (.bl true)⟩
end

/-! ### own lists -/
section
variable {B : Base} {ad : Nat → List Addr} {ρ ρ' : Env} {σ : St} {F H F' H' : Hp} {te tb : TE} {Q : D → Env → Prop}
theorem get_set {α : Type} {l : List α} {i j : Nat} {x y : α} (h : (l.set i x)[j]? = some y) : (j = i ∧ y = x) ∨ (j ≠ i ∧ l[j]? = some y) := by
  by_cases e : j = i
  · subst e
    by_cases hl : j < l.length
    · rw [List.getElem?_set_self hl] at h
      exact .inl ⟨rfl, (Option.some.inj h).symm⟩
    · rw [List.getElem?_eq_none (by simpa using hl)] at h
      cases h
  · rw [List.getElem?_set_ne (Ne.symm e)] at h
    exact .inr ⟨e, h⟩
theorem get_set' {α : Type} {l : List α} {i j : Nat} {x : α} (h : (l.set i x)[j]? = none) : l[j]? = none := by
  rw [List.getElem?_eq_none_iff] at h ⊢
  simpa using h
/-- slot i's own list is frozen where it stands -/
theorem WA.lend (w : WA B ad ρ σ F H) {i : Nat} {ds : List D} (h : ρ[i]? = some (.own ds)) : ∃ p vs, ad i = [p] ∧ F p = none ∧ H p = some (.lst vs) ∧ RpA F vs ds ∧ B.H0 p = none ∧ σ[i]? = some (some (.ref p)) ∧
    WA B (fun k => if k = i then [] else ad k) (ρ.set i (.val (.list ds))) σ (upd F p (.lst vs)) H := by
  obtain ⟨p, vs, k, k0, k1, k2, r⟩ := w.sl i _ h
  have hF : F p = none := (w.fz i p (by rw [k]; simp)).1
  have up := same_upd (o := .lst vs) hF
  refine ⟨p, vs, k, hF, k2, r, k0, k1, ?_⟩
  have hn : ∀ j, j ≠ i → p ∉ ad j := fun j hj m => hj (w.dj j i p m (by rw [k]; simp))
  refine ⟨⟨w.gr.ff.trans up, fun a o e => ?_, w.gr.kp, w.gr.al, fun a e z => ?_⟩, by rw [List.length_set]; exact w.len, fun j s e => ?_, fun j q m => ?_, fun j1 j2 q m1 m2 => ?_, fun j e => ?_, w.pin.to fun S e => by
    rcases get_set e with ⟨_, q⟩ | ⟨hj, e⟩
    · cases q
    · exact ⟨⟨S, e⟩, rfl, if_neg hj⟩⟩
  · by_cases ha : a = p
    · subst ha; rw [upd_same] at e; rw [k2]; exact e
    · rw [upd_ne ha] at e; exact w.gr.fh a o e
  · have ha : a ≠ p := fun q => e (by rw [q]; exact k0)
    rw [upd_ne ha]
    exact w.gr.fr a e z
  · rcases get_set e with ⟨rfl, rfl⟩ | ⟨hj, e⟩
    · exact ⟨if_pos rfl, _, k1, .lst (.inl upd_same) (r.up up)⟩
    · have q := w.sl j s e
      rw [if_neg hj]
      cases s with
      | emp => exact q
      | val d =>
        obtain ⟨k, v, e, r⟩ := q
        exact ⟨k, v, e, r.up up⟩
      | own es =>
        obtain ⟨q, ws, k, k0, k1, k2, r⟩ := q
        exact ⟨q, ws, k, k0, k1, k2, r.up up⟩
      | st S =>
        obtain ⟨s, k1, k⟩ := q
        exact ⟨s, k1, k.keep up fun _ _ _ e => e⟩
  · by_cases hj : j = i
    · simp [hj] at m
    · simp only [if_neg hj] at m
      have ne : q ≠ p := fun z => hn j hj (z ▸ m)
      rw [upd_ne ne]
      exact w.fz j q m
  · by_cases h1 : j1 = i
    · simp [h1] at m1
    · by_cases h2 : j2 = i
      · simp [h2] at m2
      · simp only [if_neg h1] at m1
        simp only [if_neg h2] at m2
        exact w.dj j1 j2 q m1 m2
  · by_cases hj : j = i
    · show (if j = i then [] else ad j) = []
      rw [if_pos hj]
    · show (if j = i then [] else ad j) = []
      rw [if_neg hj]
      exact w.out j (get_set' e)
def scalD : D → Bool
  | .none => true
  | .bool _ => true
  | .int _ => true
  | .str _ => true
  | _ => false
theorem scal_any {d : D} {v : V} (h : scalD d = true) (r : Rp F v d) : Rp F' v d := by
  cases r with
  | non => exact .non
  | bl b => exact .bl b
  | int i => exact .int i
  | str x => exact .str x
  | lst _ _ => cases h
  | tup _ _ => cases h
/-- behind a loan, with nothing changed but the heap's new objects -/
theorem WA.back (w : WA B ad ρ σ F H) {i : Nat} {ds : List D} (h : ρ[i]? = some (.own ds)) {F1 : Hp} {ad1 : Nat → List Addr} {ρ1 : Env} (e1 : ρ1 = ρ.set i (.val (.list ds))) (ea : ad1 = fun k => if k = i then [] else ad k)
    (hF1 : Same F F1) (p : Post B ad1 σ ρ1 F1 H ρ1 F' H') (no : NoOb ρ) : Post B ad σ ρ F H ρ F H' := by
  subst e1 ea
  have hi : i < ρ.length := (List.getElem?_eq_some_iff.mp h).1
  have ms : ∀ a, MS (fun k => if k = i then [] else ad k) (ρ.set i (.val (.list ds))) a → MS ad ρ a := fun a ⟨j, S, e, m⟩ => by
    rcases get_set e with ⟨_, q⟩ | ⟨hj, e⟩
    · cases q
    · simp only [if_neg hj] at m
      exact ⟨j, S, e, m⟩
  have fh : Same F H' := (hF1.trans p.gr.ff).trans p.gr.fh
  have nms : ∀ j q, q ∈ ad j → (∀ S, ρ[j]? ≠ some (Slot.st S)) → ¬ MS ad ρ q := fun j q m hj ⟨j', S, e, m'⟩ => by
    have := w.dj j j' q m m'
    subst this
    exact hj S e
  refine ⟨⟨⟨w.gr.ff, fh, p.wa.gr.kp, p.wa.gr.al, w.gr.fr⟩, w.len, fun j s e => ?_, w.fz, w.dj, w.out, w.pin⟩, ⟨Same.refl F, fh, fun a o e m => p.gr.kp a o e fun z => m (ms a z), p.gr.al, fun _ _ z => z⟩, fun j S e => ⟨S, e⟩⟩
  have k := w.sl j s e
  cases s with
  | emp => exact k
  | val d => exact k
  | own es =>
    obtain ⟨q, ws, k, k0, k1, k2, r⟩ := k
    refine ⟨q, ws, k, k0, k1, p.gr.kp q _ k2 fun z => nms j q (by rw [k]; simp) (fun S z => by rw [e] at z; cases z) (ms q z), r⟩
  | st S =>
    have hj : j ≠ i := fun z => by subst z; rw [h] at e; cases e
    have k' := p.wa.sl j (.st S) (by rw [List.getElem?_set_ne (Ne.symm hj)]; exact e)
    simp only [if_neg hj] at k'
    obtain ⟨s, k1, k2⟩ := k'
    exact ⟨s, k1, k2.down (no _ (List.mem_of_getElem? e))⟩
theorem ex_lend (i : Nat) {ds : List D} (h : ρ[i]? = some (.own ds)) (k : EX te (ρ.set i (.val (.list ds))) fun d ρ' => ρ' = ρ.set i (.val (.list ds)) ∧ scalD d = true ∧ Q d ρ) (no : NoOb ρ := by first | (refine noob_of ?_; simp only [noObP, and_true]; done) | (refine noob_of ?_; simp only [noObP, and_true]; rfl) | (refine noob_of ?_; simp only [noObP, and_true]; exact Ok2.nob (by assumption)) | (refine noob_of ?_; simp only [noObP, and_true]; exact Ok.nob (by assumption))) : EX te ρ Q := fun B ad σ F H w Z z => by
  obtain ⟨p, vs, k1, k2, k3, k4, k5, k6, w2⟩ := w.lend h
  refine k B _ σ _ H w2 Z fun d ρ' v F' H' q P r => ?_
  obtain ⟨rfl, sc, q⟩ := q
  exact z d ρ v F H' q (w.back h rfl rfl (same_upd k2) P no) (scal_any sc r)
theorem et_lend (i : Nat) {tt : TT} {Q : Bool → Env → Prop} {ds : List D} (h : ρ[i]? = some (.own ds)) (k : ET tt (ρ.set i (.val (.list ds))) fun b ρ' => ρ' = ρ.set i (.val (.list ds)) ∧ Q b ρ) (no : NoOb ρ := by first | (refine noob_of ?_; simp only [noObP, and_true]; done) | (refine noob_of ?_; simp only [noObP, and_true]; rfl) | (refine noob_of ?_; simp only [noObP, and_true]; exact Ok2.nob (by assumption)) | (refine noob_of ?_; simp only [noObP, and_true]; exact Ok.nob (by assumption))) : ET tt ρ Q := fun B ad σ F H w Z z => by
  obtain ⟨p, vs, k1, k2, k3, k4, k5, k6, w2⟩ := w.lend h
  refine k B _ σ _ H w2 Z fun d ρ' F' H' q P => ?_
  obtain ⟨rfl, q⟩ := q
  exact z d ρ F H' q (w.back h rfl rfl (same_upd k2) P no)
/-- x[k], x an own list -/
theorem ex_ixO {K : PySem.W.Frag} {i : Nat} {es : List D} (h : ρ[i]? = some (.own es)) (k : EX tb ρ fun d ρ2 => ∃ ds j e, ρ2[i]? = some (.own ds) ∧ d = .int j ∧ atI ds j = some e ∧ Q e ρ2) : EX (tOp (rIxA K) (tVar i) tb) ρ Q := fun B ad σ F H w Z z => by
  obtain ⟨p0, _, _, _, k1, _⟩ := w.sl i _ h
  refine ⟨_, k1, k B ad σ F H w _ fun d ρ2 y F2 H2 q2 p2 r2 => ?_⟩
  obtain ⟨ds, j, e, h2, rfl, hj, q⟩ := q2
  obtain ⟨p, vs, _, _, k2, k3, rr⟩ := p2.wa.sl i _ h2
  rw [k1] at k2
  cases k2
  obtain ⟨v, hv, rv⟩ := rr.at_ hj
  exact .inl ⟨_, vs, j, v, rfl, r2.int_inv, .inl (.inl k3), hv, z e ρ2 v F2 H2 q p2 rv⟩
theorem ex_lenO {K : PySem.W.Frag} {i : Nat} {ds : List D} (h : ρ[i]? = some (.own ds)) (q : Q (.int (ds.length : Int)) ρ) : EX (tCB (rLen K) (tCons (tVar i) tNil)) ρ Q := fun B ad σ F H w Z z => by
  obtain ⟨p, vs, _, _, k1, k3, rr⟩ := w.sl i _ h
  exact ⟨_, k1, _, ds.length, rfl, .inl ⟨vs, .inl (.inl k3), rr.len.symm⟩, z _ ρ _ F H q (Post.refl w) (.int _)⟩
end

/-! ### statements -/
structure Po where
  nx : Env → Prop
  rt : D → Env → Prop
  bk : Env → Prop := fun _ => False
  ct : Env → Prop := fun _ => False
def SX (ts : TS) (ρ : Env) (P : Po) : Prop := ∀ B σ F H, W B ρ σ F H → ∀ Dn : Ends, (∀ ρ' σ' F' H', P.nx ρ' → W B ρ' σ' F' H' → Dn.nx σ' H') → (∀ d ρ' σ' v F' H', P.rt d ρ' → W B ρ' σ' F' H' → Rp F' v d → Dn.rt v H') →
  (∀ ρ' σ' F' H', P.bk ρ' → W B ρ' σ' F' H' → Dn.bk σ' H') → (∀ ρ' σ' F' H', P.ct ρ' → W B ρ' σ' F' H' → Dn.ct σ' H') → ts Dn σ H
/-- ρ' knows no more than ρ -/
inductive LeE : Env → Env → Prop
  | nil : LeE [] []
  | emp {s : Slot} {ρ' ρ : Env} : LeE ρ' ρ → LeE (.emp :: ρ') (s :: ρ)
  | eq {s s' : Slot} {ρ' ρ : Env} : s = s' → LeE ρ' ρ → LeE (s :: ρ') (s' :: ρ)
theorem LeE.refl : ∀ ρ, LeE ρ ρ
  | [] => .nil
  | _ :: ρ => .eq rfl (LeE.refl ρ)
theorem LeE.len {ρ' ρ : Env} (h : LeE ρ' ρ) : ρ'.length = ρ.length := by
  induction h with
  | nil => rfl
  | emp _ ih => simp [ih]
  | eq _ _ ih => simp [ih]
theorem LeE.get {ρ' ρ : Env} (h : LeE ρ' ρ) : ∀ {i : Nat} {s : Slot}, ρ'[i]? = some s → s = .emp ∨ ρ[i]? = some s := by
  induction h with
  | nil => intro i s e; simp at e
  | emp _ ih =>
    intro i s e
    cases i with
    | zero => simp at e; exact .inl e.symm
    | succ i => exact ih (by simpa using e)
  | eq q _ ih =>
    intro i s e
    cases i with
    | zero => simp at e; subst e; subst q; exact .inr rfl
    | succ i => exact ih (by simpa using e)
theorem WA.weak {B : Base} {ad : Nat → List Addr} {ρ ρ' : Env} {σ : St} {F H : Hp} (w : WA B ad ρ σ F H) (l : LeE ρ' ρ) : W B ρ' σ F H := by
  refine ⟨fun i => match ρ'[i]? with | some .emp => [] | _ => ad i, w.gr, by rw [l.len]; exact w.len, fun i s e => ?_, fun i p m => ?_, fun i j p m1 m2 => ?_, fun i e => ?_, w.pin.to fun S e => by
    rcases l.get e with h | h
    · cases h
    · exact ⟨⟨S, h⟩, rfl, by
        show (match ρ'[0]? with | some .emp => [] | _ => ad 0) = ad 0
        rw [e]⟩⟩
  · rcases l.get e with h | h
    · subst h
      show (match ρ'[i]? with | some .emp => [] | _ => ad i) = []
      rw [e]
    · have k := w.sl i s h
      show SlotOk B F H s σ[i]? (match ρ'[i]? with | some .emp => [] | _ => ad i)
      rw [e]
      cases s with
      | emp => rfl
      | _ => exact k
  · exact w.fz i p (by
      revert m
      show p ∈ (match ρ'[i]? with | some .emp => [] | _ => ad i) → p ∈ ad i
      split <;> simp)
  · have g : ∀ i, p ∈ (match ρ'[i]? with | some .emp => [] | _ => ad i) → p ∈ ad i := fun i => by split <;> simp
    exact w.dj i j p (g i m1) (g j m2)
  · show (match ρ'[i]? with | some .emp => [] | _ => ad i) = []
    rw [e]
    exact w.out i (by
      rw [List.getElem?_eq_none_iff] at e ⊢
      rw [← l.len]; exact e)
theorem W.weak {B : Base} {ρ ρ' : Env} {σ : St} {F H : Hp} (w : W B ρ σ F H) (l : LeE ρ' ρ) : W B ρ' σ F H := let ⟨_, w⟩ := w; w.weak l
/-- a slot is stored -/
theorem WA.setVal {B : Base} {ad : Nat → List Addr} {ρ : Env} {σ : St} {F H : Hp} (w : WA B ad ρ σ F H) (i : Nat) {d : D} {v : V} (r : Rp F v d) : W B (ρ.set i (.val d)) (σ.set i (some v)) F H := by
  refine ⟨fun k => if k = i then [] else ad k, w.gr, by rw [List.length_set, List.length_set]; exact w.len, fun j s e => ?_, fun j p m => ?_, fun j1 j2 q m1 m2 => ?_, fun j e => ?_, w.pin.to fun S e => by
    rcases get_set e with ⟨_, q⟩ | ⟨hj, e⟩
    · cases q
    · exact ⟨⟨S, e⟩, List.getElem?_set_ne (Ne.symm hj), if_neg hj⟩⟩
  · rcases get_set e with ⟨rfl, rfl⟩ | ⟨hj, e'⟩
    · have hi : j < σ.length := by
        have := (List.getElem?_eq_some_iff.mp e).1
        rw [List.length_set] at this
        rw [w.len]; exact this
      exact ⟨if_pos rfl, v, List.getElem?_set_self hi, r⟩
    · rw [if_neg hj, List.getElem?_set_ne (Ne.symm hj)]
      exact w.sl j s e'
  · by_cases hj : j = i
    · simp [hj] at m
    · simp only [if_neg hj] at m
      exact w.fz j p m
  · by_cases h1 : j1 = i
    · simp [h1] at m1
    · by_cases h2 : j2 = i
      · simp [h2] at m2
      · simp only [if_neg h1] at m1
        simp only [if_neg h2] at m2
        exact w.dj j1 j2 q m1 m2
  · show (if j = i then [] else ad j) = []
    by_cases hj : j = i
    · rw [if_pos hj]
    · rw [if_neg hj]
      exact w.out j (get_set' e)
theorem WA.setOwn {B : Base} {ad : Nat → List Addr} {ρ : Env} {σ : St} {F H : Hp} (w : WA B ad ρ σ F H) (i : Nat) {ds : List D} {p : Addr} {vs : List V} (hF : F p = none) (h0 : B.H0 p = none) (hn : ∀ i, p ∉ ad i) (hp : H p = some (.lst vs)) (r : RpA F vs ds) :
    W B (ρ.set i (.own ds)) (σ.set i (some (.ref p))) F H := by
  refine ⟨fun k => if k = i then (if i < ρ.length then [p] else []) else ad k, w.gr, by rw [List.length_set, List.length_set]; exact w.len, fun j s e => ?_, fun j q m => ?_, fun j1 j2 q m1 m2 => ?_, fun j e => ?_, w.pin.to fun S e => by
    rcases get_set e with ⟨_, q⟩ | ⟨hj, e⟩
    · cases q
    · exact ⟨⟨S, e⟩, List.getElem?_set_ne (Ne.symm hj), if_neg hj⟩⟩
  · rcases get_set e with ⟨rfl, rfl⟩ | ⟨hj, e'⟩
    · have hi : j < ρ.length := by
        have := (List.getElem?_eq_some_iff.mp e).1
        rwa [List.length_set] at this
      exact ⟨p, vs, by rw [if_pos rfl, if_pos hi], h0, List.getElem?_set_self (by rw [w.len]; exact hi), hp, r⟩
    · rw [if_neg hj, List.getElem?_set_ne (Ne.symm hj)]
      exact w.sl j s e'
  · by_cases hj : j = i
    · simp only [if_pos hj] at m
      by_cases hi : i < ρ.length
      · simp only [if_pos hi, List.mem_singleton] at m
        subst m
        exact ⟨hF, .inl h0⟩
      · simp [if_neg hi] at m
    · simp only [if_neg hj] at m
      exact w.fz j q m
  · have g : ∀ j, q ∈ (if j = i then (if i < ρ.length then [p] else []) else ad j) → (j = i ∧ q = p) ∨ (j ≠ i ∧ q ∈ ad j) := fun j m => by
      by_cases hj : j = i
      · simp only [if_pos hj] at m
        by_cases hi : i < ρ.length
        · simp only [if_pos hi, List.mem_singleton] at m
          exact .inl ⟨hj, m⟩
        · simp [if_neg hi] at m
      · simp only [if_neg hj] at m
        exact .inr ⟨hj, m⟩
    rcases g j1 m1 with ⟨a1, b1⟩ | ⟨a1, b1⟩ <;> rcases g j2 m2 with ⟨a2, b2⟩ | ⟨a2, b2⟩
    · rw [a1, a2]
    · exact absurd (b1 ▸ b2) (hn j2)
    · exact absurd (b2 ▸ b1) (hn j1)
    · exact w.dj j1 j2 q b1 b2
  · show (if j = i then (if i < ρ.length then [p] else []) else ad j) = []
    have e' := get_set' e
    by_cases hj : j = i
    · subst hj
      rw [if_pos rfl, if_neg (by rw [List.getElem?_eq_none_iff] at e'; omega)]
    · rw [if_neg hj]
      exact w.out j e'
/-- an own list is changed in place -/
theorem WA.mut {B : Base} {ad : Nat → List Addr} {ρ : Env} {σ : St} {F H : Hp} (w : WA B ad ρ σ F H) {i : Nat} {ds es : List D} {p : Addr} {ws : List V} (h : ρ[i]? = some (.own ds)) (hp : σ[i]? = some (some (.ref p))) (r : RpA F ws es) :
    W B (ρ.set i (.own es)) σ F (upd H p (.lst ws)) := by
  obtain ⟨p', vs, k, k0, k1, k2, _⟩ := w.sl i _ h
  rw [hp] at k1
  cases k1
  have hF : F p = none := (w.fz i p (by rw [k]; simp)).1
  have hn : ∀ j, j ≠ i → p ∉ ad j := fun j hj m => hj (w.dj j i p m (by rw [k]; simp))
  have ne0 : ∀ a o, B.H0 a = some o → a ≠ p := fun a o e z => by rw [z, k0] at e; cases e
  refine ⟨ad, ⟨w.gr.ff, fun a o e => ?_, fun a o e m => ?_, fun a e => ?_, w.gr.fr⟩, by rw [List.length_set]; exact w.len, fun j s e => ?_, w.fz, w.dj, fun j e => w.out j (get_set' e), w.pin.to fun S e => by
    rcases get_set e with ⟨_, q⟩ | ⟨hj, e⟩
    · cases q
    · exact ⟨⟨S, e⟩, rfl, rfl⟩⟩
  · rw [upd_ne (fun z => by rw [z, hF] at e; cases e)]
    exact w.gr.fh a o e
  · rw [upd_ne (ne0 a o e)]
    exact w.gr.kp a o e m
  · by_cases ha : a = p
    · rw [ha, upd_same]; intro z; cases z
    · rw [upd_ne ha]; exact w.gr.al a e
  · rcases get_set e with ⟨rfl, rfl⟩ | ⟨hj, e⟩
    · exact ⟨p, ws, k, k0, hp, upd_same, r⟩
    · have q := w.sl j s e
      cases s with
      | emp => exact q
      | val d => exact q
      | own es =>
        obtain ⟨q, vs, k1, k2, k3, k4, k5⟩ := q
        refine ⟨q, vs, k1, k2, k3, ?_, k5⟩
        rw [upd_ne (fun z => hn j hj (by rw [k1, z]; simp))]
        exact k4
      | st S =>
        obtain ⟨s, k1, q⟩ := q
        exact ⟨s, k1, q.keep (Same.refl _) fun a m o e => by
          rw [upd_ne (fun z => hn j hj (by rw [← z]; exact m))]
          exact e⟩

/-! #### the rules for statements -/
section
variable {ρ ρ' : Env} {P : Po} {te ta tb : TE} {tt : TT} {t u : TS}
/-- what follows, perhaps with less known -/
def NX (P : Po) (ρ : Env) : Prop := ∃ ρ', LeE ρ' ρ ∧ P.nx ρ'
theorem nx_same (h : P.nx ρ) : NX P ρ := ⟨ρ, LeE.refl ρ, h⟩
theorem nx_le (l : LeE ρ' ρ) (h : P.nx ρ') : NX P ρ := ⟨ρ', l, h⟩
def CTn (P : Po) (ρ : Env) : Prop := ∃ ρ', LeE ρ' ρ ∧ P.ct ρ'
theorem sx_weak (l : LeE ρ' ρ) (h : SX t ρ' P) : SX t ρ P := fun B σ F H w => h B σ F H (w.weak l)
/-- then u -/
def Po.seq (P : Po) (u : TS) : Po := { P with nx := fun ρ' => SX u ρ' P }
theorem nx_seq (h : SX u ρ P) : NX (P.seq u) ρ := nx_same h
theorem nx_seqw (l : LeE ρ' ρ) (h : SX u ρ' P) : NX (P.seq u) ρ := nx_le l h
theorem sx_seq (h : SX t ρ (P.seq u)) : SX (tSeq t u) ρ P := fun B σ F H w Dn n r b c =>
  h B σ F H w { Dn with nx := u Dn } (fun ρ' σ' F' H' q w' => q B σ' F' H' w' Dn n r b c) r b c
theorem sx_next (h : NX P ρ) : SX tNext ρ P := fun B σ F H w Dn n r b c => let ⟨ρ', l, q⟩ := h; n ρ' σ F H q (w.weak l)
theorem sx_asg {i : Nat} (h : EX te ρ fun d ρ1 => NX P (ρ1.set i (.val d))) : SX (tAsg te (gName i)) ρ P := fun B σ F H w Dn n r b c => by
  obtain ⟨ad, w⟩ := w
  exact h B ad σ F H w _ fun d ρ1 v F1 H1 q p rv => let ⟨ρ', l, q⟩ := q; n ρ' _ F1 H1 q ((p.wa.setVal i rv).weak l)
theorem sx_asgO {i : Nat} (h : EO te ρ fun ds ρ1 => NX P (ρ1.set i (.own ds))) : SX (tAsg te (gName i)) ρ P := fun B σ F H w Dn n r b c => by
  obtain ⟨ad, w⟩ := w
  refine h B ad σ F H w _ fun ds ρ1 p vs F1 H1 q P hF hH hp rv => ?_
  obtain ⟨ρ', l, q⟩ := q
  have k := w.newp hH
  exact n ρ' _ F1 H1 q ((P.wa.setOwn i hF k.2.1 k.2.2 hp rv).weak l)
theorem sx_if (h : ET tt ρ fun b ρ1 => (b = true → SX t ρ1 P) ∧ (b = false → SX u ρ1 P)) : SX (tIfS tt t u) ρ P := fun B σ F H w Dn n r bk c => by
  obtain ⟨ad, w⟩ := w
  refine h B ad σ F H w _ fun b ρ1 F1 H1 q p => ?_
  cases b with
  | true =>
    show t Dn σ H1
    exact q.1 rfl B σ F1 H1 ⟨ad, p.wa⟩ Dn n r bk c
  | false =>
    show u Dn σ H1
    exact q.2 rfl B σ F1 H1 ⟨ad, p.wa⟩ Dn n r bk c
theorem sx_ret (h : EX te ρ fun d ρ1 => P.rt d ρ1) : SX (tRet te) ρ P := fun B σ F H w Dn n r b c => by
  obtain ⟨ad, w⟩ := w
  exact h B ad σ F H w _ fun d ρ1 v F1 H1 q p rv => r d ρ1 σ v F1 H1 q ⟨ad, p.wa⟩ rv
theorem sx_retN (h : P.rt .none ρ) : SX tRetN ρ P := fun B σ F H w Dn n r b c => r .none ρ σ .non F H h w .non
theorem sx_brk (h : P.bk ρ) : SX tBreak ρ P := fun B σ F H w Dn n r b c => b ρ σ F H h w
theorem sx_cont (h : CTn P ρ) : SX tCont ρ P := fun B σ F H w Dn n r b c => let ⟨ρ', l, q⟩ := h; c ρ' σ F H q (w.weak l)
theorem sx_drop (h : EX te ρ fun _ ρ1 => NX P ρ1) : SX (tDrop te) ρ P := fun B σ F H w Dn n r b c => by
  obtain ⟨ad, w⟩ := w
  exact h B ad σ F H w _ fun d ρ1 v F1 H1 q p rv => let ⟨ρ', l, q⟩ := q; n ρ' σ F1 H1 q (p.wa.weak l)
theorem W.freeze {B : Base} {σ : St} {F H : Hp} (w : W B ρ σ F H) {i : Nat} {ds : List D} (h : ρ[i]? = some (.own ds)) : ∃ F', W B (ρ.set i (.val (.list ds))) σ F' H := by
  obtain ⟨ad, w⟩ := w
  obtain ⟨p, vs, _, _, _, _, _, _, w2⟩ := w.lend h
  exact ⟨_, _, w2⟩
theorem sx_freeze (i : Nat) {ds : List D} (h : ρ[i]? = some (.own ds)) (k : SX t (ρ.set i (.val (.list ds))) P) : SX t ρ P := fun B σ F H w => by
  obtain ⟨F', w2⟩ := w.freeze h
  exact k B σ F' H w2
/-- x.append(e), x an own list -/
theorem sx_app {K : PySem.W.Frag} {i : Nat} {es : List D} (h : ρ[i]? = some (.own es)) (k : EX te ρ fun d ρ1 => ∃ ds, ρ1[i]? = some (.own ds) ∧ ds.length < 1000000 ∧ NX P (ρ1.set i (.own (ds ++ [d])))) : SX (tDrop (tBM K "list" rAppend (tVar i) (tCons te tNil))) ρ P := fun B σ F H w Dn n r b c => by
  obtain ⟨ad, w⟩ := w
  obtain ⟨p0, vs0, _, _, k1, k0, _⟩ := w.sl i _ h
  refine ⟨_, k1, .inl ⟨rfl, _, .inl (.inl k0)⟩, k B ad σ F H w _ fun d ρ1 v F1 H1 q1 p1 r1 => ?_⟩
  obtain ⟨ds, h1, hz, ρ', l, q⟩ := q1
  obtain ⟨p, vs, _, _, k2, k3, rr⟩ := p1.wa.sl i _ h1
  have e := k1.symm.trans k2
  cases e
  exact ⟨_, vs, v, rfl, rfl, k3, Nat.lt_of_lt_of_le (by rw [rr.len]; exact hz) (by decide), n ρ' σ F1 _ q ((p1.wa.mut h1 k2 (rr.app (.cons r1 .nil))).weak l)⟩
/-- x[j] = e, x an own list -/
theorem sx_setO {i : Nat} {es : List D} (h : EX te ρ fun d ρ1 => ρ1[i]? = some (.own es) ∧ EX tb ρ1 fun j ρ2 => ∃ ds k m, ρ2[i]? = some (.own ds) ∧ j = .int k ∧ ixN ds.length k = some m ∧ NX P (ρ2.set i (.own (ds.set m d)))) : SX (tAsg te (gSub (tVar i) tb rSetL)) ρ P := fun B σ F H w Dn n r b c => by
  obtain ⟨ad, w⟩ := w
  refine h B ad σ F H w _ fun d ρ1 v F1 H1 q1 p1 r1 => ?_
  obtain ⟨h1, q1⟩ := q1
  obtain ⟨p0, vs0, _, _, k1, k0, _⟩ := p1.wa.sl i _ h1
  refine ⟨_, k1, q1 B ad σ F1 H1 p1.wa _ fun j ρ2 y F2 H2 q2 p2 r2 => ?_⟩
  obtain ⟨ds, k, m, h2, rfl, hm, ρ', l, q⟩ := q2
  obtain ⟨p, vs, _, _, k2, k3, rr⟩ := p2.wa.sl i _ h2
  have e := k1.symm.trans k2
  cases e
  exact ⟨_, vs, k, m, rfl, r2.int_inv, k3, by rw [rr.len]; exact hm, n ρ' σ F2 _ q ((p2.wa.mut h2 k2 (rr.set m (r1.up p2.gr.ff))).weak l)⟩
/-- a, b = e, f -/
theorem sx_par {i j : Nat} {t : TA} (h : EA t ρ fun ds ρ1 => ∃ d e, ds = [d, e] ∧ NX P ((ρ1.set i (.val d)).set j (.val e))) : SX (tPar i j t) ρ P := fun B σ F H w Dn n r b c => by
  obtain ⟨ad, w⟩ := w
  refine h B ad σ F H w _ fun ds ρ1 vs F1 H1 q p rv => ?_
  obtain ⟨d, e, rfl, ρ', l, q⟩ := q
  obtain ⟨v, u, rfl, r1, r2⟩ := rv.two
  obtain ⟨ad2, w2⟩ := p.wa.setVal i r1
  exact ⟨v, u, rfl, n ρ' _ F1 H1 q ((w2.setVal j r2).weak l)⟩
/-! targets -/
def SG (J : List Nat) (g : TG) (d : D) (ρ : Env) (Qn : Env → Prop) : Prop := ∀ B ad σ F H v, WA B ad ρ σ F H → (∀ j ∈ J, ad j = []) → Rp F v d → ∀ Z : St → Hp → Prop, (∀ ρ' σ', Qn ρ' → WA B ad ρ' σ' F H → wipe σ' J = wipe σ J → (∀ i, i ∉ J → ρ'[i]? = ρ[i]?) → Z σ' H) → g v σ H Z
def SGs (J : List Nat) (g : TGs) (ds : List D) (ρ : Env) (Qn : Env → Prop) : Prop := ∀ B ad σ F H vs, WA B ad ρ σ F H → (∀ j ∈ J, ad j = []) → RpA F vs ds → ∀ Z : St → Hp → Prop, (∀ ρ' σ', Qn ρ' → WA B ad ρ' σ' F H → wipe σ' J = wipe σ J → (∀ i, i ∉ J → ρ'[i]? = ρ[i]?) → Z σ' H) → g vs σ H Z
theorem wipe_get {σ : St} {i : Nat} : ∀ {vs : List Nat}, (wipe σ vs)[i]? = if i ∈ vs ∧ i < σ.length then some none else σ[i]?
  | [] => by simp [wipe]
  | v :: vs => by
    unfold wipe
    by_cases h : i = v
    · subst h
      by_cases hl : i < σ.length
      · rw [List.getElem?_set_self (by rw [wipe_length]; exact hl)]
        simp [hl]
      · rw [List.getElem?_eq_none (by rw [List.length_set, wipe_length]; omega)]
        simp [hl]
    · rw [List.getElem?_set_ne (Ne.symm h), wipe_get]
      simp [h]
theorem wipe_set {σ : St} {i : Nat} {x : Option V} {J : List Nat} (h : i ∈ J) : wipe (σ.set i x) J = wipe σ J := by
  apply List.ext_getElem?
  intro k
  rw [wipe_get, wipe_get, List.length_set]
  by_cases hk : k ∈ J ∧ k < σ.length
  · rw [if_pos hk, if_pos hk]
  · rw [if_neg hk, if_neg hk]
    by_cases e : k = i
    · subst e
      have : ¬ k < σ.length := fun z => hk ⟨h, z⟩
      rw [List.getElem?_eq_none (by rw [List.length_set]; omega), List.getElem?_eq_none (by omega)]
    · rw [List.getElem?_set_ne (Ne.symm e)]
theorem WA.setVal' {B : Base} {ad : Nat → List Addr} {σ : St} {F H : Hp} (w : WA B ad ρ σ F H) (i : Nat) (hi : ad i = []) {d : D} {v : V} (r : Rp F v d) : WA B ad (ρ.set i (.val d)) (σ.set i (some v)) F H := by
  refine ⟨w.gr, by rw [List.length_set, List.length_set]; exact w.len, fun j s e => ?_, w.fz, w.dj, fun j e => w.out j (get_set' e), w.pin.to fun S e => by
    rcases get_set e with ⟨_, q⟩ | ⟨hj, e⟩
    · cases q
    · exact ⟨⟨S, e⟩, List.getElem?_set_ne (Ne.symm hj), rfl⟩⟩
  rcases get_set e with ⟨rfl, rfl⟩ | ⟨hj, e'⟩
  · have hl : j < σ.length := by
      have := (List.getElem?_eq_some_iff.mp e).1
      rw [List.length_set] at this
      rw [w.len]; exact this
    exact ⟨hi, v, List.getElem?_set_self hl, r⟩
  · rw [List.getElem?_set_ne (Ne.symm hj)]
    exact w.sl j s e'
theorem sg_name {J : List Nat} {i : Nat} {d : D} {Qn : Env → Prop} (hj : i ∈ J) (q : Qn (ρ.set i (.val d))) : SG J (gName i) d ρ Qn := fun B ad σ F H v w hJ r Z z => z _ _ q (w.setVal' i (hJ i hj) r) (wipe_set hj) fun k hk => List.getElem?_set_ne fun e => hk (by rw [← e]; exact hj)
theorem sgs_nil {J : List Nat} {Qn : Env → Prop} (q : Qn ρ) : SGs J gNil [] ρ Qn := fun B ad σ F H vs w hJ r Z z => by
  cases r
  exact ⟨rfl, z ρ σ q w rfl fun _ _ => rfl⟩
theorem sgs_cons {J : List Nat} {g : TG} {gs : TGs} {d : D} {ds : List D} {Qn : Env → Prop} (h : SG J g d ρ fun ρ1 => SGs J gs ds ρ1 Qn) : SGs J (gCons g gs) (d :: ds) ρ Qn := fun B ad σ F H vs w hJ r Z z => by
  cases r with
  | cons r1 r2 =>
    exact ⟨_, _, rfl, h B ad σ F H _ w hJ r1 _ fun ρ1 σ1 q w1 e1 f1 => q B ad σ1 F H _ w1 hJ r2 Z fun ρ2 σ2 q w2 e2 f2 => z ρ2 σ2 q w2 (e2.trans e1) fun i hi => (f2 i hi).trans (f1 i hi)⟩
theorem sg_tup {K : PySem.W.Frag} {J : List Nat} {n : Nat} {gs : TGs} {ds : List D} {Qn : Env → Prop} (hn : ds.length = n) (h : SGs J gs ds ρ Qn) : SG J (gTup K n gs) (.tuple ds) ρ Qn := fun B ad σ F H v w hJ r Z z => by
  obtain ⟨a, xs, rfl, h1, h2⟩ := r.tup_inv
  exact ⟨a, xs, rfl, sqT_rd h1 w.gr.fh, h2.len.trans hn, h B ad σ F H xs w hJ h2 Z z⟩
/-- the slots at vs forgotten -/
def wipeE (ρ : Env) (vs : List Nat) : Env := vs.foldl (fun r v => r.set v .emp) ρ
theorem wipeE_len (ρ : Env) (vs : List Nat) : (wipeE ρ vs).length = ρ.length := by
  unfold wipeE
  induction vs generalizing ρ with
  | nil => rfl
  | cons v vs ih => rw [List.foldl_cons, ih, List.length_set]
theorem wipeE_get : ∀ {vs : List Nat} {ρ : Env} {i : Nat}, (wipeE ρ vs)[i]? = if i ∈ vs ∧ i < ρ.length then some .emp else ρ[i]?
  | [], ρ, i => by simp [wipeE]
  | v :: vs, ρ, i => by
    have e : wipeE ρ (v :: vs) = wipeE (ρ.set v .emp) vs := rfl
    rw [e, wipeE_get, List.length_set]
    by_cases h : i ∈ vs ∧ i < ρ.length
    · rw [if_pos h, if_pos ⟨List.mem_cons_of_mem _ h.1, h.2⟩]
    · rw [if_neg h]
      by_cases hv : i = v
      · subst hv
        by_cases hl : i < ρ.length
        · rw [List.getElem?_set_self hl, if_pos ⟨by simp, hl⟩]
        · rw [List.getElem?_eq_none (by rw [List.length_set]; omega), if_neg (fun z => hl z.2), List.getElem?_eq_none (by omega)]
      · rw [List.getElem?_set_ne (Ne.symm hv)]
        rw [if_neg (fun z => h ⟨(List.mem_cons.mp z.1).resolve_left hv, z.2⟩)]
theorem WA.weakJ {B : Base} {ad : Nat → List Addr} {σ : St} {F H : Hp} (w : WA B ad ρ σ F H) (J : List Nat) : WA B (fun k => if k ∈ J then [] else ad k) (wipeE ρ J) σ F H := by
  have g : ∀ i p, p ∈ (if i ∈ J then [] else ad i) → p ∈ ad i := fun i p m => by
    by_cases h : i ∈ J
    · rw [if_pos h] at m; cases m
    · rw [if_neg h] at m; exact m
  refine ⟨w.gr, by rw [wipeE_len]; exact w.len, fun i s e => ?_, fun i p m => w.fz i p (g i p m), fun i j p m1 m2 => w.dj i j p (g i p m1) (g j p m2), fun i e => ?_, w.pin.to fun S e => by
    rw [wipeE_get] at e
    by_cases h : 0 ∈ J ∧ 0 < ρ.length
    · rw [if_pos h] at e; cases e
    · rw [if_neg h] at e
      have hi : 0 < ρ.length := (List.getElem?_eq_some_iff.mp e).1
      exact ⟨⟨S, e⟩, rfl, if_neg fun z => h ⟨z, hi⟩⟩⟩
  · rw [wipeE_get] at e
    by_cases h : i ∈ J ∧ i < ρ.length
    · rw [if_pos h] at e
      cases e
      exact if_pos h.1
    · rw [if_neg h] at e
      have hi : i < ρ.length := (List.getElem?_eq_some_iff.mp e).1
      have hJ : i ∉ J := fun z => h ⟨z, hi⟩
      simp only [if_neg hJ]
      exact w.sl i s e
  · rw [wipeE_get] at e
    by_cases hJ : i ∈ J
    · exact if_pos hJ
    · show (if i ∈ J then [] else ad i) = []
      rw [if_neg hJ]
      rw [if_neg (fun z => hJ z.1)] at e
      exact w.out i e
theorem sg_go {B : Base} {ad : Nat → List Addr} {σ : St} {F H : Hp} {J : List Nat} {g : TG} {d : D} {v : V} {Qn : Env → Prop} (h : SG J g d (wipeE ρ J) Qn) (w : WA B ad ρ σ F H) (r : Rp F v d) (Z : St → Hp → Prop) (z : ∀ ρ' σ', Qn ρ' → W B ρ' σ' F H → Z σ' H) : g v σ H Z :=
  h B _ σ F H v (w.weakJ J) (fun j hj => if_pos hj) r Z fun ρ' σ' q w' _ _ => z ρ' σ' q ⟨_, w'⟩
/-- (a, b) = e by a target -/
theorem sx_asgT {J : List Nat} {g : TG} (h : EX te ρ fun d ρ1 => SG J g d (wipeE ρ1 J) fun ρ2 => NX P ρ2) : SX (tAsg te g) ρ P := fun B σ F H w Dn n r b c => by
  obtain ⟨ad, w⟩ := w
  exact h B ad σ F H w _ fun d ρ1 v F1 H1 q p rv => sg_go q p.wa rv _ fun ρ2 σ2 q w2 => let ⟨ρ', l, q⟩ := q; n ρ' σ2 F1 H1 q (w2.weak l)
/-! loops -/
structure ItD (J : It) (F : Hp) (ds : List D) : Prop where
  go : ∀ i H, Same F H → i < ds.length → J.go i H
  stop : ∀ i H, Same F H → ds.length ≤ i → J.stop i H
  yld : ∀ i H x H' F1, Same F F1 → Same F1 H → J.yld i H x H' → i < ds.length → ∃ d F2, ds[i]? = some d ∧ Gr Non F1 H F2 H' ∧ Rp F2 x d
/-- what is walked -/
def EI (wi : TI) (ρ : Env) (Q : List D → Env → Prop) : Prop := ∀ B ad σ F H, WA B ad ρ σ F H → ∀ R : It → Hp → Prop, (∀ ds ρ' J F' H', Q ds ρ' → Post B ad σ ρ F H ρ' F' H' → ItD J F' ds → R J H') → wi σ H R
theorem W.rebase {B : Base} {σ : St} {F H : Hp} (w : W B ρ σ F H) : W { F0 := F, H0 := B.H0, M := B.M, pin := B.pin } ρ σ F H := by
  obtain ⟨ad, w⟩ := w
  refine ⟨ad, ⟨Same.refl F, w.gr.fh, w.gr.kp, w.gr.al, fun _ _ z => z⟩, w.len, fun i s e => ?_, w.fz, w.dj, w.out, w.pin⟩
  have k := w.sl i s e
  cases s <;> exact k
theorem W.unbase {B : Base} {σ σ' : St} {F H F' H' : Hp} (w : W B ρ σ F H) (w' : W { F0 := F, H0 := B.H0, M := B.M, pin := B.pin } ρ' σ' F' H') : W B ρ' σ' F' H' ∧ Same F F' := by
  obtain ⟨ad, w⟩ := w
  obtain ⟨ad', w'⟩ := w'
  refine ⟨⟨ad', ⟨w.gr.ff.trans w'.gr.ff, w'.gr.fh, w'.gr.kp, w'.gr.al, fun a e z => w'.gr.fr a e (w.gr.fr a e z)⟩, w'.len, fun i s e => ?_, w'.fz, w'.dj, w'.out, w'.pin⟩, w'.gr.ff⟩
  have k := w'.sl i s e
  cases s <;> exact k
theorem sx_for {wi : TI} {J : List Nat} {g : TG} (h : EI wi ρ fun ds ρ1 => ∃ I : Nat → Env → Prop, I 0 ρ1 ∧ (∀ k d ρ', ds[k]? = some d → I k ρ' → SG J g d (wipeE ρ' J) fun ρ2 => SX t ρ2 { nx := I (k + 1), ct := I (k + 1), bk := NX P, rt := P.rt }) ∧ ∀ ρ', I ds.length ρ' → NX P ρ') :
    SX (tFor wi g t) ρ P := fun B σ F H w Dn n r b c => by
  obtain ⟨ad, w⟩ := w
  refine h B ad σ F H w _ fun ds ρ1 J F1 H1 q1 p1 it => ?_
  obtain ⟨I, i0, turn, done⟩ := q1
  refine ⟨fun i m σ' H' => m = ds.length - i ∧ i ≤ ds.length ∧ ∃ ρ' F', I i ρ' ∧ W B ρ' σ' F' H' ∧ Same F1 F', ⟨_, rfl, Nat.zero_le _, ρ1, F1, i0, ⟨ad, p1.wa⟩, Same.refl _⟩, ?_⟩
  rintro i m σ' H' ⟨rfl, hi, ρ', F', iv, ⟨ad', w'⟩, sf⟩
  by_cases hlt : i < ds.length
  · refine .inr ⟨it.go i H' (sf.trans w'.gr.fh) hlt, fun σ2 H2 => ∃ ρ2 F2, I (i + 1) ρ2 ∧ W B ρ2 σ2 F2 H2 ∧ Same F1 F2, fun σ2 H2 ⟨ρ2, F2, a, b, c⟩ => ⟨ds.length - (i + 1), by omega, rfl, hlt, ρ2, F2, a, b, c⟩, fun x H2 y => ?_⟩
    obtain ⟨d, F2, e, gr, rx⟩ := it.yld i H' x H2 F' sf w'.gr.fh y hlt
    refine sg_go (turn i d ρ' e iv) (w'.grow gr) rx _ fun ρ2 σ2 q w2 => ?_
    exact q _ σ2 F2 H2 w2.rebase _ (fun ρ3 σ3 F3 H3 q3 w3 => let k := w2.unbase w3; ⟨ρ3, F3, q3, k.1, (sf.trans gr.ff).trans k.2⟩) (fun d ρ3 σ3 v F3 H3 q3 w3 rv => r d ρ3 σ3 v F3 H3 q3 (w2.unbase w3).1 rv) (fun ρ3 σ3 F3 H3 q3 w3 => let ⟨ρ4, l, q4⟩ := q3; n ρ4 σ3 F3 H3 q4 ((w2.unbase w3).1.weak l)) (fun ρ3 σ3 F3 H3 q3 w3 => let k := w2.unbase w3; ⟨ρ3, F3, q3, k.1, (sf.trans gr.ff).trans k.2⟩)
  · have e : i = ds.length := by omega
    subst e
    obtain ⟨ρ2, l, q⟩ := done ρ' iv
    exact .inl ⟨it.stop _ H' (sf.trans w'.gr.fh) (Nat.le_refl _), n ρ2 σ' F' H' q (w'.weak l)⟩
theorem sx_while (I : Nat → Env → Prop) (m0 : Nat) (i0 : I m0 ρ) (h : ∀ m ρ', I m ρ' → ET tt ρ' fun b ρ1 => (b = true → SX t ρ1 { nx := fun ρ2 => ∃ m', m' < m ∧ I m' ρ2, ct := fun ρ2 => ∃ m', m' < m ∧ I m' ρ2, bk := NX P, rt := P.rt }) ∧ (b = false → NX P ρ1)) : SX (tWhile tt t) ρ P := fun B σ F H w Dn n r b c => by
  refine ⟨fun m σ' H' => ∃ ρ' F', I m ρ' ∧ W B ρ' σ' F' H', ⟨m0, ρ, F, i0, w⟩, ?_⟩
  rintro m σ' H' ⟨ρ', F', iv, ⟨ad, w'⟩⟩
  refine h m ρ' iv B ad σ' F' H' w' _ fun b1 ρ1 F1 H1 q p => ?_
  cases b1 with
  | true =>
    refine ⟨fun σ2 H2 => ∃ m' ρ2 F2, m' < m ∧ I m' ρ2 ∧ W B ρ2 σ2 F2 H2, fun σ2 H2 ⟨m', ρ2, F2, a, b, c⟩ => ⟨m', a, ρ2, F2, b, c⟩, ?_⟩
    exact q.1 rfl B σ' F1 H1 ⟨ad, p.wa⟩ _ (fun ρ3 σ3 F3 H3 q3 w3 => let ⟨m', a, b⟩ := q3; ⟨m', ρ3, F3, a, b, w3⟩) r (fun ρ3 σ3 F3 H3 q3 w3 => let ⟨ρ4, l, q4⟩ := q3; n ρ4 σ3 F3 H3 q4 (w3.weak l)) (fun ρ3 σ3 F3 H3 q3 w3 => let ⟨m', a, b⟩ := q3; ⟨m', ρ3, F3, a, b, w3⟩)
  | false =>
    show Dn.nx σ' H1
    obtain ⟨ρ2, l, q2⟩ := q.2 rfl
    exact n ρ2 σ' F1 H1 q2 (W.weak ⟨ad, p.wa⟩ l)
/-! what is walked -/
theorem ei_list {K : PySem.W.Frag} {Q : List D → Env → Prop} (h : EX te ρ fun d ρ1 => ∃ ds, d = .list ds ∧ Q ds ρ1) : EI (iList K te) ρ Q := fun B ad σ F H w R z =>
  h B ad σ F H w _ fun d ρ1 v F1 H1 q p r => by
    obtain ⟨ds, rfl, q⟩ := q
    obtain ⟨a, xs, rfl, h1, h2⟩ := r.lst_inv
    refine ⟨a, rfl, ⟨xs, sqL_rd h1 p.wa.gr.fh⟩, z ds ρ1 _ F1 H1 q p ⟨fun i H' e hi => ⟨xs, xs[i]'(by rw [h2.len]; exact hi), sqL_rd h1 e, by simp⟩, fun i H' e hi => ⟨xs, sqL_rd h1 e, by rw [h2.len]; exact hi⟩, fun i H' x H2 F2 e1 e2 y hi => ?_⟩⟩
    obtain ⟨rfl, y⟩ := y
    obtain ⟨d, hd, rd⟩ := h2.get' (y xs (sqL_rd h1 (e1.trans e2)))
    exact ⟨d, F2, hd, Gr.refl e2, rd.up e1⟩
theorem ei_tup {K : PySem.W.Frag} {Q : List D → Env → Prop} (h : EX te ρ fun d ρ1 => ∃ ds, d = .tuple ds ∧ Q ds ρ1) : EI (iTup K te) ρ Q := fun B ad σ F H w R z =>
  h B ad σ F H w _ fun d ρ1 v F1 H1 q p r => by
    obtain ⟨ds, rfl, q⟩ := q
    obtain ⟨a, xs, rfl, h1, h2⟩ := r.tup_inv
    refine ⟨a, rfl, ⟨xs, sqT_rd h1 p.wa.gr.fh⟩, z ds ρ1 _ F1 H1 q p ⟨fun i H' e hi => ⟨xs, xs[i]'(by rw [h2.len]; exact hi), sqT_rd h1 e, by simp⟩, fun i H' e hi => ⟨xs, sqT_rd h1 e, by rw [h2.len]; exact hi⟩, fun i H' x H2 F2 e1 e2 y hi => ?_⟩⟩
    obtain ⟨rfl, y⟩ := y
    obtain ⟨d, hd, rd⟩ := h2.get' (y xs (sqT_rd h1 (e1.trans e2)))
    exact ⟨d, F2, hd, Gr.refl e2, rd.up e1⟩
/-- lo, lo + 1, .., n of them -/
def rngI (lo : Int) (n : Nat) : List Int := (List.range n).map fun k : Nat => lo + (k : Int)
theorem rngI_len (lo : Int) (n : Nat) : (rngI lo n).length = n := by simp [rngI]
theorem rngI_get {lo : Int} {n k : Nat} (h : k < n) : (rngI lo n)[k]? = some (lo + (k : Int)) := by simp [rngI, h]
theorem rngI_mem {lo x : Int} {n : Nat} : x ∈ rngI lo n ↔ lo ≤ x ∧ x < lo + (n : Int) := by
  unfold rngI
  rw [List.mem_map]
  constructor
  · rintro ⟨k, hk, rfl⟩
    rw [List.mem_range] at hk
    omega
  · intro h
    exact ⟨(x - lo).toNat, by rw [List.mem_range]; omega, by omega⟩
theorem itd_rng {F : Hp} (lo : Int) (n : Nat) : ItD (Itr lo n) F ((rngI lo n).map .int) where
  go := fun i H _ h => by rw [List.length_map, rngI_len] at h; exact h
  stop := fun i H _ h => by rw [List.length_map, rngI_len] at h; exact h
  yld := fun i H x H' F1 _ e2 y h => by
    rw [List.length_map, rngI_len] at h
    obtain ⟨rfl, rfl⟩ := y
    exact ⟨.int (lo + (i : Int)), F1, by rw [List.getElem?_map, rngI_get h]; rfl, Gr.refl e2, .int _⟩
theorem ei_rng1 {t : TA} {Q : List D → Env → Prop} (h : EA t ρ fun ds ρ1 => ∃ n, ds = [.int n] ∧ (-1000000000000 ≤ n ∧ n ≤ 1000000000000) ∧ Q ((rngI 0 n.toNat).map .int) ρ1) : EI (iRng1 t) ρ Q := fun B ad σ F H w R z =>
  h B ad σ F H w _ fun ds ρ1 vs F1 H1 q p r => by
    obtain ⟨n, rfl, ⟨hn1, hn2⟩, q⟩ := q
    obtain ⟨v, rfl, rv⟩ := r.one
    exact ⟨n, by rw [rv.int_inv], by omega, by omega, z _ ρ1 _ F1 H1 q p (itd_rng 0 _)⟩
theorem ei_rng2 {t : TA} {Q : List D → Env → Prop} (h : EA t ρ fun ds ρ1 => ∃ l n, ds = [.int l, .int n] ∧ (-1000000000000 ≤ l ∧ l ≤ 1000000000000 ∧ -1000000000000 ≤ n ∧ n ≤ 1000000000000) ∧ Q ((rngI l (n - l).toNat).map .int) ρ1) : EI (iRng2 t) ρ Q := fun B ad σ F H w R z =>
  h B ad σ F H w _ fun ds ρ1 vs F1 H1 q p r => by
    obtain ⟨l, n, rfl, ⟨hl1, hl2, hn1, hn2⟩, q⟩ := q
    obtain ⟨v, u, rfl, rv, ru⟩ := r.two
    exact ⟨l, n, by rw [rv.int_inv, ru.int_inv], ⟨by omega, by omega, by omega, by omega⟩, z _ ρ1 _ F1 H1 q p (itd_rng l _)⟩
/-- enumerate: pairs (index, item) -/
def enumD (k : Nat) : List D → List D
  | [] => []
  | d :: ds => .tuple [.int (k : Int), d] :: enumD (k + 1) ds
theorem enumD_len : ∀ (ds : List D) (k : Nat), (enumD k ds).length = ds.length
  | [], _ => rfl
  | d :: ds, k => by simp [enumD, enumD_len ds]
theorem enumD_get : ∀ (ds : List D) (k i : Nat) {d : D}, ds[i]? = some d → (enumD k ds)[i]? = some (.tuple [.int ((k + i : Nat) : Int), d])
  | [], _, i, _, h => by simp at h
  | e :: ds, k, 0, d, h => by simp at h; subst h; rfl
  | e :: ds, k, i + 1, d, h => by
    have q := enumD_get ds (k + 1) i (by simpa using h)
    show (enumD (k + 1) ds)[i]? = _
    rw [q, show k + 1 + i = k + (i + 1) by omega]
theorem ei_enum {K : PySem.W.Frag} {t : TA} {Q : List D → Env → Prop} (h : EA t ρ fun es ρ1 => ∃ ds, es = [.list ds] ∧ Q (enumD 0 ds) ρ1) : EI (iEnum K t) ρ Q := fun B ad σ F H w R z =>
  h B ad σ F H w _ fun es ρ1 vs F1 H1 q p r => by
    obtain ⟨ds, rfl, q⟩ := q
    obtain ⟨v, rfl, rv⟩ := r.one
    obtain ⟨a, xs, rfl, h1, h2⟩ := rv.lst_inv
    refine ⟨a, xs, rfl, sqL_rd h1 p.wa.gr.fh, z _ ρ1 _ F1 H1 q p ⟨fun i H' e hi => ?_, fun i H' e hi => ?_, fun i H' x H2 F2 e1 e2 y hi => ?_⟩⟩
    · rw [enumD_len] at hi
      exact ⟨xs, xs[i]'(by rw [h2.len]; exact hi), sqL_rd h1 e, by simp⟩
    · rw [enumD_len] at hi
      exact ⟨xs, sqL_rd h1 e, by rw [h2.len]; exact hi⟩
    · obtain ⟨T, x, rfl, hT, rfl, y⟩ := y
      obtain ⟨d, hd, rd⟩ := h2.get' (y xs (sqL_rd h1 (e1.trans e2)))
      have g := Gr.new (o := .tup [.int (i : Nat), x]) e2 hT
      refine ⟨_, upd F2 T (.tup [.int (i : Nat), x]), enumD_get ds 0 i hd, g, .tup upd_same (.cons ?_ (.cons ((rd.up e1).up g.ff) .nil))⟩
      rw [Nat.zero_add]
      exact .int _
theorem ei_zip {K : PySem.W.Frag} {t : TA} {Q : List D → Env → Prop} (h : EA t ρ fun es ρ1 => ∃ ds fs, es = [.list ds, .list fs] ∧ Q (List.zipWith (fun d f => PyData.tuple [d, f]) ds fs) ρ1) : EI (iZip K t) ρ Q := fun B ad σ F H w R z =>
  h B ad σ F H w _ fun es ρ1 vs F1 H1 q p r => by
    obtain ⟨ds, fs, rfl, q⟩ := q
    obtain ⟨v, u, rfl, rv, ru⟩ := r.two
    obtain ⟨a, xs, rfl, h1, h2⟩ := rv.lst_inv
    obtain ⟨b, ys, rfl, g1, g2⟩ := ru.lst_inv
    refine ⟨a, b, xs, ys, rfl, sqL_rd h1 p.wa.gr.fh, sqL_rd g1 p.wa.gr.fh, z _ ρ1 _ F1 H1 q p ⟨fun i H' e hi => ?_, fun i H' e hi => ?_, fun i H' x H2 F2 e1 e2 y hi => ?_⟩⟩
    · rw [List.length_zipWith] at hi
      exact ⟨xs, ys, xs[i]'(by rw [h2.len]; omega), ys[i]'(by rw [g2.len]; omega), sqL_rd h1 e, sqL_rd g1 e, by simp, by simp⟩
    · rw [List.length_zipWith] at hi
      exact ⟨xs, ys, sqL_rd h1 e, sqL_rd g1 e, by rw [h2.len, g2.len]; omega⟩
    · obtain ⟨T, x, y', rfl, hT, rfl, y1, y2⟩ := y
      obtain ⟨d, hd, rd⟩ := h2.get' (y1 xs (sqL_rd h1 (e1.trans e2)))
      obtain ⟨f, hf, rf⟩ := g2.get' (y2 ys (sqL_rd g1 (e1.trans e2)))
      have g := Gr.new (o := .tup [x, y']) e2 hT
      exact ⟨_, upd F2 T (.tup [x, y']), by rw [List.getElem?_zipWith, hd, hf], g, .tup upd_same (.cons ((rd.up e1).up g.ff) (.cons ((rf.up e1).up g.ff) .nil))⟩
end

/-! ### comprehensions -/
section
variable {ρ ρ' : Env} {te : TE} {tt : TT} {wi : TI} {g : TG}
/-- vs's slots as in the first, the others as in the second -/
def unwA : Nat → List Nat → Env → Env → Env
  | k, vs, a :: ρ, b :: ρ' => (if vs.contains k = true then a else b) :: unwA (k + 1) vs ρ ρ'
  | _, _, _, _ => []
abbrev unw (vs : List Nat) (ρ ρ' : Env) : Env := unwA 0 vs ρ ρ'
theorem unwA_len : ∀ {k : Nat} {vs : List Nat} {ρ ρ' : Env}, ρ'.length = ρ.length → (unwA k vs ρ ρ').length = ρ.length
  | _, _, [], [], _ => rfl
  | _, _, [], _ :: _, h => by simp at h
  | _, _, _ :: _, [], h => by simp at h
  | k, vs, a :: ρ, b :: ρ', h => by
    show (unwA (k + 1) vs ρ ρ').length + 1 = ρ.length + 1
    rw [unwA_len (by simpa using h)]
theorem unwA_get : ∀ {k : Nat} {vs : List Nat} {ρ ρ' : Env} {i : Nat}, ρ'.length = ρ.length → (unwA k vs ρ ρ')[i]? = if k + i ∈ vs then ρ[i]? else ρ'[i]?
  | _, _, [], [], i, _ => by simp [unwA]
  | _, _, [], _ :: _, _, h => by simp at h
  | _, _, _ :: _, [], _, h => by simp at h
  | k, vs, a :: ρ, b :: ρ', 0, h => by
    show some (if vs.contains k = true then a else b) = if k + 0 ∈ vs then some a else some b
    by_cases hk : k ∈ vs
    · rw [if_pos (by simpa using hk), if_pos (by simpa using hk)]
    · rw [if_neg (by simpa using hk), if_neg (by simpa using hk)]
  | k, vs, a :: ρ, b :: ρ', i + 1, h => by
    show (unwA (k + 1) vs ρ ρ')[i]? = if k + (i + 1) ∈ vs then ρ[i]? else ρ'[i]?
    rw [unwA_get (by simpa using h), show k + 1 + i = k + (i + 1) by omega]
/-- the slots at vs hold nothing that is owned -/
def isPl : Option Slot → Bool
  | some (.own _) => false
  | some (.st _) => false
  | _ => true
def Plain (ρ : Env) (vs : List Nat) : Prop := ∀ i ∈ vs, isPl ρ[i]? = true
theorem Plain.ad {B : Base} {ad : Nat → List Addr} {σ : St} {F H : Hp} {vs : List Nat} (w : WA B ad ρ σ F H) (pl : Plain ρ vs) : ∀ j ∈ vs, ad j = [] := fun j hj => by
  have k := pl j hj
  cases e : ρ[j]? with
  | none => exact w.out j e
  | some s =>
    have q := w.sl j s e
    rw [e] at k
    cases s with
    | emp => exact q
    | val d => exact q.1
    | own _ => cases k
    | st _ => cases k
theorem WA.wiped {B : Base} {ad : Nat → List Addr} {σ : St} {F H : Hp} {vs : List Nat} (w : WA B ad ρ σ F H) (pl : Plain ρ vs) : WA B ad (wipeE ρ vs) (wipe σ vs) F H where
  gr := w.gr
  len := by rw [wipe_length, wipeE_len]; exact w.len
  sl := fun i s e => by
    rw [wipeE_get] at e
    rw [wipe_get]
    by_cases h : i ∈ vs ∧ i < ρ.length
    · rw [if_pos h] at e
      cases e
      exact pl.ad w i h.1
    · rw [if_neg h] at e
      rw [if_neg (by rw [w.len]; exact h)]
      exact w.sl i s e
  fz := w.fz
  dj := w.dj
  out := fun i e => by
    rw [wipeE_get] at e
    by_cases h : i ∈ vs ∧ i < ρ.length
    · rw [if_pos h] at e; cases e
    · rw [if_neg h] at e; exact w.out i e
  pin := w.pin.to fun S e => by
    rw [wipeE_get] at e
    by_cases h : 0 ∈ vs ∧ 0 < ρ.length
    · rw [if_pos h] at e; cases e
    · rw [if_neg h] at e
      exact ⟨⟨S, e⟩, by rw [wipe_get, if_neg (by rw [w.len]; exact h)], rfl⟩
theorem wipe_eq {σ σ' : St} {vs : List Nat} (h : wipe σ' vs = wipe σ vs) {i : Nat} (hi : i ∉ vs) : σ'[i]? = σ[i]? := by
  have e := congrArg (fun l => l[i]?) h
  simp only [wipe_get] at e
  rwa [if_neg (fun z => hi z.1), if_neg (fun z => hi z.1)] at e
/-- behind the block's turn: the outer slots again -/
theorem Post.unwiped {B : Base} {ad : Nat → List Addr} {σ σ2 : St} {F H F' H' : Hp} {vs : List Nat} {ρ1 ρ2 : Env} (w : WA B ad ρ1 σ F H) (pl : Plain ρ1 vs)
    (hσ : wipe σ2 vs = wipe σ vs) (fr : ∀ i, i ∉ vs → ρ2[i]? = (wipeE ρ1 vs)[i]?) (w2 : WA B ad ρ2 σ2 F H) (p : Post B ad σ2 ρ2 F H ρ' F' H') : Post B ad σ ρ1 F H (unw vs ρ1 ρ') F' H' := by
  have hl : ρ'.length = ρ1.length := by
    have l1 := p.wa.len
    have l2 := congrArg List.length hσ
    rw [wipe_length, wipe_length] at l2
    rw [← l1, l2, w.len]
  have pa := pl.ad w
  have ms : ∀ a, MS ad ρ2 a → MS ad ρ1 a := fun a ⟨i, S, e, m⟩ => by
    have hi : i ∉ vs := fun z => by rw [pa i z] at m; cases m
    rw [fr i hi, wipeE_get, if_neg (fun z => hi z.1)] at e
    exact ⟨i, S, e, m⟩
  refine ⟨⟨p.wa.gr, by rw [unwA_len hl]; exact w.len, fun i s e => ?_, p.wa.fz, p.wa.dj, fun i e => ?_, fun s as hp S e => ?_⟩, ⟨p.gr.ff, p.gr.fh, fun a o e m => p.gr.kp a o e fun z => m (ms a z), p.gr.al, p.gr.fr⟩, fun i S e => ?_⟩
  · rw [unwA_get hl, Nat.zero_add] at e
    by_cases hi : i ∈ vs
    · rw [if_pos hi] at e
      have k := w.sl i s e
      have q := pl i hi
      rw [e] at q
      cases s with
      | emp => exact k
      | val d =>
        obtain ⟨k, v, e, r⟩ := k
        exact ⟨k, v, e, r.up p.gr.ff⟩
      | own _ => cases q
      | st _ => cases q
    · rw [if_neg hi] at e
      rw [← wipe_eq hσ hi]
      exact p.wa.sl i s e
  · rw [List.getElem?_eq_none_iff, unwA_len hl, ← hl, ← List.getElem?_eq_none_iff] at e
    exact p.wa.out i e
  · rw [unwA_get hl, Nat.zero_add] at e
    by_cases hi : 0 ∈ vs
    · rw [if_pos hi] at e
      have q := pl 0 hi
      rw [e] at q
      cases q
    · rw [if_neg hi] at e
      rw [← wipe_eq hσ hi]
      exact p.wa.pin s as hp S e
  · rw [unwA_get hl, Nat.zero_add] at e
    by_cases hi : i ∈ vs
    · rw [if_pos hi] at e
      exact ⟨S, e⟩
    · rw [if_neg hi] at e
      obtain ⟨S', e'⟩ := p.sh i S e
      rw [fr i hi, wipeE_get, if_neg (fun z => hi z.1)] at e'
      exact ⟨S', e'⟩
/-- [e for target in ..], by an invariant over the turn, the items made, the slots -/
theorem eo_lc {vs : List Nat} {Q : List D → Env → Prop} (h : EI wi ρ fun ds ρ1 => ∃ I : Nat → List D → Env → Prop, I 0 [] ρ1 ∧
    (∀ k d acc ρ', ds[k]? = some d → I k acc ρ' → Plain ρ' vs ∧ acc.length < 1000000 ∧ SG vs g d (wipeE ρ' vs) fun ρ2 => ET tt ρ2 fun b ρ3 => (b = true → EX te ρ3 fun e ρ4 => I (k + 1) (acc ++ [e]) (unw vs ρ' ρ4)) ∧ (b = false → I (k + 1) acc (unw vs ρ' ρ3))) ∧
    ∀ acc ρ', I ds.length acc ρ' → Q acc ρ') : EO (tLc wi g tt te vs) ρ Q := fun B ad σ F H w Z z => by
  refine h B ad σ F H w _ fun ds ρ1 J F1 H1 q1 p1 it => ?_
  obtain ⟨I, i0, turn, done⟩ := q1
  intro Dl hD
  have hDH : H Dl = none := by
    cases q : H Dl with
    | none => rfl
    | some o => exact absurd hD (p1.gr.al Dl (by rw [q]; intro z; cases z))
  have nw := p1.wa.newp hD
  -- at each turn: the outer slots, over a heap in which Dl is not seen
  let Inv := fun (i : Nat) (H' : Hp) => ∃ acc ρ' F' vs', I i acc ρ' ∧ Post B ad σ ρ1 F1 H1 ρ' F' H' ∧ F' Dl = none ∧ H' Dl = some (.lst vs') ∧ RpA F' vs' acc
  refine ⟨fun i m H' => m = ds.length - i ∧ i ≤ ds.length ∧ Inv i H', ⟨_, rfl, Nat.zero_le _, [], ρ1, F1, [], i0, Post.of p1.wa (Gr.heap p1.wa.gr.fh (same_upd hD)), nw.1, upd_same, .nil⟩, ?_⟩
  rintro i m H' ⟨rfl, hi, acc, ρ', F', vs', iv, P, hF, hH, ra⟩
  by_cases hlt : i < ds.length
  · refine .inr ⟨it.go i H' (P.gr.ff.trans P.wa.gr.fh) hlt, fun H2 => Inv (i + 1) H2, fun H2 k => ⟨ds.length - (i + 1), by omega, rfl, hlt, k⟩, fun x H2 y => ?_⟩
    obtain ⟨d, F2, e, gr, rx⟩ := it.yld i H' x H2 F' P.gr.ff P.wa.gr.fh y hlt
    obtain ⟨pl, hz, k⟩ := turn i d acc ρ' e iv
    have P2 := P.trans (Post.of P.wa gr)
    have w2 := P.wa.grow gr
    have hF2 : F2 Dl = none := gr.fr Dl (by rw [hH]; intro z; cases z) hF
    have hH2 : H2 Dl = some (.lst vs') := gr.kp Dl _ hH id
    have nms : ∀ (ρ2 : Env), ¬ MS ad ρ2 Dl := fun ρ2 ⟨j, S, _, m⟩ => nw.2.2 j m
    refine k B ad (wipe σ vs) F2 H2 x (w2.wiped pl) (pl.ad w2) rx _ fun ρ2 σ2 q wb e2 fr => ?_
    have e2' : wipe σ2 vs = wipe σ vs := by
      rw [e2]
      apply List.ext_getElem?
      intro j
      rw [wipe_get, wipe_get, wipe_length]
      split
      · rfl
      · first | rfl | rw [wipe_get, if_neg (by assumption)]
    refine ⟨e2', q B ad σ2 F2 H2 wb _ fun b ρ3 F3 H3 q3 p3 => ?_⟩
    cases b with
    | true =>
      show te σ2 H3 _
      refine q3.1 rfl B ad σ2 F3 H3 p3.wa _ fun e ρ4 v F4 H4 q4 p4 rv => ?_
      have p34 := p3.trans p4
      have pu := Post.unwiped w2 pl e2' fr wb p34
      have hH4 : H4 Dl = some (.lst vs') := p34.gr.kp Dl _ hH2 (nms _)
      have hF4 : F4 Dl = none := p34.gr.fr Dl (by rw [hH2]; intro z; cases z) hF2
      have ra4 : RpA F4 (vs' ++ [v]) (acc ++ [e]) := (ra.up (gr.ff.trans p34.gr.ff)).app (.cons rv .nil)
      refine ⟨vs', hH4, Nat.lt_of_lt_of_le (by rw [ra.len]; exact hz) (by decide), acc ++ [e], _, F4, vs' ++ [v], q4, ?_, hF4, upd_same, ra4⟩
      -- Dl grows: nobody sees it
      have pt := P2.trans pu
      have ne1 : ∀ a o, H1 a = some o → a ≠ Dl := fun a o q z => by rw [z, hD] at q; cases q
      have neF : ∀ a o, F4 a = some o → a ≠ Dl := fun a o q z => by rw [z, hF4] at q; cases q
      refine ⟨⟨⟨pt.wa.gr.ff, fun a o q => by rw [upd_ne (neF a o q)]; exact pt.wa.gr.fh a o q, fun a o q m => ?_, fun a q => ?_, pt.wa.gr.fr⟩, pt.wa.len, fun j s q => ?_, pt.wa.fz, pt.wa.dj, pt.wa.out, pt.wa.pin⟩, ⟨pt.gr.ff, fun a o q => by rw [upd_ne (neF a o q)]; exact pt.gr.fh a o q, fun a o q m => by rw [upd_ne (ne1 a o q)]; exact pt.gr.kp a o q m, fun a q => ?_, pt.gr.fr⟩, pt.sh⟩
      · rw [upd_ne (fun z => by rw [z, nw.2.1] at q; cases q)]
        exact pt.wa.gr.kp a o q m
      · by_cases ha : a = Dl
        · rw [ha, upd_same]; intro z; cases z
        · rw [upd_ne ha]; exact pt.wa.gr.al a q
      · have k := pt.wa.sl j s q
        cases s with
        | emp => exact k
        | val d => exact k
        | own es =>
          obtain ⟨p, ws, a1, a2, a3, a4, a5⟩ := k
          refine ⟨p, ws, a1, a2, a3, ?_, a5⟩
          rw [upd_ne (fun z => nw.2.2 j (by rw [a1, z]; simp))]
          exact a4
        | st S =>
          obtain ⟨s, a1, a2⟩ := k
          exact ⟨s, a1, a2.keep (Same.refl _) fun a m o e => by
            rw [upd_ne (fun z => nw.2.2 j (by rw [← z]; exact m))]
            exact e⟩
      · by_cases ha : a = Dl
        · rw [ha, upd_same]; intro z; cases z
        · rw [upd_ne ha]; exact pt.gr.al a q
    | false =>
      show Inv (i + 1) H3
      have pu := Post.unwiped w2 pl e2' fr wb p3
      exact ⟨acc, _, F3, vs', q3.2 rfl, P2.trans pu, p3.gr.fr Dl (by rw [hH2]; intro z; cases z) hF2, p3.gr.kp Dl _ hH2 (nms _), ra.up (gr.ff.trans p3.gr.ff)⟩
  · have e : i = ds.length := by omega
    subst e
    exact .inl ⟨it.stop _ H' (P.gr.ff.trans P.wa.gr.fh) (Nat.le_refl _), z acc ρ' Dl vs' F' H' (done acc ρ' iv) (p1.trans P) hF hDH hH ra⟩
theorem et_yes {Q : Bool → Env → Prop} (q : Q true ρ) : ET tYes ρ Q := fun B ad σ F H w Z z => z true ρ F H q (Post.refl w)
/-- items that read off a list of one's own; nothing changes: the filter and the map -/
theorem eo_lcP {α : Type} {vs : List Nat} {Q : List D → Env → Prop} (f : α → Bool) (gg : α → D) (h : EI wi ρ fun ds ρ1 => ∃ (xs : List α) (enc : α → D), ds = xs.map enc ∧ xs.length < 1000000 ∧ Plain ρ1 vs ∧
    (∀ x ∈ xs, SG vs g (enc x) (wipeE ρ1 vs) fun ρ2 => unw vs ρ1 ρ2 = ρ1 ∧ ET tt ρ2 fun b ρ3 => b = f x ∧ ρ3 = ρ2 ∧ (f x = true → EX te ρ2 fun e ρ4 => e = gg x ∧ ρ4 = ρ2)) ∧ Q ((xs.filter f).map gg) ρ1) : EO (tLc wi g tt te vs) ρ Q := by
  refine eo_lc fun B ad σ F H w R z => h B ad σ F H w R fun ds ρ1 J F' H' q p it => z ds ρ1 J F' H' ?_ p it
  obtain ⟨xs, enc, rfl, hz, pl, turn, q⟩ := q
  refine ⟨fun k acc ρ' => ρ' = ρ1 ∧ acc = ((xs.take k).filter f).map gg, ⟨rfl, by simp⟩, ?_, ?_⟩
  · rintro k d acc ρ' e ⟨rfl, rfl⟩
    rw [List.getElem?_map] at e
    obtain ⟨x, ex, rfl⟩ : ∃ x, xs[k]? = some x ∧ enc x = d := by
      cases hx : xs[k]? with
      | none => rw [hx] at e; cases e
      | some x => rw [hx] at e; exact ⟨x, rfl, Option.some.inj e⟩
    have hm : x ∈ xs := List.mem_of_getElem? ex
    have hk : k < xs.length := (List.getElem?_eq_some_iff.mp ex).1
    have et : xs.take (k + 1) = xs.take k ++ [x] := by
      rw [List.take_succ, ex]; rfl
    refine ⟨pl, ?_, fun B ad σ F H v w hJ r Z z => turn x hm B ad σ F H v w hJ r Z fun ρ2 σ2 q w2 a b => z ρ2 σ2 (fun B ad σ F H w Z z => q.2 B ad σ F H w Z fun b ρ3 F' H' q2 p => z b ρ3 F' H' ⟨fun hb => ?_, fun hb => ?_⟩ p) w2 a b⟩
    · rw [List.length_map]
      exact Nat.lt_of_le_of_lt (Nat.le_trans (List.length_filter_le _ _) (by rw [List.length_take]; exact Nat.min_le_right _ _)) hz
    · obtain ⟨rfl, rfl, q2⟩ := q2
      refine (q2 hb).imp fun e ρ4 q => ?_
      obtain ⟨rfl, rfl⟩ := q
      exact ⟨‹_ ∧ _›.1, by rw [et, List.filter_append, List.map_append, List.filter_cons, if_pos hb]; rfl⟩
    · obtain ⟨rfl, rfl, q2⟩ := q2
      exact ⟨‹_ ∧ _›.1, by rw [et, List.filter_append, List.filter_cons, if_neg (by rw [hb]; exact Bool.false_ne_true), List.filter_nil, List.append_nil]⟩
  · rintro acc ρ' ⟨rfl, rfl⟩
    rw [List.length_map, List.take_length]
    exact q
end

/-! ### calls -/
/-- what a def of data promises: R tells of the arguments and of what is wanted of the answer -/
def spP (R : List D → (D → Prop) → Prop) : Sp := fun vs H Q _ => ∃ F ds Z, Same F H ∧ RpA F vs ds ∧ R ds Z ∧ ∀ d v F' H', Z d → Gr Non F H F' H' → Rp F' v d → Q v H'
/-- the same with a state ahead of the arguments -/
def spS (R : Stt → List D → (D → Stt → Prop) → Prop) : Sp := fun vs H Q _ => ∃ F s as S us ds Z, vs = .ref s :: us ∧ Same F H ∧ StAt F H S s as ∧ (∀ a ∈ as, F a = none) ∧ RpA F us ds ∧ R S ds Z ∧
  ∀ d S' v F' H', Z d S' → Gr (· ∈ as) F H F' H' → StAt F' H' S' s as → (∀ a ∈ as, F' a = none) → Rp F' v d → Q v H'
/-- a new state is handed back -/
def spN (R : List D → (Stt → Prop) → Prop) : Sp := fun vs H Q _ => ∃ F ds Z, Same F H ∧ RpA F vs ds ∧ R ds Z ∧ ∀ S s as F' H', Z S → Gr Non F H F' H' → StAt F' H' S s as → (∀ a ∈ as, F' a = none ∧ H a = none) → Q (.ref s) H'
section
variable {ρ ρ' : Env} {te : TE} {tt : TT} {t : TA} {E : XK}
theorem ex_call {R : List D → (D → Prop) → Prop} {Q : D → Env → Prop} (h : EA t ρ fun ds ρ1 => R ds fun d => Q d ρ1) : EX (tCall (spP R) [] E t) ρ Q := fun B ad σ F H w Z z =>
  h B ad σ F H w _ fun ds ρ1 vs F1 H1 q p r => by
    rw [List.append_nil]
    exact ⟨F1, ds, _, p.wa.gr.fh, r, q, fun d v F' H' zd g rv => z d ρ1 v F' H' zd (p.trans (Post.of p.wa g)) rv⟩
/-- f(state, ..) -/
theorem ex_callS {R : Stt → List D → (D → Stt → Prop) → Prop} {i : Nat} {S0 : Stt} {Q : D → Env → Prop} (h0 : ρ[i]? = some (.st S0)) (h : EA t ρ fun ds ρ1 => ∃ S, ρ1[i]? = some (.st S) ∧ R S ds fun d S' => Q d (ρ1.set i (.st S'))) :
    EX (tCall (spS R) [] E (tCons (tVar i) t)) ρ Q := fun B ad σ F H w Z z => by
  obtain ⟨s0, k0, _⟩ := w.sl i _ h0
  refine ⟨_, k0, h B ad σ F H w _ fun ds ρ1 vs F1 H1 q p r => ?_⟩
  obtain ⟨S, h1, q⟩ := q
  obtain ⟨s, k1, k2⟩ := p.wa.sl i _ h1
  rw [k0] at k1
  cases k1
  have hi : i < ρ1.length := (List.getElem?_eq_some_iff.mp h1).1
  rw [List.append_nil]
  refine ⟨F1, s0, ad i, S, vs, ds, _, rfl, p.wa.gr.fh, k2, fun a m => (p.wa.fz i a m).1, r, q, fun d S' v F' H' zd g st fn rv => ?_⟩
  have nm : ∀ j a, j ≠ i → a ∈ ad j → a ∉ ad i := fun j a hj m m' => hj (p.wa.dj j i a m m')
  refine z d _ v F' H' zd (p.trans ⟨⟨?_, ?_, fun j sl e => ?_, fun j a m => ?_, p.wa.dj, fun j e => p.wa.out j (get_set' e), p.wa.pin.to fun S2 e => by
    rcases get_set e with ⟨e0, _⟩ | ⟨hj, e⟩
    · exact ⟨⟨S, by rw [e0]; exact h1⟩, rfl, rfl⟩
    · exact ⟨⟨S2, e⟩, rfl, rfl⟩⟩, ⟨g.ff, g.fh, fun a o e m => g.kp a o e fun z => m ⟨i, S, h1, z⟩, g.al, g.fr⟩, fun j S'' e => ?_⟩) rv
  · refine ⟨p.wa.gr.ff.trans g.ff, g.fh, fun a o e m => g.kp a o (p.wa.gr.kp a o e m) fun z => ?_, fun a e => g.al a (p.wa.gr.al a e), fun a e z => g.fr a (p.wa.gr.al a e) (p.wa.gr.fr a e z)⟩
    rcases (p.wa.fz i a z).2 with q | q
    · rw [q] at e; cases e
    · exact m q.1
  · rw [List.length_set]; exact p.wa.len
  · rcases get_set e with ⟨rfl, rfl⟩ | ⟨hj, e⟩
    · exact ⟨s0, k0, st⟩
    · have k := p.wa.sl j sl e
      cases sl with
      | emp => exact k
      | val d =>
        obtain ⟨k, v, e, r⟩ := k
        exact ⟨k, v, e, r.up g.ff⟩
      | own es =>
        obtain ⟨q, ws, a1, a2, a3, a4, a5⟩ := k
        exact ⟨q, ws, a1, a2, a3, g.kp q _ a4 (nm j q hj (by rw [a1]; simp)), a5.up g.ff⟩
      | st S2 =>
        obtain ⟨s2, a1, a2⟩ := k
        exact ⟨s2, a1, a2.keep g.ff fun a m o e => g.kp a o e (nm j a hj m)⟩
  · refine ⟨?_, (p.wa.fz j a m).2⟩
    by_cases hj : j = i
    · subst hj; exact fn a m
    · exact g.fr a (p.wa.lv m) (p.wa.fz j a m).1
  · rcases get_set e with ⟨rfl, _⟩ | ⟨_, e⟩
    · exact ⟨S, h1⟩
    · exact ⟨S'', e⟩
/-- state = f(..) -/
theorem sx_asgN {R : List D → (Stt → Prop) → Prop} {i : Nat} {P : Po} (h00 : i ≠ 0) (h : EA t ρ fun ds ρ1 => R ds fun S => NX P (ρ1.set i (.st S))) : SX (tAsg (tCall (spN R) [] E t) (gName i)) ρ P := fun B σ F H w Dn n r b c => by
  obtain ⟨ad, w⟩ := w
  refine h B ad σ F H w _ fun ds ρ1 vs F1 H1 q p rv => ?_
  rw [List.append_nil]
  refine ⟨F1, ds, _, p.wa.gr.fh, rv, q, fun S s as F' H' zd g st fn => ?_⟩
  obtain ⟨ρ2, l, q⟩ := zd
  have w2 := p.wa.grow g
  have nw : ∀ a ∈ as, B.H0 a = none ∧ ∀ j, a ∉ ad j := fun a m => (p.wa.newp (fn a m).2).2
  refine n ρ2 _ F' H' q (W.weak ⟨fun k => if k = i then (if i < ρ1.length then as else []) else ad k, w2.gr, by rw [List.length_set, List.length_set]; exact w2.len, fun j sl e => ?_, fun j q m => ?_, fun j1 j2 q m1 m2 => ?_, fun j e => ?_, w2.pin.to fun S2 e => by
    rcases get_set e with ⟨e0, _⟩ | ⟨hj, e⟩
    · exact absurd e0.symm h00
    · exact ⟨⟨S2, e⟩, List.getElem?_set_ne (Ne.symm hj), if_neg hj⟩⟩ l)
  · rcases get_set e with ⟨rfl, rfl⟩ | ⟨hj, e'⟩
    · have hi : j < ρ1.length := by
        have := (List.getElem?_eq_some_iff.mp e).1
        rwa [List.length_set] at this
      exact ⟨s, List.getElem?_set_self (by rw [w2.len]; exact hi), by rw [if_pos rfl, if_pos hi]; exact st⟩
    · rw [if_neg hj, List.getElem?_set_ne (Ne.symm hj)]
      exact w2.sl j sl e'
  · by_cases hj : j = i
    · simp only [if_pos hj] at m
      by_cases hi : i < ρ1.length
      · simp only [if_pos hi] at m
        exact ⟨(fn q m).1, .inl (nw q m).1⟩
      · simp [if_neg hi] at m
    · simp only [if_neg hj] at m
      exact w2.fz j q m
  · have g : ∀ j, q ∈ (if j = i then (if i < ρ1.length then as else []) else ad j) → (j = i ∧ q ∈ as) ∨ (j ≠ i ∧ q ∈ ad j) := fun j m => by
      by_cases hj : j = i
      · simp only [if_pos hj] at m
        by_cases hi : i < ρ1.length
        · simp only [if_pos hi] at m
          exact .inl ⟨hj, m⟩
        · simp [if_neg hi] at m
      · simp only [if_neg hj] at m
        exact .inr ⟨hj, m⟩
    rcases g j1 m1 with ⟨a1, b1⟩ | ⟨a1, b1⟩ <;> rcases g j2 m2 with ⟨a2, b2⟩ | ⟨a2, b2⟩
    · rw [a1, a2]
    · exact absurd b2 ((nw q b1).2 j2)
    · exact absurd b1 ((nw q b2).2 j1)
    · exact w2.dj j1 j2 q b1 b2
  · show (if j = i then (if i < ρ1.length then as else []) else ad j) = []
    have e' := get_set' e
    by_cases hj : j = i
    · subst hj
      rw [if_pos rfl, if_neg (by rw [List.getElem?_eq_none_iff] at e'; omega)]
    · rw [if_neg hj]
      exact w2.out j e'
end

/-! ### defs -/
def startE (N : List Str) (ds : List D) : Env := ds.map .val ++ List.replicate (N.length - ds.length) .emp
section
variable {P : Program} {w : World} {K : PySem.W.Frag} {mg : Str → Option Value} {base : Heap} {x qual : Str} {st : Stmt} {f : Addr} {fd : FuncData} {N ps : List Str} {k : Nat}
theorem start_get {N : List Str} {us : List V} {i : Nat} {v : V} (h : us[i]? = some v) : (L2.start N us)[i]? = some (some v) := by
  unfold L2.start
  have hi := (List.getElem?_eq_some_iff.mp h).1
  rw [List.getElem?_append_left (by rw [List.length_map]; exact hi), List.getElem?_map, h]
  rfl
theorem startE_get {N : List Str} {ds : List D} {i : Nat} {s : Slot} (h : (startE N ds)[i]? = some s) : (∃ d, ds[i]? = some d ∧ s = .val d) ∨ s = .emp := by
  unfold startE at h
  by_cases hi : i < ds.length
  · rw [List.getElem?_append_left (by rw [List.length_map]; exact hi), List.getElem?_map] at h
    cases e : ds[i]? with
    | none => rw [e] at h; cases h
    | some d => rw [e] at h; exact .inl ⟨d, rfl, (Option.some.inj h).symm⟩
  · rw [List.getElem?_append_right (by rw [List.length_map]; omega)] at h
    exact .inr (List.eq_of_mem_replicate (List.mem_of_getElem? h))
theorem fn_pure {R : List D → (D → Prop) → Prop} (F : Fun K x qual st f fd) (S : FnScope N ps (defScope st)) (len : ∀ ds Z, R ds Z → ds.length = ps.length)
    (body : ∀ (cdv : Value) (A : Around) (outer : List PySem.Env) (s : Shared) (H : Hp) (E : XK), Room k (A.deeper (PyProof.Rows.envOfC qual (defScope st) s.heap.objs.size f cdv)) →
      ∃ t, PSs (cxOf CX0 P w K mg base N qual (defScope st) f cdv A outer s H E).nox (defBody st) t ∧ ∀ ds Z, R ds Z → SX t (startE N ds) { nx := fun _ => Z .none, rt := fun d _ => Z d }) :
    FnOk P w K mg base CX0 (k + 1) f fd ps (spP R) := by
  refine F.ok S (fun vs H Q E h => ?_) (fun cdv A outer s H vs Q E hr h => ?_)
  · obtain ⟨F, ds, Z, _, r, q, _⟩ := h
    rw [r.len]
    exact len ds Z q
  · obtain ⟨F0, ds, Z, fh, r, q, z⟩ := h
    obtain ⟨t, ht, hs⟩ := body cdv A outer s H E hr
    refine ⟨t, ht, hs ds Z q { F0 := F0, H0 := H, M := Non } (L2.start N vs) F0 H ⟨fun _ => [], Gr.refl fh, ?_, fun i s e => ?_, (fun i p m => by cases m), (fun i j p m => by cases m), fun _ _ => rfl, (fun s as e => by cases e)⟩ _ (fun ρ' σ' F' H' q w' => ?_) (fun d ρ' σ' v F' H' q w' rv => ?_) (fun _ _ _ _ q _ => q.elim) (fun _ _ _ _ q _ => q.elim)⟩
    · unfold L2.start startE
      rw [List.length_append, List.length_append, List.length_map, List.length_map, List.length_replicate, List.length_replicate, r.len]
    · rcases startE_get e with ⟨d, e2, rfl⟩ | rfl
      · obtain ⟨v, e1, rv⟩ := r.get e2
        exact ⟨rfl, v, start_get e1, rv⟩
      · rfl
    · obtain ⟨ad, w'⟩ := w'
      exact z .none .non F' H' q w'.gr .non
    · obtain ⟨ad, w'⟩ := w'
      exact z d v F' H' q w'.gr rv
/-- a def whose first parameter is a state -/
theorem fn_state {R : Stt → List D → (D → Stt → Prop) → Prop} (F : Fun K x qual st f fd) (S : FnScope N ps (defScope st)) (len : ∀ S ds Z, R S ds Z → ds.length + 1 = ps.length)
    (body : ∀ (cdv : Value) (A : Around) (outer : List PySem.Env) (s : Shared) (H : Hp) (E : XK), Room k (A.deeper (PyProof.Rows.envOfC qual (defScope st) s.heap.objs.size f cdv)) →
      ∃ t, PSs (cxOf CX0 P w K mg base N qual (defScope st) f cdv A outer s H E).nox (defBody st) t ∧ ∀ S ds Z, R S ds Z → SX t (.st S :: (ds.map .val ++ List.replicate (N.length - (ds.length + 1)) .emp)) { nx := fun ρ' => ∃ S', ρ'[0]? = some (.st S') ∧ Z .none S', rt := fun d ρ' => ∃ S', ρ'[0]? = some (.st S') ∧ Z d S' }) :
    FnOk P w K mg base CX0 (k + 1) f fd ps (spS R) := by
  refine F.ok S (fun vs H Q E h => ?_) (fun cdv A outer s H vs Q E hr h => ?_)
  · obtain ⟨F, s, as, S, us, ds, Z, rfl, _, _, _, r, q, _⟩ := h
    rw [List.length_cons, r.len]
    exact len S ds Z q
  · obtain ⟨F0, s0, as, S0, us, ds, Z, rfl, fh, sa, fn, r, q, z⟩ := h
    obtain ⟨t, ht, hs⟩ := body cdv A outer s H E hr
    have hm := sa.mem
    have hl : (L2.start N (.ref s0 :: us)).length = (Slot.st S0 :: (ds.map Slot.val ++ List.replicate (N.length - (ds.length + 1)) Slot.emp)).length := by
      unfold L2.start
      simp [r.len]
    have fin : ∀ (d : D) (ρ' : Env) (σ' : St) (v : V) (F' H' : Hp), (∃ S', ρ'[0]? = some (Slot.st S') ∧ Z d S') → W { F0 := F0, H0 := H, M := (· ∈ as), pin := some (s0, as) } ρ' σ' F' H' → Rp F' v d → Q v H' := fun d ρ' σ' v F' H' ⟨S', e, zd⟩ ⟨ad, w'⟩ rv => by
      obtain ⟨e1, e2⟩ := w'.pin s0 as rfl S' e
      obtain ⟨s1, k1, k2⟩ := w'.sl 0 _ e
      rw [e1] at k1
      cases k1
      rw [e2] at k2
      exact z d S' v F' H' zd w'.gr k2 (fun a m => (w'.fz 0 a (by rw [e2]; exact m)).1) rv
    refine ⟨t, ht, hs S0 ds Z q { F0 := F0, H0 := H, M := (· ∈ as), pin := some (s0, as) } (L2.start N (.ref s0 :: us)) F0 H ⟨fun i => if i = 0 then as else [], Gr.refl fh, hl, fun i sl e => ?_, fun i p m => ?_, fun i j p m1 m2 => ?_, fun i e => ?_, fun s as' e S _ => ?_⟩ _ (fun ρ' σ' F' H' q w' => fin .none ρ' σ' .non F' H' q w' .non) (fun d ρ' σ' v F' H' q w' rv => fin d ρ' σ' v F' H' q w' rv) (fun _ _ _ _ q _ => q.elim) (fun _ _ _ _ q _ => q.elim)⟩
    · cases i with
      | zero =>
        cases e
        exact ⟨s0, start_get (us := .ref s0 :: us) rfl, by rw [if_pos rfl]; exact sa⟩
      | succ i =>
        have e' : (startE (List.replicate (N.length - 1) "") ds)[i]? = some sl := by
          unfold startE
          rw [List.length_replicate, show N.length - 1 - ds.length = N.length - (ds.length + 1) by omega]
          exact e
        rw [if_neg (Nat.succ_ne_zero i)]
        rcases startE_get e' with ⟨d, e2, rfl⟩ | rfl
        · obtain ⟨v, e1, rv⟩ := r.get e2
          exact ⟨rfl, v, start_get (us := .ref s0 :: us) (by simpa using e1), rv⟩
        · rfl
    · by_cases hi : i = 0
      · rw [if_pos hi] at m
        exact ⟨fn p m, .inr ⟨m, hi⟩⟩
      · rw [if_neg hi] at m; cases m
    · by_cases hi : i = 0
      · by_cases hj : j = 0
        · rw [hi, hj]
        · rw [if_neg hj] at m2; cases m2
      · rw [if_neg hi] at m1; cases m1
    · by_cases hi : i = 0
      · subst hi; cases e
      · exact if_neg hi
    · cases e
      exact ⟨start_get (us := .ref s0 :: us) rfl, if_pos rfl⟩
end
end Pu
namespace Pu
open PySem L2

/-! ### what the defs call: built-ins, one another -/
/-- no name of a built-in is bound by the module -/
structure Bn (mg : Str → Option Value) : Prop where
  len_ : mg "len" = none
  range_ : mg "range" = none
  min_ : mg "min" = none
  max_ : mg "max" = none
  abs_ : mg "abs" = none
  sum_ : mg "sum" = none
  int_ : mg "int" = none
  list_ : mg "list" = none
  tuple_ : mg "tuple" = none
  sorted_ : mg "sorted" = none
  isinstance_ : mg "isinstance" = none
  enumerate_ : mg "enumerate" = none
  zip_ : mg "zip" = none
  set_ : mg "set" = none
  repr_ : mg "repr" = none
  all_ : mg "all" = none
  any_ : mg "any" = none
  dict_ : mg "dict" = none
  reversed_ : mg "reversed" = none
  str_ : mg "str" = none
/-- a def of the module that keeps a promise -/
inductive Cal (P : Program) (w : World) (K : PySem.W.Frag) (mg : Str → Option Value) (base : Heap) (x : Str) (ps : List Str) (sp : Sp) (k : Nat) : Prop
  | mk (f : Addr) (fd : FuncData) (ok : FnOk P w K mg base CX0 k f fd ps sp) (hm : mg x = some (.ref f)) (kp : PySem.W.keepIn K (.ref f) = true) (bd : Binds K fd ps []) : Cal P w K mg base x ps sp k
theorem pe_cal {X : Cx} {k : Nat} {ps : List Str} {sp : Sp} {x : Str} {p pos : Pos} {e : Expr} {es : List Expr} {t : TA} (C : Cal X.prog X.w X.K X.mg X.base x ps sp k) (hr : Room k X.A) (hg : Gl X x) (ha : PA X (e :: es) t)
    (hdb : (x == ("__debug__" : Str)) = false := by decide) (he : starEach (e :: es) X.env = (false, eval e X.env) :: starEach es X.env := by rfl) (hpl : (backTo pos (starEach es X.env)).any (·.1) = false := by rfl) :
    PE X (.Call (.Name x p) (e :: es) [] pos) (tCall sp [] E0 t) := by
  obtain ⟨f, fd, ok, hm, kp, bd⟩ := C
  exact pe_call ok hr hg hm kp bd .nil pass0 ha hdb he hpl
theorem Cal.imp {P : Program} {w : World} {K : PySem.W.Frag} {mg : Str → Option Value} {base : Heap} {x : Str} {ps : List Str} {sp sp' : Sp} {k : Nat} (C : Cal P w K mg base x ps sp k) (h : ∀ vs H Q E, sp' vs H Q E → sp vs H Q E) : Cal P w K mg base x ps sp' k := by
  obtain ⟨f, fd, ok, hm, kp, bd⟩ := C
  exact ⟨f, fd, ok.imp h, hm, kp, bd⟩
theorem Cal.mono {P : Program} {w : World} {K : PySem.W.Frag} {mg : Str → Option Value} {base : Heap} {x : Str} {ps : List Str} {sp : Sp} {j k : Nat} (C : Cal P w K mg base x ps sp j) (h : j ≤ k) : Cal P w K mg base x ps sp k := by
  obtain ⟨f, fd, ok, hm, kp, bd⟩ := C
  exact ⟨f, fd, ok.mono h, hm, kp, bd⟩

/-! ### reading data off the heap -/
section
variable {X : Cx} {pins : List (Addr × Obj)} {σ : St} {F H : Hp} {s : Shared} {d : D} {ds : List D} {v : V} {u : Value} {vs : List V} {us : List Value}
theorem rp_reads (I : Inv X pins σ H s) (e : Same F H) (r : Rp F v d) (ru : RelV v u) : ∃ as, Reads s.heap u d as := Dp.reads I d v u (r.dp e) ru
theorem rpa_reads (I : Inv X pins σ H s) (e : Same F H) (r : RpA F vs ds) (ru : Vals vs us) : ∃ as, ReadsAll s.heap us ds as := Dp.readsAll I ds vs us (r.dp e) ru
mutual
theorem Rp.plain : ∀ (d : D) {v : V}, Rp F v d → d.plain = true
  | .none, _, _ => by simp only [PyData.plain]
  | .bool _, _, _ => by simp only [PyData.plain]
  | .int _, _, _ => by simp only [PyData.plain]
  | .str _, _, _ => by simp only [PyData.plain]
  | .list ds, _, h => by
    cases h with
    | lst _ h => simp only [PyData.plain]; exact RpA.plain ds h
  | .tuple ds, _, h => by
    cases h with
    | tup _ h => simp only [PyData.plain]; exact RpA.plain ds h
  | .dict _, _, h => by cases h
theorem RpA.plain : ∀ (ds : List D) {vs : List V}, RpA F vs ds → PyData.plainAll ds = true
  | [], _, _ => by simp only [PyData.plainAll]
  | d :: ds, _, h => by
    cases h with
    | cons h1 h2 => simp only [PyData.plainAll, Bool.and_eq_true]; exact ⟨Rp.plain d h1, RpA.plain ds h2⟩
end
/-- at most so deep -/
def DpN (n : Nat) (d : D) : Prop := d.depth ≤ n
theorem dpn_int {n : Nat} {i : Int} : DpN n (.int i) := by simp [DpN, PyData.depth]
theorem dpn_bl {n : Nat} {b : Bool} : DpN n (.bool b) := by simp [DpN, PyData.depth]
theorem dpn_str {n : Nat} {x : Str} : DpN n (.str x) := by simp [DpN, PyData.depth]
theorem dpn_non {n : Nat} : DpN n .none := by simp [DpN, PyData.depth]
theorem depthAll_le {n : Nat} : ∀ {ds : List D}, (∀ d ∈ ds, DpN n d) → PyData.depthAll ds ≤ n
  | [], _ => by simp [PyData.depthAll]
  | d :: ds, h => by
    simp only [PyData.depthAll]
    exact Nat.max_le.mpr ⟨h d (by simp), depthAll_le fun e he => h e (by simp [he])⟩
theorem dpn_list {n : Nat} {ds : List D} (h : ∀ d ∈ ds, DpN n d) : DpN (n + 1) (.list ds) := by
  simp only [DpN, PyData.depth]
  exact Nat.succ_le_succ (depthAll_le h)
theorem dpn_tup {n : Nat} {ds : List D} (h : ∀ d ∈ ds, DpN n d) : DpN (n + 1) (.tuple ds) := by
  simp only [DpN, PyData.depth]
  exact Nat.succ_le_succ (depthAll_le h)
theorem dpn_map {α : Type} {n : Nat} {xs : List α} {f : α → D} (h : ∀ x ∈ xs, DpN n (f x)) : ∀ d ∈ xs.map f, DpN n d := fun d hd => by
  obtain ⟨x, hx, rfl⟩ := List.mem_map.mp hd
  exact h x hx
theorem dpn_nil {n : Nat} : ∀ d ∈ ([] : List D), DpN n d := fun d h => by cases h
theorem dpn_cons {n : Nat} {d : D} {ds : List D} (h : DpN n d) (hs : ∀ e ∈ ds, DpN n e) : ∀ e ∈ d :: ds, DpN n e := fun e he => by
  rcases List.mem_cons.mp he with rfl | he
  · exact h
  · exact hs e he
theorem DpN.up {n m : Nat} {d : D} (h : DpN n d) (k : n ≤ m) : DpN m d := Nat.le_trans h k
end

/-! ### ==, != of data at depth 64 -/
section
variable {X : Cx} {K : PySem.W.Frag} {d d1 d2 : D} {ds es : List D} {Q : D → Prop}
def rEqP (K : PySem.W.Frag) : R2 := fun x y H Q => ∃ d e, Dp K H x d ∧ Dp K H y e ∧ d.plain = true ∧ e.plain = true ∧ min d.depth e.depth ≤ 60 ∧ Q (.bl (PyData.eqv d e)) H
def rNeP (K : PySem.W.Frag) : R2 := fun x y H Q => ∃ d e, Dp K H x d ∧ Dp K H y e ∧ d.plain = true ∧ e.plain = true ∧ min d.depth e.depth ≤ 60 ∧ Q (.bl (!PyData.eqv d e)) H
theorem op_eqP (hu : X.A.units + 64 < cLine) : OpR X (compareOp .Eq) (rEqP X.K) := by
  rintro pins s σ H x y v u Q I rx ry ⟨d, e, hd, he, pd, pe, hz, q⟩
  obtain ⟨as, r1⟩ := Dp.reads I d x v hd rx
  obtain ⟨bs, r2⟩ := Dp.reads I e y u he ry
  exact PySem.SeqAt.eq_plain r1 r2 pd pe (by omega) ⟨.bl _, H, I, rfl, q⟩
theorem op_neP (hu : X.A.units + 64 < cLine) : OpR X (compareOp .NotEq) (rNeP X.K) := by
  rintro pins s σ H x y v u Q I rx ry ⟨d, e, hd, he, pd, pe, hz, q⟩
  obtain ⟨as, r1⟩ := Dp.reads I d x v hd rx
  obtain ⟨bs, r2⟩ := Dp.reads I e y u he ry
  exact PySem.SeqAt.ne_plain r1 r2 pd pe (by omega) ⟨.bl _, H, I, rfl, q⟩
theorem opd_eqP (h : min d1.depth d2.depth ≤ 60) (k : Q (.bool (PyData.eqv d1 d2))) : OpD (rEqP K) d1 d2 Q := fun F H x y e rx ry Z z => ⟨d1, d2, rx.dp e, ry.dp e, Rp.plain _ rx, Rp.plain _ ry, h, z _ _ F H k (Gr.refl e) (.bl _)⟩
theorem opd_neP (h : min d1.depth d2.depth ≤ 60) (k : Q (.bool (!PyData.eqv d1 d2))) : OpD (rNeP K) d1 d2 Q := fun F H x y e rx ry Z z => ⟨d1, d2, rx.dp e, ry.dp e, Rp.plain _ rx, Rp.plain _ ry, h, z _ _ F H k (Gr.refl e) (.bl _)⟩
theorem min_l {n m k : Nat} (h : n ≤ k) : min n m ≤ k := Nat.le_trans (Nat.min_le_left _ _) h
theorem min_r {n m k : Nat} (h : m ≤ k) : min n m ≤ k := Nat.le_trans (Nat.min_le_right _ _) h
/-! in, not in -/
def rInP (K : PySem.W.Frag) : R2 := fun x y H Q => ∃ d es, Dp K H x d ∧ (Dp K H y (.list es) ∨ Dp K H y (.tuple es)) ∧ d.plain = true ∧ PyData.plainAll es = true ∧ min (PyData.depthAll es) d.depth ≤ 60 ∧ Q (.bl (es.any fun y => PyData.eqv y d)) H
def rNinP (K : PySem.W.Frag) : R2 := fun x y H Q => ∃ d es, Dp K H x d ∧ (Dp K H y (.list es) ∨ Dp K H y (.tuple es)) ∧ d.plain = true ∧ PyData.plainAll es = true ∧ min (PyData.depthAll es) d.depth ≤ 60 ∧ Q (.bl (!es.any fun y => PyData.eqv y d)) H
theorem op_inP (hu : X.A.units + 64 < cLine) : OpR X (compareOp .In) (rInP X.K) := by
  rintro pins s σ H x y v u Q I rx ry ⟨d, es, hd, he, pd, pe, hz, q⟩
  obtain ⟨as, r1⟩ := Dp.reads I d x v hd rx
  rcases he with he | he
  · obtain ⟨bs, r2⟩ := Dp.reads I _ y u he ry
    exact PySem.SeqAt.in_list_data r2 r1 pe pd (by omega) ⟨.bl _, H, I, rfl, q⟩
  · obtain ⟨bs, r2⟩ := Dp.reads I _ y u he ry
    exact PySem.SeqAt.in_tuple_data r2 r1 pe pd (by omega) ⟨.bl _, H, I, rfl, q⟩
theorem op_ninP (hu : X.A.units + 64 < cLine) : OpR X (compareOp .NotIn) (rNinP X.K) := by
  rintro pins s σ H x y v u Q I rx ry ⟨d, es, hd, he, pd, pe, hz, q⟩
  obtain ⟨as, r1⟩ := Dp.reads I d x v hd rx
  rcases he with he | he
  · obtain ⟨bs, r2⟩ := Dp.reads I _ y u he ry
    exact PySem.SeqAt.notIn_list_data r2 r1 pe pd (by omega) ⟨.bl _, H, I, rfl, q⟩
  · obtain ⟨bs, r2⟩ := Dp.reads I _ y u he ry
    exact PySem.SeqAt.notIn_tuple_data r2 r1 pe pd (by omega) ⟨.bl _, H, I, rfl, q⟩
theorem opd_inL (h : min (PyData.depthAll es) d.depth ≤ 60) (k : Q (.bool (es.any fun y => PyData.eqv y d))) : OpD (rInP K) d (.list es) Q := fun F H x y e rx ry Z z =>
  ⟨d, es, rx.dp e, .inl (ry.dp e), Rp.plain _ rx, by have := Rp.plain _ ry; simpa only [PyData.plain] using this, h, z _ _ F H k (Gr.refl e) (.bl _)⟩
theorem opd_inT (h : min (PyData.depthAll es) d.depth ≤ 60) (k : Q (.bool (es.any fun y => PyData.eqv y d))) : OpD (rInP K) d (.tuple es) Q := fun F H x y e rx ry Z z =>
  ⟨d, es, rx.dp e, .inr (ry.dp e), Rp.plain _ rx, by have := Rp.plain _ ry; simpa only [PyData.plain] using this, h, z _ _ F H k (Gr.refl e) (.bl _)⟩
theorem opd_ninL (h : min (PyData.depthAll es) d.depth ≤ 60) (k : Q (.bool (!es.any fun y => PyData.eqv y d))) : OpD (rNinP K) d (.list es) Q := fun F H x y e rx ry Z z =>
  ⟨d, es, rx.dp e, .inl (ry.dp e), Rp.plain _ rx, by have := Rp.plain _ ry; simpa only [PyData.plain] using this, h, z _ _ F H k (Gr.refl e) (.bl _)⟩
theorem opd_ninT (h : min (PyData.depthAll es) d.depth ≤ 60) (k : Q (.bool (!es.any fun y => PyData.eqv y d))) : OpD (rNinP K) d (.tuple es) Q := fun F H x y e rx ry Z z =>
  ⟨d, es, rx.dp e, .inr (ry.dp e), Rp.plain _ rx, by have := Rp.plain _ ry; simpa only [PyData.plain] using this, h, z _ _ F H k (Gr.refl e) (.bl _)⟩
/-! min, max of a list of alike data -/
def rMnD (K : PySem.W.Frag) : List V → Hp → VK → Prop := fun vs H Q => ∃ (F : Hp) (a : Addr) (xs : List V) (d : D) (ds : List D), vs = [.ref a] ∧ Same F H ∧ Rd F a (.lst xs) ∧ RpA F xs (d :: ds) ∧ PySem.W.AlikeAll (d :: ds) ∧ PyData.depthAll (d :: ds) ≤ 60 ∧ ∀ v, Rp F v (PySem.W.minD d ds) → Q v H
def rMxD (K : PySem.W.Frag) : List V → Hp → VK → Prop := fun vs H Q => ∃ (F : Hp) (a : Addr) (xs : List V) (d : D) (ds : List D), vs = [.ref a] ∧ Same F H ∧ Rd F a (.lst xs) ∧ RpA F xs (d :: ds) ∧ PySem.W.AlikeAll (d :: ds) ∧ PyData.depthAll (d :: ds) ≤ 60 ∧ ∀ v, Rp F v (PySem.W.maxD d ds) → Q v H
theorem minD_mem (d : D) (ds : List D) : PySem.W.minD d ds ∈ d :: ds := by
  have : ∀ (es : List D) (a : D), es.foldl (fun a y => if PySem.W.dataLt y a then y else a) a ∈ a :: es := by
    intro es
    induction es with
    | nil => intro a; simp
    | cons e es ih =>
      intro a
      rw [List.foldl_cons]
      have q := ih (if PySem.W.dataLt e a then e else a)
      by_cases c : PySem.W.dataLt e a = true
      · rw [if_pos c] at q ⊢
        exact List.mem_cons_of_mem _ q
      · rw [if_neg c] at q ⊢
        rcases List.mem_cons.mp q with q | q
        · rw [q]; exact List.mem_cons_self
        · exact List.mem_cons_of_mem _ (List.mem_cons_of_mem _ q)
  exact this ds d
theorem maxD_mem (d : D) (ds : List D) : PySem.W.maxD d ds ∈ d :: ds := by
  have : ∀ (es : List D) (a : D), es.foldl (fun a y => if PySem.W.dataLt a y then y else a) a ∈ a :: es := by
    intro es
    induction es with
    | nil => intro a; simp
    | cons e es ih =>
      intro a
      rw [List.foldl_cons]
      have q := ih (if PySem.W.dataLt a e then e else a)
      by_cases c : PySem.W.dataLt a e = true
      · rw [if_pos c] at q ⊢
        exact List.mem_cons_of_mem _ q
      · rw [if_neg c] at q ⊢
        rcases List.mem_cons.mp q with q | q
        · rw [q]; exact List.mem_cons_self
        · exact List.mem_cons_of_mem _ (List.mem_cons_of_mem _ q)
  exact this ds d
theorem pick_rp {pins : List (Addr × Obj)} {σ : St} {F H : Hp} {s : Shared} {xs : List V} {its : List Value} {es : List D} {m : D} (I : Inv X pins σ H s) (e : Same F H) (ra : RpA F xs es) (rv : Vals xs its) (al : PySem.W.AlikeAll es) (hm : m ∈ es)
    {i : Nat} {v : Value} {h' : Heap} {bs : List Addr} (hi : its.toArray[i]? = some v) (rd : Reads h' v m bs) (hk : ∀ b o, s.heap.get? b = some o → h'.get? b = some o) : ∃ y, RelV y v ∧ Rp F y m := by
  have hi' : its[i]? = some v := by simpa using hi
  have hl : i < xs.length := by rw [rv.length]; exact (List.getElem?_eq_some_iff.mp hi').1
  obtain ⟨u, hu, ru⟩ := rv.get (List.getElem?_eq_getElem hl)
  rw [hi'] at hu
  cases hu
  obtain ⟨d, hd, rp⟩ := ra.get' (List.getElem?_eq_getElem hl)
  obtain ⟨as, r1⟩ := rp_reads I e rp ru
  have q : d = m := PySem.W.alike_unique d m v as bs (al.1 d (List.mem_of_getElem? hd) m hm) (PyProof.Rows.Reads.keeps hk r1) rd
  rw [q] at rp
  exact ⟨_, ru, rp⟩
theorem cb_minD (hc : X.calm = true) (hu : X.A.units + 64 < cLine) : CallR X (.builtin "min") (rMnD X.K) := by
  rintro pins s σ H vs us Q I r ⟨F, a, xs, d, ds, rfl, e, ha, ra, al, hz, q⟩
  obtain ⟨its, rv, hl, _⟩ := I.list (sqL_rd (K := X.K) ha e)
  obtain ⟨as, rr⟩ := rpa_reads I e ra rv
  rw [Vals.ref1 r]
  refine PySem.W.min_list_data (I.ok.hd hc) hl.isList (by simpa using rr) al (by omega) fun i v h' tk bs hi rd hk => ?_
  obtain ⟨y, ry, rp⟩ := pick_rp I e ra rv al (minD_mem d ds) hi rd hk
  exact ⟨y, H, I.kept hk, ry, q y rp⟩
theorem cb_maxD (hc : X.calm = true) (hu : X.A.units + 64 < cLine) : CallR X (.builtin "max") (rMxD X.K) := by
  rintro pins s σ H vs us Q I r ⟨F, a, xs, d, ds, rfl, e, ha, ra, al, hz, q⟩
  obtain ⟨its, rv, hl, _⟩ := I.list (sqL_rd (K := X.K) ha e)
  obtain ⟨as, rr⟩ := rpa_reads I e ra rv
  rw [Vals.ref1 r]
  refine PySem.W.max_list_data (I.ok.hd hc) hl.isList (by simpa using rr) al (by omega) fun i v h' tk bs hi rd hk => ?_
  obtain ⟨y, ry, rp⟩ := pick_rp I e ra rv al (maxD_mem d ds) hi rd hk
  exact ⟨y, H, I.kept hk, ry, q y rp⟩
theorem cbd_minD (al : PySem.W.AlikeAll (d :: ds)) (hz : PyData.depthAll (d :: ds) ≤ 60) (k : Q (PySem.W.minD d ds)) : CbD (rMnD K) [.list (d :: ds)] Q := fun F H vs e r Z z => by
  obtain ⟨v, rfl, rv⟩ := r.one
  obtain ⟨a, xs, rfl, h1, h2⟩ := rv.lst_inv
  exact ⟨F, a, xs, d, ds, rfl, e, h1, h2, al, hz, fun v rv => z _ _ F H k (Gr.refl e) rv⟩
theorem cbd_maxD (al : PySem.W.AlikeAll (d :: ds)) (hz : PyData.depthAll (d :: ds) ≤ 60) (k : Q (PySem.W.maxD d ds)) : CbD (rMxD K) [.list (d :: ds)] Q := fun F H vs e r Z z => by
  obtain ⟨v, rfl, rv⟩ := r.one
  obtain ⟨a, xs, rfl, h1, h2⟩ := rv.lst_inv
  exact ⟨F, a, xs, d, ds, rfl, e, h1, h2, al, hz, fun v rv => z _ _ F H k (Gr.refl e) rv⟩
theorem alike_ints (ns : List Int) : PySem.W.AlikeAll (ns.map PyData.int) := ⟨fun x hx y hy => by
  obtain ⟨a, _, rfl⟩ := List.mem_map.mp hx
  obtain ⟨b, _, rfl⟩ := List.mem_map.mp hy
  rfl, fun x hx => by
  obtain ⟨a, _, rfl⟩ := List.mem_map.mp hx
  intro z; cases z⟩
def foldMin : List Int → Int
  | [] => 0
  | n :: ns => ns.foldl min n
def foldMax : List Int → Int
  | [] => 0
  | n :: ns => ns.foldl max n
theorem cbd_minI {ns : List Int} (h : 0 < ns.length) (k : Q (.int (foldMin ns))) : CbD (rMnD K) [.list (ns.map .int)] Q := by
  cases ns with
  | nil => cases h
  | cons n ns =>
    refine cbd_minD (alike_ints (n :: ns)) ?_ ?_
    · exact depthAll_le (dpn_map (xs := n :: ns) fun x _ => dpn_int)
    · have e := PySem.W.minD_ints n ns
      show Q (PySem.W.minD (.int n) (ns.map .int))
      rw [e]
      exact k
theorem cbd_maxI {ns : List Int} (h : 0 < ns.length) (k : Q (.int (foldMax ns))) : CbD (rMxD K) [.list (ns.map .int)] Q := by
  cases ns with
  | nil => cases h
  | cons n ns =>
    refine cbd_maxD (alike_ints (n :: ns)) ?_ ?_
    · exact depthAll_le (dpn_map (xs := n :: ns) fun x _ => dpn_int)
    · have e := PySem.W.maxD_ints n ns
      show Q (PySem.W.maxD (.int n) (ns.map .int))
      rw [e]
      exact k
/-! sorted -/
abbrev sortD (ds : List D) : List D := ds.mergeSort (PySem.W.dataLe false id)
def rSrD (K : PySem.W.Frag) : List V → Hp → VK → Prop := fun vs H Q => ∃ (F : Hp) (a : Addr) (xs : List V) (ds : List D), vs = [.ref a] ∧ Same F H ∧ Rd F a (.lst xs) ∧ RpA F xs ds ∧ PySem.W.AllAlike ds ∧ PySem.W.Sortable ds ∧ PyData.depthAll ds ≤ 60 ∧
  ∀ p ys, H p = none → RpA F ys (sortD ds) → Q (.ref p) (upd H p (.lst ys))
theorem rpa_zip {F : Hp} : ∀ {xs : List V} {ds : List D}, RpA F xs ds → ∀ p ∈ xs.zip ds, Rp F p.1 p.2
  | _, [], h, p, hp => by cases h; cases hp
  | _, d :: ds, h, p, hp => by
    cases h with
    | cons h1 h2 =>
      rcases List.mem_cons.mp hp with rfl | hp
      · exact h1
      · exact rpa_zip h2 p hp
theorem rpa_of {F : Hp} : ∀ {zs : List (V × D)}, (∀ p ∈ zs, Rp F p.1 p.2) → RpA F (zs.map Prod.fst) (zs.map Prod.snd)
  | [], _ => .nil
  | z :: zs, h => .cons (h z (by simp)) (rpa_of fun p hp => h p (by simp [hp]))
theorem each_zip {F : Hp} : ∀ {xs : List V} {ds : List D} {its : List Value}, RpA F xs ds → Vals xs its → PySem.W.EachIs (fun v (b : V × D) => RelV b.1 v) its (xs.zip ds)
  | _, [], _, h, r => by cases h; cases r; exact .nil
  | _, d :: ds, _, h, r => by
    cases h with
    | cons h1 h2 =>
      cases r with
      | cons r1 r2 => exact .cons r1 (each_zip h2 r2)
theorem vals_each : ∀ {zs : List (V × D)} {out : List Value}, PySem.W.EachIs (fun v (b : V × D) => RelV b.1 v) out zs → Vals (zs.map Prod.fst) out
  | _, _, .nil => .nil
  | _, _, .cons h t => .cons h (vals_each t)
theorem each_reads {h : Heap} : ∀ {xs : List V} {ds : List D} {its : List Value} {as : List Addr}, xs.length = ds.length → ReadsAll h its ds as → PySem.W.EachIs (fun v (b : V × D) => ∃ as, Reads h v b.2 as) its (xs.zip ds)
  | [], [], _, _, _, r => by cases r; exact .nil
  | x :: xs, d :: ds, _, _, l, r => by
    cases r with
    | cons r1 r2 => exact .cons ⟨_, r1⟩ (each_reads (by simpa using l) r2)
  | [], _ :: _, _, _, l, _ => by simp at l
  | _ :: _, [], _, _, l, _ => by simp at l
theorem depth_mem : ∀ {ds : List D} {d : D}, d ∈ ds → d.depth ≤ PyData.depthAll ds
  | [], _, h => by cases h
  | e :: ds, d, h => by
    simp only [PyData.depthAll]
    rcases List.mem_cons.mp h with rfl | h
    · exact Nat.le_max_left _ _
    · exact Nat.le_trans (depth_mem h) (Nat.le_max_right _ _)
theorem cb_sortD (hu : X.A.units + 64 < cLine) : CallR X (.builtin "sorted") (rSrD X.K) := by
  rintro pins s σ H vs us Q I r ⟨F, a, xs, ds, rfl, e, ha, ra, al, so, hz, q⟩
  obtain ⟨its, rv, hl, hzl⟩ := I.list (sqL_rd (K := X.K) ha e)
  obtain ⟨as, rr⟩ := rpa_reads I e ra rv
  rw [Vals.ref1 r]
  have hmap : (xs.zip ds).map Prod.snd = ds := List.map_snd_zip (by rw [ra.len]; exact Nat.le_refl _)
  have hlen : (xs.zip ds).length = xs.length := by rw [List.length_zip, ra.len, Nat.min_self]
  refine PySem.W.sorted_data (bs := xs.zip ds) (enc := Prod.snd) hl.isList (each_zip ra rv) (each_reads ra.len rr) (by rw [hmap]; exact al) (by rw [hmap]; exact so) (by rw [hlen]; exact hzl)
    (fun b hb => ?_) fun out ho he => ?_
  · have hd : b.2 ∈ ds := by rw [← hmap]; exact List.mem_map_of_mem hb
    have := depth_mem hd
    omega
  · obtain ⟨ep, he'⟩ := PyProof.Rows.sortedAll_at s.heap its out.toArray
    have hv := vals_each he
    have hd : (List.mergeSort (xs.zip ds) (PySem.W.dataLe false Prod.snd)).map Prod.snd = sortD ds := by
      have q := PySem.W.sort_maps (r := PySem.W.dataLe false Prod.snd) (s := PySem.W.dataLe false id) (Prod.snd : V × D → D) (l := xs.zip ds) (fun a _ b _ => rfl)
      rw [q, hmap]
    have hr := rpa_of (F := F) (zs := List.mergeSort (xs.zip ds) (PySem.W.dataLe false Prod.snd)) fun p hp => rpa_zip ra p (List.mem_mergeSort.mp hp)
    rw [hd] at hr
    refine ⟨.ref _, upd H (s.heap.objs.size + 1) (.lst ((List.mergeSort (xs.zip ds) (PySem.W.dataLe false Prod.snd)).map Prod.fst)), I.laid (t' := s.toks) (fun _ _ => PyProof.Rows.sortedAll_old) (Nat.le_succ _) ⟨?_, out, ep, hv, he'⟩, rfl, q _ _ (I.hok.fresh (Nat.le_succ _)) hr⟩
    rw [List.length_map, List.length_mergeSort, hlen]
    exact hzl
theorem cbo_sortD {Q : List D → Prop} (al : PySem.W.AllAlike ds) (so : PySem.W.Sortable ds) (hz : PyData.depthAll ds ≤ 60) (k : Q (sortD ds)) : CbO (rSrD K) [.list ds] Q := fun F H vs e r Z z => by
  obtain ⟨v, rfl, rv⟩ := r.one
  obtain ⟨a, xs, rfl, h1, h2⟩ := rv.lst_inv
  exact ⟨F, a, xs, ds, rfl, e, h1, h2, al, so, hz, fun p ys hp rp => z _ p _ _ k (same_upd hp) hp upd_same rp⟩
/-! x.extend(ys) -/
def rExtR : V → List V → Hp → VK → Prop := fun x vs H Q => ∃ l b xs zs, x = .ref l ∧ vs = [.ref b] ∧ H l = some (.lst xs) ∧ Rd H b (.lst zs) ∧ xs.length + zs.length ≤ sizeLine ∧ Q .non (upd H l (.lst (xs ++ zs)))
theorem mt_extR : MtM X "list.extend" rExtR := by
  intro pins s σ H x vs v us Q I rx rv h
  obtain ⟨l, b, xs, zs, rfl, rfl, hH, hB, hz, q⟩ := h
  cases rx
  obtain ⟨u, rfl, ru⟩ := rv.one
  cases ru
  obtain ⟨z, its, n, r, hl, e⟩ := I.lstM hH
  obtain ⟨z2, its2, n2, r2, e2⟩ := hB.ok I.hok
  have hl2 := r2.length
  have k1 : its.toArray.size + its2.toArray.size ≤ sizeLine := by rw [List.size_toArray, List.size_toArray]; omega
  have k2 : ¬ (!its.toArray.isEmpty && Builtin.List.listTooLong (its.toArray.size + its2.toArray.size)) = true := by rw [notLongL k1, Bool.and_false]; exact Bool.false_ne_true
  refine call_meets F.slot_list_extend ⟨_, e, rfl⟩ F.entry_list_extend (F.args_list_extend_2 _ _) (AutoSeq1.list_extend_list_list_0 l its.toArray n b its2.toArray n2 k2 (by rw [List.size_toArray]; omega) (by omega)) ⟨e, e2, ?_⟩
  refine ⟨.non, _, I.lset (its' := its ++ its2) hH e (by simp) (r.append r2) ?_, rfl, q⟩
  rw [List.length_append]; omega
theorem sx_ext {ρ : Env} {P : Po} {te : TE} {i : Nat} {fs : List D} (h : ρ[i]? = some (.own fs)) (k : EX te ρ fun d ρ1 => ∃ ds es, d = .list es ∧ ρ1[i]? = some (.own ds) ∧ ds.length + es.length ≤ 1000000 ∧ NX P (ρ1.set i (.own (ds ++ es)))) : SX (tDrop (tBM K "list" rExtR (tVar i) (tCons te tNil))) ρ P := fun B σ F H w Dn n r b c => by
  obtain ⟨ad, w⟩ := w
  obtain ⟨p0, vs0, _, _, k1, k0, _⟩ := w.sl i _ h
  refine ⟨_, k1, .inl ⟨rfl, _, .inl (.inl k0)⟩, k B ad σ F H w _ fun d ρ1 v F1 H1 q1 p1 r1 => ?_⟩
  obtain ⟨ds, es, rfl, h1, hz, ρ', l, q⟩ := q1
  obtain ⟨p, vs, _, _, k2, k3, rr⟩ := p1.wa.sl i _ h1
  have e := k1.symm.trans k2
  cases e
  obtain ⟨a, ws, rfl, g1, g2⟩ := r1.lst_inv
  exact ⟨_, a, vs, ws, rfl, rfl, k3, rd_mono p1.wa.gr.fh g1, Nat.le_trans (by rw [rr.len, g2.len]; exact hz) (by decide), n ρ' σ F1 _ q ((p1.wa.mut h1 k2 (rr.app g2)).weak l)⟩
end

/-! ### short forms for a run -/
section
variable {K : PySem.W.Frag} {Q : D → Prop} {i j : Int} {d d1 d2 : D} {ds es : List D}
theorem Gr.frz {F H H' : Hp} {p : Addr} {vs : List V} (e : Same F H) (g : Same H H') (hn : H p = none) (hp : H' p = some (.lst vs)) : Gr Non F H (upd F p (.lst vs)) H' where
  ff := same_upd (e.free hn)
  fh := fun a u q => by
    by_cases ha : a = p
    · subst ha; rw [upd_same] at q; rw [hp]; exact q
    · rw [upd_ne ha] at q; exact g a u (e a u q)
  kp := fun a u q _ => g a u q
  al := fun a q => by
    cases z : H a with
    | none => exact absurd z q
    | some o => rw [g a o z]; intro z; cases z
  fr := fun a q z => by
    have ha : a ≠ p := fun z => q (z ▸ hn)
    rw [upd_ne ha]; exact z
theorem opd_ofO {r : R2} (h : OpO r d1 d2 fun ds => Q (.list ds)) : OpD r d1 d2 Q := fun F H x y e rx ry Z z => h F H x y e rx ry Z fun ds p vs H' q g hn hp rv =>
  z _ _ (upd F p (.lst vs)) H' q (Gr.frz e g hn hp) (.lst (.inl upd_same) (rv.up (Gr.frz e g hn hp).ff))
theorem cbd_ofO {r : List V → Hp → VK → Prop} (h : CbO r ds fun ds => Q (.list ds)) : CbD r ds Q := fun F H vs e rv Z z => h F H vs e rv Z fun ds p vs H' q g hn hp rv =>
  z _ _ (upd F p (.lst vs)) H' q (Gr.frz e g hn hp) (.lst (.inl upd_same) (rv.up (Gr.frz e g hn hp).ff))
theorem sld_ofO {r : V → Option Int → Option Int → Hp → VK → Prop} {lo hi : Option Int} (h : SlO r d lo hi fun ds => Q (.list ds)) : SlD r d lo hi Q := fun F H x e rx Z z => h F H x e rx Z fun ds p vs H' q g hn hp rv =>
  z _ _ (upd F p (.lst vs)) H' q (Gr.frz e g hn hp) (.lst (.inl upd_same) (rv.up (Gr.frz e g hn hp).ff))
theorem opd_plusL (hz : ds.length + es.length ≤ 1000000) (k : Q (.list (ds ++ es))) : OpD (rPlus K) (.list ds) (.list es) Q := opd_ofO (opo_plusL hz k)
theorem sld_L {lo hi : Option Int} (k : Q (.list (cutD ds lo hi))) : SlD (rSl K) (.list ds) lo hi Q := sld_ofO (slo_L k)
theorem cbd_listL (k : Q (.list ds)) : CbD (rList K) [.list ds] Q := cbd_ofO (cbo_listL k)
theorem cbd_listT (k : Q (.list ds)) : CbD (rList K) [.tuple ds] Q := cbd_ofO (cbo_listT k)
theorem cbd_sortD (al : PySem.W.AllAlike ds) (so : PySem.W.Sortable ds) (hz : PyData.depthAll ds ≤ 60) (k : Q (.list (sortD ds))) : CbD (rSrD K) [.list ds] Q := cbd_ofO (cbo_sortD al so hz k)
theorem opd_eqI (k : Q (.bool (decide (i = j)))) : OpD (rEqP K) (.int i) (.int j) Q := opd_eqP (min_l (by simp [PyData.depth])) (by
  have e : PyData.eqv (.int i) (.int j) = decide (i = j) := by simp only [PyData.eqv]; exact Bool.beq_eq_decide_eq i j
  rw [e]; exact k)
theorem opd_neI (k : Q (.bool (!decide (i = j)))) : OpD (rNeP K) (.int i) (.int j) Q := opd_neP (min_l (by simp [PyData.depth])) (by
  have e : PyData.eqv (.int i) (.int j) = decide (i = j) := by simp only [PyData.eqv]; exact Bool.beq_eq_decide_eq i j
  rw [e]; exact k)
theorem opd_eqS {x y : Str} (k : Q (.bool (decide (x = y)))) : OpD (rEqP K) (.str x) (.str y) Q := opd_eqP (min_l (by simp [PyData.depth])) (by
  have e : PyData.eqv (.str x) (.str y) = decide (x = y) := by simp only [PyData.eqv]; by_cases h : x = y <;> simp [h]
  rw [e]; exact k)
theorem opd_neS {x y : Str} (k : Q (.bool (!decide (x = y)))) : OpD (rNeP K) (.str x) (.str y) Q := opd_neP (min_l (by simp [PyData.depth])) (by
  have e : PyData.eqv (.str x) (.str y) = decide (x = y) := by simp only [PyData.eqv]; by_cases h : x = y <;> simp [h]
  rw [e]; exact k)
theorem atI_in {α : Type} {xs : List α} {k : Int} (h0 : 0 ≤ k) (h1 : k < xs.length) : atI xs k = some (xs[k.toNat]'(by omega)) := by
  obtain ⟨n, rfl⟩ : ∃ n : Nat, k = (n : Int) := ⟨k.toNat, by omega⟩
  exact atI_nat (by simp)
/-- an item of a mapped list, told by a default -/
theorem atI_map {α : Type} {xs : List α} {f : α → D} {k : Int} (a : α) (h0 : 0 ≤ k) (h1 : k < xs.length) : atI (xs.map f) k = some (f (xs.getD k.toNat a)) := by
  have hk : k.toNat < xs.length := by omega
  have e := atI_in (xs := xs.map f) h0 (by rw [List.length_map]; exact h1)
  rw [e, List.getElem_map, List.getD_eq_getElem?_getD, List.getElem?_eq_getElem hk]
  rfl
theorem opd_ixM {α : Type} {xs : List α} {f : α → D} {k : Int} (a : α) (h0 : 0 ≤ k) (h1 : k < xs.length) (q : Q (f (xs.getD k.toNat a))) : OpD (rIxA K) (.list (xs.map f)) (.int k) Q := opd_ixL (atI_map a h0 h1) q
end

theorem rng_at {lo : Int} {n k : Nat} {d : D} (h : ((rngI lo n).map PyData.int)[k]? = some d) : k < n ∧ d = .int (lo + (k : Int)) := by
  have hk : k < n := by
    have := (List.getElem?_eq_some_iff.mp h).1
    rw [List.length_map, rngI_len] at this
    exact this
  rw [List.getElem?_map, rngI_get hk] at h
  exact ⟨hk, (Option.some.inj h).symm⟩
theorem rng_size (lo : Int) (n : Nat) : ((rngI lo n).map PyData.int).length = n := by rw [List.length_map, rngI_len]
theorem map_at {α : Type} {xs : List α} {f : α → D} {k : Nat} {d : D} (h : (xs.map f)[k]? = some d) : ∃ x, xs[k]? = some x ∧ d = f x := by
  rw [List.getElem?_map] at h
  cases e : xs[k]? with
  | none => rw [e] at h; cases h
  | some x => rw [e] at h; exact ⟨x, rfl, (Option.some.inj h).symm⟩

/-- what a slot that holds data gives on -/
def VQ (s : Option Slot) (Q : D → Env → Prop) (ρ : Env) : Prop := match s with
  | some (.val d) => Q d ρ
  | _ => False
theorem ex_vr {ρ : Env} {i : Nat} {Q : D → Env → Prop} (h : VQ ρ[i]? Q ρ) : EX (tVar i) ρ Q := by
  unfold VQ at h
  split at h
  · rename_i d e
    exact ex_var e h
  · exact h.elim

section
variable {K : PySem.W.Frag} {Q : D → Prop} {d : D}
/-- two times the same datum -/
theorem opd_eqSelf (h : d.depth ≤ 60) (k : Q (.bool true)) : OpD (rEqP K) d d Q := fun F H x y e rx ry Z z => opd_eqP (Q := Q) (min_l h) (by rw [PySem.SeqAt.eqv_refl_plain d (Rp.plain d rx)]; exact k) F H x y e rx ry Z z
theorem opd_neSelf (h : d.depth ≤ 60) (k : Q (.bool false)) : OpD (rNeP K) d d Q := fun F H x y e rx ry Z z => opd_neP (Q := Q) (min_l h) (by rw [PySem.SeqAt.eqv_refl_plain d (Rp.plain d rx)]; exact k) F H x y e rx ry Z z
/-! pairs of ints -/
def ltP (a b : Int × Int) : Bool := decide (a.1 < b.1 ∨ a.1 = b.1 ∧ a.2 < b.2)
def encP (p : Int × Int) : D := .tuple [.int p.1, .int p.2]
theorem dataLt_P (a b : Int × Int) : PySem.W.dataLt (encP a) (encP b) = ltP a b := by
  unfold encP ltP
  rw [PySem.W.dataLt_pair rfl rfl]
  simp only [PyData.eqv, PySem.W.dataLt_int]
  by_cases h : a.1 = b.1
  · by_cases h2 : a.2 = b.2
    · simp [h, h2]
    · simp [h, h2]
  · simp [h]
def minPs : List (Int × Int) → Int × Int
  | [] => (0, 0)
  | p :: ps => ps.foldl (fun a y => if ltP y a = true then y else a) p
theorem minD_P (p : Int × Int) (ps : List (Int × Int)) : PySem.W.minD (encP p) (ps.map encP) = encP (minPs (p :: ps)) := by
  have h : ∀ (qs : List (Int × Int)) (a : Int × Int), (qs.map encP).foldl (fun a y => if PySem.W.dataLt y a then y else a) (encP a) = encP (qs.foldl (fun a y => if ltP y a = true then y else a) a) := by
    intro qs
    induction qs with
    | nil => intro a; rfl
    | cons q qs ih =>
      intro a
      simp only [List.map_cons, List.foldl_cons, dataLt_P]
      by_cases h : ltP q a = true
      · rw [if_pos h, if_pos h]; exact ih q
      · rw [if_neg h, if_neg h]; exact ih a
  exact h ps p
theorem alike_P (ps : List (Int × Int)) : PySem.W.AlikeAll (ps.map encP) := ⟨fun x hx y hy => by
  obtain ⟨a, _, rfl⟩ := List.mem_map.mp hx
  obtain ⟨b, _, rfl⟩ := List.mem_map.mp hy
  rfl, fun x hx => by
  obtain ⟨a, _, rfl⟩ := List.mem_map.mp hx
  intro z; cases z⟩
theorem cbd_minP {ps : List (Int × Int)} (h : 0 < ps.length) (k : Q (encP (minPs ps))) : CbD (rMnD K) [.list (ps.map encP)] Q := by
  cases ps with
  | nil => cases h
  | cons p ps =>
    refine cbd_minD (alike_P (p :: ps)) (depthAll_le (dpn_map (xs := p :: ps) fun x _ => dpn_tup (dpn_cons dpn_int (dpn_cons dpn_int dpn_nil)))) ?_
    have e := minD_P p ps
    show Q (PySem.W.minD (encP p) (ps.map encP))
    rw [e]
    exact k
theorem minPs_mem : ∀ {ps : List (Int × Int)}, 0 < ps.length → minPs ps ∈ ps
  | p :: ps, _ => by
    have : ∀ (qs : List (Int × Int)) (a : Int × Int), qs.foldl (fun a y => if ltP y a = true then y else a) a ∈ a :: qs := by
      intro qs
      induction qs with
      | nil => intro a; simp
      | cons e es ih =>
        intro a
        rw [List.foldl_cons]
        have q := ih (if ltP e a = true then e else a)
        by_cases c : ltP e a = true
        · rw [if_pos c] at q ⊢; exact List.mem_cons_of_mem _ q
        · rw [if_neg c] at q ⊢
          rcases List.mem_cons.mp q with q | q
          · rw [q]; exact List.mem_cons_self
          · exact List.mem_cons_of_mem _ (List.mem_cons_of_mem _ q)
    exact this ps p
end

/-! ### the ends: nothing asked, the law's own argument -/
section
variable {P : Program} {w : World} {K : PySem.W.Frag} {mg : Str → Option Value} {base : Heap} {f : Addr} {fd : FuncData} {k : Nat} {ps : List Str}
theorem fn_no {sp : Sp} (no : ∀ vs H Q E, ¬ sp vs H Q E) : FnOk P w K mg base CX0 k f fd ps sp := ⟨fun vs H Q E h => absurd h (no vs H Q E), fun A outer s H args us vs Q E _ _ _ _ h => absurd h (no vs H Q E)⟩
theorem fn_noP {R : List D → (D → Prop) → Prop} (no : ∀ ds Z, ¬ R ds Z) : FnOk P w K mg base CX0 k f fd ps (spP R) := fn_no fun vs H Q E h => by
  obtain ⟨F, ds, Z, _, _, q, _⟩ := h
  exact no ds Z q
theorem fn_noS {R : Stt → List D → (D → Stt → Prop) → Prop} (no : ∀ S ds Z, ¬ R S ds Z) : FnOk P w K mg base CX0 k f fd ps (spS R) := fn_no fun vs H Q E h => by
  obtain ⟨F, s, as, S, us, ds, Z, _, _, _, _, _, q, _⟩ := h
  exact no S ds Z q
/-- the written part holds no list -/
def noLs (K : PySem.W.Frag) : Bool := K.all fun p => match p.2.cls with
  | .type s => !(s == "list")
  | _ => true
theorem noLs_at {K : PySem.W.Frag} (h : noLs K = true) : ∀ {a : Addr} {o : Obj}, K.lookup a = some o → o.cls ≠ .type "list" := by
  intro a o e q
  unfold noLs at h
  induction K with
  | nil => cases e
  | cons p r ih =>
    obtain ⟨b, x⟩ := p
    simp only [List.all_cons, Bool.and_eq_true] at h
    simp only [List.lookup] at e
    split at e
    · cases e
      have h1 := h.1
      rw [q] at h1
      revert h1
      decide
    · exact ih h.2 e
theorem sqL_noK {H : Hp} {a : Addr} {xs : List V} (h : noLs K = true) (s : SqL K H a xs) : Rd H a (.lst xs) := by
  rcases s with s | ⟨o, its, n, e, c, _⟩
  · exact s
  · exact absurd c (noLs_at h e)
theorem rpa_ints {F : Hp} : ∀ ns : List Int, RpA F (ns.map V.int) (ns.map PyData.int)
  | [] => .nil
  | n :: ns => .cons (.int n) (rpa_ints ns)
theorem sp_law {R : List D → (D → Prop) → Prop} {H : Hp} {a : Addr} {ns : List Int} {E : XK} (nl : noLs K = true) (s : SqL K H a (ns.map V.int)) (hR : R [.list (ns.map .int)] fun d => d = .bool true) : spP R [.ref a] H (fun v _ => v = .bl true) E :=
  ⟨H, _, _, fun _ _ h => h, .cons (.lst (sqL_noK nl s) (rpa_ints ns)) .nil, hR, fun d v F' H' e _ rv => by
    subst e
    cases rv
    rfl⟩
end
end Pu
/-! the laws' drawing state: its making and its draws, once for all laws -/
namespace Pu
open PySem L2
def R_state : List D → (Stt → Prop) → Prop := fun ds Z => ∃ ns : List Int, ds = [.list (ns.map .int)] ∧ ∀ S, Ok S → Z S
/-- what is drawn: any number below the bound -/
def R_take : Stt → List D → (D → Stt → Prop) → Prop := fun S ds Z => ∃ m : Int, ds = [.int m] ∧ 1 ≤ m ∧ m < 1073741824 ∧ Ok S ∧ ∀ r S', 0 ≤ r → r < m → Ok S' → Z (.int r) S'
def T_state (K : PySem.W.Frag) : TS :=
    (tSeq (tAsg (tLc (iList K (tSl (rSl K) (tVar 0) tNoPart (tPart (tC (.int 63))))) (gName 2) tYes (tCB (rAbs) (tCons (tVar 2) tNil)) [2]) (gName 1))
    (tSeq (tIfS (tTest (tOp (rEqP K) (tCB (rLen K) (tCons (tVar 1) tNil)) (tC (.int 0))))
      (tAsg (tLst (tCons (tC (.int 0)) tNil)) (gName 1))
      tNext)
    (tRet (tLst (tCons (tC (.int 0)) (tCons (tVar 1) tNil))))))
def T_take (K : PySem.W.Frag) : TS :=
    (tSeq (tAsg (tOp (rIxA K) (tVar 0) (tC (.int 1))) (gName 2))
    (tSeq (tAsg (tOp (rI (fun _ j => 0 < j) fun i j => .int (i % j)) (tOp (rIxA K) (tVar 0) (tC (.int 0))) (tCB (rLen K) (tCons (tVar 2) tNil))) (gName 3))
    (tSeq (tAsg (tOp (rIxA K) (tVar 2) (tVar 3)) (gName 4))
    (tSeq (tIfS (tTest (tOp (rI0 fun i j => .bl (decide (j ≤ i))) (tVar 4) (tC (.int 1000000000000000000))))
      (tSeq (tAsg (tOp (rI CDiv fun i j => .int (i / j)) (tVar 4) (tVar 1)) (gSub (tVar 2) (tVar 3) rSetL))
    (tRet (tOp (rI (fun _ j => 0 < j) fun i j => .int (i % j)) (tVar 4) (tVar 1))))
      tNext)
    (tSeq (tAsg (tOp (rPlus K) (tOp (rIxA K) (tVar 0) (tC (.int 0))) (tC (.int 1))) (gSub (tVar 0) (tC (.int 0)) rSetL))
    (tSeq (tAsg (tOp (rI (fun _ j => 0 < j) fun i j => .int (i % j)) (tCB (rInt) (tCons (tOp (rPlus K) (tOp (rI CMul fun i j => .int (i * j)) (tVar 4) (tC (.int 48271))) (tOp (rI CMul fun i j => .int (i * j)) (tOp (rIxA K) (tVar 0) (tC (.int 0))) (tC (.int 69621)))) tNil)) (tC (.int 2147483647))) (gName 5))
    (tSeq (tAsg (tOp (rI (fun _ j => 0 < j) fun i j => .int (i % j)) (tCB (rInt) (tCons (tOp (rPlus K) (tOp (rI CMul fun i j => .int (i * j)) (tVar 5) (tC (.int 16807))) (tOp (rI CMul fun i j => .int (i * j)) (tOp (rIxA K) (tVar 0) (tC (.int 0))) (tC (.int 7919)))) tNil)) (tC (.int 1000000007))) (gName 5))
    (tRet (tOp (rI (fun _ j => 0 < j) fun i j => .int (i % j)) (tOp (rI CDiv fun i j => .int (i / j)) (tVar 5) (tC (.int 7))) (tVar 1))))))))))
theorem W.first {F H : Hp} {N : List Str} {vs : List V} {ds : List D} (fh : Same F H) (r : RpA F vs ds) : W { F0 := F, H0 := H, M := Non } (startE N ds) (L2.start N vs) F H := by
  refine ⟨fun _ => [], Gr.refl fh, ?_, fun i s e => ?_, (fun i p m => by cases m), (fun i j p m => by cases m), fun _ _ => rfl, (fun s as e => by cases e)⟩
  · unfold L2.start startE
    rw [List.length_append, List.length_append, List.length_map, List.length_map, List.length_replicate, List.length_replicate, r.len]
  · rcases startE_get e with ⟨d, e2, rfl⟩ | rfl
    · obtain ⟨v, e1, rv⟩ := r.get e2
      exact ⟨rfl, v, start_get e1, rv⟩
    · rfl
theorem mem_cut {xs : List D} {lo hi : Option Int} {x : D} (h : x ∈ cutD xs lo hi) : x ∈ xs := List.mem_of_mem_drop (List.mem_of_mem_take h)
theorem cut_map {α : Type} {f : α → D} (xs : List α) (lo hi : Option Int) : ∃ ys : List α, cutD (xs.map f) lo hi = ys.map f ∧ ys.length ≤ xs.length := by
  refine ⟨(xs.drop (HT.sIx (xs.map f).length 0 lo)).take (HT.sIx (xs.map f).length (xs.map f).length hi - HT.sIx (xs.map f).length 0 lo), ?_, ?_⟩
  · unfold cutD
    rw [← List.map_drop, ← List.map_take]
  · rw [List.length_take, List.length_drop]
    omega
theorem run_state {K : PySem.W.Frag} {vs : List V} {H : Hp} {Q : VK} {E : XK} (h : spN R_state vs H Q E) : T_state K { nx := fun _ H' => Q .non H', rt := Q } (L2.start ["script", "cells", "cell"] vs) H := by
  obtain ⟨F, ds, Z, fh, r, ⟨ns, rfl, hz⟩, z⟩ := h
  -- the cells, then the state
  have s1 : SX (tAsg (tLc (iList K (tSl (rSl K) (tVar 0) tNoPart (tPart (tC (.int 63))))) (gName 2) tYes (tCB (rAbs) (tCons (tVar 2) tNil)) [2]) (gName 1)) [.val (.list (ns.map .int)), .emp, .emp]
      { nx := fun ρ' => ∃ cs : List Int, (cs.length ≤ 63 ∧ ∀ c ∈ cs, 0 ≤ c) ∧ ρ' = [.val (.list (ns.map .int)), .own (cs.map .int), .emp], rt := fun _ _ => False } := by
    refine sx_asgO (eo_lcP (α := Int) (fun _ => true) (fun c => .int (c.natAbs : Int)) (ei_list (ex_of (eo_sl (ex_var rfl (ep_no (ep_some (ex_int ⟨63, rfl, slo_L ?_⟩))))))))
    obtain ⟨ys, ey, ly⟩ : ∃ ys : List Int, cutD (ns.map PyData.int) none (some 63) = ys.map PyData.int ∧ ys.length ≤ 63 := by
      refine ⟨(ns.drop (HT.sIx (ns.map PyData.int).length 0 none)).take (HT.sIx (ns.map PyData.int).length (ns.map PyData.int).length (some 63) - HT.sIx (ns.map PyData.int).length 0 none), ?_, ?_⟩
      · unfold cutD
        rw [← List.map_drop, ← List.map_take]
      · rw [List.length_take]
        refine Nat.le_trans (Nat.min_le_left _ _) ?_
        unfold HT.sIx
        simp
        omega
    refine ⟨_, rfl, ys, .int, ey, by omega, fun i hi => by simp at hi; subst hi; rfl, fun x _ => sg_name (by simp) ⟨rfl, et_yes ⟨rfl, rfl, fun _ => ex_cb (ea_cons (ex_var rfl (ea_nil (cbd_abs ⟨rfl, rfl⟩))))⟩⟩, ?_⟩
    refine nx_same ⟨ys.map fun c => (c.natAbs : Int), ⟨by rw [List.length_map]; exact ly, fun c hc => ?_⟩, ?_⟩
    · obtain ⟨x, _, rfl⟩ := List.mem_map.mp hc
      omega
    · rw [List.filter_eq_self.mpr (fun _ _ => rfl), List.map_map]
      rfl
  have s2 : ∀ cs : List Int, (cs.length ≤ 63 ∧ ∀ c ∈ cs, 0 ≤ c) → SX (tIfS (tTest (tOp (rEqP K) (tCB (rLen K) (tCons (tVar 1) tNil)) (tC (.int 0)))) (tAsg (tLst (tCons (tC (.int 0)) tNil)) (gName 1)) tNext) [.val (.list (ns.map .int)), .own (cs.map .int), .emp]
      { nx := fun ρ' => ∃ cs : List Int, (0 < cs.length ∧ cs.length ≤ 63 ∧ ∀ c ∈ cs, 0 ≤ c) ∧ ρ' = [.val (.list (ns.map .int)), .own (cs.map .int), .emp], rt := fun _ _ => False } := fun cs hcs => by
    refine sx_if (et_test (ex_op (ex_lenO rfl (ex_int (opd_eqP (min_l (by simp [PyData.depth])) ⟨_, rfl, fun hb => ?_, fun hb => ?_⟩)))))
    · exact sx_asgO (eo_lst (ea_cons (ex_int (ea_nil ⟨by simp, nx_same ⟨[0], by simp, rfl⟩⟩))))
    · refine sx_next (nx_same ⟨cs, ⟨?_, hcs⟩, rfl⟩)
      simp only [PyData.eqv, List.length_map, beq_eq_false_iff_ne, ne_eq] at hb
      omega
  have w0 := W.first (N := ["script", "cells", "cell"]) fh r
  refine s1 _ _ F H w0 _ (fun ρ1 σ1 F1 H1 q1 w1 => ?_) (fun _ _ _ _ _ _ q => q.elim) (fun _ _ _ _ q => q.elim) (fun _ _ _ _ q => q.elim)
  obtain ⟨cs, hcs, rfl⟩ := q1
  refine s2 cs hcs _ _ F1 H1 w1 _ (fun ρ2 σ2 F2 H2 q2 w2 => ?_) (fun _ _ _ _ _ _ q => q.elim) (fun _ _ _ _ q => q.elim) (fun _ _ _ _ q => q.elim)
  obtain ⟨cs, hcs, rfl⟩ := q2
  obtain ⟨ad, w2⟩ := w2
  obtain ⟨p, us, ka, k0, k1, k2, kr⟩ := w2.sl 1 _ rfl
  refine ⟨_, k1, by show 2 ≤ sizeLine; decide, fun q hq => ?_⟩
  have nq := w2.newp hq
  have npq : p ≠ q := ne_of_none k2 hq
  have g := w2.gr
  refine z (.cel 0 cs) q [q, p] F2 _ (hz _ ⟨hcs.1, by omega, Int.le_refl 0, hcs.2.2⟩) ⟨g.ff, g.fh.trans (same_upd hq), fun a o e m => same_upd hq _ _ (g.kp a o e m), fun a e => ?_, g.fr⟩ ⟨p, rfl, npq.symm, upd_same, ?_⟩ fun a ha => ?_
  · by_cases ha : a = q
    · rw [ha, upd_same]; intro z; cases z
    · rw [upd_ne ha]; exact g.al a e
  · rw [upd_ne npq, k2, kr.ints_inv]
  · have e : a = q ∨ a = p := by simpa using ha
    rcases e with e | e
    · rw [e]; exact ⟨nq.1, nq.2.1⟩
    · rw [e]; exact ⟨(w2.fz 1 p (by rw [ka]; simp)).1, k0⟩
theorem run_take {K : PySem.W.Frag} {vs : List V} {H : Hp} {Q : VK} {E : XK} (h : spS R_take vs H Q E) : T_take K { nx := fun _ H' => Q .non H', rt := Q } (L2.start ["state", "most", "cells", "at", "cell", "mixed"] vs) H := by
  obtain ⟨F, s, as, S, us, ds, Z, rfl, fh, sa, fn, r, ⟨m, rfl, hm1, hm2, ok, hz⟩, z⟩ := h
  obtain ⟨v, rfl, rv⟩ := r.one
  have ev := rv.int_inv
  subst ev
  cases S with
  | two a b => exact ok.elim
  | dct kvs => exact ok.elim
  | dbl ks => exact ok.elim
  | grd rows => exact ok.elim
  | obj C fs => exact ok.elim
  | dtt kvs => exact ok.elim
  | cel a cs =>
    obtain ⟨c, rfl, ne, hs, hc⟩ := sa
    obtain ⟨hl, hl2, ha, hcs⟩ := ok
    have hlen : (cs.map V.int).length = cs.length := List.length_map _
    have hi0 : 0 ≤ a % (cs.length : Int) := Int.emod_nonneg _ (by omega)
    have hi1 : a % (cs.length : Int) < (cs.length : Int) := Int.emod_lt_of_pos _ (by omega)
    obtain ⟨i, ei⟩ : ∃ i : Nat, a % (cs.length : Int) = (i : Int) := ⟨(a % (cs.length : Int)).toNat, by omega⟩
    have hi : i < cs.length := by omega
    -- cells = state[1]; at = state[0] % len(cells); cell = cells[at]
    refine ⟨_, rfl, .inl ⟨s, _, 1, .ref c, rfl, rfl, .inl (.inl hs), rfl, ?_⟩⟩
    refine ⟨_, rfl, .inl ⟨s, _, 0, .int a, rfl, rfl, .inl (.inl hs), rfl, ?_⟩⟩
    refine ⟨_, rfl, _, cs.length, rfl, .inl ⟨_, .inl (.inl hc), hlen.symm⟩, a, (cs.length : Int), rfl, rfl, by omega, ?_⟩
    refine ⟨_, rfl, _, rfl, .inl ⟨c, _, (i : Int), .int cs[i], rfl, congrArg V.int ei, .inl (.inl hc), atI_nat (by rw [List.getElem?_map, List.getElem?_eq_getElem hi]; rfl), ?_⟩⟩
    refine ⟨_, rfl, _, _, rfl, rfl, _, rfl, ?_⟩
    have gr : ∀ H', (∀ b o, H b = some o → b ≠ s → b ≠ c → H' b = some o) → (∃ o, H' s = some o) → (∃ o, H' c = some o) → Gr (· ∈ [s, c]) F H F H' := fun H' k1 k2 k3 => by
      have fs := fn s (by simp)
      have fc := fn c (by simp)
      refine ⟨Same.refl F, fun b o e => k1 b o (fh b o e) (fun q => by rw [q, fs] at e; cases e) (fun q => by rw [q, fc] at e; cases e), fun b o e m => k1 b o e (fun q => m (by simp [q])) (fun q => m (by simp [q])), fun b e => ?_, fun _ _ z => z⟩
      by_cases h1 : b = s
      · obtain ⟨o, k⟩ := k2
        rw [h1, k]; intro z; cases z
      · by_cases h2 : b = c
        · obtain ⟨o, k⟩ := k3
          rw [h2, k]; intro z; cases z
        · cases q : H b with
          | none => exact absurd q e
          | some o => rw [k1 b o q h1 h2]; intro z; cases z
    refine ite2 (fun hbig => ?_) (fun hsmall => ?_)
    · -- cells[at] = cell // most; return cell % most
      refine ⟨_, rfl, _, rfl, cs[i], m, rfl, rfl, ⟨by omega, by omega⟩, ?_⟩
      refine ⟨_, rfl, _, rfl, c, _, (i : Int), i, rfl, congrArg V.int ei, hc, ?_, ?_⟩
      · unfold ixN
        rw [hlen, if_pos (by omega), if_pos (by omega)]
        simp
      refine ⟨_, rfl, _, rfl, cs[i], m, rfl, rfl, by omega, ?_⟩
      have hd : 0 ≤ cs[i] := hcs _ (List.getElem_mem hi)
      refine z (.int (cs[i] % m)) (.cel a (cs.set i (cs[i] / m))) _ F _ (hz _ _ (Int.emod_nonneg _ (by omega)) (Int.emod_lt_of_pos _ (by omega)) ⟨by rw [List.length_set]; exact hl, by rw [List.length_set]; exact hl2, ha, fun x hx => ?_⟩) (gr _ (fun b o e h1 h2 => by rw [upd_ne h2]; exact e) ⟨_, by rw [upd_ne ne]; exact hs⟩ ⟨_, upd_same⟩) ⟨c, rfl, ne, by rw [upd_ne ne]; exact hs, by rw [upd_same, List.map_set]⟩ fn (.int _)
      rcases List.mem_or_eq_of_mem_set hx with h | h
      · exact hcs x h
      · rw [h]; exact Int.ediv_nonneg hd (by omega)
    · -- state[0] = state[0] + 1
      refine ⟨_, rfl, .inl ⟨s, _, 0, .int a, rfl, rfl, .inl (.inl hs), rfl, ?_⟩⟩
      refine .inl (.inl ⟨a, 1, rfl, rfl, ?_⟩)
      refine ⟨_, rfl, s, _, 0, 0, rfl, rfl, hs, rfl, ?_⟩
      have hs' : upd H s (.lst ([.int a, .ref c].set 0 (.int (a + 1)))) s = some (.lst [.int (a + 1), .ref c]) := upd_same
      -- mixed
      refine ⟨_, rfl, _, _, rfl, rfl, .inr ⟨by decide, by decide⟩, ?_⟩
      refine ⟨_, rfl, .inl ⟨s, _, 0, .int (a + 1), rfl, rfl, .inl (.inl hs'), rfl, ?_⟩⟩
      refine ⟨_, _, rfl, rfl, .inr ⟨by decide, by decide⟩, ?_⟩
      refine .inl (.inl ⟨_, _, rfl, rfl, ?_⟩)
      refine .inl ⟨_, rfl, ?_⟩
      refine ⟨_, _, rfl, rfl, (by decide : (0 : Int) < 2147483647), ?_⟩
      refine ⟨_, rfl, _, _, rfl, rfl, .inr ⟨by decide, by decide⟩, ?_⟩
      refine ⟨_, rfl, .inl ⟨s, _, 0, .int (a + 1), rfl, rfl, .inl (.inl hs'), rfl, ?_⟩⟩
      refine ⟨_, _, rfl, rfl, .inr ⟨by decide, by decide⟩, ?_⟩
      refine .inl (.inl ⟨_, _, rfl, rfl, ?_⟩)
      refine .inl ⟨_, rfl, ?_⟩
      refine ⟨_, _, rfl, rfl, (by decide : (0 : Int) < 1000000007), ?_⟩
      refine ⟨_, rfl, _, _, rfl, rfl, ⟨by decide, by decide⟩, ?_⟩
      refine ⟨_, rfl, _, _, rfl, rfl, by omega, ?_⟩
      exact z _ (.cel (a + 1) cs) _ F _ (hz _ _ (Int.emod_nonneg _ (by omega)) (Int.emod_lt_of_pos _ (by omega)) ⟨hl, hl2, by omega, hcs⟩) (gr _ (fun b o e h1 h2 => by rw [upd_ne h1]; exact e) ⟨_, upd_same⟩ ⟨_, by rw [upd_ne ne.symm]; exact hc⟩) ⟨c, rfl, ne, hs', by rw [upd_ne ne.symm]; exact hc⟩ fn (.int _)

section
variable {P : Program} {w : World} {K : PySem.W.Frag} {mg : Str → Option Value} {base : Heap} {f : Addr} {fd : FuncData} {k : Nat} {x qual : Str} {st : Stmt}
theorem fn_newstate (F : Fun K x qual st f fd) (S : FnScope ["script", "cells", "cell"] ["script"] (defScope st))
    (body : ∀ (cdv : Value) (A : Around) (outer : List PySem.Env) (s : Shared) (H : Hp) (E : XK), Room k (A.deeper (PyProof.Rows.envOfC qual (defScope st) s.heap.objs.size f cdv)) →
      PSs (cxOf CX0 P w K mg base ["script", "cells", "cell"] qual (defScope st) f cdv A outer s H E).nox (defBody st) (T_state K)) : FnOk P w K mg base CX0 (k + 1) f fd ["script"] (spN R_state) :=
  F.ok S (fun vs H Q E h => by
    obtain ⟨F, ds, Z, _, r, ⟨ns, rfl, _⟩, _⟩ := h
    rw [r.len]; rfl) fun cdv A outer s H vs Q E hr h => ⟨_, body cdv A outer s H E hr, run_state h⟩
theorem fn_take (F : Fun K x qual st f fd) (S : FnScope ["state", "most", "cells", "at", "cell", "mixed"] ["state", "most"] (defScope st))
    (body : ∀ (cdv : Value) (A : Around) (outer : List PySem.Env) (s : Shared) (H : Hp) (E : XK), Room k (A.deeper (PyProof.Rows.envOfC qual (defScope st) s.heap.objs.size f cdv)) →
      PSs (cxOf CX0 P w K mg base ["state", "most", "cells", "at", "cell", "mixed"] qual (defScope st) f cdv A outer s H E).nox (defBody st) (T_take K)) : FnOk P w K mg base CX0 (k + 1) f fd ["state", "most"] (spS R_take) :=
  F.ok S (fun vs H Q E h => by
    obtain ⟨F, s, as, S, us, ds, Z, rfl, _, _, _, r, ⟨m, rfl, _⟩, _⟩ := h
    rw [List.length_cons, r.len]; rfl) fun cdv A outer s H vs Q E hr h => ⟨_, body cdv A outer s H E hr, run_take h⟩
end
end Pu
/-! PuC: xs[::-1], xs.index(n), sorted rows -/
namespace Pu
open PySem L2
section
variable {ρ : Pu.Env} {te to : TE} {t : TA} {K : PySem.W.Frag} {Q : D → Pu.Env → Prop}
theorem ex_revL (h : EX te ρ fun d ρ1 => ∃ ds, d = .list ds ∧ Q (.list ds.reverse) ρ1) : EX (tRevL K te) ρ Q := fun B ad σ F H w Z z =>
  h B ad σ F H w _ fun d1 ρ1 x F1 H1 q1 p1 r1 => by
    obtain ⟨ds, rfl, q⟩ := q1
    obtain ⟨a, xs, rfl, h1, h2⟩ := r1.lst_inv
    refine ⟨a, xs, rfl, sqL_rd h1 p1.wa.gr.fh, fun p hp => ?_⟩
    have g := Gr.frz (F := F1) (H := H1) (H' := upd H1 p (.lst xs.reverse)) (p := p) (vs := xs.reverse) p1.wa.gr.fh (same_upd hp) hp upd_same
    exact z _ ρ1 _ _ _ q (p1.trans (Post.of p1.wa g)) (.lst (.inl upd_same) (h2.rev.up g.ff))
/-- a method that changes nothing -/
def MtD (r : V → List V → Hp → VK → Prop) (d : D) (es : List D) (Q : D → Prop) : Prop := ∀ (F H : Hp) (x : V) (vs : List V), Same F H → Rp F x d → RpA F vs es → ∀ Z : VK, (∀ e v F' H', Q e → Gr Non F H F' H' → Rp F' v e → Z v H') → r x vs H Z
theorem ex_bmL {r : V → List V → Hp → VK → Prop} (h : EX to ρ fun d ρ1 => ∃ ds, d = .list ds ∧ EA t ρ1 fun es ρ2 => MtD r (.list ds) es fun e => Q e ρ2) : EX (tBM K "list" r to t) ρ Q := fun B ad σ F H w Z z =>
  h B ad σ F H w _ fun d1 ρ1 x F1 H1 q1 p1 r1 => by
    obtain ⟨ds, rfl, q⟩ := q1
    obtain ⟨a, xs, rfl, h1, h2⟩ := r1.lst_inv
    refine ⟨?_, q B ad σ F1 H1 p1.wa _ fun es ρ2 vs F2 H2 q2 p2 r2 => ?_⟩
    · exact .inl ⟨rfl, xs, sqL_rd h1 p1.wa.gr.fh⟩
    · exact q2 F2 H2 (.ref a) vs p2.wa.gr.fh (r1.up p2.gr.ff) r2 Z fun e v F' H' k g rv => z e ρ2 v F' H' k ((p1.trans p2).trans (Post.of p2.wa g)) rv
theorem rpa_intsI {F : Hp} : ∀ {ns : List Int} {vs : List V}, RpA F vs (ns.map .int) → vs = ns.map V.int
  | [], _, h => by cases h; rfl
  | n :: ns, _, h => by
    cases h with
    | cons h1 h2 => rw [h1.int_inv, rpa_intsI h2]; rfl
theorem mtd_indexI {ns : List Int} {n : Int} {Q : D → Prop} (hn : n ∈ ns) (k : Q (.int (ns.idxOf n : Nat))) : MtD (rIndex K) (.list (ns.map .int)) [.int n] Q := fun F H x vs e r rv Z z => by
  obtain ⟨a, xs, rfl, h1, h2⟩ := r.lst_inv
  obtain ⟨v, rfl, rv1⟩ := rv.one
  have e1 := rv1.int_inv
  have e2 := rpa_intsI h2
  subst e1 e2
  have hl : ns.idxOf n < ns.length := List.idxOf_lt_length_iff.mpr hn
  refine ⟨a, ns.map V.int, .int n, ns.idxOf n, .int n, rfl, rfl, sqL_rd h1 e, rfl, ?_, ?_, ?_, fun m z' hm hz => ?_, z _ _ F H k (Gr.refl e) (.int _)⟩
  · rw [List.all_eq_true]
    intro x hx
    obtain ⟨i, _, rfl⟩ := List.mem_map.mp hx
    rfl
  · rw [List.getElem?_map, List.getElem?_eq_getElem hl, List.getElem_idxOf hl]; rfl
  · show (n == n) = true
    simp
  · rw [List.getElem?_map] at hz
    have hml : m < ns.length := by omega
    rw [List.getElem?_eq_getElem hml] at hz
    cases hz
    show (ns[m] == n) = false
    exact List.not_of_lt_findIdx (p := fun x => x == n) hm
end
/-! sorted -/
theorem uniq_of {α : Type} {le : α → α → Bool} (anti : ∀ a b, le a b = true → le b a = true → a = b) : ∀ {xs ys : List α}, xs.Perm ys → xs.Pairwise (fun a b => le a b = true) → ys.Pairwise (fun a b => le a b = true) → xs = ys
  | [], ys, p, _, _ => (List.nil_perm.mp p).symm
  | a :: xs, [], p, _, _ => absurd p.length_eq (by simp)
  | a :: xs, b :: ys, p, h1, h2 => by
    have e : a = b := by
      by_cases e : a = b
      · exact e
      · have ha : a ∈ ys := (List.mem_cons.mp (p.mem_iff.mp (by simp : a ∈ a :: xs))).resolve_left e
        have hb : b ∈ xs := (List.mem_cons.mp (p.mem_iff.mpr (by simp : b ∈ b :: ys))).resolve_left (fun q => e q.symm)
        exact anti a b ((List.pairwise_cons.mp h1).1 b hb) ((List.pairwise_cons.mp h2).1 a ha)
    subst e
    rw [uniq_of anti (p.cons_inv) (List.pairwise_cons.mp h1).2 (List.pairwise_cons.mp h2).2]
theorem sortD_of {α : Type} {enc : α → D} {xs ys : List α} {lt : α → α → Bool} (hlt : ∀ a b, PySem.W.dataLt (enc a) (enc b) = lt a b) (ntr : ∀ a b c, lt b a = false → lt c b = false → lt c a = false) (as : ∀ a b, lt a b = true → lt b a = false) (tot : ∀ a b, lt a b = false → lt b a = false → a = b)
    (hp : xs.Perm ys) (hs : ys.Pairwise fun a b => lt a b = true) : sortD (xs.map enc) = ys.map enc := by
  have e := PySem.W.sort_maps (r := fun a b => !lt b a) (s := PySem.W.dataLe false id) enc (l := xs) (fun a _ b _ => by
    show (!lt b a) = (!PySem.W.dataLt (enc b) (enc a))
    rw [hlt])
  show (xs.map enc).mergeSort (PySem.W.dataLe false id) = ys.map enc
  rw [← e]
  have u : xs.mergeSort (fun a b => !lt b a) = ys := uniq_of (le := fun a b => !lt b a) (fun a b h1 h2 => by
      simp only [Bool.not_eq_true'] at h1 h2
      exact tot a b h2 h1) ((List.mergeSort_perm _ _).trans hp) (List.pairwise_mergeSort (fun a b c h1 h2 => by
        simp only [Bool.not_eq_true'] at h1 h2 ⊢
        exact ntr a b c h1 h2) (fun a b => by
        cases h : lt b a with
        | false => rfl
        | true => simp [as _ _ h]) xs) (hs.imp fun {a b} h => by simp [as _ _ h])
  rw [u]
/-! ### dict(pairs of ints), d[k] -/
section
variable {ρ : Pu.Env} {ty : TE} {K : PySem.W.Frag} {Q : D → Pu.Env → Prop}
def kvOf (p : Int × Int) : Key × V := ((.inl p.1 : Key), V.int p.2)
/-- pairs with different keys -/
def R_dict : List D → (Stt → Prop) → Prop := fun ds Z => ∃ kvs : List (Int × Int), ds = [.list (kvs.map encP)] ∧ (kvs.map Prod.fst).Nodup ∧ Z (.dct kvs)
theorem merge_new : ∀ (more acc : List (Int × Int)), ((acc ++ more).map Prod.fst).Nodup → mergeK (acc.map kvOf) (more.map kvOf) = (acc ++ more).map kvOf
  | [], acc, _ => by simp [mergeK]
  | p :: more, acc, h => by
    have h2 : ((acc ++ [p] ++ more).map Prod.fst).Nodup := by simpa using h
    have ih := merge_new more (acc ++ [p]) h2
    have np : ∀ q ∈ acc, q.1 ≠ p.1 := fun q hq e => by
      have h3 : ((acc.map Prod.fst) ++ (p.1 :: more.map Prod.fst)).Nodup := by simpa using h
      exact (List.nodup_append.mp h3).2.2 q.1 (List.mem_map_of_mem hq) p.1 (by simp) e
    have e1 : ((acc.map kvOf).any fun kv => decide (kv.1 = (kvOf p).1)) = false := by
      rw [List.any_eq_false]
      intro x hx
      obtain ⟨q, hq, rfl⟩ := List.mem_map.mp hx
      simp only [decide_eq_true_eq, kvOf, Sum.inl.injEq]
      exact np q hq
    show mergeK (putK (acc.map kvOf) (kvOf p).1 (kvOf p).2) (more.map kvOf) = _
    unfold putK
    rw [e1, if_neg Bool.false_ne_true]
    have e2 : acc.map kvOf ++ [((kvOf p).1, (kvOf p).2)] = (acc ++ [p]).map kvOf := by simp
    rw [e2, ih]
    simp
theorem paired_of {H F : Hp} (e : Same F H) : ∀ {kvs : List (Int × Int)} {xs : List V}, RpA F xs (kvs.map encP) → ∃ ps : List Addr, xs = ps.map V.ref ∧ Paired (fun p kv => SqT K H p [kV kv.1, kv.2]) ps (kvs.map kvOf)
  | [], _, h => by cases h; exact ⟨[], rfl, .nil⟩
  | p :: kvs, _, h => by
    cases h with
    | cons h1 h2 =>
      obtain ⟨ps, rfl, hp⟩ := paired_of e h2
      obtain ⟨a, ys, rfl, g1, g2⟩ := h1.tup_inv
      obtain ⟨u, v, rfl, r1, r2⟩ := g2.two
      have e1 := r1.int_inv
      have e2 := r2.int_inv
      subst e1 e2
      exact ⟨a :: ps, rfl, .cons (sqT_rd g1 e) hp⟩
theorem dict_fits {H : Hp} {vs : List V} {Q : VK} {E : XK} (h : spN R_dict vs H Q E) : ∃ (a : Addr) (ps : List Addr) (kvs : List (Key × V)), vs = [.ref a] ∧ SqL K H a (ps.map V.ref) ∧ Paired (fun p kv => SqT K H p [kV kv.1, kv.2]) ps kvs ∧
    ∀ p, H p = none → Q (.ref p) (upd H p (.dK (mergeK [] kvs))) := by
  obtain ⟨F, ds, Z, e, r, ⟨kvs, rfl, nd, hz⟩, z⟩ := h
  obtain ⟨v, rfl, rv⟩ := r.one
  obtain ⟨a, xs, rfl, h1, h2⟩ := rv.lst_inv
  obtain ⟨ps, rfl, hp⟩ := paired_of (K := K) e h2
  refine ⟨a, ps, kvs.map kvOf, rfl, sqL_rd h1 e, hp, fun p hn => ?_⟩
  have em : mergeK [] (kvs.map kvOf) = kvs.map kvOf := merge_new kvs [] nd
  rw [em]
  exact z (.dct kvs) p [p] F _ hz (Gr.heap e (same_upd hn)) ⟨rfl, upd_same⟩ fun b hb => by
    rw [List.mem_singleton.mp hb]
    refine ⟨?_, hn⟩
    cases q : F p with
    | none => rfl
    | some o => rw [e p o q] at hn; cases hn
theorem cb_dictN {X : Cx} (hcalm : X.calm = true) : CallR X (.type "dict") fun vs H Q => spN R_dict (vs ++ []) H Q E0 := fun pins s σ H vs us Q I r h => call_dictP hcalm pins s σ H vs us Q I r (dict_fits (E := E0) (by have h : spN R_dict (vs ++ []) H Q E0 := h; rw [List.append_nil] at h; exact h))
theorem valV_int : ∀ {kvs : List (Int × Int)} {k v : Int}, kvs.lookup k = some v → valV (kvs.map kvOf) (.inl k : Key) = some (V.int v)
  | [], _, _, h => by cases h
  | p :: kvs, k, v, h => by
    obtain ⟨a, b⟩ := p
    by_cases c : a = k
    · subst c
      simp only [List.lookup, beq_self_eq_true] at h
      cases h
      exact valV_pos rfl
    · have c2 : (k == a) = false := beq_eq_false_iff_ne.mpr (fun q => c q.symm)
      simp only [List.lookup, c2] at h
      rw [List.map_cons, valV_neg (by simp [kvOf, c])]
      exact valV_int h
theorem ex_dget {i : Nat} {S0 : Stt} (h0 : ρ[i]? = some (.st S0)) (h : EX ty ρ fun d ρ1 => ∃ k v kvs, d = .int k ∧ ρ1[i]? = some (.st (.dct kvs)) ∧ kvs.lookup k = some v ∧ Q (.int v) ρ1) : EX (tDGet (tVar i) ty) ρ Q := fun B ad σ F H w Z z => by
  obtain ⟨s0, k0, _⟩ := w.sl i _ h0
  refine ⟨_, k0, h B ad σ F H w _ fun d ρ1 y F1 H1 q1 p1 r1 => ?_⟩
  obtain ⟨k, v, kvs, rfl, h1, hl, q⟩ := q1
  obtain ⟨s1, k1, st1⟩ := p1.wa.sl i _ h1
  have e := k0.symm.trans k1
  cases e
  have ey := r1.int_inv
  subst ey
  have g := DGet.k (k := (.inl k : Key)) st1.2
  have ev := valV_int hl
  have g' : DGet H1 s0 (.int k) (some (.int v)) := by
    have e2 : (kvs.map fun p => ((.inl p.1 : Key), V.int p.2)) = kvs.map kvOf := rfl
    rw [e2, ev] at g
    exact g
  exact ⟨s0, .int v, rfl, g', z (.int v) ρ1 (.int v) F1 H1 q p1 (.int v)⟩
end
/-! ### a op b op c op d, as a test -/
section
open PyProof.Rows
def tCh3 (r r' r'' : R2) (ta tb tc td : TE) : TT := fun σ H Q => ta σ H fun x H1 => tb σ H1 fun y H2 => r x y H2 fun z H3 => ∃ k, z = .bl k ∧
  (if k = true then tc σ H3 fun x3 H4 => r' y x3 H4 fun z2 H5 => ∃ k2, z2 = .bl k2 ∧ (if k2 = true then td σ H5 fun x4 H6 => r'' x3 x4 H6 fun z3 H7 => ∃ k3, z3 = .bl k3 ∧ Q k3 H7 else Q false H5) else Q false H3)
theorem pt_chain3 {X : Cx} {a b c d : Expr} {ta tb tc td : TE} {pos : Pos} {op op' op'' : CmpOp} {r r' r'' : R2} (ho : OpR X (compareOp op) r) (ho' : OpR X (compareOp op') r') (ho'' : OpR X (compareOp op'') r'') (ha : PE X a ta) (hb : PE X b tb) (hc : PE X c tc) (hd : PE X d td)
    (hm : lastMarks [op, op', op''] [b, c, d] = false := by with_unfolding_all rfl) : PT X (.Compare a [op, op', op''] [b, c, d] pos) (tCh3 r r' r'' ta tb tc td) := by
  refine ⟨fun pins s σ H Q I h => ?_⟩
  refine isTrue_chain (thn (ha.run pins s σ H _ I h) fun v s1 ⟨x, H1, I1, r1, q1⟩ => test_link (thn (hb.run pins s1 σ H1 _ I1 q1) fun u s2 ⟨y, H2, I2, r2, q2⟩ => thn (ho pins s2 σ H2 x y v u _ I2 r1 r2 q2) fun _ s3 ⟨z, H3, I3, r3, k, e, q3⟩ => ?_)) hm
  subst e
  cases r3
  refine wpAny_truthy_bool ?_
  cases k with
  | false => exact ite_ff ⟨H3, I3, q3⟩
  | true =>
    refine ite_tt (test_link (thn (hc.run pins s3 σ H3 _ I3 q3) fun u3 s4 ⟨x3, H4, I4, r4, q4⟩ => thn (ho' pins s4 σ H4 y x3 u u3 _ I4 r2 r4 q4) fun _ s5 ⟨z2, H5, I5, r5, k2, e2, q5⟩ => ?_))
    subst e2
    cases r5
    refine wpAny_truthy_bool ?_
    cases k2 with
    | false => exact ite_ff ⟨H5, I5, q5⟩
    | true =>
      refine ite_tt (test_last (thn (hd.run pins s5 σ H5 _ I5 q5) fun u4 s6 ⟨x4, H6, I6, r6, q6⟩ => thn (ho'' pins s6 σ H6 x3 x4 u3 u4 _ I6 r4 r6 q6) fun _ s7 ⟨z3, H7, I7, r7, k3, e3, q7⟩ => ?_))
      subst e3
      cases r7
      exact wpAny_truthy_bool ⟨H7, I7, q7⟩
theorem et_ch3 {ρ : Pu.Env} {r r' r'' : R2} {ta tb tc td : TE} {Q : Bool → Pu.Env → Prop} (h : EX ta ρ fun d1 ρ1 => EX tb ρ1 fun d2 ρ2 => OpD r d1 d2 fun d => ∃ b, d = .bool b ∧ (b = true → EX tc ρ2 fun d3 ρ3 => OpD r' d2 d3 fun d => ∃ b2, d = .bool b2 ∧
    (b2 = true → EX td ρ3 fun d4 ρ4 => OpD r'' d3 d4 fun d => ∃ b3, d = .bool b3 ∧ Q b3 ρ4) ∧ (b2 = false → Q false ρ3)) ∧ (b = false → Q false ρ2)) : ET (tCh3 r r' r'' ta tb tc td) ρ Q := fun B ad σ F H w Z z =>
  h B ad σ F H w _ fun d1 ρ1 x F1 H1 q1 p1 r1 => q1 B ad σ F1 H1 p1.wa _ fun d2 ρ2 y F2 H2 q2 p2 r2 => q2 F2 H2 x y p2.wa.gr.fh (r1.up p2.gr.ff) r2 _ fun d v F3 H3 kd g rv => by
    obtain ⟨b, rfl, k1, k2⟩ := kd
    refine ⟨b, rv.bl_inv, ?_⟩
    have p3 := (p1.trans p2).trans (Post.of p2.wa g)
    cases b with
    | false => exact z false ρ2 F3 H3 (k2 rfl) p3
    | true =>
      show tc σ H3 _
      refine k1 rfl B ad σ F3 H3 p3.wa _ fun d3 ρ3 u F4 H4 q4 p4 r4 => q4 F4 H4 y u p4.wa.gr.fh ((r2.up g.ff).up p4.gr.ff) r4 _ fun d v F5 H5 kd2 g2 rv2 => ?_
      obtain ⟨b2, rfl, m1, m2⟩ := kd2
      refine ⟨b2, rv2.bl_inv, ?_⟩
      have p5 := (p3.trans p4).trans (Post.of p4.wa g2)
      cases b2 with
      | false => exact z false ρ3 F5 H5 (m2 rfl) p5
      | true =>
        show td σ H5 _
        refine m1 rfl B ad σ F5 H5 p5.wa _ fun d4 ρ4 u4 F6 H6 q6 p6 r6 => q6 F6 H6 u u4 p6.wa.gr.fh ((r4.up g2.ff).up p6.gr.ff) r6 _ fun d v F7 H7 kd3 g3 rv3 => ?_
        obtain ⟨b3, rfl, q⟩ := kd3
        exact ⟨b3, rv3.bl_inv, z b3 ρ4 F7 H7 q ((p5.trans p6).trans (Post.of p6.wa g3))⟩
end
/-! ### a list times an int -/
section
open PyProof.Rows
def rRepR : R2 := fun x y H Q => ∃ l k xs, x = .ref l ∧ y = .int k ∧ Rd H l (.lst xs) ∧ (-1000000 ≤ k ∧ k ≤ 1000000) ∧ xs.length * k.toNat ≤ sizeLine ∧ ∀ p, H p = none → Q (.ref p) (upd H p (.lst (List.replicate k.toNat xs).flatten))
theorem op_repR {X : Cx} : OpR X (binaryOp .Mult) rRepR := by
  rintro pins sh σ H x y v u Q I rx ry ⟨l, k, xs, rfl, rfl, hd, ⟨k1, k2⟩, room, q⟩
  cases rx
  obtain ⟨t, rfl⟩ := ry
  obtain ⟨z, its, n, rv, ob⟩ := hd.ok I.hok
  have ln := rv.length
  have sz : its.toArray.size * k.toNat ≤ sizeLine := by rw [List.size_toArray, ← ln]; exact room
  have fits : ¬ (!Builtin.List.listFitsIndex k) = true := by
    rw [fitsIndex_both (by omega) (by omega)]
    decide
  have cap : ¬ its.toArray.size * k.toNat > (2 ^ 63 - 1) / 8 := Nat.not_lt.mpr (Nat.le_trans sz (by decide))
  have long : ¬ Builtin.List.listTooLong (its.toArray.size * k.toNat) = true := by
    rw [notLongL sz]
    decide
  have flat : ∀ m : Nat, List.foldl (fun a b => a ++ b) #[] (List.replicate m its.toArray) = (List.replicate m its).flatten.toArray := fun m => by
    have f := foldl_rep its m []
    rwa [List.nil_append] at f
  have made : List.foldl (fun a b => a ++ b) #[] (List.replicate (if its.toArray.isEmpty = true then 0 else k.toNat) its.toArray) = (List.replicate k.toNat its).flatten.toArray := by
    rw [flat]
    cases its with
    | nil => simp
    | cons a r => rw [if_neg (by simp)]
  refine wpAny_binaryOp_repeat_ref (U := "int") (T := "list") (by decide) ⟨_, ob, rfl⟩ (fun g => typeIs_int g k t) noFill_list_mul F.fills_int_mul F.slot_int_rmul repeat_list F.slot_int_index.lookup (call_meets F.slot_int_rmul (typeIs_int sh k t) F.entry_int_rmul (F.args_int_rmul_2 _ _) (int___rmul___int_list k t l its.toArray n) ⟨ob, rfl, ⟨_, ob, rfl⟩, call_meets F.slot_list_mul ⟨_, ob, rfl⟩ F.entry_list_mul (F.args_list_mul_2 _ _) (AutoListH.list___mul___list_int_3 l its.toArray n k t fits cap long) ⟨ob, ?_⟩⟩)
  rw [made]
  exact ⟨.ref _, _, I.lnew (t' := sh.toks) (rv.rep k.toNat) (by rw [PyProof.Rows.lm_len_rep_flat, Nat.mul_comm]; exact room), rfl, q _ I.fresh⟩
theorem RpA.rep {F : Hp} {vs : List V} {ds : List D} (h : RpA F vs ds) : ∀ k : Nat, RpA F (List.replicate k vs).flatten (List.replicate k ds).flatten
  | 0 => .nil
  | k + 1 => by
    rw [List.replicate_succ, List.replicate_succ, List.flatten_cons, List.flatten_cons]
    exact h.app (RpA.rep h k)
theorem opo_rep {ds : List D} {k : Int} {Q : List D → Prop} (hk : -1000000 ≤ k ∧ k ≤ 1000000) (hz : ds.length * k.toNat ≤ 1000000) (q : Q (List.replicate k.toNat ds).flatten) : OpO rRepR (.list ds) (.int k) Q := fun F H x y e rx ry Z z => by
  obtain ⟨a, xs, rfl, h1, h2⟩ := rx.lst_inv
  exact ⟨a, k, xs, rfl, ry.int_inv, rd_mono e h1, hk, Nat.le_trans (by rw [h2.len]; exact hz) (by decide), fun p hp => z _ p _ _ q (same_upd hp) hp upd_same (h2.rep _)⟩
theorem opd_rep {ds : List D} {k : Int} {Q : D → Prop} (hk : -1000000 ≤ k ∧ k ≤ 1000000) (hz : ds.length * k.toNat ≤ 1000000) (q : Q (.list (List.replicate k.toNat ds).flatten)) : OpD rRepR (.list ds) (.int k) Q := opd_ofO (opo_rep hk hz q)
end
end Pu
/-! PuG: the law's def at the claim's caller alone, where no repr is under way; so repr of data may be told -/
namespace Pu
open PySem L2 PySem.Spec PyProof.Rows
section
variable {P : Program} {w : World} {K : PySem.W.Frag} {mg mb : Str → Option Value} {base : Heap} {f : Addr} {fd : FuncData} {k : Nat} {x qual : Str} {st : Stmt} {N ps : List Str}
/-- room at the claim's caller -/
abbrev RoomTop (k : Nat) : Prop := Room k callerA
/-- the promise of the law's def when the claim's caller calls it -/
def TopOk (P : Program) (w : World) (K : PySem.W.Frag) (mg : Str → Option Value) (base : Heap) (f : Addr) (fd : FuncData) (ps : List Str) (sp : Sp) : Prop :=
  ∀ (sh : Shared) (G : Hp) (args : Args) (us : List Value) (ws : List V) (Z : VK) (E : XK), Env0 P w K mg base callerA [] sh G → BindsTo sh fd args (ps.zip us) → Vals ws us → sp ws G Z E →
    codeAny (model P w) callerA (.call (.ref f) args) (CR CX0 [] P w G sh Z E) sh
theorem top_of {sp : Sp} (F : Fun K x qual st f fd) (S : FnScope N ps (defScope st)) (len : ∀ vs H Q E, sp vs H Q E → vs.length = ps.length) (room : Room (k + 1) callerA)
    (body : ∀ (cdv : Value) (sh : Shared) (G : Hp) (ws : List V) (Z : VK) (E : XK), Room k (callerA.deeper (envOfC qual (defScope st) sh.heap.objs.size f cdv)) → sp ws G Z E →
      ∃ t, PSs (cxOf CX0 P w K mg base N qual (defScope st) f cdv callerA [] sh G E).nox (defBody st) t ∧ t { nx := fun _ G' => Z .non G', rt := Z } (L2.start N ws) G) : TopOk P w K mg base f fd ps sp := by
  obtain ⟨oc, od, kV, doc, pm, an, cdv, ct, osl, rfl, lk, hcd⟩ := F.ex
  intro sh G args us ws Z E e0 hb rv hz
  have hlen := len _ _ _ _ hz
  have kin : K.In sh.heap := e0.mod.kin.keeps fun b o q => (e0.bs b o q).1
  have nolim : sh.heap.NoLimit := e0.mod.nolimit.keeps fun b o q => (e0.bs b o q).1
  have kinds : ∀ z ∈ ps.zip us, (defScope st).names.lookup z.1 = some .local ∨ ((defScope st).names.lookup z.1 = some .cell ∧ ((cellsFrom (sh.heap.objs.size + 1) (defScope st).names []).lookup z.1).isSome = true) := fun ⟨n, u⟩ hz => by
    have hn := S.par n (List.of_mem_zip hz).1
    exact hn.imp id fun q => ⟨q, PySem.W.cellsFrom_some _ _ _ (.inl q)⟩
  refine codeAny_call_function room.depth (kin _ _ lk) rfl S.co S.gen rfl (PySem.W.codeRec_of kin hcd) (hb _ _ _ _ (wpAny_newFunctionEnv_cells S.kind kinds fun env he s1 inc => ?_))
  subst he
  refine ⟨nolim.keeps inc.toInCall.keep, codeAny_func ?_⟩
  obtain ⟨t, ht, hq⟩ := body cdv sh G ws Z E (room.deeper _) hz
  have I0 : Inv (cxOf CX0 P w K mg base N qual (defScope st) f cdv callerA [] sh G E) [] (L2.start N ws) G s1 := inv_start S room.hd e0 hlen rv inc
  refine wpAny_mono (ht.nox.run [] s1 (L2.start N ws) G _ I0 hq) (fun fl s' hs => ?_) fun _ _ hs => hs
  cases fl with
  | ret u =>
    obtain ⟨v, σ', H', J, r, q⟩ := hs
    exact ⟨v, H', J.os, J.bare, J.base, J.hok, r, q⟩
  | next =>
    obtain ⟨σ', H', J, q⟩ := hs
    exact ⟨V.non, H', J.os, J.bare, J.base, J.hok, rfl, q⟩
  | brk => exact hs.elim fun _ hs => hs.elim fun _ hs => (hs.2 : False).elim
  | cont => exact hs.elim fun _ hs => hs.elim fun _ hs => (hs.2 : False).elim
/-- the script as it stands ahead of the call: one frozen list -/
def scriptH (a : Addr) (vs : List Value) (ns : List Int) : Hp := fun b => if b = a then some (.frz { cls := .type "list", data := .seq vs.toArray } (.lst (ns.map V.int))) else none
theorem scriptH_at (a : Addr) (vs : List Value) (ns : List Int) : scriptH a vs ns a = some (.frz { cls := .type "list", data := .seq vs.toArray } (.lst (ns.map V.int))) := if_pos rfl
theorem scriptH_no {a b : Addr} {vs : List Value} {ns : List Int} (h : b ≠ a) : scriptH a vs ns b = none := if_neg h
theorem top_call {fa a : Addr} {sh : Shared} {vs : List Value} {ns : List Int} {R : List D → (D → Prop) → Prop} (kin : K.In sh.heap) (gl : sh.heap.Ns mainGlobals mg) (bl : sh.heap.Ns builtinsNs mb) (bb : ∀ y : Str, y ≠ "__name__" → mb y = bootBuiltins y) (nolim : sh.heap.NoLimit) (gens : sh.gens = #[])
    (hs : sh.heap.get? a = some { cls := .type "list", data := .seq vs.toArray }) (hi : IntsAre vs ns) (hl : ns.length ≤ sizeLine) (nl : noLs K = true)
    (F : ∀ base : Heap, K.In base → base.Ns mainGlobals mg → TopOk P w K mg base fa fd [x] (spP R)) (hbind : ∀ (s : Shared) (u : Value), BindsTo s fd ⟨[u], []⟩ [(x, u)]) (hR : R [.list (ns.map .int)] fun d => d = .bool true) :
    codeAny (model P w) callerA (.call (.ref fa) ⟨[.ref a], []⟩) (fun r s' => r = .ok (.ret (.bool true)) ∧ OldK sh.heap s'.heap ∧ s'.os = sh.os ∧ AllBare s'.gens) sh := by
  let G := scriptH a vs ns
  have gAt : G a = some (.frz { cls := .type "list", data := .seq vs.toArray } (.lst (ns.map V.int))) := scriptH_at a vs ns
  have gNo : ∀ {b : Addr}, b ≠ a → G b = none := fun h => scriptH_no h
  have keep : ∀ {b : Addr} {o : Obj}, sh.heap.get? b = some o → b ≠ a → (hidT sh.heap G).get? b = some o := fun e h => hidT_get e (gNo h)
  have notDict : ∀ {b : Addr} {o : Obj} {es : Array DictEntry} {ep : Nat}, sh.heap.get? b = some o → o.data = .dict es ep → b ≠ a := fun {b o es ep} e d q => by
    subst q
    rw [hs] at e
    cases e
    cases d
  have nsOf : ∀ {b : Addr} {m : Str → Option Value}, sh.heap.Ns b m → (hidT sh.heap G).Ns b m := fun {b m} ⟨o, es, ep, e, d, r⟩ => ⟨o, es, ep, keep e (notDict e d), d, r⟩
  have kin' : K.In (hidT sh.heap G) := fun b o e => keep (kin b o e) fun q => by
    subst q
    have z := kin b o e
    rw [hs] at z
    cases z
    exact noLs_at nl e rfl
  have md : Mod K mg (hidT sh.heap G) := ⟨kin', nsOf gl, ⟨mb, nsOf bl, bb⟩, nolim.elim fun mc h => ⟨mc, nsOf h.1, h.2⟩⟩
  have vals := vals_ints hi
  have gok : HOk P w G sh.heap := fun b u z => by
    by_cases q : b = a
    · subst q
      rw [gAt] at z
      cases z
      exact ⟨hs, by rw [List.length_map]; exact hl, vs, _, vals, hs⟩
    · rw [gNo q] at z; cases z
  have e0 : Env0 P w K mg (hidT sh.heap G) callerA [] sh G := ⟨rfl, md, fun b o e => of_hidT e, Nat.le_of_eq (hidT_size _ _), trivial, fun b hb => (by cases hb), gok, .of_eq gens⟩
  have spec : spP R [.ref a] G (fun v _ => v = .bl true) fun _ _ _ => False := sp_law nl (.inl (.inr ⟨_, gAt⟩)) hR
  refine codeAny_mono (F _ kin' (nsOf gl) sh G ⟨[.ref a], []⟩ [.ref a] [.ref a] _ _ e0 (hbind sh (.ref a)) (.cons rfl .nil) spec) fun r s' h => ?_
  cases r with
  | error e => exact (show False from h).elim
  | ok fl =>
    cases fl with
    | next => exact h.elim
    | brk => exact h.elim
    | cont => exact h.elim
    | ret u =>
      obtain ⟨v, G', os, bare, un, gok', rv, q⟩ := h
      have q : v = .bl true := q
      subst q
      have rv : u = Value.bool true := rv
      subst rv
      refine ⟨rfl, OldK.of_keep fun b o e => ?_, os, bare⟩
      by_cases hb : b = a
      · subst hb
        have z := un.frzs b _ _ gAt
        have e1 := (gok b _ gAt).1
        rw [e] at e1
        cases e1
        exact (gok' b _ z).1
      · exact un.keep b o e (gNo hb) (fun z => by cases z) (fun z => by cases z)
/-- a law's def whose argument is the script -/
theorem top_pure {R : List D → (D → Prop) → Prop} (F : Fun K x qual st f fd) (S : FnScope N ps (defScope st)) (len : ∀ ds Z, R ds Z → ds.length = ps.length) (room : Room (k + 1) callerA)
    (body : ∀ (cdv : Value) (s : Shared) (H : Hp) (E : XK), Room k (callerA.deeper (envOfC qual (defScope st) s.heap.objs.size f cdv)) →
      ∃ t, PSs (cxOf CX0 P w K mg base N qual (defScope st) f cdv callerA [] s H E).nox (defBody st) t ∧ ∀ ds Z, R ds Z → SX t (startE N ds) { nx := fun _ => Z .none, rt := fun d _ => Z d }) :
    TopOk P w K mg base f fd ps (spP R) := by
  refine top_of F S (fun vs H Q E h => ?_) room (fun cdv s H vs Q E hr h => ?_)
  · obtain ⟨F, ds, Z, _, r, q, _⟩ := h
    rw [r.len]
    exact len ds Z q
  · obtain ⟨F0, ds, Z, fh, r, q, z⟩ := h
    obtain ⟨t, ht, hs⟩ := body cdv s H E hr
    refine ⟨t, ht, hs ds Z q { F0 := F0, H0 := H, M := Non } (L2.start N vs) F0 H ⟨fun _ => [], Gr.refl fh, ?_, fun i s e => ?_, (fun i p m => by cases m), (fun i j p m => by cases m), fun _ _ => rfl, (fun s as e => by cases e)⟩ _ (fun ρ' σ' F' H' q w' => ?_) (fun d ρ' σ' v F' H' q w' rv => ?_) (fun _ _ _ _ q _ => q.elim) (fun _ _ _ _ q _ => q.elim)⟩
    · unfold L2.start startE
      rw [List.length_append, List.length_append, List.length_map, List.length_map, List.length_replicate, List.length_replicate, r.len]
    · rcases startE_get e with ⟨d, e2, rfl⟩ | rfl
      · obtain ⟨v, e1, rv⟩ := r.get e2
        exact ⟨rfl, v, start_get e1, rv⟩
      · rfl
    · obtain ⟨ad, w'⟩ := w'
      exact z .none .non F' H' q w'.gr .non
    · obtain ⟨ad, w'⟩ := w'
      exact z d v F' H' q w'.gr rv
/-- the law's statement out of the law's def at the claim's caller -/
theorem walk_top {l : PySem.W.OpenLaw} {n : Nat} {q : Program} {loose : List Str} {XP : (Str → Option Value) → Heap → Prop} {YP : World → Heap → Prop} {d : DefRec} {K : Params → PySem.W.Frag} {R : List D → (D → Prop) → Prop} {x : Str} (hn : l.most = some n) (hn2 : n ≤ sizeLine) (hdf : d.params.defaults = [])
    (hY : ∀ (w : World) (h : Heap), YP w h → (K w.params).In h) (nl : ∀ w : World, noLs (K w.params) = true)
    (F : ∀ (w : World) (mg : Str → Option Value) (fa : Addr) (h : Heap), (K w.params).In h → h.Ns mainGlobals mg → mg d.name = some (.ref fa) →
      ∃ fd : FuncData, (∀ (s : Shared) (u : Value), BindsTo s fd ⟨[u], []⟩ [(x, u)]) ∧ ∀ base : Heap, (K w.params).In base → base.Ns mainGlobals mg → TopOk l.prog w (K w.params) mg base fa fd [x] (spP R))
    (hR : ∀ ns : List Int, ns.length ≤ n → R [.list (ns.map .int)] fun d => d = .bool true) : PySem.W.WalkO q loose XP YP l.row.toRowW d [] (fun f vs => PySem.call f vs) := by
  refine Att.attach_call hn hdf fun w s₀ s₁ mg mb fa o pm cd doc a vs ns G Y ho hd hcd hm hs hi hlen hg => ?_
  obtain ⟨fd, hb, hF⟩ := F w mg fa _ (hY w _ Y) G.T.g hm
  exact top_call (hY w _ Y) G.T.g G.T.b G.T.builtins G.T.nolimit hg hs hi (Nat.le_trans hlen hn2) (nl w) hF hb (hR ns hlen)
end
/-! ### repr of data -/
theorem textFrom_le : ∀ (ts : List Str) (k n : Nat) (acc : Str), (∀ t ∈ ts, t.length ≤ n) → (textFrom k acc ts).length ≤ acc.length + ts.length * (n + 2)
  | [], k, n, acc, _ => by
    show acc.length ≤ _
    omega
  | t :: r, k, n, acc, h => by
    have ih := textFrom_le r (k + 1) n (acc ++ (if k > 0 then ", " else "" : String) ++ t) fun u hu => h u (by simp [hu])
    have ht := h t (by simp)
    have hl : (acc ++ (if k > 0 then ", " else "" : String) ++ t : Str).length ≤ acc.length + 2 + t.length := by
      rw [Str.length_append, Str.length_append]
      by_cases c : k > 0
      · rw [if_pos c]
        have e : (Str.ofString ", ").length = 2 := by decide +kernel
        have e2 : (", " : Str).length = 2 := e
        omega
      · rw [if_neg c]
        have e : (Str.ofString "").length = 0 := by decide +kernel
        have e2 : ("" : Str).length = 0 := e
        omega
    show (textFrom (k + 1) (acc ++ (if k > 0 then ", " else "" : String) ++ t) r).length ≤ _
    rw [List.length_cons, Nat.succ_mul]
    omega
theorem listText_le {ts : List Str} {n : Nat} (h : ∀ t ∈ ts, t.length ≤ n) : (listText ts).length ≤ ts.length * (n + 2) + 2 := by
  unfold listText
  rw [Str.length_append]
  have q := textFrom_le ts 0 n "[" h
  have e1 : ("[" : Str).length = 1 := (by decide +kernel : (Str.ofString "[").length = 1)
  have e2 : ("]" : Str).length = 1 := (by decide +kernel : (Str.ofString "]").length = 1)
  omega
theorem piled_le : ∀ {ts : List Str} {n : Nat}, (∀ t ∈ ts, t.length ≤ n) → piled ts ≤ ts.length * (n + 2)
  | [], n, _ => by simp [piled]
  | t :: ts, n, h => by
    have h1 := h t (by simp)
    have h2 := piled_le (ts := ts) fun u hu => h u (by simp [hu])
    rw [piled_cons, List.length_cons, Nat.succ_mul]
    omega
theorem tupleText_le {ts : List Str} {n : Nat} (h : ∀ t ∈ ts, t.length ≤ n) : (tupleText ts).length ≤ ts.length * (n + 2) + 4 := by
  unfold tupleText
  rw [Str.length_append, Str.length_append]
  have e1 : ("(" : Str).length = 1 := (by decide +kernel : (Str.ofString "(").length = 1)
  have e2 : ((if ts.length == 1 then ",)" else ")" : String) : Str).length ≤ 2 := by
    split
    · exact (by decide +kernel : (Str.ofString ",)").length ≤ 2)
    · exact (by decide +kernel : (Str.ofString ")").length ≤ 2)
  have e3 : (Str.join ", " ts).length ≤ ts.length * (n + 2) := by
    cases ts with
    | nil =>
      have e : (Str.join (Str.ofString ", ") []).length = 0 := by decide +kernel
      have e' : (Str.join ", " []).length = 0 := e
      omega
    | cons t ts =>
      have q := join_length_add (t :: ts) (by simp)
      have p := piled_le h
      omega
  omega
/-- text that can be shown, of at most so many signs -/
structure Sh (n : Nat) (d : D) : Prop where
  sh : d.showable = true
  nd : d.hasDict = false
  ln : d.shown.length ≤ n
theorem sh_int {i : Int} (h : i.natAbs < 2 ^ 64) : Sh 2000 (.int i) where
  sh := by
    simp only [PyData.showable, decide_eq_true_eq]
    rcases Nat.eq_zero_or_pos i.natAbs with z | z
    · rw [z]; decide
    · exact Nat.lt_of_lt_of_le ((Nat.log2_lt (by omega)).mpr h) (by decide)
  nd := by simp only [PyData.hasDict]
  ln := by
    simp only [PyData.shown]
    refine Nat.le_trans (int_text_len_1921 ?_) (by decide)
    rcases Nat.eq_zero_or_pos i.natAbs with z | z
    · rw [z]; decide
    · exact Nat.lt_of_lt_of_le ((Nat.log2_lt (by omega)).mpr h) (by decide)
theorem sh_non : Sh 2000 .none := ⟨by simp only [PyData.showable], by simp only [PyData.hasDict], by simp only [PyData.shown]; decide +kernel⟩
theorem sh_all {n : Nat} : ∀ {ds : List D}, (∀ d ∈ ds, Sh n d) → PyData.showableAll ds = true ∧ PyData.hasDictAll ds = false ∧ (∀ t ∈ PyData.shownAll ds, t.length ≤ n) ∧ (PyData.shownAll ds).length = ds.length
  | [], _ => ⟨by simp only [PyData.showableAll], by simp only [PyData.hasDictAll], (fun t ht => by simp [PyData.shownAll] at ht), by simp [PyData.shownAll]⟩
  | d :: ds, h => by
    have h1 := h d (by simp)
    obtain ⟨a, b, c, e⟩ := sh_all (ds := ds) fun x hx => h x (by simp [hx])
    refine ⟨by simp only [PyData.showableAll, h1.sh, a, Bool.and_self], by simp only [PyData.hasDictAll, h1.nd, b, Bool.or_self], fun t ht => ?_, by simp [PyData.shownAll, e]⟩
    simp only [PyData.shownAll, List.mem_cons] at ht
    rcases ht with rfl | ht
    · exact h1.ln
    · exact c t ht
theorem sh_list {n m : Nat} {ds : List D} (h : ∀ d ∈ ds, Sh n d) (hm : ds.length ≤ m) : Sh (m * (n + 2) + 4) (.list ds) := by
  obtain ⟨a, b, c, e⟩ := sh_all h
  refine ⟨by simp only [PyData.showable]; exact a, by simp only [PyData.hasDict]; exact b, ?_⟩
  simp only [PyData.shown]
  have q := listText_le c
  rw [e] at q
  have q2 : ds.length * (n + 2) ≤ m * (n + 2) := Nat.mul_le_mul_right _ hm
  omega
theorem sh_tup {n m : Nat} {ds : List D} (h : ∀ d ∈ ds, Sh n d) (hm : ds.length ≤ m) : Sh (m * (n + 2) + 4) (.tuple ds) := by
  obtain ⟨a, b, c, e⟩ := sh_all h
  refine ⟨by simp only [PyData.showable]; exact a, by simp only [PyData.hasDict]; exact b, ?_⟩
  simp only [PyData.shown]
  have q := tupleText_le c
  rw [e] at q
  have q2 : ds.length * (n + 2) ≤ m * (n + 2) := Nat.mul_le_mul_right _ hm
  omega
theorem Sh.up {n m : Nat} {d : D} (h : Sh n d) (k : n ≤ m) : Sh m d := ⟨h.sh, h.nd, Nat.le_trans h.ln k⟩
theorem sh_map {α : Type} {n : Nat} {xs : List α} {f : α → D} (h : ∀ x ∈ xs, Sh n (f x)) : ∀ d ∈ xs.map f, Sh n d := fun d hd => by
  obtain ⟨x, hx, rfl⟩ := List.mem_map.mp hd
  exact h x hx
theorem sh_nil {n : Nat} : ∀ d ∈ ([] : List D), Sh n d := fun d h => by cases h
theorem sh_cons {n : Nat} {d : D} {ds : List D} (h : Sh n d) (hs : ∀ e ∈ ds, Sh n e) : ∀ e ∈ d :: ds, Sh n e := fun e he => by
  rcases List.mem_cons.mp he with rfl | he
  · exact h
  · exact hs e he
def rRepr (_ : PySem.W.Frag) : List V → Hp → VK → Prop := fun vs H Q => ∃ (F : Hp) (v : V) (d : D), vs = [v] ∧ Same F H ∧ Rp F v d ∧ Sh sizeLine d ∧ d.depth ≤ 60 ∧ Q (.str d.shown) H
theorem cb_repr {X : Cx} (hu : X.A.units + 64 < cLine) (hg : X.A.guards = some []) : CallR X (.builtin "repr") (rRepr X.K) := by
  rintro pins s σ H vs us Q I r ⟨F, v, d, rfl, e, rp, ⟨hs, hnd, hl⟩, hz, q⟩
  obtain ⟨u, rfl, ru⟩ := r.one
  obtain ⟨as, rd⟩ := rp_reads I e rp ru
  have disp : isDisplay d = true → wpAny (model X.prog X.w) X.A (call (.builtin "repr") [u]) (EP X pins σ Q) X.xe s := fun hd => by
    obtain ⟨a, rfl⟩ := isRef_of_reads rd hd
    exact repr_of_reads' rd hs (PyData.noDict_hsm hnd) hg (by omega) (fun _ _ e => e) (fun h' u tk hk => ⟨.str d.shown, H, I.kept hk, ⟨u, rfl⟩, q⟩) hl
  cases d with
  | none =>
    cases rp
    have ru : u = Value.none := ru
    subst ru
    simp only [PyData.shown] at q
    exact PySem.P.repr_of_none ⟨.str "None", H, I.tok _, ⟨_, rfl⟩, q⟩
  | bool b =>
    cases rp
    have ru : u = Value.bool b := ru
    subst ru
    simp only [PyData.shown] at q
    exact PySem.P.repr_of_bool ⟨.str _, H, I.tok _, ⟨_, rfl⟩, q⟩
  | int i =>
    cases rp
    obtain ⟨t, rfl⟩ := ru
    simp only [PyData.shown] at q
    simp only [PyData.showable, decide_eq_true_eq] at hs
    exact PySem.P.repr_of_int hs ⟨.str _, H, I.tok _, ⟨_, rfl⟩, q⟩
  | str x =>
    cases rp
    obtain ⟨t, rfl⟩ := ru
    simp only [PyData.shown] at q hl
    exact PySem.P.repr_of_str ⟨.str _, H, I.tok _, ⟨_, rfl⟩, q⟩ hl
  | list xs => exact disp rfl
  | tuple xs => exact disp rfl
  | dict xs => simp only [PyData.hasDict] at hnd; cases hnd
theorem cbd_repr {K : PySem.W.Frag} {d : D} {n : Nat} {Q : D → Prop} (h : Sh n d) (hn : n ≤ sizeLine) (hz : d.depth ≤ 60) (k : Q (.str d.shown)) : CbD (rRepr K) [d] Q := fun F H vs e r Z z => by
  obtain ⟨v, rfl, rv⟩ := r.one
  exact ⟨F, v, d, rfl, e, rv, h.up hn, hz, z _ _ F H k (Gr.refl e) (.str _)⟩
end Pu
/-! PuT: for k, x in enumerate(t), t a tuple -/
namespace Pu
open PySem L2 PySem.Spec PyProof.Rows
section
open Sem (wp)
open AutoSeq1 (wpAny_loadPart')
/-- enumerate(t) of a tuple makes its iterator, then itself -/
theorem meets_enumT (t : Addr) (items : Array Value) (n : Nat) (dct : Option Addr) (sl : Array (Option Value)) :
    Meets (Builtin.«enumerate.__new__» ⟨[.type "enumerate", .ref t], []⟩) (fun _ R sh => sh.heap.get? t = some { cls := .type "tuple", dict := dct, data := .seq items n, slots := sl } ∧
      R (.ok (.ret (.ref (sh.heap.push { cls := .type "tuple_iterator", data := .fields #[.ref t, .int 0 0] }).objs.size)))
        { sh with heap := (sh.heap.push { cls := .type "tuple_iterator", data := .fields #[.ref t, .int 0 0] }).push { cls := .type "enumerate", data := .fields #[.none, .bool false, .ref sh.heap.objs.size, rawInt 0, .none, .none] } }) :=
  .of_wp fun prog w A R sh hyp => by
    obtain ⟨hp, gg, dd, tk, os⟩ := sh
    obtain ⟨ht, hyp⟩ := hyp
    have su := sub_enumerate
    have tup : Heap.IsTuple (Shared.heap ⟨hp, gg, dd, tk, os⟩) t items := ⟨_, ht, rfl, n, rfl⟩
    wp_walk using wpAny_loadPart' ht
    refine wpAny_stack_any fun _ => wpAny_pure ?_
    split
    · rename_i c _ _ _ _ _
      cases (c == Value.type "enumerate")
      · wp_walk using wpAny_loadPart' ht, wpAny_pyIter_tuple tup
        exact ⟨_, rfl, hyp⟩
      · wp_walk using wpAny_loadPart' ht, wpAny_pyIter_tuple tup
        exact ⟨_, rfl, hyp⟩
    · wp_walk using wpAny_loadPart' ht, wpAny_pyIter_tuple tup
      exact ⟨_, rfl, hyp⟩
theorem call_enumT {prog : Program} {w : World} {A : Around} {E : Value → Shared → Prop} {sh : Shared} {t : Addr} {items : Array Value} {Q : Value → Shared → Prop} (ht : sh.heap.IsTuple t items)
    (k : ∀ g, IsEnum g (sh.heap.objs.size + 1) sh.heap.objs.size 0 .none → g.IsTupleIter sh.heap.objs.size t 0 → (∀ b o, sh.heap.get? b = some o → g.get? b = some o) → Q (.ref (sh.heap.objs.size + 1)) { sh with heap := g }) :
    wpAny (model prog w) A (call (.type "enumerate") [.ref t]) Q E sh := by
  obtain ⟨⟨cl, dct, dat, sl⟩, he, hc, n, hd⟩ := ht
  have hc : cl = .type "tuple" := hc
  have hd : dat = .seq items n := hd
  subst hc hd
  refine callType_new F.called_enumerate (by decide) (F.typeCall_enumerate_1 _) (F.newCall_enumerate_1 _) (fun ob => F.args_object_init_2 ob _) F.entry_enumerate_new (meets_enumT t items n dct sl) ⟨he, ?_⟩
  have size : (sh.heap.push { cls := .type "tuple_iterator", data := .fields #[.ref t, .int 0 0] }).objs.size = sh.heap.objs.size + 1 := Heap.size_push ..
  show _ ∧ _
  rw [size]
  have isE : IsEnum ((sh.heap.push { cls := .type "tuple_iterator", data := .fields #[.ref t, .int 0 0] }).push { cls := .type "enumerate", data := .fields #[.none, .bool false, .ref sh.heap.objs.size, rawInt 0, .none, .none] }) (sh.heap.objs.size + 1) sh.heap.objs.size 0 .none := by
    have g := Heap.get?_push_size (sh.heap.push { cls := .type "tuple_iterator", data := .fields #[.ref t, .int 0 0] }) (o := { cls := .type "enumerate", data := .fields #[.none, .bool false, .ref sh.heap.objs.size, rawInt 0, .none, .none] }) rfl
    rw [size] at g
    exact g
  exact ⟨⟨_, isE, rfl⟩, k _ isE ⟨_, Heap.get?_push_of_some _ (Heap.get?_push_size _ rfl), rfl, rfl⟩ fun b o x => Heap.get?_push_of_some _ (Heap.get?_push_of_some _ x)⟩
/-- the tuple at a, each item in a new pair -/
def ItT (K : PySem.W.Frag) (a : Addr) : It :=
  ⟨fun i H => ∃ (xs : List V) (x : V), SqT K H a xs ∧ xs[i]? = some x, fun i H v G => ∃ T x, v = .ref T ∧ H T = none ∧ G = upd H T (.tup [.int (i : Nat), x]) ∧ ∀ xs, SqT K H a xs → xs[i]? = some x, fun i H => ∃ xs : List V, SqT K H a xs ∧ xs.length ≤ i⟩
theorem enum_ne_tup {h : Heap} {e it a : Addr} {i : Int} {old : Value} {items : Array Value} (he : IsEnum h e it i old) (ht : h.IsTuple a items) : e ≠ a := fun q => by
  subst q
  obtain ⟨o, ho, hc, _⟩ := ht
  have z := ho.symm.trans he
  cases z
  exact absurd hc (by simp)
theorem iter_ne_tup {h : Heap} {it a b : Addr} {i : Nat} {items : Array Value} (hi : h.IsTupleIter it b i) (ht : h.IsTuple a items) : a ≠ it := fun q => by
  subst q
  obtain ⟨o, ho, hc, _⟩ := ht
  obtain ⟨o2, ho2, hc2, _⟩ := hi
  have z := ho.symm.trans ho2
  cases z
  rw [hc] at hc2
  exact absurd hc2 (by simp)
theorem turn_enumT {P : Program} {w : World} {K : PySem.W.Frag} {elts : List Expr} {kk : Nat} {tpos : Pos} (a e it : Addr) :
    Turn P w K (.Tuple elts kk tpos) (ItT K a) [e, it] e (fun i g => (∃ old, IsEnum g e it ((i : Nat) : Int) old) ∧ g.IsTupleIter it a i ∧ e ≠ it) where
  mem := by simp
  obj := fun i g st b hb => by
    obtain ⟨⟨old, en⟩, ⟨o, ho, hc, hd⟩, _⟩ := st
    rcases (by simpa using hb : b = e ∨ b = it) with z | z
    · rw [z]; exact ⟨_, en, fun v q => nomatch q⟩
    · rw [z]; exact ⟨o, ho, fun v q => by rw [hd] at q; cases q⟩
  keep := fun i g g' st k => let ⟨⟨old, en⟩, ti, ne⟩ := st; ⟨⟨old, k e (by simp) _ en⟩, ti.at fun o q => k it (by simp) o q, ne⟩
  item := by
    intro X hP hw hK hc i pins sh σ H E I hf st hg
    subst hP hw hK
    obtain ⟨⟨old, en⟩, ti, ne⟩ := st
    obtain ⟨xs, x, hq, hx⟩ := hg
    obtain ⟨its, rv, tp, hz⟩ := I.tuple hq
    have tp : sh.heap.IsTuple a its.toArray := tp
    obtain ⟨u, hu, ru⟩ := rv.get hx
    have live_e : e < sh.heap.objs.size := Heap.lt_size en
    have live_i : it < sh.heap.objs.size := by obtain ⟨_, q, _⟩ := ti; exact Heap.lt_size q
    have ilt : i < its.toArray.size := by
      have := (List.getElem?_eq_some_iff.mp hu).1
      simpa using this
    have D := PySem.Draws.tuple (prog := X.prog) (w := X.w) (A := X.A.in1) (I.ok.hd hc) it a (iter_ne_tup ti tp) its.toArray
    refine wpAny_pyNext_enum_itemD D en ⟨ti, tp⟩ ilt ne (by simp [ne, enum_ne_tup en tp]) fun y g tk hy ho st' hT hsz hk => ?_
    have ey : y = u := by
      have h1 : its.toArray[i]? = some u := by simpa using hu
      exact Option.some.inj (hy.symm.trans h1)
    subst ey
    refine ⟨_, rfl, wpAny_letOwnedTupleGo_enum (s := { sh with heap := g, toks := tk + 1 }) ho fun g2 en2 sb => ?_⟩
    have atT : g2.get? sh.heap.objs.size = some { cls := .type "tuple", data := .seq #[.int i tk, y] } := (sb.2 _ (Nat.ne_of_gt live_e)).trans hT
    have newT : ObjOk X.prog X.w (upd H sh.heap.objs.size (.tup [.int (i : Nat), x])) g2 sh.heap.objs.size (.tup [.int (i : Nat), x]) :=
      ⟨by show 2 ≤ sizeLine; decide, [.int i tk, y], .cons ⟨_, rfl⟩ (.cons ru .nil), ⟨_, atT, rfl, _, rfl⟩⟩
    have J : Inv X pins σ (upd H sh.heap.objs.size (.tup [.int (i : Nat), x])) { sh with heap := g2, toks := tk + 1 } :=
      I.turnedNew (ch := [e, it]) (fun b ob hb q => (sb.2 b (fun z => hb (by simp [z]))).trans (hk b ob (fun z => hb (by simp [z])) (fun z => hb (by simp [z])) q)) hf (Nat.le_refl _) newT
    refine ⟨.ref sh.heap.objs.size, _, J, rfl, ⟨_, x, rfl, I.hok.fresh (Nat.le_refl _), rfl, fun ys hy => by rw [I.tuple_inj hy hq]; exact hx⟩, ⟨⟨y, ?_⟩, st'.1.at fun o q => (sb.2 it (Ne.symm ne)).trans q, ne⟩, fun b hb => ?_⟩
    · have up : ((i + 1 : Nat) : Int) = (i : Int) + 1 := by omega
      rw [up]; exact en2
    · have lt : b < sh.heap.objs.size := by
        rcases (by simpa using hb : b = e ∨ b = it) with z | z
        · rw [z]; exact live_e
        · rw [z]; exact live_i
      rw [upd_ne (Nat.ne_of_lt lt)]
      exact (hf b hb).1
  done := by
    intro X hP hw hK hc i pins sh σ H E I hf st hg
    subst hP hw hK
    obtain ⟨⟨old, en⟩, ti, ne⟩ := st
    obtain ⟨xs, hq, hx⟩ := hg
    obtain ⟨its, rv, tp, hz⟩ := I.tuple hq
    have tp : sh.heap.IsTuple a its.toArray := tp
    obtain ⟨f0, f1, f2, f3, f4, f5⟩ := hf it (by simp)
    have ll := rv.length
    have out : its.toArray[i]? = none := by simp; omega
    have tyE : sh.TypeIs (.ref e) "enumerate" := ⟨_, en, rfl⟩
    unfold pyNext
    refine wpAny_bind (wpAny_attempt (wpAny_callSpecial?_slot (name := Str.ofString "__next__") tyE F.slot_enumerate_next (wpAny_call_entry F.slot_enumerate_next tyE F.entry_enumerate_next ?_ (F.args_enumerate_next_1 _))))
    show wpAny _ _ (field (.ref e) 2 >>= _) _ _ sh
    refine wpAny_bind (wpAny_field en rfl (x := .ref it) rfl (wpAny_bind (wpAny_nextOf_tuple_end (I.ok.hd hc) ti tp out fun g y gb hy => ?_)))
    obtain ⟨o, ho, hcl⟩ := hy
    refine wpAny_bind (wpAny_isInstance (b := true) (T := "StopIteration") ⟨o, ho, hcl⟩ isSubtype_stop (wpAny_pure ?_))
    exact ⟨rfl, I.turned (t' := sh.toks) (fun b o hb q => gb b o hb q) f0 f1 f3 f4 f5⟩
  self := fun A i sh Q E st k => let ⟨⟨_, en⟩, _⟩ := st; wpAny_pyIter_enum en k
/-- the items of enumerate(t) -/
def iEnumT (K : PySem.W.Frag) (ta : TA) : TI := fun σ H R => ta σ H fun vs H1 => ∃ a xs, vs = [.ref a] ∧ SqT K H1 a xs ∧ R (ItT K a) H1
theorem pi_enumT {X : Cx} {e : Expr} {ta : TA} {p pos tpos : Pos} {elts : List Expr} {kk : Nat} (hg : Gl X "enumerate") (hm : X.mg "enumerate" = none) (ha : PA X [e] ta) (hs : starEach [e] X.env = [(false, eval e X.env)] := by rfl) :
    PI X (.Tuple elts kk tpos) (.Call (.Name "enumerate" p) [e] [] pos) (iEnumT X.K ta) := by
  refine ⟨fun pins sh σ H R I hyp => Call_ (ld_blt I hg hm boot_enumerate (PyProof.Rows.callWith_type1 (thn (ha.run pos pins sh σ H _ I hyp) fun us s1 ⟨vs, H1, I1, r1, q1⟩ => ?_) hs rfl))⟩
  obtain ⟨a, xs, ex, hq, q⟩ := q1
  subst ex
  cases r1 with
  | cons r rr =>
    cases rr
    cases r
    obtain ⟨its, rv, tp, hz⟩ := I1.tuple hq
    have tp : s1.heap.IsTuple a its.toArray := tp
    refine call_enumT tp fun g en ti hk => wpAny_pyIter_enum en ?_
    have I2 : Inv X pins σ H1 { s1 with heap := g } := I1.kept (t' := s1.toks) hk
    refine ⟨s1.heap.objs.size + 1, [s1.heap.objs.size + 1, s1.heap.objs.size], _, _, H1, rfl, I2, turn_enumT a (s1.heap.objs.size + 1) s1.heap.objs.size, ⟨⟨.none, en⟩, ti, Nat.succ_ne_self _⟩, fun b hb => ?_, q⟩
    have le : s1.heap.objs.size ≤ b := by
      rcases (by simpa using hb : b = s1.heap.objs.size + 1 ∨ b = s1.heap.objs.size) with z | z
      · rw [z]; exact Nat.le_add_right _ _
      · rw [z]; exact Nat.le_refl _
    exact I1.fpOk le (I1.hok.fresh le)
theorem ei_enumT {K : PySem.W.Frag} {t : TA} {ρ : Pu.Env} {Q : List D → Pu.Env → Prop} (h : EA t ρ fun es ρ1 => ∃ ds, es = [.tuple ds] ∧ Q (enumD 0 ds) ρ1) : EI (iEnumT K t) ρ Q := fun B ad σ F H w R z =>
  h B ad σ F H w _ fun es ρ1 vs F1 H1 q p r => by
    obtain ⟨ds, rfl, q⟩ := q
    obtain ⟨v, rfl, rv⟩ := r.one
    obtain ⟨a, xs, rfl, h1, h2⟩ := rv.tup_inv
    refine ⟨a, xs, rfl, sqT_rd h1 p.wa.gr.fh, z _ ρ1 _ F1 H1 q p ⟨fun i H' e hi => ?_, fun i H' e hi => ?_, fun i H' x H2 F2 e1 e2 y hi => ?_⟩⟩
    · rw [enumD_len] at hi
      exact ⟨xs, xs[i]'(by rw [h2.len]; exact hi), sqT_rd h1 e, by simp⟩
    · rw [enumD_len] at hi
      exact ⟨xs, sqT_rd h1 e, by rw [h2.len]; exact hi⟩
    · obtain ⟨T, x, rfl, hT, rfl, y⟩ := y
      obtain ⟨d, hd, rd⟩ := h2.get' (y xs (sqT_rd h1 (e1.trans e2)))
      have g := Gr.new (o := .tup [.int (i : Nat), x]) e2 hT
      refine ⟨_, upd F2 T (.tup [.int (i : Nat), x]), enumD_get ds 0 i hd, g, .tup upd_same (.cons ?_ (.cons ((rd.up e1).up g.ff) .nil))⟩
      rw [Nat.zero_add]
      exact .int _
end
end Pu
/-! PuD: the drawing state of the laws k00 .. k45: a list of two ints, read and written by its owner -/
namespace Pu
open PySem L2
section
variable {ρ : Pu.Env} {te : TE} {K : PySem.W.Frag} {Q : D → Pu.Env → Prop} {P : Po} {i : Nat}
theorem WA.stp {B : Base} {ad : Nat → List Addr} {σ : St} {F H F' H' : Hp} {s : Addr} {S S' : Stt} (w : WA B ad ρ σ F H) (h1 : ρ[i]? = some (.st S)) (k0 : σ[i]? = some (some (.ref s))) (g : Gr (· ∈ ad i) F H F' H') (st : StAt F' H' S' s (ad i)) (fn : ∀ a ∈ ad i, F' a = none) : WA B ad (ρ.set i (.st S')) σ F' H' := by
  have nm : ∀ j a, j ≠ i → a ∈ ad j → a ∉ ad i := fun j a hj m m' => hj (w.dj j i a m m')
  refine ⟨⟨w.gr.ff.trans g.ff, g.fh, fun a o e m => g.kp a o (w.gr.kp a o e m) fun z => ?_, fun a e => g.al a (w.gr.al a e), fun a e z => g.fr a (w.gr.al a e) (w.gr.fr a e z)⟩, by rw [List.length_set]; exact w.len, fun j sl e => ?_, fun j a m => ⟨?_, (w.fz j a m).2⟩, w.dj, fun j e => w.out j (get_set' e), w.pin.to fun S2 e => by
    rcases get_set e with ⟨e0, _⟩ | ⟨hj, e⟩
    · exact ⟨⟨S, by rw [e0]; exact h1⟩, rfl, rfl⟩
    · exact ⟨⟨S2, e⟩, rfl, rfl⟩⟩
  · rcases (w.fz i a z).2 with q | q
    · rw [q] at e; cases e
    · exact m q.1
  · rcases get_set e with ⟨rfl, rfl⟩ | ⟨hj, e⟩
    · exact ⟨s, k0, st⟩
    · have k := w.sl j sl e
      cases sl with
      | emp => exact k
      | val d =>
        obtain ⟨k, v, e, r⟩ := k
        exact ⟨k, v, e, r.up g.ff⟩
      | own es =>
        obtain ⟨q, ws, a1, a2, a3, a4, a5⟩ := k
        exact ⟨q, ws, a1, a2, a3, g.kp q _ a4 (nm j q hj (by rw [a1]; simp)), a5.up g.ff⟩
      | st S2 =>
        obtain ⟨s2, a1, a2⟩ := k
        exact ⟨s2, a1, a2.keep g.ff fun a m o e => g.kp a o e (nm j a hj m)⟩
  · by_cases hj : j = i
    · subst hj; exact fn a m
    · exact g.fr a (w.lv m) (w.fz j a m).1
/-- a fresh list of two ints is the state from now on -/
theorem W.toTwo {B : Base} {σ : St} {F H : Hp} {a b : Int} (h00 : i ≠ 0) (h : ρ[i]? = some (.own [.int a, .int b])) (w : W B ρ σ F H) : W B (ρ.set i (.st (.two a b))) σ F H := by
  obtain ⟨ad, w⟩ := w
  obtain ⟨p, vs, hp, a1, a2, a3, rr⟩ := w.sl i _ h
  obtain ⟨u, v, rfl, r1, r2⟩ := rr.two
  have e1 := r1.int_inv
  have e2 := r2.int_inv
  subst e1 e2
  refine ⟨ad, w.gr, by rw [List.length_set]; exact w.len, fun j sl e => ?_, w.fz, w.dj, fun j e => w.out j (get_set' e), w.pin.to fun S2 e => by
    rcases get_set e with ⟨e0, _⟩ | ⟨hj, e⟩
    · exact absurd e0.symm h00
    · exact ⟨⟨S2, e⟩, rfl, rfl⟩⟩
  rcases get_set e with ⟨rfl, rfl⟩ | ⟨hj, e⟩
  · exact ⟨p, a2, hp, a3⟩
  · exact w.sl j sl e
theorem sx_toTwo {t : TS} {a b : Int} (h00 : i ≠ 0) (h : ρ[i]? = some (.own [.int a, .int b])) (k : SX t (ρ.set i (.st (.two a b))) P) : SX t ρ P := fun B σ F H w Dn n r bk c => k B σ F H (W.toTwo h00 h w) Dn n r bk c
theorem ex_st0 {a b : Int} (h : ρ[i]? = some (.st (.two a b))) (q : Q (.int a) ρ) : EX (tOp (rIxA K) (tVar i) (tC (.int 0))) ρ Q := fun B ad σ F H w Z z => by
  obtain ⟨s, k0, _, hs⟩ := w.sl i _ h
  exact ⟨_, k0, .inl ⟨s, [.int a, .int b], 0, .int a, rfl, rfl, .inl (.inl hs), rfl, z (.int a) ρ (.int a) F H q (Post.refl w) (.int a)⟩⟩
theorem ex_st1 {a b : Int} (h : ρ[i]? = some (.st (.two a b))) (q : Q (.int b) ρ) : EX (tOp (rIxA K) (tVar i) (tC (.int 1))) ρ Q := fun B ad σ F H w Z z => by
  obtain ⟨s, k0, _, hs⟩ := w.sl i _ h
  exact ⟨_, k0, .inl ⟨s, [.int a, .int b], 1, .int b, rfl, rfl, .inl (.inl hs), rfl, z (.int b) ρ (.int b) F H q (Post.refl w) (.int b)⟩⟩
theorem two_grow {F H : Hp} {s : Addr} {a b c d : Int} {as : List Addr} (ha : as = [s]) (fh : Same F H) (hs : H s = some (.lst [.int a, .int b])) (fn : ∀ x ∈ as, F x = none) : Gr (· ∈ as) F H F (upd H s (.lst [.int c, .int d])) := by
  subst ha
  have fs := fn s (by simp)
  refine ⟨Same.refl F, fun x o e => ?_, fun x o e m => ?_, fun x e => ?_, fun _ _ z => z⟩
  · have ne : x ≠ s := fun q => by rw [q, fs] at e; cases e
    rw [upd_ne ne]; exact fh x o e
  · rw [upd_ne (fun q => m (by simp [q]))]; exact e
  · by_cases q : x = s
    · rw [q, upd_same]; intro z; cases z
    · rw [upd_ne q]; exact e
theorem sx_st0 (h : EX te ρ fun d ρ1 => ∃ v a b, d = .int v ∧ ρ1[i]? = some (.st (.two a b)) ∧ NX P (ρ1.set i (.st (.two v b)))) : SX (tAsg te (gSub (tVar i) (tC (.int 0)) rSetL)) ρ P := fun B σ F H w Dn n r bk c => by
  obtain ⟨ad, w⟩ := w
  refine h B ad σ F H w _ fun d ρ1 v F1 H1 q1 p1 r1 => ?_
  obtain ⟨x, a, b, rfl, h1, ρ', l, q⟩ := q1
  have ev := r1.int_inv
  subst ev
  obtain ⟨s, k0, as, hs⟩ := p1.wa.sl i _ h1
  have g := two_grow (c := x) (d := b) as p1.wa.gr.fh hs fun y hy => (p1.wa.fz i y hy).1
  exact ⟨_, k0, s, [.int a, .int b], 0, 0, rfl, rfl, hs, rfl, n ρ' σ F1 _ q (W.weak ⟨ad, p1.wa.stp (S' := .two x b) h1 k0 g ⟨as, upd_same⟩ fun y hy => (p1.wa.fz i y hy).1⟩ l)⟩
theorem sx_st1 (h : EX te ρ fun d ρ1 => ∃ v a b, d = .int v ∧ ρ1[i]? = some (.st (.two a b)) ∧ NX P (ρ1.set i (.st (.two a v)))) : SX (tAsg te (gSub (tVar i) (tC (.int 1)) rSetL)) ρ P := fun B σ F H w Dn n r bk c => by
  obtain ⟨ad, w⟩ := w
  refine h B ad σ F H w _ fun d ρ1 v F1 H1 q1 p1 r1 => ?_
  obtain ⟨x, a, b, rfl, h1, ρ', l, q⟩ := q1
  have ev := r1.int_inv
  subst ev
  obtain ⟨s, k0, as, hs⟩ := p1.wa.sl i _ h1
  have g := two_grow (c := a) (d := x) as p1.wa.gr.fh hs fun y hy => (p1.wa.fz i y hy).1
  exact ⟨_, k0, s, [.int a, .int b], 1, 1, rfl, rfl, hs, rfl, n ρ' σ F1 _ q (W.weak ⟨ad, p1.wa.stp (S' := .two a x) h1 k0 g ⟨as, upd_same⟩ fun y hy => (p1.wa.fz i y hy).1⟩ l)⟩
end
def T_draw (K : PySem.W.Frag) : TS :=
    (tSeq (tIfS (tTest (tOp (rEqP K) (tOp (rIxA K) (tVar 0) (tC (.int 1))) (tC (.int 0))))
      (tSeq (tAsg (tC (.int 0)) (gName 3))
    (tSeq (tIfS (tTest (tOp (rI0 fun i j => .bl (decide (j < i))) (tCB (rLen K) (tCons (tVar 1) tNil)) (tC (.int 0))))
      (tAsg (tOp (rIxA K) (tVar 1) (tOp (rI (fun _ j => 0 < j) fun i j => .int (i % j)) (tOp (rIxA K) (tVar 0) (tC (.int 0))) (tCB (rLen K) (tCons (tVar 1) tNil)))) (gName 3))
      tNext)
    (tSeq (tIfS (tTest (tOp (rI0 fun i j => .bl (decide (i < j))) (tVar 3) (tC (.int 0))))
      (tAsg (tOp (rI0 fun i j => .int (i - j)) (tC (.int 1)) (tOp (rI CMul fun i j => .int (i * j)) (tC (.int 2)) (tVar 3))) (gName 3))
      tNext)
    (tSeq (tAsg (tOp (rI (fun _ j => 0 < j) fun i j => .int (i % j)) (tCB (rInt) (tCons (tOp (rI CMul fun i j => .int (i * j)) (tOp (rPlus K) (tOp (rPlus K) (tVar 3) (tOp (rI CMul fun i j => .int (i * j)) (tOp (rIxA K) (tVar 0) (tC (.int 0))) (tC (.int 7919)))) (tC (.int 1))) (tC (.int 48271))) tNil)) (tC (.int 2147483647))) (gName 4))
    (tSeq (tAsg (tOp (rI (fun _ j => 0 < j) fun i j => .int (i % j)) (tCB (rInt) (tCons (tOp (rPlus K) (tOp (rI CMul fun i j => .int (i * j)) (tVar 4) (tC (.int 69621))) (tOp (rI CMul fun i j => .int (i * j)) (tOp (rIxA K) (tVar 0) (tC (.int 0))) (tC (.int 104729)))) tNil)) (tC (.int 4294967291))) (gSub (tVar 0) (tC (.int 1)) rSetL))
    (tSeq (tIfS (tAnd (tTest (tOp (rI0 fun i j => .bl (decide (j ≤ i))) (tVar 3) (tOp (rI CPow fun i j => .int (i ^ j.toNat)) (tC (.int 10)) (tC (.int 18))))) (tTest (tOp (rI0 fun i j => .bl (decide (i < j))) (tOp (rIxA K) (tVar 0) (tC (.int 0))) (tCB (rLen K) (tCons (tVar 1) tNil)))))
      (tAsg (tVar 3) (gSub (tVar 0) (tC (.int 1)) rSetL))
      tNext)
    (tAsg (tOp (rPlus K) (tOp (rIxA K) (tVar 0) (tC (.int 0))) (tC (.int 1))) (gSub (tVar 0) (tC (.int 0)) rSetL))))))))
      tNext)
    (tSeq (tAsg (tOp (rI (fun _ j => 0 < j) fun i j => .int (i % j)) (tCB (rInt) (tCons (tOp (rIxA K) (tVar 0) (tC (.int 1))) tNil)) (tVar 2)) (gName 5))
    (tSeq (tAsg (tOp (rI CDiv fun i j => .int (i / j)) (tOp (rIxA K) (tVar 0) (tC (.int 1))) (tVar 2)) (gSub (tVar 0) (tC (.int 1)) rSetL))
    (tRet (tVar 5)))))
def T_dr3 (K : PySem.W.Frag) : TS :=
    (tSeq (tAsg (tOp (rI (fun _ j => 0 < j) fun i j => .int (i % j)) (tCB (rInt) (tCons (tOp (rIxA K) (tVar 0) (tC (.int 1))) tNil)) (tVar 2)) (gName 5))
    (tSeq (tAsg (tOp (rI CDiv fun i j => .int (i / j)) (tOp (rIxA K) (tVar 0) (tC (.int 1))) (tVar 2)) (gSub (tVar 0) (tC (.int 1)) rSetL))
    (tRet (tVar 5))))
def T_dr4 (K : PySem.W.Frag) : TS :=
    (tSeq (tAsg (tOp (rI (fun _ j => 0 < j) fun i j => .int (i % j)) (tCB (rInt) (tCons (tOp (rI CMul fun i j => .int (i * j)) (tOp (rPlus K) (tOp (rPlus K) (tVar 3) (tOp (rI CMul fun i j => .int (i * j)) (tOp (rIxA K) (tVar 0) (tC (.int 0))) (tC (.int 7919)))) (tC (.int 1))) (tC (.int 48271))) tNil)) (tC (.int 2147483647))) (gName 4))
    (tSeq (tAsg (tOp (rI (fun _ j => 0 < j) fun i j => .int (i % j)) (tCB (rInt) (tCons (tOp (rPlus K) (tOp (rI CMul fun i j => .int (i * j)) (tVar 4) (tC (.int 69621))) (tOp (rI CMul fun i j => .int (i * j)) (tOp (rIxA K) (tVar 0) (tC (.int 0))) (tC (.int 104729)))) tNil)) (tC (.int 4294967291))) (gSub (tVar 0) (tC (.int 1)) rSetL))
    (tSeq (tIfS (tAnd (tTest (tOp (rI0 fun i j => .bl (decide (j ≤ i))) (tVar 3) (tOp (rI CPow fun i j => .int (i ^ j.toNat)) (tC (.int 10)) (tC (.int 18))))) (tTest (tOp (rI0 fun i j => .bl (decide (i < j))) (tOp (rIxA K) (tVar 0) (tC (.int 0))) (tCB (rLen K) (tCons (tVar 1) tNil)))))
      (tAsg (tVar 3) (gSub (tVar 0) (tC (.int 1)) rSetL))
      tNext)
    (tAsg (tOp (rPlus K) (tOp (rIxA K) (tVar 0) (tC (.int 0))) (tC (.int 1))) (gSub (tVar 0) (tC (.int 0)) rSetL)))))
def T_dr2 (K : PySem.W.Frag) : TS :=
    (tSeq (tIfS (tTest (tOp (rI0 fun i j => .bl (decide (i < j))) (tVar 3) (tC (.int 0))))
      (tAsg (tOp (rI0 fun i j => .int (i - j)) (tC (.int 1)) (tOp (rI CMul fun i j => .int (i * j)) (tC (.int 2)) (tVar 3))) (gName 3))
      tNext)
    (T_dr4 K))
def R_draw : Stt → List D → (D → Stt → Prop) → Prop := fun S ds Z => ∃ (ns : List Int) (m : Int), ds = [.list (ns.map .int), .int m] ∧ (1 ≤ m ∧ m < 1073741824) ∧ Ok2 S ∧ ∀ (r : Int) (S' : Stt), 0 ≤ r → r < m → Ok2 S' → Z (.int r) S'
local macro_rules | `(tactic| walk_at "e") => `(tactic| first
  | ((with_reducible refine nx_seq ?_); (try dsimp only [List.set_cons_succ, List.set_cons_zero]))
  | ((with_reducible refine ex_vr ?_); dsimp only [VQ, List.set_cons_succ, List.set_cons_zero, List.getElem?_cons_zero, List.getElem?_cons_succ]; (fail_if_success (with_reducible show False)))
  | (with_reducible refine sx_seq ?_)
  | (with_reducible refine sx_if ?_)
  | (with_reducible refine sx_next ?_)
  | (with_reducible refine sx_ret ?_)
  | ((fail_if_success (with_reducible refine sx_asgO (eo_lst ?_))); (with_reducible refine sx_asg ?_))
  | (with_reducible refine ex_int ?_)
  | (with_reducible refine ex_str ?_)
  | (with_reducible refine ex_bl ?_)
  | (with_reducible refine ex_non ?_)
  | (with_reducible refine ex_op ?_)
  | (with_reducible refine ex_un ?_)
  | (with_reducible refine ex_chain ?_)
  | (with_reducible refine ex_call ?_)
  | (with_reducible refine ex_isT ?_)
  | (with_reducible refine ex_cb ?_)
  | (with_reducible refine ex_sl ?_)
  | (with_reducible refine ex_tup ?_)
  | (with_reducible refine ex_if ?_)
  | (with_reducible refine ex_of (eo_lst ?_))
  | (with_reducible refine ex_notV ?_)
  | (with_reducible refine ea_nil ?_)
  | (with_reducible refine ea_cons ?_)
  | (with_reducible refine ep_no ?_)
  | (with_reducible refine ep_some ?_)
  | (with_reducible refine et_test ?_)
  | (with_reducible refine et_B ?_)
  | (with_reducible refine et_and ?_)
  | (with_reducible refine et_or ?_)
  | (with_reducible refine et_not ?_)
  | (with_reducible refine et_yes ?_)
  | (with_reducible refine opd_plusI ?_)
  | (with_reducible refine opd_I0 ?_)
  | (with_reducible refine opd_B0 ?_)
  | (with_reducible refine opd_eqI ?_)
  | (with_reducible refine opd_neI ?_)
  | (with_reducible refine opd_eqS ?_)
  | (with_reducible refine opd_neS ?_)
  | (with_reducible refine opd_is ?_)
  | (with_reducible refine opd_isnt ?_)
  | (with_reducible refine opd_ixT rfl ?_)
  | (with_reducible refine opd_ixL rfl ?_)
  | (with_reducible refine und_neg ?_)
  | (with_reducible refine cbd_lenL ?_)
  | (with_reducible refine cbd_lenT ?_)
  | (with_reducible refine cbd_min2 ?_)
  | (with_reducible refine cbd_max2 ?_)
  | (with_reducible refine cbd_abs ?_)
  | (with_reducible refine cbd_int ?_)
  | (with_reducible refine cbd_tupL ?_)
  | (with_reducible refine cbd_listL ?_)
  | (with_reducible refine cbd_listT ?_)
  | (with_reducible refine cbd_sum ?_)
  | (with_reducible refine sld_T ?_)
  | (with_reducible refine sld_L ?_)
  | (with_reducible refine ex_revL ?_)
  | (with_reducible refine ex_bmL ?_)
  | (with_reducible refine ex_andV ?_)
  | (with_reducible refine ei_list ?_)
  | (with_reducible refine ei_rng1 ?_)
  | (with_reducible refine ei_rng2 ?_)
  | (with_reducible refine ei_enum ?_)
  | (with_reducible refine ei_enumT ?_)
  | (with_reducible refine ei_zip ?_)
  | (with_reducible refine sx_par ?_)
  | (with_reducible refine Exists.intro _ (And.intro rfl ?_))
  | (with_reducible refine Exists.intro _ (Exists.intro _ (And.intro rfl ?_)))
  | ((with_reducible show EX (tCall (spS _) [] _ (tCons (tVar _) _)) _ _); refine ex_callS rfl ?_)
  | ((with_reducible refine And.intro (show (_ : Nat) ≤ 100000 from ?_) ?_); (focus (simp; done)))
  | ((with_reducible refine opd_I ?_ ?_); focus (first | omega | (show CDiv _ _; exact ⟨by omega, by omega⟩) | (show CMul _ _; first | exact Or.inl ⟨by omega, by omega⟩ | exact Or.inr ⟨by omega, by omega⟩))))
local macro_rules | `(tactic| walk_at "es") => `(tactic| repeat walk_at "e")
local macro_rules | `(tactic| walk_at "w") => `(tactic| try dsimp only [wipeE, List.foldl_cons, List.foldl_nil, List.set_cons_succ, List.set_cons_zero])
local macro_rules | `(tactic| walk_at "le") => `(tactic| repeat' first | exact LeE.nil | (refine LeE.eq rfl ?_) | (refine LeE.emp ?_) | (refine LeE.eq ?_ ?_))
local macro_rules | `(tactic| walk_at "no") => `(tactic| ((refine And.intro (fun hb => absurd hb ?_) (fun _ => ?_)); (focus (first | (exact Bool.false_ne_true) | (simp; done) | (simp; omega) | (simp only [decide_eq_true_eq]; omega)))))
local macro_rules | `(tactic| walk_at "yes") => `(tactic| ((refine And.intro (fun _ => ?_) (fun hb => absurd hb ?_)); (rotate_left); (focus (first | (exact Bool.noConfusion) | (simp; done) | (simp; omega) | (simp only [decide_eq_false_iff_not]; omega)))))
local macro_rules | `(tactic| walk_at "e") => `(tactic| first
  | ((with_reducible show EX (tOp (rIxA _) (tVar 0) (tC (.int 0))) _ _); refine ex_st0 rfl ?_)
  | ((with_reducible show EX (tOp (rIxA _) (tVar 0) (tC (.int 1))) _ _); refine ex_st1 rfl ?_))
theorem sx_draw (K : PySem.W.Frag) (S : Stt) (ds : List D) (Z : D → Stt → Prop) (h : R_draw S ds Z) :
    SX (T_draw K) (.st S :: (ds.map .val ++ List.replicate (6 - (ds.length + 1)) .emp)) { nx := fun ρ' => ∃ S', ρ'[0]? = some (.st S') ∧ Z .none S', rt := fun d ρ' => ∃ S', ρ'[0]? = some (.st S') ∧ Z d S' } := by
  obtain ⟨ns, m, rfl, ⟨m1, m2⟩, ok, z⟩ := h
  cases S with
  | cel a cs => exact ok.elim
  | dct kvs => exact ok.elim
  | dbl ks => exact ok.elim
  | grd rows => exact ok.elim
  | obj C fs => exact ok.elim
  | dtt kvs => exact ok.elim
  | two a b =>
  obtain ⟨a0, b0⟩ := ok
  show SX (T_draw K) [.st (.two a b), .val (.list (ns.map .int)), .val (.int m), .emp, .emp, .emp] _
  have fin : ∀ (a b : Int) (s3 s4 : Slot), 0 ≤ a → 0 ≤ b → SX (T_dr3 K) [.st (.two a b), .val (.list (ns.map .int)), .val (.int m), s3, s4, .emp] { nx := fun ρ' => ∃ S', ρ'[0]? = some (.st S') ∧ Z .none S', rt := fun d ρ' => ∃ S', ρ'[0]? = some (.st S') ∧ Z d S' } := fun a b s3 s4 a0 b0 => by
    unfold T_dr3
    refine sx_seq (sx_asg (ex_op (ex_cb (ea_cons (ex_st1 rfl (ea_nil (cbd_int ?_)))))))
    walk_at "es"
    refine sx_st1 (ex_op (ex_st1 rfl ?_))
    walk_at "es"
    refine ⟨_, a, b, rfl, rfl, ?_⟩
    walk_at "es"
    exact z _ _ (Int.emod_nonneg _ (by omega)) (Int.emod_lt_of_pos _ (by omega)) ⟨a0, Int.ediv_nonneg b0 (by omega)⟩
  have fill : ∀ (cell : Int), SX (T_dr4 K) [.st (.two a b), .val (.list (ns.map .int)), .val (.int m), .val (.int cell), .emp, .emp] (({ nx := fun ρ' => ∃ S', ρ'[0]? = some (.st S') ∧ Z .none S', rt := fun d ρ' => ∃ S', ρ'[0]? = some (.st S') ∧ Z d S' } : Po).seq (T_dr3 K)) := fun cell => by
    unfold T_dr4
    walk_at "es"
    have v0 : ∀ x : Int, 0 ≤ x % 4294967291 := fun x => Int.emod_nonneg _ (by decide)
    refine sx_st1 ?_
    walk_at "es"
    refine ⟨_, a, b, rfl, rfl, ?_⟩
    walk_at "es"
    have last : ∀ (b' : Int) (s4 : Slot), 0 ≤ b' → SX (tAsg (tOp (rPlus K) (tOp (rIxA K) (tVar 0) (tC (.int 0))) (tC (.int 1))) (gSub (tVar 0) (tC (.int 0)) rSetL)) [.st (.two a b'), .val (.list (ns.map .int)), .val (.int m), .val (.int cell), s4, .emp] (({ nx := fun ρ' => ∃ S', ρ'[0]? = some (.st S') ∧ Z .none S', rt := fun d ρ' => ∃ S', ρ'[0]? = some (.st S') ∧ Z d S' } : Po).seq (T_dr3 K)) := fun b' s4 hb' => by
      refine sx_st0 ?_
      walk_at "es"
      refine ⟨_, a, b', rfl, rfl, ?_⟩
      exact nx_seq (fin _ _ _ _ (by omega) hb')
    refine opd_I (C := CPow) ⟨by decide, by decide, by decide⟩ ?_
    walk_at "es"
    refine ⟨fun hc => ?_, fun hc => ?_⟩
    · have hc := of_decide_eq_true hc
      have h18 : (0 : Int) ≤ 10 ^ (18 : Int).toNat := by decide
      walk_at "es"
      refine ⟨fun hd => ?_, fun hd => ?_⟩
      · refine sx_st1 ?_
        walk_at "es"
        refine ⟨_, a, _, rfl, rfl, ?_⟩
        exact nx_seq (last _ _ (by omega))
      · exact sx_next (nx_seq (last _ _ (v0 _)))
    · refine ⟨(fun q => by cases q), fun _ => ?_⟩
      exact sx_next (nx_seq (last _ _ (v0 _)))
  have second : ∀ (cell : Int), SX (T_dr2 K) [.st (.two a b), .val (.list (ns.map .int)), .val (.int m), .val (.int cell), .emp, .emp] (({ nx := fun ρ' => ∃ S', ρ'[0]? = some (.st S') ∧ Z .none S', rt := fun d ρ' => ∃ S', ρ'[0]? = some (.st S') ∧ Z d S' } : Po).seq (T_dr3 K)) := fun cell => by
    unfold T_dr2
    refine sx_seq (sx_if (et_test (ex_op ?_)))
    walk_at "es"
    refine ⟨fun hc => ?_, fun hc => ?_⟩
    · refine sx_asg (ex_op (ex_int (ex_op (ex_int ?_))))
      walk_at "es"
      exact fill _
    · exact sx_next (nx_seq (fill _))
  unfold T_draw
  walk_at "es"
  refine ⟨fun hb => ?_, fun hb => ?_⟩
  · walk_at "es"
    refine ⟨fun hc => ?_, fun hc => ?_⟩
    · have hc := of_decide_eq_true hc
      rw [List.length_map] at hc
      refine sx_asg (ex_op ?_)
      walk_at "es"
      rw [List.length_map]
      refine opd_I (C := fun _ j => 0 < j) hc ?_
      refine opd_ixM 0 (Int.emod_nonneg _ (by omega)) (Int.emod_lt_of_pos _ hc) ?_
      exact nx_seq (second _)
    · exact sx_next (nx_seq (second _))
  · exact sx_next (nx_seq (fin _ _ _ _ a0 b0))
end Pu
/-! Comprehensions of two clauses over data. -/
namespace Pu
open PySem L2
section
variable {B : Base} {ad : Nat → List Addr} {ρ ρ' : Pu.Env} {σ : St} {F H F' H' F1 H1 : Hp}
theorem WA.updD (w : WA B ad ρ σ F H) {p : Addr} {o : HO} (nb : B.H0 p = none) (nad : ∀ i, p ∉ ad i) (hF : F p = none) : WA B ad ρ σ F (upd H p o) := by
  have neF : ∀ a o, F a = some o → a ≠ p := fun a o q z => by rw [z, hF] at q; cases q
  refine ⟨⟨w.gr.ff, fun a o q => by rw [upd_ne (neF a o q)]; exact w.gr.fh a o q, fun a o q m => ?_, fun a q => ?_, w.gr.fr⟩, w.len, fun j s q => ?_, w.fz, w.dj, w.out, w.pin⟩
  · rw [upd_ne (fun z => by rw [z, nb] at q; cases q)]
    exact w.gr.kp a o q m
  · by_cases ha : a = p
    · rw [ha, upd_same]; intro z; cases z
    · rw [upd_ne ha]; exact w.gr.al a q
  · have k := w.sl j s q
    cases s with
    | emp => exact k
    | val d => exact k
    | own es =>
      obtain ⟨p', ws, a1, a2, a3, a4, a5⟩ := k
      refine ⟨p', ws, a1, a2, a3, ?_, a5⟩
      rw [upd_ne (fun z => nad j (by rw [a1, z]; simp))]
      exact a4
    | st S =>
      obtain ⟨s, a1, a2⟩ := k
      exact ⟨s, a1, a2.keep (Same.refl _) fun a m o e => by
        rw [upd_ne (fun z => nad j (by rw [← z]; exact m))]
        exact e⟩
theorem Post.updD (pt : Post B ad σ ρ F1 H1 ρ' F H) {p : Addr} {o : HO} (hD : H1 p = none) (nb : B.H0 p = none) (nad : ∀ i, p ∉ ad i) (hF : F p = none) : Post B ad σ ρ F1 H1 ρ' F (upd H p o) := by
  have ne1 : ∀ a o, H1 a = some o → a ≠ p := fun a o q z => by rw [z, hD] at q; cases q
  have neF : ∀ a o, F a = some o → a ≠ p := fun a o q z => by rw [z, hF] at q; cases q
  refine ⟨pt.wa.updD nb nad hF, ⟨pt.gr.ff, fun a o q => by rw [upd_ne (neF a o q)]; exact pt.gr.fh a o q, fun a o q m => by rw [upd_ne (ne1 a o q)]; exact pt.gr.kp a o q m, fun a q => ?_, pt.gr.fr⟩, pt.sh⟩
  by_cases ha : a = p
  · rw [ha, upd_same]; intro z; cases z
  · rw [upd_ne ha]; exact pt.gr.al a q
end
/-- a value's truth as a test -/
def tTru (K : PySem.W.Frag) (te : TE) : TT := fun σ H Q => te σ H fun x H' => ∃ k, TruV K x H' k ∧ Q k H'
theorem pt_tru {X : Cx} {a : Expr} {te : TE} (h : PT X a (fun σ H Q => te σ H fun x H' => ∃ k, TruV X.K x H' k ∧ Q k H')) : PT X a (tTru X.K te) := h
theorem et_truL {K : PySem.W.Frag} {ρ : Pu.Env} {te : TE} {Q : Bool → Pu.Env → Prop} (h : EX te ρ fun d ρ1 => ∃ ds, d = .list ds ∧ Q (!ds.isEmpty) ρ1) : ET (tTru K te) ρ Q := fun B ad σ F H w Z z =>
  h B ad σ F H w _ fun d ρ1 v F1 H1 q1 p1 r1 => by
    obtain ⟨ds, rfl, q⟩ := q1
    obtain ⟨a, xs, rfl, h1, h2⟩ := r1.lst_inv
    refine ⟨!ds.isEmpty, .inl ⟨xs, sqL_rd h1 p1.wa.gr.fh, ?_⟩, z _ ρ1 F1 H1 q p1⟩
    have e := h2.len
    cases xs <;> cases ds <;> simp at e <;> rfl
section
variable {ρ : Pu.Env} {wi wi1 : TI} {g g1 : TG} {tt tt1 : TT} {te : TE}
def lc2L {α β : Type} (f : α → Bool) (ys : α → List β) (f1 : α → β → Bool) (gg : α → β → D) (xs : List α) : List D := (xs.filter f).flatMap fun x => ((ys x).filter (f1 x)).map (gg x)
theorem lc2L_snoc {α β : Type} {f : α → Bool} {ys : α → List β} {f1 : α → β → Bool} {gg : α → β → D} {xs : List α} {x : α} : lc2L f ys f1 gg (xs ++ [x]) = lc2L f ys f1 gg xs ++ (if f x = true then ((ys x).filter (f1 x)).map (gg x) else []) := by
  unfold lc2L
  rw [List.filter_append, List.flatMap_append]
  cases h : f x <;> simp [List.filter_cons, h]
theorem lc2L_le {α β : Type} {f : α → Bool} {ys : α → List β} {f1 : α → β → Bool} {gg : α → β → D} {xs : List α} {k : Nat} {x : α} (hx : xs[k]? = some x) (hf : f x = true) (j : Nat) :
    (lc2L f ys f1 gg (xs.take k) ++ (((ys x).take j).filter (f1 x)).map (gg x)).length ≤ (lc2L f ys f1 gg xs).length := by
  have hk : k < xs.length := (List.getElem?_eq_some_iff.mp hx).1
  have e : xs = xs.take k ++ [x] ++ xs.drop (k + 1) := by
    have h1 : xs.take k ++ [x] = xs.take (k + 1) := by rw [List.take_add_one, hx]; rfl
    rw [h1, List.take_append_drop]
  have e2 : lc2L f ys f1 gg xs = lc2L f ys f1 gg (xs.take k) ++ (((ys x).filter (f1 x)).map (gg x) ++ lc2L f ys f1 gg (xs.drop (k + 1))) := by
    conv => lhs; rw [e]
    have : lc2L f ys f1 gg (xs.take k ++ [x] ++ xs.drop (k + 1)) = lc2L f ys f1 gg (xs.take k ++ [x]) ++ lc2L f ys f1 gg (xs.drop (k + 1)) := by
      unfold lc2L; rw [List.filter_append, List.flatMap_append]
    rw [this, lc2L_snoc, if_pos hf, List.append_assoc]
  rw [e2]
  simp only [List.length_append, List.length_map]
  have : (((ys x).take j).filter (f1 x)).length ≤ ((ys x).filter (f1 x)).length := (List.Sublist.filter _ (List.take_sublist _ _)).length_le
  omega
/-- [e for target in .. if .. for target1 in .. if ..], nothing changes -/
theorem eo_lc2P {α β : Type} {vs vs1 : List Nat} {Q : List D → Pu.Env → Prop} (f : α → Bool) (ys : α → List β) (f1 : α → β → Bool) (enc1 : α → β → D) (gg : α → β → D) (h : EI wi ρ fun ds ρ1 => ∃ (xs : List α) (enc : α → D), ds = xs.map enc ∧ (lc2L f ys f1 gg xs).length < 1000000 ∧ Plain ρ1 vs ∧
    (∀ x ∈ xs, SG vs g (enc x) (wipeE ρ1 vs) fun ρ2 => unw vs ρ1 ρ2 = ρ1 ∧ Plain ρ2 vs1 ∧ ET tt ρ2 fun b ρ3 => b = f x ∧ ρ3 = ρ2 ∧ (f x = true → EI wi1 ρ2 fun ds1 ρ4 => ds1 = (ys x).map (enc1 x) ∧ ρ4 = ρ2 ∧
      ∀ y ∈ ys x, SG vs1 g1 (enc1 x y) (wipeE ρ2 vs1) fun ρ5 => unw vs1 ρ2 ρ5 = ρ2 ∧ ET tt1 ρ5 fun b ρ6 => b = f1 x y ∧ ρ6 = ρ5 ∧ (f1 x y = true → EX te ρ5 fun e ρ7 => e = gg x y ∧ ρ7 = ρ5))) ∧ Q (lc2L f ys f1 gg xs) ρ1) : EO (tLc2 wi g tt wi1 g1 tt1 te vs vs1) ρ Q := fun B ad σ F H w Z z => by
  refine h B ad σ F H w _ fun ds ρ1 J F1 H1 q1 p1 it => ?_
  obtain ⟨xs, enc, rfl, hz, pl, turn, done⟩ := q1
  intro Dl hD
  have hDH : H Dl = none := by
    cases q : H Dl with
    | none => rfl
    | some o => exact absurd hD (p1.gr.al Dl (by rw [q]; intro z; cases z))
  have nw := p1.wa.newp hD
  have nms : ∀ (ρ2 : Pu.Env), ¬ MS ad ρ2 Dl := fun ρ2 ⟨j, S, _, m⟩ => nw.2.2 j m
  let Inv := fun (i : Nat) (H' : Hp) => ∃ F' vs', Post B ad σ ρ1 F1 H1 ρ1 F' H' ∧ F' Dl = none ∧ H' Dl = some (.lst vs') ∧ RpA F' vs' (lc2L f ys f1 gg (xs.take i))
  refine ⟨fun i m H' => m = (xs.map enc).length - i ∧ i ≤ (xs.map enc).length ∧ Inv i H', ⟨_, rfl, Nat.zero_le _, F1, [], Post.of p1.wa (Gr.heap p1.wa.gr.fh (same_upd hD)), nw.1, upd_same, .nil⟩, ?_⟩
  rintro i m H' ⟨rfl, hi, F', vs', P, hF, hH, ra⟩
  by_cases hlt : i < (xs.map enc).length
  · refine .inr ⟨it.go i H' (P.gr.ff.trans P.wa.gr.fh) hlt, fun H2 => Inv (i + 1) H2, fun H2 k => ⟨(xs.map enc).length - (i + 1), by omega, rfl, hlt, k⟩, fun x H2 y => ?_⟩
    obtain ⟨d, F2, e, gr, rx⟩ := it.yld i H' x H2 F' P.gr.ff P.wa.gr.fh y hlt
    rw [List.getElem?_map] at e
    obtain ⟨a, ex, rfl⟩ : ∃ a, xs[i]? = some a ∧ enc a = d := by
      cases hx : xs[i]? with
      | none => rw [hx] at e; cases e
      | some a => rw [hx] at e; exact ⟨a, rfl, Option.some.inj e⟩
    have hm : a ∈ xs := List.mem_of_getElem? ex
    have et : xs.take (i + 1) = xs.take i ++ [a] := by rw [List.take_add_one, ex]; rfl
    have P2 := P.trans (Post.of P.wa gr)
    have w2 := P.wa.grow gr
    have hF2 : F2 Dl = none := gr.fr Dl (by rw [hH]; intro z; cases z) hF
    have hH2 : H2 Dl = some (.lst vs') := gr.kp Dl _ hH id
    refine turn a hm B ad (wipe σ vs) F2 H2 x (w2.wiped pl) (pl.ad w2) rx _ fun ρ2 σ2 q wb e2 fr => ?_
    obtain ⟨un2, pl1, q⟩ := q
    have e2' : wipe σ2 vs = wipe σ vs := by
      rw [e2]
      apply List.ext_getElem?
      intro j
      rw [wipe_get, wipe_get, wipe_length]
      split
      · rfl
      · first | rfl | rw [wipe_get, if_neg (by assumption)]
    refine ⟨e2', q B ad σ2 F2 H2 wb _ fun b ρ3 F3 H3 q3 p3 => ?_⟩
    obtain ⟨rfl, rfl, q3⟩ := q3
    cases hb : f a with
    | false =>
      show Inv (i + 1) H3
      have pu := Post.unwiped w2 pl e2' fr wb p3
      rw [un2] at pu
      refine ⟨F3, vs', P2.trans pu, p3.gr.fr Dl (by rw [hH2]; intro z; cases z) hF2, p3.gr.kp Dl _ hH2 (nms _), ?_⟩
      rw [et, lc2L_snoc, if_neg (by rw [hb]; decide), List.append_nil]
      exact ra.up (gr.ff.trans p3.gr.ff)
    | true =>
      show wi1 σ2 H3 _
      refine q3 hb B ad σ2 F3 H3 p3.wa _ fun ds1 ρ4 J1 F4 H4 q4 p4 it1 => ?_
      obtain ⟨rfl, rfl, turn1⟩ := q4
      have p34 := p3.trans p4
      have pu := Post.unwiped w2 pl e2' fr wb p34
      rw [un2] at pu
      let Inv1 := fun (j : Nat) (H' : Hp) => ∃ F' vs', Post B ad σ ρ1 F1 H1 ρ1 F' H' ∧ WA B ad ρ4 σ2 F' H' ∧ Same F4 F' ∧ F' Dl = none ∧ H' Dl = some (.lst vs') ∧ RpA F' vs' (lc2L f ys f1 gg (xs.take i) ++ (((ys a).take j).filter (f1 a)).map (gg a))
      refine ⟨fun j k H' => k = ((ys a).map (enc1 a)).length - j ∧ j ≤ ((ys a).map (enc1 a)).length ∧ Inv1 j H', ⟨_, rfl, Nat.zero_le _, F4, vs', P2.trans pu, p34.wa, Same.refl F4, p34.gr.fr Dl (by rw [hH2]; intro z; cases z) hF2, p34.gr.kp Dl _ hH2 (nms _), by
        show RpA F4 vs' (lc2L f ys f1 gg (xs.take i) ++ [])
        rw [List.append_nil]; exact ra.up (gr.ff.trans p34.gr.ff)⟩, ?_⟩
      rintro j k H5 ⟨rfl, hj, F5, vs5, P5, w5, f45, hF5, hH5, ra5⟩
      by_cases hl1 : j < ((ys a).map (enc1 a)).length
      · refine .inr ⟨it1.go j H5 (f45.trans w5.gr.fh) hl1, fun H6 => Inv1 (j + 1) H6, fun H6 k => ⟨((ys a).map (enc1 a)).length - (j + 1), by omega, rfl, hl1, k⟩, fun x1 H6 y1 => ?_⟩
        obtain ⟨d1, F6, e1, gr1, rx1⟩ := it1.yld j H5 x1 H6 F5 f45 w5.gr.fh y1 hl1
        rw [List.getElem?_map] at e1
        obtain ⟨c, ec, rfl⟩ : ∃ c, (ys a)[j]? = some c ∧ enc1 a c = d1 := by
          cases hx : (ys a)[j]? with
          | none => rw [hx] at e1; cases e1
          | some c => rw [hx] at e1; exact ⟨c, rfl, Option.some.inj e1⟩
        have hc : c ∈ ys a := List.mem_of_getElem? ec
        have et1 : (ys a).take (j + 1) = (ys a).take j ++ [c] := by rw [List.take_add_one, ec]; rfl
        have P6 := P5.trans (Post.of P5.wa gr1)
        have w6 := w5.grow gr1
        have hF6 : F6 Dl = none := gr1.fr Dl (by rw [hH5]; intro z; cases z) hF5
        have hH6 : H6 Dl = some (.lst vs5) := gr1.kp Dl _ hH5 id
        refine turn1 c hc B ad (wipe σ2 vs1) F6 H6 x1 (w6.wiped pl1) (pl1.ad w6) rx1 _ fun ρ5 σ5 q wb5 e5 fr5 => ?_
        obtain ⟨un5, q⟩ := q
        have e5' : wipe σ5 vs1 = wipe σ2 vs1 := by
          rw [e5]
          apply List.ext_getElem?
          intro j
          rw [wipe_get, wipe_get, wipe_length]
          split
          · rfl
          · first | rfl | rw [wipe_get, if_neg (by assumption)]
        refine ⟨e5', q B ad σ5 F6 H6 wb5 _ fun b ρ6 F7 H7 q6 p6 => ?_⟩
        obtain ⟨rfl, rfl, q6⟩ := q6
        have low : ∀ {F8 H8 : Hp}, Post B ad σ5 ρ6 F6 H6 ρ6 F8 H8 → Post B ad σ2 ρ4 F6 H6 ρ4 F8 H8 ∧ Post B ad σ ρ1 F6 H6 ρ1 F8 H8 := fun p => by
          have a1 := Post.unwiped w6 pl1 e5' fr5 wb5 p
          rw [un5] at a1
          have a2 := Post.unwiped P6.wa pl e2' fr w6 a1
          rw [un2] at a2
          exact ⟨a1, a2⟩
        cases hb1 : f1 a c with
        | false =>
          show Inv1 (j + 1) H7
          obtain ⟨a1, a2⟩ := low p6
          refine ⟨F7, vs5, P6.trans a2, a1.wa, f45.trans (gr1.ff.trans p6.gr.ff), p6.gr.fr Dl (by rw [hH6]; intro z; cases z) hF6, p6.gr.kp Dl _ hH6 (nms _), ?_⟩
          rw [et1, List.filter_append, List.filter_cons, if_neg (by rw [hb1]; decide), List.filter_nil, List.append_nil]
          exact ra5.up (gr1.ff.trans p6.gr.ff)
        | true =>
          show te σ5 H7 _
          refine q6 hb1 B ad σ5 F7 H7 p6.wa _ fun e ρ7 v F8 H8 q7 p7 rv => ?_
          obtain ⟨rfl, rfl⟩ := q7
          obtain ⟨a1, a2⟩ := low (p6.trans p7)
          have p67 := p6.trans p7
          have hF8 : F8 Dl = none := p67.gr.fr Dl (by rw [hH6]; intro z; cases z) hF6
          have hH8 : H8 Dl = some (.lst vs5) := p67.gr.kp Dl _ hH6 (nms _)
          have ra8 := (ra5.up (gr1.ff.trans p67.gr.ff)).app (.cons rv .nil)
          refine ⟨vs5, hH8, Nat.lt_of_lt_of_le (by rw [ra5.len]; exact Nat.lt_of_le_of_lt (lc2L_le ex hb j) hz) (by decide), ?_⟩
          show Inv1 (j + 1) _
          refine ⟨F8, vs5 ++ [v], (P6.trans a2).updD hD nw.2.1 nw.2.2 hF8, a1.wa.updD nw.2.1 nw.2.2 hF8, f45.trans (gr1.ff.trans p67.gr.ff), hF8, upd_same, ?_⟩
          rw [et1, List.filter_append, List.map_append, List.filter_cons, if_pos hb1, List.filter_nil, ← List.append_assoc]
          exact ra8
      · have e : j = (ys a).length := by rw [List.length_map] at hl1 hj; omega
        subst e
        rw [List.take_length] at ra5
        refine .inl ⟨it1.stop _ H5 (f45.trans w5.gr.fh) (by rw [List.length_map]; exact Nat.le_refl _), ?_⟩
        show Inv (i + 1) H5
        refine ⟨F5, vs5, P5, hF5, hH5, ?_⟩
        rw [et, lc2L_snoc, if_pos hb]
        exact ra5
  · have e : i = xs.length := by rw [List.length_map] at hlt hi; omega
    subst e
    rw [List.take_length] at ra
    exact .inl ⟨it.stop _ H' (P.gr.ff.trans P.wa.gr.fh) (by rw [List.length_map]; exact Nat.le_refl _), z _ ρ1 Dl vs' F' H' done (p1.trans P) hF hDH hH ra⟩
end
end Pu
namespace Pu
open PySem L2
theorem ex_val {te : TE} {ρ : Pu.Env} {Q : D → Pu.Env → Prop} (d0 : D) (h : EX te ρ fun d ρ' => d = d0 ∧ ρ' = ρ) (q : Q d0 ρ) : EX te ρ Q := h.imp fun d ρ' e => by rw [e.1, e.2]; exact q
theorem et_val {tt : TT} {ρ : Pu.Env} {Q : Bool → Pu.Env → Prop} (b0 : Bool) (h : ET tt ρ fun b ρ' => b = b0 ∧ ρ' = ρ) (q : Q b0 ρ) : ET tt ρ Q := et_imp h fun b ρ' e => by rw [e.1, e.2]; exact q
theorem sx_mid {t u : TS} {ρ : Pu.Env} {P : Po} (ρ1 : Pu.Env) (h : SX t ρ { nx := fun ρ' => ρ' = ρ1, rt := fun _ _ => False }) (k : SX u ρ1 P) : SX (tSeq t u) ρ P := sx_seq fun B σ F H w Dn n r b c =>
  h B σ F H w Dn (fun ρ' σ' F' H' e w' => n ρ' σ' F' H' (by rw [e]; exact k) w') (fun _ _ _ _ _ _ q => q.elim) (fun _ _ _ _ q => q.elim) (fun _ _ _ _ q => q.elim)
/-- the same with what holds of the slots behind t -/
theorem sx_midP {t u : TS} {ρ : Pu.Env} {P : Po} (J : Pu.Env → Prop) (h : SX t ρ { nx := J, rt := fun _ _ => False }) (k : ∀ ρ1, J ρ1 → SX u ρ1 P) : SX (tSeq t u) ρ P := sx_seq fun B σ F H w Dn n r b c =>
  h B σ F H w Dn (fun ρ' σ' F' H' e w' => n ρ' σ' F' H' (k ρ' e) w') (fun _ _ _ _ _ _ q => q.elim) (fun _ _ _ _ q => q.elim) (fun _ _ _ _ q => q.elim)
theorem cbd_intB {b : Bool} {Q : D → Prop} (k : Q (.int (if b then 1 else 0))) : CbD rInt [.bool b] Q := fun F H vs e r Z z => by
  obtain ⟨v, rfl, rv⟩ := r.one
  cases rv.bl_inv
  exact .inr ⟨_, rfl, z _ _ F H k (Gr.refl e) (.int _)⟩
theorem last_at (ds : List D) (d : D) : atI (ds ++ [d]) (-1) = some d := by
  have e : ixN (ds.length + 1) (-1) = some ds.length := by
    unfold ixN
    simp
    omega
  simp [atI, e]
theorem enum_zip {α : Type} (f : α → D) : ∀ (k : Nat) (xs : List α), enumD k (xs.map f) = (xs.zipIdx k).map fun p => .tuple [.int (p.2 : Int), f p.1]
  | _, [] => rfl
  | k, x :: xs => by
    rw [List.map_cons, List.zipIdx_cons, List.map_cons, ← enum_zip f (k + 1) xs]
    rfl
theorem enum_at {α : Type} {f : α → D} {xs : List α} {k : Nat} {d : D} (h : (enumD 0 (xs.map f))[k]? = some d) : ∃ x, xs[k]? = some x ∧ d = .tuple [.int (k : Int), f x] := by
  rw [enum_zip, List.getElem?_map, List.getElem?_zipIdx] at h
  cases e : xs[k]? with
  | none => rw [e] at h; simp at h
  | some x =>
    rw [e] at h
    simp at h
    exact ⟨x, rfl, h.symm⟩
theorem enum_len {α : Type} {f : α → D} {xs : List α} : (enumD 0 (xs.map f)).length = xs.length := by rw [enum_zip, List.length_map, List.length_zipIdx]
theorem find_first {α : Type} {g : Nat → Option α} {n k : Nat} {d : α} (hk : k < n) (h : ∀ j, j < k → g j = none) (e : g k = some d) : (List.range n).findSome? g = some d := by
  obtain ⟨m, rfl⟩ : ∃ m, n = k + 1 + m := ⟨n - (k + 1), by omega⟩
  rw [List.range_add, List.range_succ, List.findSome?_append, List.findSome?_append]
  have : (List.range k).findSome? g = none := List.findSome?_eq_none_iff.mpr fun x hx => h x (List.mem_range.mp hx)
  rw [this]
  simp [e]
theorem find_no {α : Type} {g : Nat → Option α} {n : Nat} (h : ∀ j, j < n → g j = none) : (List.range n).findSome? g = none := List.findSome?_eq_none_iff.mpr fun x hx => h x (List.mem_range.mp hx)
theorem fmin_all : ∀ (ns : List Int) (a : Int), ns.foldl min a ≤ a ∧ (∀ x ∈ ns, ns.foldl min a ≤ x) ∧ (ns.foldl min a = a ∨ ns.foldl min a ∈ ns)
  | [], a => ⟨Int.le_refl _, ⟨(fun _ h => by cases h), Or.inl rfl⟩⟩
  | n :: ns, a => by
    obtain ⟨h1, h2, h3⟩ := fmin_all ns (min a n)
    rw [List.foldl_cons]
    refine ⟨by omega, fun x hx => ?_, ?_⟩
    · rcases List.mem_cons.mp hx with rfl | q
      · omega
      · exact h2 x q
    · rcases h3 with q | q
      · rcases (show min a n = a ∨ min a n = n by omega) with z | z
        · left; rw [q, z]
        · right; rw [q, z]; simp
      · right; exact List.mem_cons_of_mem _ q
theorem foldMin_is {ns : List Int} {m : Int} (hm : m ∈ ns) (h : ∀ x ∈ ns, m ≤ x) : foldMin ns = m := by
  cases ns with
  | nil => cases hm
  | cons n ns =>
    show ns.foldl min n = m
    obtain ⟨h1, h2, h3⟩ := fmin_all ns n
    have a : ns.foldl min n ≤ m := by
      rcases List.mem_cons.mp hm with rfl | q
      · exact h1
      · exact h2 m q
    have b : m ≤ ns.foldl min n := by
      rcases h3 with q | q
      · rw [q]; exact h n (by simp)
      · exact h _ (List.mem_cons_of_mem _ q)
    omega
theorem foldMin_le {ns : List Int} {x : Int} (hm : x ∈ ns) : foldMin ns ≤ x := by
  cases ns with
  | nil => cases hm
  | cons n ns =>
    show ns.foldl min n ≤ x
    obtain ⟨h1, h2, h3⟩ := fmin_all ns n
    rcases List.mem_cons.mp hm with rfl | q
    · exact h1
    · exact h2 x q
theorem foldMin_mem {ns : List Int} (h : 0 < ns.length) : foldMin ns ∈ ns := by
  cases ns with
  | nil => simp at h
  | cons n ns =>
    show ns.foldl min n ∈ n :: ns
    rcases (fmin_all ns n).2.2 with q | q
    · rw [q]; simp
    · exact List.mem_cons_of_mem _ q
theorem take_snoc' {α : Type} {l : List α} {k : Nat} {x : α} (h : l[k]? = some x) : l.take (k + 1) = l.take k ++ [x] := by rw [List.take_add_one, h]; rfl
theorem get_D {α : Type} {l : List α} {k : Nat} {a : α} (h : k < l.length) : l[k]? = some (l.getD k a) := by rw [List.getD_eq_getElem?_getD]; simp [h]
theorem mem_D {α : Type} {l : List α} {k : Nat} {a : α} (h : k < l.length) : l.getD k a ∈ l := List.mem_of_getElem? (get_D h)
theorem flat_snoc' {α β : Type} {l : List α} {x : α} {f : α → List β} : (l ++ [x]).flatMap f = l.flatMap f ++ f x := by simp
theorem eqv_encP (u v : Int × Int) : PyData.eqv (encP u) (encP v) = decide (u = v) := by
  show PyData.eqvAll [.int u.1, .int u.2] [.int v.1, .int v.2] = _
  simp only [PyData.eqvAll, PyData.eqv, Bool.and_true]
  by_cases h : u = v
  · subst h; simp
  · rw [decide_eq_false h]
    by_cases h1 : u.1 = v.1
    · have h2 : u.2 ≠ v.2 := fun q => h (Prod.ext h1 q)
      simp [h2]
    · simp [h1]
theorem any_encP (ws : List (Int × Int)) (w : Int × Int) : ((ws.map encP).any fun y => PyData.eqv y (encP w)) = decide (w ∈ ws) := by
  rw [Bool.eq_iff_iff, List.any_eq_true, decide_eq_true_eq]
  constructor
  · rintro ⟨x, hx, e⟩
    obtain ⟨u, hu, rfl⟩ := List.mem_map.mp hx
    rw [eqv_encP, decide_eq_true_eq] at e
    rwa [← e]
  · intro h
    exact ⟨encP w, List.mem_map.mpr ⟨w, h, rfl⟩, by rw [eqv_encP]; simp⟩
theorem eqv_listP : ∀ (xs ys : List (Int × Int)), PyData.eqvAll (xs.map encP) (ys.map encP) = decide (xs = ys)
  | [], [] => by simp [PyData.eqvAll]
  | [], _ :: _ => by simp [PyData.eqvAll]
  | _ :: _, [] => by simp [PyData.eqvAll]
  | x :: xs, y :: ys => by
    rw [List.map_cons, List.map_cons, PyData.eqvAll, eqv_encP, eqv_listP xs ys]
    by_cases h1 : x = y <;> by_cases h2 : xs = ys <;> simp [h1, h2]
theorem eqv_LP (xs ys : List (Int × Int)) : PyData.eqv (.list (xs.map encP)) (.list (ys.map encP)) = decide (xs = ys) := by
  show PyData.eqvAll _ _ = _
  exact eqv_listP xs ys
/-- l.index(x) of data -/
theorem mtd_indexD {K : PySem.W.Frag} {ds : List D} {d z : D} {j : Nat} {Q : D → Prop} (s1 : PySem.SeqAt.shaped (.list ds) = true) (s2 : PySem.SeqAt.shaped d = true) (hz : ds[j]? = some z) (he : PyData.eqv z d = true)
    (hno : ∀ (m : Nat) (z' : D), m < j → ds[m]? = some z' → PyData.eqv z' d = false) (k : Q (.int (j : Nat))) : MtD (rIndexD K) (.list ds) [d] Q := fun F H x vs e r rv Z z' => by
  obtain ⟨v, rfl, rv1⟩ := rv.one
  have r' := r.dp (K := K) e
  obtain ⟨a, xs, rfl, h1, h2⟩ := r.lst_inv
  exact ⟨a, v, d, ds, j, z, rfl, rfl, r', rv1.dp e, s1, s2, hz, he, hno, z' _ _ F H k (Gr.refl e) (.int _)⟩
theorem lay_encP (xs : List (Int × Int)) : PyData.canLayAll0 (xs.map encP) = true := by
  induction xs with
  | nil => simp [PyData.canLayAll0]
  | cons x xs ih => rw [List.map_cons, PyData.canLayAll0, ih]; simp [encP, PyData.canLay0, PyData.canLayAll0]
theorem mtd_indexP {K : PySem.W.Frag} {ws : List (Int × Int)} {w : Int × Int} {Q : D → Prop} (hw : w ∈ ws) (k : Q (.int (ws.idxOf w : Nat))) : MtD (rIndexD K) (.list (ws.map encP)) [encP w] Q := by
  have hl : ws.idxOf w < ws.length := List.idxOf_lt_length_iff.mpr hw
  have d1 : (PyData.list (ws.map encP)).depth ≤ 64 := by
    have h : DpN 3 (PyData.list (ws.map encP)) := dpn_list (dpn_map fun x _ => dpn_tup (dpn_cons dpn_int (dpn_cons dpn_int dpn_nil)))
    exact Nat.le_trans h (by decide)
  have d2 : (encP w).depth ≤ 64 := by
    have h : DpN 2 (encP w) := dpn_tup (dpn_cons dpn_int (dpn_cons dpn_int dpn_nil))
    exact Nat.le_trans h (by decide)
  refine mtd_indexD (z := encP w) (j := ws.idxOf w) ?_ ?_ ?_ ?_ (fun m z' hm hz => ?_) k
  · unfold PySem.SeqAt.shaped
    rw [decide_eq_true d1, Bool.and_true]
    show PyData.canLayAll0 _ = true
    exact lay_encP ws
  · unfold PySem.SeqAt.shaped
    rw [decide_eq_true d2, Bool.and_true]
    simp [encP, PyData.canLay0, PyData.canLayAll0]
  · rw [List.getElem?_map, List.getElem?_eq_getElem hl, List.getElem_idxOf hl]; rfl
  · rw [eqv_encP]; simp
  · rw [List.getElem?_map, List.getElem?_eq_getElem (by omega)] at hz
    cases hz
    rw [eqv_encP, decide_eq_false_iff_not]
    have := List.not_of_lt_findIdx (p := fun x => x == w) hm
    simpa using this
theorem enum_rng {α : Type} {f : α → D} (a : α) (xs : List α) : enumD 0 (xs.map f) = (rngI 0 xs.length).map fun k => .tuple [.int k, f (xs.getD k.toNat a)] := by
  refine List.ext_getElem? fun k => ?_
  rw [enum_zip, List.getElem?_map, List.getElem?_zipIdx, List.getElem?_map]
  by_cases h : k < xs.length
  · rw [rngI_get h, get_D (a := a) h]
    simp
  · rw [List.getElem?_eq_none (by omega), List.getElem?_eq_none (by rw [rngI_len]; omega)]
    rfl
theorem units65 {k : Nat} {A : Around} (r : Room k A) : A.units + 65 < cLine := by have := r.un; omega
end Pu
/-! PuN: a list of lists of ints and None that is changed within: a state (Stt.grd) from a comprehension [list(x) for x in ..], read, changed, frozen. -/
namespace Pu
open PySem L2
def optD : Option Int → D
  | none => .none
  | some i => .int i
def rowD (row : List (Option Int)) : D := .list (row.map optD)
theorem rp_ov (F : Hp) (x : Option Int) : Rp F (ov x) (optD x) := by
  cases x with
  | none => exact .non
  | some i => exact .int i
theorem ov_inv {F : Hp} {v : V} {x : Option Int} (h : Rp F v (optD x)) : v = ov x := by
  cases x with
  | none => exact h.non_inv
  | some i => exact h.int_inv
theorem rpa_ov (F : Hp) : ∀ row : List (Option Int), RpA F (row.map ov) (row.map optD)
  | [] => .nil
  | x :: row => .cons (rp_ov F x) (rpa_ov F row)
theorem ovs_inv {F : Hp} : ∀ {row : List (Option Int)} {vs : List V}, RpA F vs (row.map optD) → vs = row.map ov
  | [], _, h => by cases h; rfl
  | x :: row, _, h => by
    cases h with
    | cons h1 h2 => rw [ov_inv h1, ovs_inv h2]; rfl
theorem GrA.len {H : Hp} : ∀ {qs : List Addr} {rows : List (List (Option Int))}, GrA H qs rows → qs.length = rows.length
  | [], [], _ => rfl
  | q :: qs, r :: rows, h => by rw [List.length_cons, List.length_cons, GrA.len h.2]
  | [], _ :: _, h => h.elim
  | _ :: _, [], h => h.elim
theorem GrA.get {H : Hp} : ∀ {qs : List Addr} {rows : List (List (Option Int))} {i : Nat} {r : List (Option Int)}, GrA H qs rows → rows[i]? = some r → ∃ q, qs[i]? = some q ∧ H q = some (.lst (r.map ov))
  | q :: qs, r :: rows, 0, _, h, e => by
    cases e
    exact ⟨q, rfl, h.1⟩
  | q :: qs, r :: rows, i + 1, r', h, e => by
    have := GrA.get h.2 (show rows[i]? = some r' by simpa using e)
    simpa using this
  | [], [], _, _, _, e => by simp at e
  | [], _ :: _, _, _, h, _ => h.elim
  | _ :: _, [], _, _, h, _ => h.elim
theorem GrA.app {H : Hp} {l : Addr} {r : List (Option Int)} (hl : H l = some (.lst (r.map ov))) : ∀ {qs : List Addr} {rows : List (List (Option Int))}, GrA H qs rows → GrA H (qs ++ [l]) (rows ++ [r])
  | [], [], _ => ⟨hl, trivial⟩
  | q :: qs, s :: rows, h => ⟨h.1, GrA.app hl h.2⟩
  | [], _ :: _, h => h.elim
  | _ :: _, [], h => h.elim
theorem GrA.out {H : Hp} {p : Addr} {o : HO} : ∀ {qs : List Addr} {rows : List (List (Option Int))}, p ∉ qs → GrA H qs rows → GrA (upd H p o) qs rows
  | [], [], _, _ => trivial
  | q :: qs, r :: rows, hn, h => ⟨by rw [upd_ne (fun e => hn (by rw [e]; simp))]; exact h.1, GrA.out (fun m => hn (by simp [m])) h.2⟩
  | [], _ :: _, _, h => h.elim
  | _ :: _, [], _, h => h.elim
theorem GrA.set {H : Hp} {r' : List (Option Int)} : ∀ {qs : List Addr} {rows : List (List (Option Int))} {i : Nat} {q : Addr}, qs.Nodup → GrA H qs rows → qs[i]? = some q → GrA (upd H q (.lst (r'.map ov))) qs (rows.set i r')
  | p :: qs, r :: rows, 0, _, nd, h, e => by
    cases e
    rw [List.nodup_cons] at nd
    exact ⟨upd_same, GrA.out nd.1 h.2⟩
  | p :: qs, r :: rows, i + 1, q, nd, h, e => by
    rw [List.nodup_cons] at nd
    have e : qs[i]? = some q := by simpa using e
    refine ⟨?_, GrA.set nd.2 h.2 e⟩
    rw [upd_ne (fun z => nd.1 (by rw [z]; exact List.mem_of_getElem? e))]
    exact h.1
  | [], [], _, _, _, _, e => by simp at e
  | [], _ :: _, _, _, _, h, _ => h.elim
  | _ :: _, [], _, _, _, h, _ => h.elim
/-- an expression that makes a state -/
def EN (te : TE) (ρ : Pu.Env) (Q : Stt → Pu.Env → Prop) : Prop := ∀ B ad σ F H, WA B ad ρ σ F H → ∀ Z : VK,
  (∀ S s as ρ1 F1 H1 F' H', Q S ρ1 → Post B ad σ ρ F H ρ1 F1 H1 → Gr Non F1 H1 F' H' → StAt F' H' S s as → (∀ a ∈ as, F' a = none ∧ H1 a = none) → Z (.ref s) H') → te σ H Z
section
variable {ρ : Pu.Env} {P : Po} {te tb tc : TE} {t : TS} {K : PySem.W.Frag}
theorem WA.setVal2 {B : Base} {ad : Nat → List Addr} {ρ : Pu.Env} {σ : St} {F H : Hp} (w : WA B ad ρ σ F H) (i : Nat) {d : D} {v : V} (r : Rp F v d) : WA B (fun k => if k = i then [] else ad k) (ρ.set i (.val d)) (σ.set i (some v)) F H := by
  refine ⟨w.gr, by rw [List.length_set, List.length_set]; exact w.len, fun j s e => ?_, fun j p m => ?_, fun j1 j2 q m1 m2 => ?_, fun j e => ?_, w.pin.to fun S e => by
    rcases get_set e with ⟨_, q⟩ | ⟨hj, e⟩
    · cases q
    · exact ⟨⟨S, e⟩, List.getElem?_set_ne (Ne.symm hj), if_neg hj⟩⟩
  · rcases get_set e with ⟨rfl, rfl⟩ | ⟨hj, e'⟩
    · have hi : j < σ.length := by
        have := (List.getElem?_eq_some_iff.mp e).1
        rw [List.length_set] at this
        rw [w.len]; exact this
      exact ⟨if_pos rfl, v, List.getElem?_set_self hi, r⟩
    · rw [if_neg hj, List.getElem?_set_ne (Ne.symm hj)]
      exact w.sl j s e'
  · by_cases hj : j = i
    · simp [hj] at m
    · simp only [if_neg hj] at m
      exact w.fz j p m
  · by_cases h1 : j1 = i
    · simp [h1] at m1
    · by_cases h2 : j2 = i
      · simp [h2] at m2
      · simp only [if_neg h1] at m1
        simp only [if_neg h2] at m2
        exact w.dj j1 j2 q m1 m2
  · show (if j = i then [] else ad j) = []
    by_cases hj : j = i
    · rw [if_pos hj]
    · rw [if_neg hj]
      exact w.out j (get_set' e)
theorem WA.setOwn2 {B : Base} {ad : Nat → List Addr} {ρ : Pu.Env} {σ : St} {F H : Hp} (w : WA B ad ρ σ F H) (i : Nat) {ds : List D} {p : Addr} {vs : List V} (hF : F p = none) (h0 : B.H0 p = none) (hn : ∀ i, p ∉ ad i) (hp : H p = some (.lst vs)) (r : RpA F vs ds) :
    WA B (fun k => if k = i then (if i < ρ.length then [p] else []) else ad k) (ρ.set i (.own ds)) (σ.set i (some (.ref p))) F H := by
  refine ⟨w.gr, by rw [List.length_set, List.length_set]; exact w.len, fun j s e => ?_, fun j q m => ?_, fun j1 j2 q m1 m2 => ?_, fun j e => ?_, w.pin.to fun S e => by
    rcases get_set e with ⟨_, q⟩ | ⟨hj, e⟩
    · cases q
    · exact ⟨⟨S, e⟩, List.getElem?_set_ne (Ne.symm hj), if_neg hj⟩⟩
  · rcases get_set e with ⟨rfl, rfl⟩ | ⟨hj, e'⟩
    · have hi : j < ρ.length := by
        have := (List.getElem?_eq_some_iff.mp e).1
        rwa [List.length_set] at this
      exact ⟨p, vs, by rw [if_pos rfl, if_pos hi], h0, List.getElem?_set_self (by rw [w.len]; exact hi), hp, r⟩
    · rw [if_neg hj, List.getElem?_set_ne (Ne.symm hj)]
      exact w.sl j s e'
  · by_cases hj : j = i
    · simp only [if_pos hj] at m
      by_cases hi : i < ρ.length
      · simp only [if_pos hi, List.mem_singleton] at m
        subst m
        exact ⟨hF, .inl h0⟩
      · simp [if_neg hi] at m
    · simp only [if_neg hj] at m
      exact w.fz j q m
  · have g : ∀ j, q ∈ (if j = i then (if i < ρ.length then [p] else []) else ad j) → (j = i ∧ q = p) ∨ (j ≠ i ∧ q ∈ ad j) := fun j m => by
      by_cases hj : j = i
      · simp only [if_pos hj] at m
        by_cases hi : i < ρ.length
        · simp only [if_pos hi, List.mem_singleton] at m
          exact .inl ⟨hj, m⟩
        · simp [if_neg hi] at m
      · simp only [if_neg hj] at m
        exact .inr ⟨hj, m⟩
    rcases g j1 m1 with ⟨a1, b1⟩ | ⟨a1, b1⟩ <;> rcases g j2 m2 with ⟨a2, b2⟩ | ⟨a2, b2⟩
    · rw [a1, a2]
    · exact absurd (b1 ▸ b2) (hn j2)
    · exact absurd (b2 ▸ b1) (hn j1)
    · exact w.dj j1 j2 q b1 b2
  · show (if j = i then (if i < ρ.length then [p] else []) else ad j) = []
    have e' := get_set' e
    by_cases hj : j = i
    · subst hj
      rw [if_pos rfl, if_neg (by rw [List.getElem?_eq_none_iff] at e'; omega)]
    · rw [if_neg hj]
      exact w.out j e'
theorem WA.setSt2 {B : Base} {ad : Nat → List Addr} {ρ : Pu.Env} {σ : St} {F H : Hp} {S : Stt} {s : Addr} {as : List Addr} (w : WA B ad ρ σ F H) (i : Nat) (h00 : i ≠ 0) (st : StAt F H S s as) (hF : ∀ a ∈ as, F a = none) (nw : ∀ a ∈ as, B.H0 a = none ∧ ∀ j, a ∉ ad j) :
    WA B (fun k => if k = i then (if i < ρ.length then as else []) else ad k) (ρ.set i (.st S)) (σ.set i (some (.ref s))) F H := by
  refine ⟨w.gr, by rw [List.length_set, List.length_set]; exact w.len, fun j sl e => ?_, fun j q m => ?_, fun j1 j2 q m1 m2 => ?_, fun j e => ?_, w.pin.to fun S2 e => by
    rcases get_set e with ⟨e0, _⟩ | ⟨hj, e⟩
    · exact absurd e0.symm h00
    · exact ⟨⟨S2, e⟩, List.getElem?_set_ne (Ne.symm hj), if_neg hj⟩⟩
  · rcases get_set e with ⟨rfl, rfl⟩ | ⟨hj, e'⟩
    · have hi : j < ρ.length := by
        have := (List.getElem?_eq_some_iff.mp e).1
        rwa [List.length_set] at this
      exact ⟨s, List.getElem?_set_self (by rw [w.len]; exact hi), by rw [if_pos rfl, if_pos hi]; exact st⟩
    · rw [if_neg hj, List.getElem?_set_ne (Ne.symm hj)]
      exact w.sl j sl e'
  · by_cases hj : j = i
    · simp only [if_pos hj] at m
      by_cases hi : i < ρ.length
      · simp only [if_pos hi] at m
        exact ⟨hF q m, .inl (nw q m).1⟩
      · simp [if_neg hi] at m
    · simp only [if_neg hj] at m
      exact w.fz j q m
  · have g : ∀ j, q ∈ (if j = i then (if i < ρ.length then as else []) else ad j) → (j = i ∧ q ∈ as) ∨ (j ≠ i ∧ q ∈ ad j) := fun j m => by
      by_cases hj : j = i
      · simp only [if_pos hj] at m
        by_cases hi : i < ρ.length
        · simp only [if_pos hi] at m
          exact .inl ⟨hj, m⟩
        · simp [if_neg hi] at m
      · simp only [if_neg hj] at m
        exact .inr ⟨hj, m⟩
    rcases g j1 m1 with ⟨a1, b1⟩ | ⟨a1, b1⟩ <;> rcases g j2 m2 with ⟨a2, b2⟩ | ⟨a2, b2⟩
    · rw [a1, a2]
    · exact absurd b2 ((nw q b1).2 j2)
    · exact absurd b1 ((nw q b2).2 j1)
    · exact w.dj j1 j2 q b1 b2
  · show (if j = i then (if i < ρ.length then as else []) else ad j) = []
    have e' := get_set' e
    by_cases hj : j = i
    · subst hj
      rw [if_pos rfl, if_neg (by rw [List.getElem?_eq_none_iff] at e'; omega)]
    · rw [if_neg hj]
      exact w.out j e'
theorem sx_asgE {i : Nat} (h00 : i ≠ 0) (h : EN te ρ fun S ρ1 => NX P (ρ1.set i (.st S))) : SX (tAsg te (gName i)) ρ P := fun B σ F H w Dn n r b c => by
  obtain ⟨ad, w⟩ := w
  refine h B ad σ F H w _ fun S s as ρ1 F1 H1 F' H' q p g st fn => ?_
  obtain ⟨ρ2, l, q⟩ := q
  exact n ρ2 _ F' H' q (W.weak ⟨_, (p.wa.grow g).setSt2 i h00 st (fun a m => (fn a m).1) fun a m => (p.wa.newp (fn a m).2).2⟩ l)
theorem wipe_twice (σ : St) (vs : List Nat) : wipe (wipe σ vs) vs = wipe σ vs := by
  apply List.ext_getElem?
  intro j
  rw [wipe_get, wipe_get, wipe_length]
  split
  · rfl
  · first | rfl | rw [wipe_get, if_neg (by assumption)]
/-- [list(x) for x in ..]: the lists that it makes are a state -/
theorem en_grid {r : Nat} {Q : Stt → Pu.Env → Prop} (h : EX te ρ fun d ρ1 => ∃ rows, d = .list (rows.map rowD) ∧ rows.length < 1000000 ∧ r < ρ1.length ∧ Q (.grd rows) ρ1) :
    EN (tLc (iList K te) (gName r) tYes (tCB (rList K) (tCons (tVar r) tNil)) [r]) ρ Q := fun B ad σ F H w Z z => by
  have hi : EI (iList K te) ρ fun ds ρ1 => ∃ rows : List (List (Option Int)), ds = rows.map rowD ∧ rows.length < 1000000 ∧ r < ρ1.length ∧ Q (.grd rows) ρ1 := ei_list (h.imp fun d ρ1 e => by
    obtain ⟨rows, e, k⟩ := e
    exact ⟨_, e, rows, rfl, k⟩)
  refine hi B ad σ F H w _ fun ds ρ1 J F1 H1 q1 p1 it => ?_
  obtain ⟨rows, rfl, hz, hr, q⟩ := q1
  intro Dl hD
  have hrs : r < σ.length := by rw [p1.wa.len]; exact hr
  have nF1 : F1 Dl = none := (p1.wa.newp hD).1
  let Inv := fun (k : Nat) (H' : Hp) => ∃ qs F', Gr Non F1 H1 F' H' ∧ (Dl :: qs).Nodup ∧ (∀ a ∈ Dl :: qs, F' a = none ∧ H1 a = none) ∧ H' Dl = some (.lst (qs.map V.ref)) ∧ GrA H' qs (rows.take k) ∧ qs.length = k
  refine ⟨fun i m H' => m = (rows.map rowD).length - i ∧ i ≤ (rows.map rowD).length ∧ Inv i H', ⟨_, rfl, Nat.zero_le _, [], F1, Gr.heap p1.wa.gr.fh (same_upd hD), by simp, fun a ha => ?_, upd_same, trivial, rfl⟩, ?_⟩
  · have e : a = Dl := by simpa using ha
    rw [e]
    exact ⟨nF1, hD⟩
  rintro i m H' ⟨rfl, hi, qs, F', g, nd, fn, hl, hg, ql⟩
  by_cases hlt : i < (rows.map rowD).length
  · refine .inr ⟨it.go i H' (g.ff.trans g.fh) hlt, fun H2 => Inv (i + 1) H2, fun H2 k => ⟨(rows.map rowD).length - (i + 1), by omega, rfl, hlt, k⟩, fun x H2 y => ?_⟩
    obtain ⟨d, F2, e, gr, rx⟩ := it.yld i H' x H2 F' g.ff g.fh y hlt
    rw [List.getElem?_map] at e
    obtain ⟨row, ex, rfl⟩ : ∃ row, rows[i]? = some row ∧ rowD row = d := by
      cases hx : rows[i]? with
      | none => rw [hx] at e; cases e
      | some a => rw [hx] at e; exact ⟨a, rfl, Option.some.inj e⟩
    obtain ⟨p, xs, rfl, h1, h2⟩ := rx.lst_inv
    have hxs := ovs_inv h2
    subst hxs
    have g2 : Gr Non F1 H1 F2 H2 := g.trans gr (fun _ _ z => z) fun _ _ z => z
    have alive : ∀ a ∈ Dl :: qs, H' a ≠ none := fun a ha => by
      rcases List.mem_cons.mp ha with rfl | ha
      · rw [hl]; intro z; cases z
      · exact hg.mem a ha
    have hl2 : H2 Dl = some (.lst (qs.map V.ref)) := gr.kp _ _ hl id
    have hg2 : GrA H2 qs (rows.take i) := hg.keep fun a _ o e => gr.kp a o e id
    refine ⟨?_, ?_⟩
    · rw [wipe_set (by simp), wipe_twice]
    show tCB (rList K) (tCons (tVar r) tNil) _ H2 _
    refine ⟨_, List.getElem?_set_self (by rw [wipe_length]; exact hrs), p, row.map ov, rfl, .inl (sqL_rd h1 gr.fh), fun l hl0 => ?_⟩
    have ne : l ≠ Dl := fun z => by rw [z, hl2] at hl0; cases hl0
    have lout : ∀ a ∈ Dl :: qs, a ≠ l := fun a ha z => gr.al a (alive a ha) (by rw [z]; exact hl0)
    have F2l : F2 l = none := by
      cases q : F2 l with
      | none => rfl
      | some o => rw [g2.fh l o q] at hl0; cases hl0
    have H1l : H1 l = none := by
      cases q : H1 l with
      | none => rfl
      | some o => exact absurd hl0 (g2.al l (by rw [q]; intro z; cases z))
    have F2D : ∀ a ∈ Dl :: qs, F2 a = none := fun a ha => gr.fr a (alive a ha) (fn a ha).1
    refine ⟨qs.map V.ref, by rw [upd_ne (Ne.symm ne)]; exact hl2, ?_, ?_⟩
    · rw [List.length_map, ql]
      have : i < rows.length := by rw [List.length_map] at hlt; exact hlt
      exact Nat.lt_trans (Nat.lt_trans this hz) (by decide)
    show Inv (i + 1) _
    have nf : ∀ a o, F2 a = some o → a ≠ l ∧ a ≠ Dl := fun a o e => ⟨(fun z => by rw [z, F2l] at e; cases e), (fun z => by rw [z, F2D Dl (by simp)] at e; cases e)⟩
    have n1 : ∀ a, H1 a ≠ none → a ≠ l ∧ a ≠ Dl := fun a e => ⟨fun z => e (by rw [z]; exact H1l), fun z => e (by rw [z]; exact hD)⟩
    refine ⟨qs ++ [l], F2, ⟨g2.ff, fun a o e => ?_, fun a o e m => ?_, fun a e => ?_, g2.fr⟩, ?_, ?_, ?_, ?_, by simp [ql]⟩
    · rw [upd_ne (nf a o e).2, upd_ne (nf a o e).1]
      exact g2.fh a o e
    · have na := n1 a (by rw [e]; intro z; cases z)
      rw [upd_ne na.2, upd_ne na.1]
      exact g2.kp a o e m
    · have na := n1 a e
      rw [upd_ne na.2, upd_ne na.1]
      exact g2.al a e
    · rw [List.nodup_cons] at nd ⊢
      refine ⟨fun m => ?_, ?_⟩
      · rcases List.mem_append.mp m with m | m
        · exact nd.1 m
        · exact ne (List.mem_singleton.mp m).symm
      · refine List.nodup_append.mpr ⟨nd.2, by simp, fun a ha b hb e => ?_⟩
        rw [List.mem_singleton.mp hb] at e
        exact lout a (by simp [ha]) e
    · intro a ha
      rcases List.mem_cons.mp ha with rfl | ha
      · exact ⟨F2D _ (by simp), hD⟩
      · rcases List.mem_append.mp ha with ha | ha
        · exact ⟨F2D a (by simp [ha]), (fn a (by simp [ha])).2⟩
        · rw [List.mem_singleton.mp ha]; exact ⟨F2l, H1l⟩
    · rw [upd_same, List.map_append]; rfl
    · rw [take_snoc' ex]
      refine GrA.out (fun m => ?_) (GrA.app upd_same (GrA.out (fun m => lout l (by simp [m]) rfl) hg2))
      rcases List.mem_append.mp m with m | m
      · exact (List.nodup_cons.mp nd).1 m
      · exact ne (List.mem_singleton.mp m).symm
  · have e : i = rows.length := by rw [List.length_map] at hlt hi; omega
    subst e
    rw [List.take_length] at hg
    exact .inl ⟨it.stop _ H' (g.ff.trans g.fh) (by rw [List.length_map]; exact Nat.le_refl _), z (.grd rows) Dl (Dl :: qs) ρ1 F1 H1 F' H' q p1 g ⟨qs, rfl, nd, hl, hg⟩ fn⟩
/-- x[a][b] of such a state -/
theorem ex_grd {i : Nat} {rows0 : List (List (Option Int))} {Q : D → Pu.Env → Prop} (h : ρ[i]? = some (.st (.grd rows0))) (k : EX tb ρ fun d ρ1 => ∃ a m rows1 r1, d = .int a ∧ ρ1[i]? = some (.st (.grd rows1)) ∧ ixN rows1.length a = some m ∧ rows1[m]? = some r1 ∧
    EX tc ρ1 fun e ρ2 => ∃ b rows r x, e = .int b ∧ ρ2[i]? = some (.st (.grd rows)) ∧ rows[m]? = some r ∧ atI r b = some x ∧ Q (optD x) ρ2) : EX (tOp (rIxA K) (tOp (rIxA K) (tVar i) tb) tc) ρ Q := fun B ad σ F H w Z z => by
  obtain ⟨s, k0, qs0, has0, _, _, _⟩ := w.sl i _ h
  refine ⟨_, k0, k B ad σ F H w _ fun d ρ1 y F1 H1 q1 p1 ry => ?_⟩
  obtain ⟨a, m, rows1, r1, rfl, h1, hm, hr1, q1⟩ := q1
  obtain ⟨s1, k1, qs1, has1, nd1, hs1, hg1⟩ := p1.wa.sl i _ h1
  rw [k0] at k1
  cases k1
  obtain ⟨q, hq, _⟩ := hg1.get hr1
  have hat : atI (qs1.map V.ref) a = some (V.ref q) := by
    unfold atI
    rw [List.length_map, hg1.len, hm]
    show (qs1.map V.ref)[m]? = _
    rw [List.getElem?_map, hq]
    rfl
  refine .inl ⟨s, qs1.map V.ref, a, .ref q, rfl, ry.int_inv, .inl (.inl hs1), hat, ?_⟩
  refine q1 B ad σ F1 H1 p1.wa _ fun e ρ2 u F2 H2 q2 p2 ru => ?_
  obtain ⟨b, rows, r, x, rfl, h2, hr, hx, q2⟩ := q2
  obtain ⟨s2, k2, qs2, has2, nd2, hs2, hg2⟩ := p2.wa.sl i _ h2
  rw [k0] at k2
  cases k2
  have eq : qs2 = qs1 := by
    have := has2.symm.trans has1
    simpa using this
  subst eq
  obtain ⟨q', hq', hH⟩ := hg2.get hr
  rw [hq] at hq'
  cases hq'
  have hx' : atI (r.map ov) b = some (ov x) := by
    unfold atI at hx ⊢
    rw [List.length_map]
    cases e : ixN r.length b with
    | none => rw [e] at hx; cases hx
    | some j =>
      rw [e] at hx
      show (r.map ov)[j]? = _
      rw [List.getElem?_map, show r[j]? = some x from hx]
      rfl
  exact .inl ⟨q, r.map ov, b, ov x, rfl, ru.int_inv, .inl (.inl hH), hx', z _ ρ2 _ F2 H2 q2 (p1.trans p2) (rp_ov F2 x)⟩
theorem ex_lenG {i : Nat} {rows : List (List (Option Int))} {Q : D → Pu.Env → Prop} (h : ρ[i]? = some (.st (.grd rows))) (q : Q (.int (rows.length : Int)) ρ) : EX (tCB (rLen K) (tCons (tVar i) tNil)) ρ Q := fun B ad σ F H w Z z => by
  obtain ⟨s, k0, qs, _, _, hs, hg⟩ := w.sl i _ h
  exact ⟨_, k0, _, rows.length, rfl, .inl ⟨qs.map V.ref, .inl (.inl hs), by rw [List.length_map, hg.len]⟩, z _ ρ _ F H q (Post.refl w) (.int _)⟩
theorem ex_lenG1 {i : Nat} {rows0 : List (List (Option Int))} {Q : D → Pu.Env → Prop} (h : ρ[i]? = some (.st (.grd rows0))) (k : EX tb ρ fun d ρ1 => ∃ a m rows r, d = .int a ∧ ρ1[i]? = some (.st (.grd rows)) ∧ ixN rows.length a = some m ∧ rows[m]? = some r ∧ Q (.int (r.length : Int)) ρ1) :
    EX (tCB (rLen K) (tCons (tOp (rIxA K) (tVar i) tb) tNil)) ρ Q := fun B ad σ F H w Z z => by
  obtain ⟨s, k0, qs0, has0, _, _, _⟩ := w.sl i _ h
  refine ⟨_, k0, k B ad σ F H w _ fun d ρ1 y F1 H1 q1 p1 ry => ?_⟩
  obtain ⟨a, m, rows1, r1, rfl, h1, hm, hr1, q1⟩ := q1
  obtain ⟨s1, k1, qs1, has1, nd1, hs1, hg1⟩ := p1.wa.sl i _ h1
  rw [k0] at k1
  cases k1
  obtain ⟨q, hq, hH⟩ := hg1.get hr1
  have hat : atI (qs1.map V.ref) a = some (V.ref q) := by
    unfold atI
    rw [List.length_map, hg1.len, hm]
    show (qs1.map V.ref)[m]? = _
    rw [List.getElem?_map, hq]
    rfl
  refine .inl ⟨s, qs1.map V.ref, a, .ref q, rfl, ry.int_inv, .inl (.inl hs1), hat, ?_⟩
  exact ⟨_, r1.length, rfl, .inl ⟨r1.map ov, .inl (.inl hH), by rw [List.length_map]⟩, z _ ρ1 _ F1 H1 q1 p1 (.int _)⟩
/-- x[a][b] = e -/
theorem sx_setG {i : Nat} (h : EX te ρ fun d ρ1 => ∃ x rows1, d = optD x ∧ ρ1[i]? = some (.st (.grd rows1)) ∧ EX tb ρ1 fun a' ρ2 => ∃ a m rows2 r2, a' = .int a ∧ ρ2[i]? = some (.st (.grd rows2)) ∧ ixN rows2.length a = some m ∧ rows2[m]? = some r2 ∧
    EX tc ρ2 fun b' ρ3 => ∃ b j rows r, b' = .int b ∧ ρ3[i]? = some (.st (.grd rows)) ∧ rows[m]? = some r ∧ ixN r.length b = some j ∧ NX P (ρ3.set i (.st (.grd (rows.set m (r.set j x)))))) :
    SX (tAsg te (gSub (tOp (rIxA K) (tVar i) tb) tc rSetL)) ρ P := fun B σ F H w Dn n rt bk ct => by
  obtain ⟨ad, w⟩ := w
  refine h B ad σ F H w _ fun d ρ1 v F1 H1 q1 p1 rv => ?_
  obtain ⟨x, rows1, rfl, h1, q1⟩ := q1
  have ev := ov_inv rv
  obtain ⟨s, k0, qs0, has0, _, _, _⟩ := p1.wa.sl i _ h1
  refine ⟨_, k0, q1 B ad σ F1 H1 p1.wa _ fun a' ρ2 y F2 H2 q2 p2 ry => ?_⟩
  obtain ⟨a, m, rows2, r2, rfl, h2, hm, hr2, q2⟩ := q2
  obtain ⟨s1, k1, qs1, has1, nd1, hs1, hg1⟩ := p2.wa.sl i _ h2
  rw [k0] at k1
  cases k1
  obtain ⟨q, hq, _⟩ := hg1.get hr2
  have hat : atI (qs1.map V.ref) a = some (V.ref q) := by
    unfold atI
    rw [List.length_map, hg1.len, hm]
    show (qs1.map V.ref)[m]? = _
    rw [List.getElem?_map, hq]
    rfl
  refine .inl ⟨s, qs1.map V.ref, a, .ref q, rfl, ry.int_inv, .inl (.inl hs1), hat, ?_⟩
  refine q2 B ad σ F2 H2 p2.wa _ fun b' ρ3 u F3 H3 q3 p3 ru => ?_
  obtain ⟨b, j, rows, r, rfl, h3, hr, hj, ρ', l, q3⟩ := q3
  have st3 := p3.wa.sl i _ h3
  obtain ⟨s2, k2, qs2, has2, nd2, hs2, hg2⟩ := st3
  rw [k0] at k2
  cases k2
  have eq : qs2 = qs1 := by
    have := has2.symm.trans has1
    simpa using this
  subst eq
  obtain ⟨q', hq', hH⟩ := hg2.get hr
  rw [hq] at hq'
  cases hq'
  have hqm : q ∈ qs2 := List.mem_of_getElem? hq
  have hqa : q ∈ ad i := by rw [has2]; simp [hqm]
  have hFq : F3 q = none := (p3.wa.fz i q hqa).1
  have hsq : s ≠ q := fun e => (List.nodup_cons.mp nd2).1 (by rw [e]; exact hqm)
  refine ⟨q, r.map ov, b, j, rfl, ru.int_inv, hH, by rw [List.length_map]; exact hj, ?_⟩
  have eset : (r.map ov).set j v = (r.set j x).map ov := by rw [ev, List.map_set]
  rw [eset]
  have g : Gr (· ∈ ad i) F3 H3 F3 (upd H3 q (.lst ((r.set j x).map ov))) := ⟨Same.refl F3, fun a o e => by
      rw [upd_ne (fun z => by rw [z, hFq] at e; cases e)]
      exact p3.wa.gr.fh a o e, fun a o e mm => by
      rw [upd_ne (fun z => mm (by rw [z]; exact hqa))]
      exact e, fun a e => by
      by_cases ha : a = q
      · rw [ha, upd_same]; intro z; cases z
      · rw [upd_ne ha]; exact e, fun _ _ z => z⟩
  refine n ρ' σ F3 _ q3 (W.weak ⟨ad, p3.wa.stp (S' := .grd (rows.set m (r.set j x))) h3 k0 g ⟨qs2, has2, nd2, ?_, ?_⟩ fun a ha => (p3.wa.fz i a ha).1⟩ l)
  · rw [upd_ne hsq]; exact hs2
  · exact GrA.set (List.nodup_cons.mp nd2).2 hg2 hq
/-- the lists are data from now on -/
theorem rpa_grd {F : Hp} : ∀ {qs : List Addr} {rows : List (List (Option Int))}, GrA F qs rows → RpA F (qs.map V.ref) (rows.map rowD)
  | [], [], _ => .nil
  | q :: qs, r :: rows, h => .cons (.lst (.inl h.1) (rpa_ov F r)) (rpa_grd h.2)
  | [], _ :: _, h => h.elim
  | _ :: _, [], h => h.elim
theorem sx_frzG (i : Nat) (h00 : i ≠ 0) {rows : List (List (Option Int))} (h : ρ[i]? = some (.st (.grd rows))) (k : SX t (ρ.set i (.val (.list (rows.map rowD)))) P) : SX t ρ P := fun B σ F H w => by
  obtain ⟨ad, w⟩ := w
  obtain ⟨s, k0, qs, has, nd, hs, hg⟩ := w.sl i _ h
  have hn : ∀ p ∈ ad i, B.H0 p = none := fun p m => by
    rcases (w.fz i p m).2 with q | q
    · exact q
    · exact absurd q.2 h00
  have up : Same F (fun a => if a ∈ ad i then H a else F a) := fun a o e => by
    have : a ∉ ad i := fun m => by rw [(w.fz i a m).1] at e; cases e
    show (if a ∈ ad i then H a else F a) = some o
    rw [if_neg this]; exact e
  have at1 : ∀ a ∈ ad i, (if a ∈ ad i then H a else F a) = H a := fun a m => if_pos m
  refine k B σ (fun a => if a ∈ ad i then H a else F a) H ⟨fun j => if j = i then [] else ad j, ⟨w.gr.ff.trans up, fun a o e => ?_, w.gr.kp, w.gr.al, fun a e z => ?_⟩, by rw [List.length_set]; exact w.len, fun j sl e => ?_, fun j q m => ?_, fun j1 j2 q m1 m2 => ?_, fun j e => ?_, w.pin.to fun S2 e => by
    rcases get_set e with ⟨e0, _⟩ | ⟨hj, e⟩
    · exact absurd e0.symm h00
    · exact ⟨⟨S2, e⟩, rfl, if_neg hj⟩⟩
  · have e : (if a ∈ ad i then H a else F a) = some o := e
    by_cases m : a ∈ ad i
    · rw [at1 a m] at e; exact e
    · skip
      rw [if_neg m] at e; exact w.gr.fh a o e
  · have m : a ∉ ad i := fun m => e (hn a m)
    show (if a ∈ ad i then H a else F a) = none
    rw [if_neg m]
    exact w.gr.fr a e z
  · rcases get_set e with ⟨rfl, rfl⟩ | ⟨hj, e⟩
    · refine ⟨if_pos rfl, .ref s, k0, .lst (xs := qs.map V.ref) (.inl ?_) (rpa_grd (hg.keep fun q hq o e => ?_))⟩
      · exact (at1 s (by rw [has]; simp)).trans hs
      · exact (at1 q (by rw [has]; simp [hq])).trans e
    · rw [if_neg hj]
      have k := w.sl j sl e
      cases sl with
      | emp => exact k
      | val d =>
        obtain ⟨k, v, e, r⟩ := k
        exact ⟨k, v, e, r.up up⟩
      | own es =>
        obtain ⟨q, ws, a1, a2, a3, a4, a5⟩ := k
        exact ⟨q, ws, a1, a2, a3, a4, a5.up up⟩
      | st S2 =>
        obtain ⟨s2, a1, a2⟩ := k
        exact ⟨s2, a1, a2.keep up fun _ _ _ e => e⟩
  · by_cases hj : j = i
    · simp only [if_pos hj] at m; cases m
    · simp only [if_neg hj] at m
      have : q ∉ ad i := fun m' => hj (w.dj j i q m m')
      refine ⟨?_, (w.fz j q m).2⟩
      show (if q ∈ ad i then H q else F q) = none
      rw [if_neg this]
      exact (w.fz j q m).1
  · by_cases h1 : j1 = i
    · simp only [if_pos h1] at m1; cases m1
    · by_cases h2 : j2 = i
      · simp only [if_pos h2] at m2; cases m2
      · simp only [if_neg h1] at m1
        simp only [if_neg h2] at m2
        exact w.dj j1 j2 q m1 m2
  · show (if j = i then [] else ad j) = []
    by_cases hj : j = i
    · rw [if_pos hj]
    · rw [if_neg hj]; exact w.out j (get_set' e)
/-- a, b, c = (an own list), (data), (a state): a tuple that nobody keeps -/
theorem sx_parOVN {K : PySem.W.Frag} {a b c : Nat} {te1 te2 te3 : TE} (h00 : c ≠ 0) (h : EO te1 ρ fun ds1 ρ1 => EX te2 ρ1 fun d2 ρ2 => EN te3 ρ2 fun S ρ3 => NX P (((ρ3.set a (.own ds1)).set b (.val d2)).set c (.st S))) :
    SX (tAsg (tTup (tCons te1 (tCons te2 (tCons te3 tNil)))) (gTup K 3 (gCons (gName a) (gCons (gName b) (gCons (gName c) gNil))))) ρ P := fun B σ F H w Dn n r bk ct => by
  obtain ⟨ad, w⟩ := w
  refine h B ad σ F H w _ fun ds1 ρ1 p1 vs1 F1 H1 q1 P1 hF1 hH1 hp1 rv1 => ?_
  refine q1 B ad σ F1 H1 P1.wa _ fun d2 ρ2 v2 F2 H2 q2 P2 rv2 => ?_
  refine q2 B ad σ F2 H2 P2.wa _ fun S s as ρ3 F4 H4 F3 H3 q3 P4 g st fn => ?_
  obtain ⟨ρ', l, q⟩ := q3
  refine ⟨by show 3 ≤ sizeLine; decide, fun T hT => ?_⟩
  have P3 := P4.trans (Post.of P4.wa g)
  have n1 := w.newp hH1
  have nms : ∀ (ρ2 : Pu.Env), ¬ MS ad ρ2 p1 := fun ρ2 ⟨j, S, _, m⟩ => n1.2.2 j m
  have hp2 : H2 p1 = some (.lst vs1) := P2.gr.kp p1 _ hp1 (nms _)
  have hp4 : H4 p1 = some (.lst vs1) := P4.gr.kp p1 _ hp2 (nms _)
  have hp1' : H3 p1 = some (.lst vs1) := P3.gr.kp p1 _ hp2 (nms _)
  have hF1' : F3 p1 = none := P3.gr.fr p1 (by rw [hp2]; intro z; cases z) (P2.gr.fr p1 (by rw [hp1]; intro z; cases z) hF1)
  have nT := P3.wa.newp hT
  have ne1 : p1 ≠ T := fun e => by rw [e, hT] at hp1'; cases hp1'
  have nas : ∀ x ∈ as, x ≠ T := fun x hx e => (st.mem.2 x hx) (by rw [e]; exact hT)
  have nap : ∀ x ∈ as, x ≠ p1 := fun x hx e => by have := (fn x hx).2; rw [e, hp4] at this; cases this
  have w4 := P3.wa.updD (o := .tup [.ref p1, v2, .ref s]) nT.2.1 nT.2.2 nT.1
  have w5 := w4.setOwn2 a hF1' n1.2.1 n1.2.2 (by rw [upd_ne ne1]; exact hp1') (rv1.up (P2.gr.ff.trans P3.gr.ff))
  have w6 := w5.setVal2 b (rv2.up P3.gr.ff)
  have w7 := w6.setSt2 c (S := S) (s := s) (as := as) h00 (st.keep (Same.refl _) fun x hx o e => by rw [upd_ne (nas x hx)]; exact e) (fun x hx => (fn x hx).1) fun x hx => ⟨(P4.wa.newp (fn x hx).2).2.1, fun i m => by
    by_cases hb : i = b
    · simp only [if_pos hb] at m; cases m
    · simp only [if_neg hb] at m
      by_cases ha : i = a
      · simp only [if_pos ha] at m
        split at m
        · exact nap x hx (List.mem_singleton.mp m)
        · cases m
      · simp only [if_neg ha] at m
        exact (P4.wa.newp (fn x hx).2).2.2 i m⟩
  refine ⟨T, [.ref p1, v2, .ref s], rfl, .inl (.inl upd_same), rfl, _, _, rfl, _, _, rfl, _, _, rfl, rfl, ?_⟩
  exact n ρ' _ F3 _ q (W.weak ⟨_, w7⟩ l)
/-- a, b, c = (an own list), (data), (a state), plain local names -/
theorem sx_par3N {a b c : Nat} {te1 te2 te3 : TE} (h00 : c ≠ 0) (h : EO te1 ρ fun ds1 ρ1 => EX te2 ρ1 fun d2 ρ2 => EN te3 ρ2 fun S ρ3 => NX P (((ρ3.set a (.own ds1)).set b (.val d2)).set c (.st S))) :
    SX (tPar3 a b c (tCons te1 (tCons te2 (tCons te3 tNil)))) ρ P := fun B σ F H w Dn n r bk ct => by
  obtain ⟨ad, w⟩ := w
  refine h B ad σ F H w _ fun ds1 ρ1 p1 vs1 F1 H1 q1 P1 hF1 hH1 hp1 rv1 => ?_
  refine q1 B ad σ F1 H1 P1.wa _ fun d2 ρ2 v2 F2 H2 q2 P2 rv2 => ?_
  refine q2 B ad σ F2 H2 P2.wa _ fun S s as ρ3 F4 H4 F3 H3 q3 P4 g st fn => ?_
  obtain ⟨ρ', l, q⟩ := q3
  have P3 := P4.trans (Post.of P4.wa g)
  have n1 := w.newp hH1
  have nms : ∀ (ρ2 : Pu.Env), ¬ MS ad ρ2 p1 := fun ρ2 ⟨j, S, _, m⟩ => n1.2.2 j m
  have hp2 : H2 p1 = some (.lst vs1) := P2.gr.kp p1 _ hp1 (nms _)
  have hp4 : H4 p1 = some (.lst vs1) := P4.gr.kp p1 _ hp2 (nms _)
  have hp1' : H3 p1 = some (.lst vs1) := P3.gr.kp p1 _ hp2 (nms _)
  have hF1' : F3 p1 = none := P3.gr.fr p1 (by rw [hp2]; intro z; cases z) (P2.gr.fr p1 (by rw [hp1]; intro z; cases z) hF1)
  have nap : ∀ x ∈ as, x ≠ p1 := fun x hx e => by have := (fn x hx).2; rw [e, hp4] at this; cases this
  have w5 := P3.wa.setOwn2 a hF1' n1.2.1 n1.2.2 hp1' (rv1.up (P2.gr.ff.trans P3.gr.ff))
  have w6 := w5.setVal2 b (rv2.up P3.gr.ff)
  have w7 := w6.setSt2 c (S := S) (s := s) (as := as) h00 st (fun x hx => (fn x hx).1) fun x hx => ⟨(P4.wa.newp (fn x hx).2).2.1, fun i m => by
    by_cases hb : i = b
    · simp only [if_pos hb] at m; cases m
    · simp only [if_neg hb] at m
      by_cases ha : i = a
      · simp only [if_pos ha] at m
        split at m
        · exact nap x hx (List.mem_singleton.mp m)
        · cases m
      · simp only [if_neg ha] at m
        exact (P4.wa.newp (fn x hx).2).2.2 i m⟩
  refine ⟨.ref p1, v2, .ref s, rfl, ?_⟩
  exact n ρ' _ F3 _ q (W.weak ⟨_, w7⟩ l)
theorem eo_if {tt : TT} {ta tb : TE} {Q : List D → Pu.Env → Prop} (h : ET tt ρ fun b ρ1 => (b = true → EO ta ρ1 Q) ∧ (b = false → EO tb ρ1 Q)) : EO (tIf tt ta tb) ρ Q := fun B ad σ F H w Z z =>
  h B ad σ F H w _ fun b ρ1 F1 H1 q1 p1 => by
    have up : ∀ p, H1 p = none → H p = none := fun p h => by
      cases q : H p with
      | none => rfl
      | some o => exact absurd h (p1.gr.al p (by rw [q]; intro z; cases z))
    cases b with
    | true =>
      show ta σ H1 Z
      exact q1.1 rfl B ad σ F1 H1 p1.wa Z fun ds ρ' p vs F' H' q pp a b c r => z ds ρ' p vs F' H' q (p1.trans pp) a (up p b) c r
    | false =>
      show tb σ H1 Z
      exact q1.2 rfl B ad σ F1 H1 p1.wa Z fun ds ρ' p vs F' H' q pp a b c r => z ds ρ' p vs F' H' q (p1.trans pp) a (up p b) c r
end
/-- l, l - 1, .., n of them -/
def dnI (l : Int) (n : Nat) : List Int := (List.range n).map fun k : Nat => l - (k : Int)
theorem dnI_len (l : Int) (n : Nat) : (dnI l n).length = n := by simp [dnI]
theorem dnI_get {l : Int} {n k : Nat} (h : k < n) : (dnI l n)[k]? = some (l - (k : Int)) := by simp [dnI, h]
theorem itd_dn {F : Hp} (l : Int) (n : Nat) : ItD (Itc l (-1) n) F ((dnI l n).map .int) where
  go := fun i H _ h => by rw [List.length_map, dnI_len] at h; exact h
  stop := fun i H _ h => by rw [List.length_map, dnI_len] at h; exact h
  yld := fun i H x H' F1 _ e2 y h => by
    rw [List.length_map, dnI_len] at h
    obtain ⟨rfl, rfl⟩ := y
    refine ⟨.int (l - (i : Int)), F1, by rw [List.getElem?_map, dnI_get h]; rfl, Gr.refl e2, ?_⟩
    have e : l + ((i : Nat) : Int) * (-1) = l - (i : Int) := by omega
    rw [e]
    exact .int _
theorem ei_rngD {ρ : Pu.Env} {t : TA} {Q : List D → Pu.Env → Prop} (h : EA t ρ fun ds ρ1 => ∃ l n, ds = [.int l, .int n, .int (-1)] ∧ (-1000000000000 ≤ l ∧ l ≤ 1000000000000 ∧ -1000000000000 ≤ n ∧ n ≤ 1000000000000) ∧ Q ((dnI l (l - n).toNat).map .int) ρ1) : EI (iRng3 t) ρ Q := fun B ad σ F H w R z =>
  h B ad σ F H w _ fun ds ρ1 vs F1 H1 q p r => by
    obtain ⟨l, n, rfl, ⟨hl1, hl2, hn1, hn2⟩, q⟩ := q
    cases r with
    | cons r1 r =>
      cases r with
      | cons r2 r =>
        cases r with
        | cons r3 r =>
          cases r
          exact ⟨l, n, -1, (l - n).toNat, by rw [r1.int_inv, r2.int_inv, r3.int_inv], RgC.neg (by omega) (by omega) (by omega) (by omega), z _ ρ1 _ F1 H1 q p (itd_dn l _)⟩
end Pu
/-! PuU: set(a list of ints), sorted and len of it; all and any of a list of truth values. -/
namespace Pu
open PySem PySem.Spec PyProof.Rows L2
abbrev newSet (w : World) : Obj := { cls := .type "set", dict := none, data := .set #[] 0 (.fresh 0 0 (!w.params.followText "set-order")) }
section
variable {P : Program} {w : World} {A : Around} {E : Value → Shared → Prop} {s : Shared}
set_option maxHeartbeats 8000000 in
theorem call_set_lstI {l : Addr} {items : Array Value} (ns : List Int) {Q : Value → Shared → Prop} (hh : A.handled = none) (hl : s.heap.IsList l items) (hit : IntsAre items.toList ns) (hb : ns.length + 1 < scanBound)
    (h : ∀ (h' : Heap) (tk c : Nat), SetR w h' s.heap.objs.size (fun j => decide (j ∈ ns)) c → c ≤ ns.length → (∀ b o, s.heap.get? b = some o → h'.get? b = some o) → Q (.ref s.heap.objs.size) { s with heap := h', toks := tk }) :
    wpAny (model P w) A (call (.type "set") [.ref l]) Q E s := by
  have hisz : items.size = ns.length := by
    have q := IntsAre.length hit
    rwa [Array.length_toList] at q
  obtain ⟨c, tl, hmro⟩ := F.called_set.mro
  have hmade := F.called_set.made
  have hsub := F.called_set.sub
  refine wpAny_call (codeAny_of_tree ?_)
  show wpAny _ _ (callAny (.type "set") _) _ _ _
  refine wpAny_pure ⟨Code.quiet_builtin _ (by decide +kernel), codeAny_builtin F.entry_type_call ?_⟩
  rw [Around.under_plain (weight_type_call_type "set" [.ref l] []) rfl]
  have h1 := F.called_set.notType
  have h2 := F.called_set.canCreate
  have hct := F.typeCall_set_1 (.ref l)
  repeat (any_goals (first | assumption | wp_step))

  refine codeAny_mono (code_set_led1 (.ref l) (E := E) (Q₁ := fun obj s₁ => obj = .ref s.heap.objs.size ∧ s₁ = { s with heap := s.heap.push (newSet w) }) ⟨rfl, rfl⟩) fun r s₁ hr => ?_
  cases r with
  | error e => exact hr
  | ok fl =>
    cases fl with
    | ret obj =>
      obtain ⟨rfl, rfl⟩ := hr
      have hS : (s.heap.push (newSet w)).get? s.heap.objs.size = some (newSet w) := Heap.get?_push_size _ rfl
      have hT : Shared.TypeIs { s with heap := s.heap.push (newSet w) } (.ref s.heap.objs.size) "set" := ⟨_, hS, rfl⟩
      have hli := F.called_set.init.lookup
      have hbi := F.called_set.init.bind (.ref s.heap.objs.size)
      repeat (any_goals (first | assumption | wp_step))

      refine codeAny_mono (codeAny_call_builtin (R := wants (fun r s₂ => r = .none ∧ ∃ h' tk c, s₂ = { s with heap := h', toks := tk } ∧ SetR w h' s.heap.objs.size (fun j => decide (j ∈ ns)) c ∧ c ≤ ns.length ∧
          (∀ b o, s.heap.get? b = some o → h'.get? b = some o)) E) F.called_set.init.plain F.entry_set_init (check_set_init_1 hT ?_)) fun r₂ s₂ hr₂ => ?_
      · obtain ⟨ol, hol, hcl, nl, hdl⟩ := hl
        obtain ⟨ocls, odict, odata, oslots⟩ := ol
        simp only at hcl hdl
        subst hcl; subst hdl
        have hol' : (s.heap.push (newSet w)).get? l = some { cls := .type "list", dict := odict, data := .seq items nl, slots := oslots } := Heap.get?_push_of_some _ hol
        have hsls := F.sub_list_set
        have hslf := F.sub_list_frozenset
        have hne : (Value.type "list" == Value.type "dict") = false := by decide
        have hl1 : (s.heap.push (newSet w)).IsList l items := ⟨_, hol', rfl, nl, rfl⟩
        unfold Builtin.«set.__init__» noKeywords Builtin.Frozenset.updateFrom
        generalize hPI : pyIter = PI
        wp_walk
        subst hPI

        refine wpAny_pyIter_list hl1 ?_
        refine wpAny_bind (wpAny_runValue ?_)
        have hlS : l < s.heap.objs.size := Heap.lt_size hol
        have hh3 : A.in1.in1.in1.handled = none := by simp [hh]
        have hneI : l ≠ (s.heap.push (newSet w)).objs.size := by
          rw [Heap.size_push]; exact Nat.ne_of_lt (Nat.lt_succ_of_lt hlS)
        have hSf : s.heap.objs.size ∉ [(s.heap.push (newSet w)).objs.size, l] := by
          rw [Heap.size_push]; simp only [List.mem_cons, List.not_mem_nil, or_false, not_or]
          exact ⟨Nat.ne_of_lt (Nat.lt_succ_self _), Nat.ne_of_gt hlS⟩
        have hval : ∀ (i : Nat) (v : Value), items[i]? = some v → ∃ k t, ns[i]? = some k ∧ v = .int k t := fun i v hv => by
          have hi : i < ns.length := by rw [← hisz]; exact (Array.getElem?_eq_some_iff.mp hv).1
          obtain ⟨t, e⟩ := PyProof.Rows.IntsAre.int_at hit i v (by rw [Array.getElem?_toList]; exact hv)
          refine ⟨ns[i], t, List.getElem?_eq_getElem hi, ?_⟩
          rw [e, List.getD_eq_getElem?_getD, List.getElem?_eq_getElem hi] <;> rfl
        refine set_update_ints ((Walks.list hh3 _ l hneI items).toS) s.heap.objs.size hSf ns hisz hb hval (items.size - 0) 0 _ (by omega) (Nat.zero_le _) ⟨⟨_, Heap.get?_push_size _ rfl, rfl, rfl⟩, (hl1.push _)⟩ ⟨0, Nat.le_refl 0, setR_new_at (Heap.get?_push_of_some _ hS)⟩ ?_
        intro s' c' hm hc' hS'
        obtain ⟨h', g2, d', tk', os'⟩ := s'
        have eg : g2 = s.gens := hm.gens
        have ed : d' = s.drawn := hm.drawn
        have eo : os' = s.os := hm.os
        subst eg; subst ed; subst eo
        show wpAny _ _ _ _ _ _
        refine wpAny_pure ?_
        show wpAny _ _ (ret Value.none) _ _ _
        rw [hisz] at hc'
        refine wpAny_pure ⟨rfl, h', tk', c', rfl, hS', hc', fun b o e => ?_⟩
        have hb0 : b < s.heap.objs.size := Heap.lt_size e
        have hb1 : b ≠ s.heap.objs.size := Nat.ne_of_lt hb0
        have hb2 : b ≠ (s.heap.push (newSet w)).objs.size := by
          rw [Heap.size_push]; exact Nat.ne_of_lt (Nat.lt_succ_of_lt hb0)
        exact hm.heap b o (by simp only [List.mem_cons, List.not_mem_nil, or_false, not_or]; exact ⟨hb1, hb2⟩) (Heap.get?_push_of_some _ (Heap.get?_push_of_some _ e))

      · cases r₂ with
        | error e => exact hr₂
        | ok fl₂ =>
          cases fl₂ with
          | ret r =>
            obtain ⟨rfl, h', tk, c', rfl, hS', hc', hk'⟩ := hr₂
            repeat (any_goals (first | assumption | wp_step))
            exact h _ _ _ hS' hc' hk'
          | _ => exact hr₂.elim
    | _ => exact hr.elim
end
theorem few_in : ∀ (m : Nat) {l : List Int} {lo : Int}, l.Nodup → (∀ x ∈ l, lo ≤ x ∧ x < lo + (m : Int)) → l.length ≤ m
  | 0, l, lo, _, h => by
    cases l with
    | nil => exact Nat.le_refl _
    | cons x l => have := h x (by simp); omega
  | m + 1, l, lo, nd, h => by
    have k := few_in m (l := l.erase (lo + (m : Int))) (lo := lo) (nd.erase _) fun x hx => by
      have q := (List.Nodup.mem_erase_iff nd).mp hx
      have := h x q.2
      have := q.1
      omega
    rw [List.length_erase] at k
    split at k <;> omega
theorem setR_few {w : World} {h : Heap} {a : Addr} {ns : List Int} {c : Nat} (R : SetR w h a (fun j => decide (j ∈ ns)) c) (hc : c ≤ ns.length) (hb : ns.length < 64 ∨ ∃ lo : Int, ∀ x ∈ ns, lo ≤ x ∧ x < lo + 63) : c < 64 := by
  rcases hb with hb | ⟨lo, hb⟩
  · omega
  · obtain ⟨o, es, ep, t, _, _, _, _, nd, hm, _, _, hs, _⟩ := R
    have k := few_in 63 (lo := lo) nd fun x hx => by
      have := (hm x).mpr hx
      rw [decide_eq_true_eq] at this
      exact hb x this
    rw [List.length_map, Array.length_toList] at k
    omega
section
variable {X : Cx}
/-- sorted(set(a list of ints)): a new list -/
def tSS (K : PySem.W.Frag) (te : TE) : TE := fun σ H Q => te σ H fun x H1 => ∃ (a : Addr) (ns : List Int), x = .ref a ∧ SqL K H1 a (ns.map V.int) ∧ (ns.length < 4000 ∧ (ns.length < 64 ∨ ∃ lo : Int, ∀ x ∈ ns, lo ≤ x ∧ x < lo + 63)) ∧
  ∀ (us : List Int) (H2 : Hp) (p : Addr), us.Pairwise (· < ·) → (∀ k, k ∈ us ↔ k ∈ ns) → us.length ≤ ns.length → Same H1 H2 → H2 p = none → Q (.ref p) (upd H2 p (.lst (us.map V.int)))
theorem pe_sortSet {a : Expr} {ta : TE} {p p2 q pos : Pos} (hc : X.calm = true) (hg : Gl X "sorted") (hm : X.mg "sorted" = none) (hg2 : Gl X "set") (hm2 : X.mg "set" = none) (ha : PE X a ta)
    (na : starEach [a] X.env = (false, eval a X.env) :: starEach [] X.env := by rfl) : PE X (.Call (.Name "sorted" p) [.Call (.Name "set" p2) [a] [] q] [] pos) (tSS X.K ta) := by
  refine ⟨fun pins s σ H Q I h => ?_⟩
  refine Call_ (ld_blt I hg hm boot_sorted ?_)
  refine PyProof.Rows.callWith_builtin1 (PyProof.Rows.args_cons ?_ rfl) rfl rfl
  refine Call_ (ld_blt I hg2 hm2 PyProof.Rows.boot_set ?_)
  refine PyProof.Rows.callWith_type1 (PyProof.Rows.args_cons (thn (ha.run pins s σ H _ I h) fun v s1 ⟨x, H1, I1, r1, q1⟩ => PyProof.Rows.args_nil ?_) na) na rfl
  obtain ⟨l, ns, rfl, hq, ⟨hl, hfew⟩, q1⟩ := q1
  cases r1
  obtain ⟨its, rv, hil, hzl⟩ := I1.list hq
  have hi : IntsAre its.toArray.toList ns := ints_of_vals rv
  refine call_set_lstI ns (I1.ok.hd hc) hil.isList hi (by unfold scanBound; omega) fun h' tk c R hcn k => PyProof.Rows.args_nil ?_
  have I2 : Inv X pins σ H1 { s1 with heap := h', toks := tk } := I1.kept k
  refine sorted_set R (I2.ok.hd hc) (setR_few R hcn hfew) fun s' p out c2 us k2 g o hp hg hus hs hm hul => ?_
  have hlen : (us.map V.int).length ≤ sizeLine := by rw [List.length_map, hul, sizeLine_eq]; omega
  have hn : H1 p = none := I2.hok.fresh hp
  have J : Inv X pins σ (upd H1 p (.lst (us.map V.int))) { { s1 with heap := h', toks := tk } with heap := s'.heap, gens := s'.gens, drawn := s'.drawn, toks := s'.toks } :=
    I2.call (ch := []) (Un.laid k2 hp hn) (I2.hok.laid k2 hp ⟨hlen, out.toList, c2, vals_of_ints hus, hg⟩) (by rw [g]; exact I2.bare) (fun _ z => nomatch z)
  have e : s' = { { s1 with heap := h', toks := tk } with heap := s'.heap, gens := s'.gens, drawn := s'.drawn, toks := s'.toks } := by
    cases s'
    cases s1
    cases o
    rfl
  rw [e]
  exact ⟨.ref p, _, J, rfl, q1 us H1 p hs (fun k => by rw [hm k, decide_eq_true_eq]) (by omega) (fun _ _ z => z) hn⟩
theorem eo_sortSetB {K : PySem.W.Frag} {ρ : Pu.Env} {te : TE} {Q : List D → Pu.Env → Prop} (h : EX te ρ fun d ρ1 => ∃ ns : List Int, d = .list (ns.map .int) ∧ (ns.length < 4000 ∧ (ns.length < 64 ∨ ∃ lo : Int, ∀ x ∈ ns, lo ≤ x ∧ x < lo + 63)) ∧ ∀ us : List Int, us.Pairwise (· < ·) → (∀ k, k ∈ us ↔ k ∈ ns) → us.length ≤ ns.length → Q (us.map .int) ρ1) : EO (tSS K te) ρ Q := fun B ad σ F H w Z z =>
  h B ad σ F H w _ fun d ρ1 v F1 H1 q1 p1 rv => by
    obtain ⟨ns, rfl, hl, q⟩ := q1
    obtain ⟨a, xs, rfl, h1, h2⟩ := rv.lst_inv
    have e := h2.ints_inv
    subst e
    refine ⟨a, ns, rfl, sqL_rd h1 p1.wa.gr.fh, hl, fun us H2 p hs hm hle sm hp => ?_⟩
    have hH1 : H1 p = none := by
      cases e : H1 p with
      | none => rfl
      | some o => rw [sm p o e] at hp; cases hp
    have hH : H p = none := by
      cases e : H p with
      | none => rfl
      | some o => exact absurd hH1 (p1.gr.al p (by rw [e]; intro z; cases z))
    have g : Same H1 (upd H2 p (.lst (us.map V.int))) := sm.trans (same_upd hp)
    exact z (us.map .int) ρ1 p (us.map V.int) F1 _ (q us hs hm hle) (p1.trans (Post.of p1.wa (Gr.heap p1.wa.gr.fh g))) (p1.wa.newp hH1).1 hH upd_same (RpA.ints us)
theorem eo_sortSet {K : PySem.W.Frag} {ρ : Pu.Env} {te : TE} {Q : List D → Pu.Env → Prop} (h : EX te ρ fun d ρ1 => ∃ ns : List Int, d = .list (ns.map .int) ∧ ns.length < 64 ∧ ∀ us : List Int, us.Pairwise (· < ·) → (∀ k, k ∈ us ↔ k ∈ ns) → us.length ≤ ns.length → Q (us.map .int) ρ1) : EO (tSS K te) ρ Q :=
  eo_sortSetB (h.imp fun d ρ1 q => by
    obtain ⟨ns, e, hl, q⟩ := q
    exact ⟨ns, e, ⟨by omega, .inl hl⟩, q⟩)
/-- all, any of truth values -/
def rAllB (K : PySem.W.Frag) : List V → Hp → VK → Prop := fun vs H Q => ∃ (F : Hp) (a : Addr) (xs : List V) (bs : List Bool), vs = [.ref a] ∧ Same F H ∧ Rd F a (.lst xs) ∧ RpA F xs (bs.map .bool) ∧ Q (.bl (bs.all id)) H
def rAnyB (K : PySem.W.Frag) : List V → Hp → VK → Prop := fun vs H Q => ∃ (F : Hp) (a : Addr) (xs : List V) (bs : List Bool), vs = [.ref a] ∧ Same F H ∧ Rd F a (.lst xs) ∧ RpA F xs (bs.map .bool) ∧ Q (.bl (bs.any id)) H
theorem plain_bools : ∀ bs : List Bool, PyData.plainAll (bs.map PyData.bool) = true
  | [] => rfl
  | b :: bs => by rw [List.map_cons, PyData.plainAll, plain_bools bs]; rfl
theorem cb_all (hc : X.calm = true) : CallR X (.builtin "all") (rAllB X.K) := by
  rintro pins s σ H vs us Q I r ⟨F, a, xs, bs, rfl, e, ha, ra, q⟩
  obtain ⟨its, rv, hl, hzl⟩ := I.list (sqL_rd (K := X.K) ha e)
  obtain ⟨as, rr⟩ := rpa_reads I e ra rv
  rw [Vals.ref1 r]
  refine PySem.W.all_list_data (I.ok.hd hc) hl.isList (by simpa using rr) (plain_bools bs) (fun x hx => by
    obtain ⟨b, _, rfl⟩ := List.mem_map.mp hx
    exact trivial) fun h' tk k => ?_
  refine ⟨.bl (bs.all id), H, I.kept k, ?_, q⟩
  rw [List.all_map]
  rfl
theorem cb_any (hc : X.calm = true) : CallR X (.builtin "any") (rAnyB X.K) := by
  rintro pins s σ H vs us Q I r ⟨F, a, xs, bs, rfl, e, ha, ra, q⟩
  obtain ⟨its, rv, hl, hzl⟩ := I.list (sqL_rd (K := X.K) ha e)
  obtain ⟨as, rr⟩ := rpa_reads I e ra rv
  rw [Vals.ref1 r]
  refine PySem.W.any_list_data (I.ok.hd hc) hl.isList (by simpa using rr) (plain_bools bs) (fun x hx => by
    obtain ⟨b, _, rfl⟩ := List.mem_map.mp hx
    exact trivial) fun h' tk k => ?_
  refine ⟨.bl (bs.any id), H, I.kept k, ?_, q⟩
  rw [List.any_map]
  rfl
theorem cbd_all {K : PySem.W.Frag} {bs : List Bool} {Q : D → Prop} (k : Q (.bool (bs.all id))) : CbD (rAllB K) [.list (bs.map .bool)] Q := fun F H vs e r Z z => by
  obtain ⟨v, rfl, rv⟩ := r.one
  obtain ⟨a, xs, rfl, h1, h2⟩ := rv.lst_inv
  exact ⟨F, a, xs, bs, rfl, e, h1, h2, z _ _ F H k (Gr.refl e) (.bl _)⟩
theorem cbd_any {K : PySem.W.Frag} {bs : List Bool} {Q : D → Prop} (k : Q (.bool (bs.any id))) : CbD (rAnyB K) [.list (bs.map .bool)] Q := fun F H vs e r Z z => by
  obtain ⟨v, rfl, rv⟩ := r.one
  obtain ⟨a, xs, rfl, h1, h2⟩ := rv.lst_inv
  exact ⟨F, a, xs, bs, rfl, e, h1, h2, z _ _ F H k (Gr.refl e) (.bl _)⟩
end
/-- two rising lists with the same members are one -/
theorem ris_eq : ∀ {xs ys : List Int}, xs.Pairwise (· < ·) → ys.Pairwise (· < ·) → (∀ k, k ∈ xs ↔ k ∈ ys) → xs = ys
  | [], [], _, _, _ => rfl
  | [], y :: ys, _, _, h => absurd ((h y).mpr (by simp)) (by simp)
  | x :: xs, [], _, _, h => absurd ((h x).mp (by simp)) (by simp)
  | x :: xs, y :: ys, hx, hy, h => by
    rw [List.pairwise_cons] at hx hy
    have e : x = y := by
      rcases List.mem_cons.mp ((h x).mp (by simp)) with q | q
      · exact q
      · rcases List.mem_cons.mp ((h y).mpr (by simp)) with q2 | q2
        · exact q2.symm
        · have := hx.1 y q2
          have := hy.1 x q
          omega
    subst e
    refine congrArg (x :: ·) (ris_eq hx.2 hy.2 fun k => ?_)
    constructor
    · intro hk
      rcases List.mem_cons.mp ((h k).mp (List.mem_cons_of_mem _ hk)) with q | q
      · have := hx.1 k hk; omega
      · exact q
    · intro hk
      rcases List.mem_cons.mp ((h k).mpr (List.mem_cons_of_mem _ hk)) with q | q
      · have := hy.1 k hk; omega
      · exact q
end Pu
/-! PuV: list(range(..)); (a, b) = a list; [list(x) for x in tuples] as a state. -/
namespace Pu
open PySem L2
def rowT (row : List (Option Int)) : D := .tuple (row.map optD)
section
variable {ρ : Pu.Env} {P : Po} {te ta tb tc : TE} {t : TS} {K : PySem.W.Frag}
/-- list(range(n)), list(range(a, b)) -/
theorem rgV_is (i j : Int) : rgV i j = (rngI i (j - i).toNat).map V.int := by
  unfold rgV rngI
  rw [List.map_map]
  rfl
theorem eo_listRg {te : St → Hp → (Int → Int → Hp → Prop) → Prop} {Q : List D → Pu.Env → Prop} (h : ∀ B ad σ F H, WA B ad ρ σ F H → ∀ Z : Int → Int → Hp → Prop, (∀ i j ρ' F' H', ((-1000000 ≤ i ∧ i ≤ 1000000 ∧ -1000000 ≤ j ∧ j ≤ 1000000) ∧ Q ((rngI i (j - i).toNat).map .int) ρ') → Post B ad σ ρ F H ρ' F' H' → Z i j H') → te σ H Z) : EO (tLstRg te) ρ Q := fun B ad σ F H w Z z =>
  h B ad σ F H w _ fun i j ρ' F' H' q p => by
    obtain ⟨⟨b1, b2, b3, b4⟩, q⟩ := q
    refine ⟨⟨by omega, by omega, by omega, by omega, by omega⟩, fun l hl => ?_⟩
    have hH : H l = none := by
      cases e : H l with
      | none => rfl
      | some o => exact absurd hl (p.gr.al l (by rw [e]; intro z; cases z))
    rw [rgV_is]
    exact z _ ρ' l _ F' _ q (p.trans (Post.of p.wa (Gr.heap p.wa.gr.fh (same_upd hl)))) (p.wa.newp hl).1 hH upd_same (RpA.ints _)
theorem eo_listRg1 {Q : List D → Pu.Env → Prop} (h : EX ta ρ fun d ρ1 => ∃ n, d = .int n ∧ (-1000000 ≤ n ∧ n ≤ 1000000) ∧ Q ((rngI 0 n.toNat).map .int) ρ1) : EO (tLstRg (tRg1 ta)) ρ Q := eo_listRg fun B ad σ F H w Z z =>
  h B ad σ F H w _ fun d ρ1 v F1 H1 q p rv => by
    obtain ⟨n, rfl, ⟨h1, h2⟩, q⟩ := q
    exact ⟨n, rv.int_inv, z 0 n ρ1 F1 H1 ⟨⟨by omega, by omega, h1, h2⟩, by rw [Int.sub_zero]; exact q⟩ p⟩
theorem eo_listRg2 {Q : List D → Pu.Env → Prop} (h : EX ta ρ fun d ρ1 => EX tb ρ1 fun e ρ2 => ∃ i j, d = .int i ∧ e = .int j ∧ (-1000000 ≤ i ∧ i ≤ 1000000 ∧ -1000000 ≤ j ∧ j ≤ 1000000) ∧ Q ((rngI i (j - i).toNat).map .int) ρ2) : EO (tLstRg (tRg2 ta tb)) ρ Q := eo_listRg fun B ad σ F H w Z z =>
  h B ad σ F H w _ fun d ρ1 v F1 H1 q1 p1 rv => q1 B ad σ F1 H1 p1.wa _ fun e ρ2 u F2 H2 q2 p2 ru => by
    obtain ⟨i, j, rfl, rfl, hb, q⟩ := q2
    exact ⟨i, j, rv.int_inv, ru.int_inv, z i j ρ2 F2 H2 ⟨hb, q⟩ (p1.trans p2)⟩
/-- (a, b) = a list -/
theorem sg_unl {J : List Nat} {n : Nat} {gs : TGs} {ds : List D} {Qn : Pu.Env → Prop} (hn : ds.length = n) (h : SGs J gs ds ρ Qn) : SG J (gUnl K n gs) (.list ds) ρ Qn := fun B ad σ F H v w hJ r Z z => by
  obtain ⟨a, xs, rfl, h1, h2⟩ := r.lst_inv
  exact ⟨a, xs, rfl, sqL_rd h1 w.gr.fh, h2.len.trans hn, h B ad σ F H xs w hJ h2 Z z⟩
/-- the same over tuples -/
theorem en_gridT {r : Nat} {Q : Stt → Pu.Env → Prop} (h : EX te ρ fun d ρ1 => ∃ rows, d = .list (rows.map rowT) ∧ rows.length < 1000000 ∧ r < ρ1.length ∧ Q (.grd rows) ρ1) :
    EN (tLc (iList K te) (gName r) tYes (tCB (rList K) (tCons (tVar r) tNil)) [r]) ρ Q := fun B ad σ F H w Z z => by
  have hi : EI (iList K te) ρ fun ds ρ1 => ∃ rows : List (List (Option Int)), ds = rows.map rowT ∧ rows.length < 1000000 ∧ r < ρ1.length ∧ Q (.grd rows) ρ1 := ei_list (h.imp fun d ρ1 e => by
    obtain ⟨rows, e, k⟩ := e
    exact ⟨_, e, rows, rfl, k⟩)
  refine hi B ad σ F H w _ fun ds ρ1 J F1 H1 q1 p1 it => ?_
  obtain ⟨rows, rfl, hz, hr, q⟩ := q1
  intro Dl hD
  have hrs : r < σ.length := by rw [p1.wa.len]; exact hr
  have nF1 : F1 Dl = none := (p1.wa.newp hD).1
  let Inv := fun (k : Nat) (H' : Hp) => ∃ qs F', Gr Non F1 H1 F' H' ∧ (Dl :: qs).Nodup ∧ (∀ a ∈ Dl :: qs, F' a = none ∧ H1 a = none) ∧ H' Dl = some (.lst (qs.map V.ref)) ∧ GrA H' qs (rows.take k) ∧ qs.length = k
  refine ⟨fun i m H' => m = (rows.map rowT).length - i ∧ i ≤ (rows.map rowT).length ∧ Inv i H', ⟨_, rfl, Nat.zero_le _, [], F1, Gr.heap p1.wa.gr.fh (same_upd hD), by simp, fun a ha => ?_, upd_same, trivial, rfl⟩, ?_⟩
  · have e : a = Dl := by simpa using ha
    rw [e]
    exact ⟨nF1, hD⟩
  rintro i m H' ⟨rfl, hi, qs, F', g, nd, fn, hl, hg, ql⟩
  by_cases hlt : i < (rows.map rowT).length
  · refine .inr ⟨it.go i H' (g.ff.trans g.fh) hlt, fun H2 => Inv (i + 1) H2, fun H2 k => ⟨(rows.map rowT).length - (i + 1), by omega, rfl, hlt, k⟩, fun x H2 y => ?_⟩
    obtain ⟨d, F2, e, gr, rx⟩ := it.yld i H' x H2 F' g.ff g.fh y hlt
    rw [List.getElem?_map] at e
    obtain ⟨row, ex, rfl⟩ : ∃ row, rows[i]? = some row ∧ rowT row = d := by
      cases hx : rows[i]? with
      | none => rw [hx] at e; cases e
      | some a => rw [hx] at e; exact ⟨a, rfl, Option.some.inj e⟩
    obtain ⟨p, xs, rfl, h1, h2⟩ := rx.tup_inv
    have hxs := ovs_inv h2
    subst hxs
    have g2 : Gr Non F1 H1 F2 H2 := g.trans gr (fun _ _ z => z) fun _ _ z => z
    have alive : ∀ a ∈ Dl :: qs, H' a ≠ none := fun a ha => by
      rcases List.mem_cons.mp ha with rfl | ha
      · rw [hl]; intro z; cases z
      · exact hg.mem a ha
    have hl2 : H2 Dl = some (.lst (qs.map V.ref)) := gr.kp _ _ hl id
    have hg2 : GrA H2 qs (rows.take i) := hg.keep fun a _ o e => gr.kp a o e id
    refine ⟨?_, ?_⟩
    · rw [wipe_set (by simp), wipe_twice]
    show tCB (rList K) (tCons (tVar r) tNil) _ H2 _
    refine ⟨_, List.getElem?_set_self (by rw [wipe_length]; exact hrs), p, row.map ov, rfl, .inr (sqT_rd h1 gr.fh), fun l hl0 => ?_⟩
    have ne : l ≠ Dl := fun z => by rw [z, hl2] at hl0; cases hl0
    have lout : ∀ a ∈ Dl :: qs, a ≠ l := fun a ha z => gr.al a (alive a ha) (by rw [z]; exact hl0)
    have F2l : F2 l = none := by
      cases q : F2 l with
      | none => rfl
      | some o => rw [g2.fh l o q] at hl0; cases hl0
    have H1l : H1 l = none := by
      cases q : H1 l with
      | none => rfl
      | some o => exact absurd hl0 (g2.al l (by rw [q]; intro z; cases z))
    have F2D : ∀ a ∈ Dl :: qs, F2 a = none := fun a ha => gr.fr a (alive a ha) (fn a ha).1
    refine ⟨qs.map V.ref, by rw [upd_ne (Ne.symm ne)]; exact hl2, ?_, ?_⟩
    · rw [List.length_map, ql]
      have : i < rows.length := by rw [List.length_map] at hlt; exact hlt
      exact Nat.lt_trans (Nat.lt_trans this hz) (by decide)
    show Inv (i + 1) _
    have nf : ∀ a o, F2 a = some o → a ≠ l ∧ a ≠ Dl := fun a o e => ⟨(fun z => by rw [z, F2l] at e; cases e), (fun z => by rw [z, F2D Dl (by simp)] at e; cases e)⟩
    have n1 : ∀ a, H1 a ≠ none → a ≠ l ∧ a ≠ Dl := fun a e => ⟨fun z => e (by rw [z]; exact H1l), fun z => e (by rw [z]; exact hD)⟩
    refine ⟨qs ++ [l], F2, ⟨g2.ff, fun a o e => ?_, fun a o e m => ?_, fun a e => ?_, g2.fr⟩, ?_, ?_, ?_, ?_, by simp [ql]⟩
    · rw [upd_ne (nf a o e).2, upd_ne (nf a o e).1]
      exact g2.fh a o e
    · have na := n1 a (by rw [e]; intro z; cases z)
      rw [upd_ne na.2, upd_ne na.1]
      exact g2.kp a o e m
    · have na := n1 a e
      rw [upd_ne na.2, upd_ne na.1]
      exact g2.al a e
    · rw [List.nodup_cons] at nd ⊢
      refine ⟨fun m => ?_, ?_⟩
      · rcases List.mem_append.mp m with m | m
        · exact nd.1 m
        · exact ne (List.mem_singleton.mp m).symm
      · refine List.nodup_append.mpr ⟨nd.2, by simp, fun a ha b hb e => ?_⟩
        rw [List.mem_singleton.mp hb] at e
        exact lout a (by simp [ha]) e
    · intro a ha
      rcases List.mem_cons.mp ha with rfl | ha
      · exact ⟨F2D _ (by simp), hD⟩
      · rcases List.mem_append.mp ha with ha | ha
        · exact ⟨F2D a (by simp [ha]), (fn a (by simp [ha])).2⟩
        · rw [List.mem_singleton.mp ha]; exact ⟨F2l, H1l⟩
    · rw [upd_same, List.map_append]; rfl
    · rw [take_snoc' ex]
      refine GrA.out (fun m => ?_) (GrA.app upd_same (GrA.out (fun m => lout l (by simp [m]) rfl) hg2))
      rcases List.mem_append.mp m with m | m
      · exact (List.nodup_cons.mp nd).1 m
      · exact ne (List.mem_singleton.mp m).symm
  · have e : i = rows.length := by rw [List.length_map] at hlt hi; omega
    subst e
    rw [List.take_length] at hg
    exact .inl ⟨it.stop _ H' (g.ff.trans g.fh) (by rw [List.length_map]; exact Nat.le_refl _), z (.grd rows) Dl (Dl :: qs) ρ1 F1 H1 F' H' q p1 g ⟨qs, rfl, nd, hl, hg⟩ fn⟩

/-! sorted lists of pairs -/
def leP (a b : Int × Int) : Bool := !ltP b a
theorem sortD_P (xs : List (Int × Int)) : sortD (xs.map encP) = (xs.mergeSort leP).map encP := by
  have e := PySem.W.sort_maps (r := leP) (s := PySem.W.dataLe false id) encP (l := xs) (fun a _ b _ => by
    show (!ltP b a) = (!PySem.W.dataLt (encP b) (encP a))
    rw [dataLt_P])
  exact e.symm
theorem alike_PP (xs : List (Int × Int)) : PySem.W.AllAlike (xs.map encP) := fun x hx y hy => by
  obtain ⟨a, _, rfl⟩ := List.mem_map.mp hx
  obtain ⟨b, _, rfl⟩ := List.mem_map.mp hy
  rfl
theorem sortable_P (xs : List (Int × Int)) : PySem.W.Sortable (xs.map encP) := .inl fun x hx => by
  obtain ⟨a, _, rfl⟩ := List.mem_map.mp hx
  exact ⟨_, _, rfl⟩
theorem deep_P (xs : List (Int × Int)) : PyData.depthAll (xs.map encP) ≤ 60 := depthAll_le (dpn_map fun x _ => dpn_tup (dpn_cons dpn_int (dpn_cons dpn_int dpn_nil)))
theorem cbd_sortP {xs : List (Int × Int)} {Q : D → Prop} (k : Q (.list ((xs.mergeSort leP).map encP))) : CbD (rSrD K) [.list (xs.map encP)] Q := cbd_sortD (alike_PP xs) (sortable_P xs) (deep_P xs) (by rw [sortD_P]; exact k)
theorem leP_trans (a b c : Int × Int) (h1 : leP a b = true) (h2 : leP b c = true) : leP a c = true := by
  simp only [leP, ltP, Bool.not_eq_true', decide_eq_false_iff_not] at *
  omega
theorem leP_total (a b : Int × Int) : (leP a b || leP b a) = true := by
  simp only [leP, ltP, Bool.or_eq_true, Bool.not_eq_true', decide_eq_false_iff_not]
  omega
theorem rng_nodup (n : Nat) : (rngI 0 n).Nodup := by
  unfold rngI
  exact List.pairwise_map.mpr (List.nodup_range.imp fun h e => h (by omega))
/-! one item less, one more -/
theorem getD_setN {α : Type} {l : List α} {i j : Nat} {x a : α} (hi : i < l.length) : (l.set i x).getD j a = if j = i then x else l.getD j a := by
  rw [List.getD_eq_getElem?_getD, List.getD_eq_getElem?_getD]
  by_cases e : j = i
  · rw [if_pos e, e, List.getElem?_set_self hi]; rfl
  · rw [if_neg e, List.getElem?_set_ne (Ne.symm e)]
theorem sum_setI : ∀ {P : List Int} {k : Nat} {x : Int}, k < P.length → (P.set k x).sum = P.sum - P.getD k 0 + x
  | p :: P, 0, x, _ => by simp; omega
  | p :: P, k + 1, x, h => by
    have := sum_setI (P := P) (k := k) (x := x) (by simpa using h)
    simp only [List.set_cons_succ, List.sum_cons, List.getD_cons_succ]
    omega
/-! rows of two as a state -/
def tab2 (n : Nat) (f : Nat → Int × Int) : List (List (Option Int)) := (List.range n).map fun k => [some (f k).1, some (f k).2]
theorem tab2_len (n : Nat) (f : Nat → Int × Int) : (tab2 n f).length = n := by unfold tab2; simp
theorem tab2_at {n : Nat} {f : Nat → Int × Int} {k : Nat} (h : k < n) : (tab2 n f)[k]? = some [some (f k).1, some (f k).2] := by
  unfold tab2
  rw [List.getElem?_map, List.getElem?_range h]; rfl
theorem tab2_set {n : Nat} {f g : Nat → Int × Int} {k : Nat} {r : List (Option Int)} (h : k < n) (hr : r = [some (g k).1, some (g k).2]) (ho : ∀ j, j < n → j ≠ k → f j = g j) : (tab2 n f).set k r = tab2 n g := by
  apply List.ext_getElem?
  intro j
  by_cases hj : j < n
  · by_cases e : j = k
    · subst e
      rw [List.getElem?_set_self (by rw [tab2_len]; exact hj), tab2_at hj, hr]
    · rw [List.getElem?_set_ne (Ne.symm e), tab2_at hj, tab2_at hj, ho j hj e]
  · rw [List.getElem?_eq_none (by rw [List.length_set, tab2_len]; omega), List.getElem?_eq_none (by rw [tab2_len]; omega)]
theorem tab2_congr {n : Nat} {f g : Nat → Int × Int} (h : ∀ j, j < n → f j = g j) : tab2 n f = tab2 n g := by
  unfold tab2
  refine List.map_congr_left fun k hk => ?_
  rw [h k (List.mem_range.mp hk)]
theorem ixN_nat {n k : Nat} (h : k < n) : ixN n (k : Int) = some k := by
  unfold ixN
  rw [if_pos (by omega), if_pos (by omega), Int.toNat_natCast]

/-! an own list lent to what makes a new list of scalars or tuples of these -/
mutual
def flatD : D → Bool
  | .none => true
  | .bool _ => true
  | .int _ => true
  | .str _ => true
  | .tuple ds => flatAll ds
  | _ => false
def flatAll : List D → Bool
  | [] => true
  | d :: ds => flatD d && flatAll ds
end
def cutF (F : Hp) (p : Addr) : Hp := fun q => if q = p then none else F q
mutual
theorem flat_rp {F : Hp} {p : Addr} {ws : List V} (hp : F p = some (.lst ws)) : ∀ (d : D) {v : V}, flatD d = true → Rp F v d → Rp (cutF F p) v d
  | .none, _, _, h => by cases h; exact .non
  | .bool b, _, _, h => by cases h; exact .bl b
  | .int i, _, _, h => by cases h; exact .int i
  | .str x, _, _, h => by cases h; exact .str x
  | .list ds, _, f, _ => by simp [flatD] at f
  | .dict _, _, f, _ => by simp [flatD] at f
  | .tuple ds, _, f, h => by
    cases h with
    | @tup a xs _ h1 h2 =>
      have ne : a ≠ p := fun e => by rw [e, hp] at h1; cases h1
      exact .tup (show cutF F p a = _ by unfold cutF; rw [if_neg ne]; exact h1) (flat_rpa hp ds (by simpa [flatD] using f) h2)
theorem flat_rpa {F : Hp} {p : Addr} {ws : List V} (hp : F p = some (.lst ws)) : ∀ (ds : List D) {vs : List V}, flatAll ds = true → RpA F vs ds → RpA (cutF F p) vs ds
  | [], _, _, h => by cases h; exact .nil
  | d :: ds, _, f, h => by
    cases h with
    | cons h1 h2 =>
      simp only [flatAll, Bool.and_eq_true] at f
      exact .cons (flat_rp hp d f.1 h1) (flat_rpa hp ds f.2 h2)
end
theorem WA.back2 {B : Base} {ad : Nat → List Addr} {σ : St} {F H F' H' : Hp} (w : WA B ad ρ σ F H) {i : Nat} {ds : List D} (h : ρ[i]? = some (.own ds)) {p : Addr} {vs : List V} (hp : ad i = [p]) (hF : F p = none) (hHp : H p = some (.lst vs)) (h0 : B.H0 p = none) {ad1 : Nat → List Addr} {ρ1 : Pu.Env} (e1 : ρ1 = ρ.set i (.val (.list ds))) (ea : ad1 = fun k => if k = i then [] else ad k)
    (P : Post B ad1 σ ρ1 (upd F p (.lst vs)) H ρ1 F' H') (no : NoOb ρ) : Post B ad σ ρ F H ρ (cutF F' p) H' := by
  subst e1 ea
  have ms : ∀ a, MS (fun k => if k = i then [] else ad k) (ρ.set i (.val (.list ds))) a → MS ad ρ a := fun a ⟨j, S, e, m⟩ => by
    rcases get_set e with ⟨_, q⟩ | ⟨hj, e⟩
    · cases q
    · simp only [if_neg hj] at m
      exact ⟨j, S, e, m⟩
  have ff : Same F (cutF F' p) := fun q o e => by
    have ne : q ≠ p := fun z => by rw [z, hF] at e; cases e
    unfold cutF
    rw [if_neg ne]
    exact P.gr.ff q o (by rw [upd_ne ne]; exact e)
  have fh : Same (cutF F' p) H' := fun q o e => by
    unfold cutF at e
    by_cases ne : q = p
    · rw [if_pos ne] at e; cases e
    · rw [if_neg ne] at e; exact P.gr.fh q o e
  have cutn : ∀ q, F' q = none → cutF F' p q = none := fun q e => by
    unfold cutF
    split
    · rfl
    · exact e
  have frq : ∀ a, H a ≠ none → F a = none → cutF F' p a = none := fun a e z => by
    by_cases ne : a = p
    · unfold cutF; rw [if_pos ne]
    · exact cutn a (P.gr.fr a e (by rw [upd_ne ne]; exact z))
  have nms : ∀ j q, q ∈ ad j → (∀ S, ρ[j]? ≠ some (Slot.st S)) → ¬ MS ad ρ q := fun j q m hj ⟨j', S, e, m'⟩ => by
    have := w.dj j j' q m m'
    subst this
    exact hj S e
  refine ⟨⟨⟨w.gr.ff.trans ff, fh, P.wa.gr.kp, P.wa.gr.al, fun a e z => frq a (w.gr.al a e) (w.gr.fr a e z)⟩, w.len, fun j s e => ?_, fun j q m => ⟨frq q (w.lv m) (w.fz j q m).1, (w.fz j q m).2⟩, w.dj, w.out, w.pin⟩, ⟨ff, fh, fun a o e m => P.gr.kp a o e fun z => m (ms a z), P.gr.al, frq⟩, fun j S e => ⟨S, e⟩⟩
  have k := w.sl j s e
  cases s with
  | emp => exact k
  | val d =>
    obtain ⟨k, v, e, r⟩ := k
    exact ⟨k, v, e, r.up ff⟩
  | own es =>
    obtain ⟨q, ws, k, k0, k1, k2, r⟩ := k
    exact ⟨q, ws, k, k0, k1, P.gr.kp q _ k2 fun z => nms j q (by rw [k]; simp) (fun S z => by rw [e] at z; cases z) (ms q z), r.up ff⟩
  | st S =>
    have hj : j ≠ i := fun z => by subst z; rw [h] at e; cases e
    have k' := P.wa.sl j (.st S) (by rw [List.getElem?_set_ne (Ne.symm hj)]; exact e)
    simp only [if_neg hj] at k'
    obtain ⟨s, k1, k2⟩ := k'
    exact ⟨s, k1, k2.down (no _ (List.mem_of_getElem? e))⟩
theorem eo_lend (i : Nat) {ds : List D} {Q : List D → Pu.Env → Prop} (h : ρ[i]? = some (.own ds)) (k : EO te (ρ.set i (.val (.list ds))) fun es ρ' => ρ' = ρ.set i (.val (.list ds)) ∧ flatAll es = true ∧ Q es ρ) (no : NoOb ρ := by first | (refine noob_of ?_; simp only [noObP, and_true]; done) | (refine noob_of ?_; simp only [noObP, and_true]; rfl) | (refine noob_of ?_; simp only [noObP, and_true]; exact Ok2.nob (by assumption)) | (refine noob_of ?_; simp only [noObP, and_true]; exact Ok.nob (by assumption))) : EO te ρ Q := fun B ad σ F H w Z z => by
  obtain ⟨p, vs, k1, k2, k3, k4, k5, k6, w2⟩ := w.lend h
  refine k B _ σ _ H w2 Z fun es ρ' q us F' H' hq P hF hH hl r => ?_
  obtain ⟨rfl, fl, hq⟩ := hq
  have hp : F' p = some (.lst vs) := P.gr.ff p _ upd_same
  exact z es ρ q us (cutF F' p) H' hq (w.back2 h k1 k2 k3 k5 rfl rfl P no) (by
    unfold cutF
    split
    · rfl
    · exact hF) hH hl (flat_rpa hp es fl r)
/-! items of rows of two -/
theorem ex_tabA {i n : Nat} {f : Nat → Int × Int} {Q : D → Pu.Env → Prop} (m : Nat) (h : ρ[i]? = some (.st (.grd (tab2 n f)))) (hm : m < n) (k : EX tb ρ fun d ρ1 => d = .int (m : Int) ∧ ρ1 = ρ) (q : Q (.int (f m).1) ρ) : EX (tOp (rIxA K) (tOp (rIxA K) (tVar i) tb) (tC (.int 0))) ρ Q :=
  ex_grd h (k.imp fun d ρ1 ⟨e1, e2⟩ => by
    subst e1 e2
    exact ⟨_, m, _, _, rfl, h, by rw [tab2_len]; exact ixN_nat hm, tab2_at hm, ex_int ⟨_, _, _, _, rfl, h, tab2_at hm, rfl, q⟩⟩)
theorem ex_tabB {i n : Nat} {f : Nat → Int × Int} {Q : D → Pu.Env → Prop} (m : Nat) (h : ρ[i]? = some (.st (.grd (tab2 n f)))) (hm : m < n) (k : EX tb ρ fun d ρ1 => d = .int (m : Int) ∧ ρ1 = ρ) (q : Q (.int (f m).2) ρ) : EX (tOp (rIxA K) (tOp (rIxA K) (tVar i) tb) (tC (.int 1))) ρ Q :=
  ex_grd h (k.imp fun d ρ1 ⟨e1, e2⟩ => by
    subst e1 e2
    exact ⟨_, m, _, _, rfl, h, by rw [tab2_len]; exact ixN_nat hm, tab2_at hm, ex_int ⟨_, _, _, _, rfl, h, tab2_at hm, rfl, q⟩⟩)
theorem sx_tabA {i n : Nat} {f : Nat → Int × Int} (m : Nat) (x : Int) (h : ρ[i]? = some (.st (.grd (tab2 n f)))) (hm : m < n) (e : EX te ρ fun d ρ1 => d = .int x ∧ ρ1 = ρ) (k : EX tb ρ fun d ρ1 => d = .int (m : Int) ∧ ρ1 = ρ) (q : NX P (ρ.set i (.st (.grd (tab2 n fun j => if j = m then (x, (f j).2) else f j))))) :
    SX (tAsg te (gSub (tOp (rIxA K) (tVar i) tb) (tC (.int 0)) rSetL)) ρ P := sx_setG (e.imp fun d ρ1 ⟨e1, e2⟩ => by
  subst e1 e2
  refine ⟨some x, _, rfl, h, k.imp fun d ρ1 ⟨e1, e2⟩ => ?_⟩
  subst e1 e2
  refine ⟨_, m, _, _, rfl, h, by rw [tab2_len]; exact ixN_nat hm, tab2_at hm, ex_int ⟨_, 0, _, _, rfl, h, tab2_at hm, rfl, ?_⟩⟩
  rw [tab2_set (g := fun j => if j = m then (x, (f j).2) else f j) hm (by simp) fun j _ hj => by rw [if_neg hj]]
  exact q)
theorem sx_tabB {i n : Nat} {f : Nat → Int × Int} (m : Nat) (x : Int) (h : ρ[i]? = some (.st (.grd (tab2 n f)))) (hm : m < n) (e : EX te ρ fun d ρ1 => d = .int x ∧ ρ1 = ρ) (k : EX tb ρ fun d ρ1 => d = .int (m : Int) ∧ ρ1 = ρ) (q : NX P (ρ.set i (.st (.grd (tab2 n fun j => if j = m then ((f j).1, x) else f j))))) :
    SX (tAsg te (gSub (tOp (rIxA K) (tVar i) tb) (tC (.int 1)) rSetL)) ρ P := sx_setG (e.imp fun d ρ1 ⟨e1, e2⟩ => by
  subst e1 e2
  refine ⟨some x, _, rfl, h, k.imp fun d ρ1 ⟨e1, e2⟩ => ?_⟩
  subst e1 e2
  refine ⟨_, m, _, _, rfl, h, by rw [tab2_len]; exact ixN_nat hm, tab2_at hm, ex_int ⟨_, 1, _, _, rfl, h, tab2_at hm, rfl, ?_⟩⟩
  rw [tab2_set (g := fun j => if j = m then ((f j).1, x) else f j) hm (by simp) fun j _ hj => by rw [if_neg hj]]
  exact q)
/-! small words -/
theorem last_M {α : Type} {f : α → D} {xs : List α} (a : α) (h : 0 < xs.length) : atI (xs.map f) (-1) = some (f (xs.getD (xs.length - 1) a)) := by
  have e : ixN (xs.map f).length (-1) = some (xs.length - 1) := by
    rw [List.length_map]
    unfold ixN
    rw [if_neg (by omega), if_pos (by omega)]
    congr 1
    omega
  unfold atI
  rw [e]
  show (xs.map f)[xs.length - 1]? = _
  rw [List.getElem?_map, get_D (a := a) (by omega)]
  rfl
theorem opd_int {gs : List Int} {k : Nat} {Q : D → Prop} (h : k < gs.length) (q : Q (.int (gs.getD k 0))) : OpD (rIxA K) (.list (gs.map .int)) (.int (k : Int)) Q := opd_ixM (f := PyData.int) 0 (by omega) (by omega) (by rw [Int.toNat_natCast]; exact q)
theorem cut_n {α : Type} (f : α → D) (xs : List α) (n : Nat) : cutD (xs.map f) none (some (n : Int)) = (xs.take n).map f := by
  unfold cutD
  simp only [HT.sIx]
  rw [if_neg (by omega), List.length_map, List.map_take]
  show List.take (min ((n : Int)).toNat xs.length - 0) (List.map f xs) = _
  rw [Nat.sub_zero, Int.toNat_natCast]
  by_cases h : n ≤ xs.length
  · rw [Nat.min_eq_left h]
  · rw [Nat.min_eq_right (by omega), List.take_of_length_le (by rw [List.length_map]; exact Nat.le_refl _), List.take_of_length_le (by rw [List.length_map]; omega)]
theorem cut_drop {α : Type} (f : α → D) (xs : List α) (n : Nat) : cutD (xs.map f) (some (n : Int)) none = (xs.drop n).map f := by
  unfold cutD
  rw [List.length_map, List.map_drop]
  simp only [HT.sIx]
  rw [if_neg (by omega), Int.toNat_natCast]
  rcases Nat.lt_or_ge xs.length n with q | q
  · rw [Nat.min_eq_right (by omega), Nat.sub_self, List.take_zero, List.drop_of_length_le (by rw [List.length_map]; omega)]
  · rw [Nat.min_eq_left q]
    exact List.take_of_length_le (by rw [List.length_drop, List.length_map]; omega)
theorem zip_enc : ∀ (ls hs : List Int), List.zipWith (fun d f => PyData.tuple [d, f]) (ls.map PyData.int) (hs.map PyData.int) = (ls.zip hs).map encP
  | [], _ => by simp
  | _ :: _, [] => by simp
  | a :: ls, b :: hs => by
    simp only [List.map_cons, List.zipWith_cons_cons, List.zip_cons_cons, zip_enc ls hs]
    rfl
theorem opd_neB {a b : Bool} {Q : D → Prop} (k : Q (.bool (!decide (a = b)))) : OpD (rNeP K) (.bool a) (.bool b) Q := opd_neP (min_l (by simp [PyData.depth])) (by
  have e : PyData.eqv (.bool a) (.bool b) = decide (a = b) := by cases a <;> cases b <;> rfl
  rw [e]; exact k)
theorem dec_lt (a b : Nat) : decide ((a : Int) < (b : Int)) = decide (a < b) := by
  by_cases h : a < b
  · rw [decide_eq_true h, decide_eq_true (by omega)]
  · rw [decide_eq_false h, decide_eq_false (by omega)]
theorem dec_0 (a : Nat) : decide ((a : Int) = 0) = decide (a = 0) := by
  by_cases h : a = 0
  · rw [decide_eq_true h, decide_eq_true (by omega)]
  · rw [decide_eq_false h, decide_eq_false (by omega)]
theorem dec_p (a : Nat) : decide (0 < (a : Int)) = decide (0 < a) := by
  by_cases h : 0 < a
  · rw [decide_eq_true h, decide_eq_true (by omega)]
  · rw [decide_eq_false h, decide_eq_false (by omega)]
theorem SX.into {t : TS} {X : Pu.Env → Prop} (h : SX t ρ { nx := X, rt := fun _ _ => False }) (k : ∀ ρ', X ρ' → P.nx ρ') : SX t ρ P := fun B σ F H w Dn n r b c =>
  h B σ F H w Dn (fun ρ' σ' F' H' q w' => n ρ' σ' F' H' (k ρ' q) w') (fun _ _ _ _ _ _ q _ _ => q.elim) (fun _ _ _ _ q _ => q.elim) (fun _ _ _ _ q _ => q.elim)
/-- a comprehension over data, no filter -/
theorem filt_all {α β : Type} (xs : List α) (g : α → β) : (xs.filter fun _ => true).map g = xs.map g := by rw [List.filter_eq_self.mpr (fun _ _ => rfl)]
end
end Pu
/-! PuW: data >= data; triples of whole numbers, sorted -/
namespace Pu
open PySem L2
section
variable {X : Cx} {K : PySem.W.Frag} {d1 d2 : D} {Q : D → Prop}
def rGeD (K : PySem.W.Frag) : R2 := fun x y H Q => ∃ d e, Dp K H x d ∧ Dp K H y e ∧ PySem.W.alike d e = true ∧ d ≠ .none ∧ min d.depth e.depth ≤ 60 ∧ Q (.bl (!PySem.W.dataLt d e)) H
theorem op_geD (hu : X.A.units + 64 < cLine) : OpR X (compareOp .GtE) (rGeD X.K) := by
  rintro pins s σ H x y v u Q I rx ry ⟨d, e, hd, he, pd, pe, hz, q⟩
  obtain ⟨as, r1⟩ := Dp.reads I d x v hd rx
  obtain ⟨bs, r2⟩ := Dp.reads I e y u he ry
  exact PySem.W.ge_data r1 r2 pd pe (by omega) ⟨.bl _, H, I, rfl, q⟩
theorem opd_geD (al : PySem.W.alike d1 d2 = true) (hn : d1 ≠ .none) (h : min d1.depth d2.depth ≤ 60) (k : Q (.bool (!PySem.W.dataLt d1 d2))) : OpD (rGeD K) d1 d2 Q := fun F H x y e rx ry Z z => ⟨d1, d2, rx.dp e, ry.dp e, al, hn, h, z _ _ F H k (Gr.refl e) (.bl _)⟩
theorem opd_geP {p q : Int × Int} (k : Q (.bool (!ltP p q))) : OpD (rGeD K) (encP p) (encP q) Q := opd_geD rfl (by unfold encP; simp) (min_l (by simp [encP, PyData.depth, PyData.depthAll])) (by rw [dataLt_P]; exact k)
abbrev Rw := Int × Int × Int
def encR (r : Rw) : D := .tuple [.int r.1, .int r.2.1, .int r.2.2]
def ltR (a b : Rw) : Bool := decide (a.1 < b.1 ∨ a.1 = b.1 ∧ (a.2.1 < b.2.1 ∨ a.2.1 = b.2.1 ∧ a.2.2 < b.2.2))
theorem dataLt_R (a b : Rw) : PySem.W.dataLt (encR a) (encR b) = ltR a b := by
  unfold encR ltR
  rw [PySem.W.dataLt_tuple, PySem.W.dataLt_cons rfl, PySem.W.dataLt_cons rfl, PySem.W.dataLt_cons rfl]
  have e : PyProof.Rows.lexLt PyProof.Rows.itemOrd (PySem.W.keyToksAll []) (PySem.W.keyToksAll []) = false := PyProof.Rows.lex_irrefl _
  rw [e]
  simp only [PyData.eqv, PySem.W.dataLt_int, beq_iff_eq]
  by_cases h : a.1 = b.1 <;> by_cases h2 : a.2.1 = b.2.1 <;> by_cases h3 : a.2.2 = b.2.2 <;> simp [h, h2, h3]
def leR (a b : Rw) : Bool := !ltR b a
theorem sortD_R (xs : List Rw) : sortD (xs.map encR) = (xs.mergeSort leR).map encR := by
  have e := PySem.W.sort_maps (r := leR) (s := PySem.W.dataLe false id) encR (l := xs) (fun a _ b _ => by
    show (!ltR b a) = (!PySem.W.dataLt (encR b) (encR a))
    rw [dataLt_R])
  exact e.symm
theorem alike_RR (xs : List Rw) : PySem.W.AllAlike (xs.map encR) := fun x hx y hy => by
  obtain ⟨a, _, rfl⟩ := List.mem_map.mp hx
  obtain ⟨b, _, rfl⟩ := List.mem_map.mp hy
  rfl
theorem sortable_R (xs : List Rw) : PySem.W.Sortable (xs.map encR) := .inl fun x hx => by
  obtain ⟨a, _, rfl⟩ := List.mem_map.mp hx
  exact ⟨_, _, rfl⟩
theorem deep_R (xs : List Rw) : PyData.depthAll (xs.map encR) ≤ 60 := depthAll_le (dpn_map fun x _ => dpn_tup (dpn_cons dpn_int (dpn_cons dpn_int (dpn_cons dpn_int dpn_nil))))
theorem cbd_sortR {xs : List Rw} {Q : D → Prop} (k : Q (.list ((xs.mergeSort leR).map encR))) : CbD (rSrD K) [.list (xs.map encR)] Q := cbd_sortD (alike_RR xs) (sortable_R xs) (deep_R xs) (by rw [sortD_R]; exact k)
theorem leR_trans (a b c : Rw) (h1 : leR a b = true) (h2 : leR b c = true) : leR a c = true := by
  unfold leR ltR at *
  simp only [Bool.not_eq_true', decide_eq_false_iff_not] at *
  omega
theorem leR_total (a b : Rw) : (leR a b || leR b a) = true := by
  unfold leR ltR
  simp only [Bool.or_eq_true, Bool.not_eq_true', decide_eq_false_iff_not]
  omega
/-! a if c else b, as a test; range of three -/
def tIfT (t ta tb : TT) : TT := fun σ H Q => t σ H fun c H1 => if c = true then ta σ H1 Q else tb σ H1 Q
theorem pt_ifExp {a b c : Expr} {pos : Pos} {tA tB tC : TT} (hc : PT X c tA) (ha : PT X a tB) (hb : PT X b tC) : PT X (.IfExp c a b pos) (tIfT tA tB tC) := by
  refine ⟨fun pins s σ H Q I h => ?_⟩
  refine PyProof.Rows.isTrue_IfExp (L2.thn (hc.run pins s σ H _ I h) fun d s1 ⟨H1, I1, q1⟩ => ?_)
  cases d with
  | true => exact ha.run pins s1 σ H1 Q I1 q1
  | false => exact hb.run pins s1 σ H1 Q I1 q1
theorem et_ifT {ρ : Pu.Env} {tt tu tv : TT} {Q : Bool → Pu.Env → Prop} (h : ET tt ρ fun b ρ1 => (b = true → ET tu ρ1 Q) ∧ (b = false → ET tv ρ1 Q)) : ET (tIfT tt tu tv) ρ Q := fun B ad σ F H w Z z =>
  h B ad σ F H w _ fun b ρ1 F1 H1 q1 p1 => by
    cases b with
    | true =>
      show tu σ H1 Z
      exact q1.1 rfl B ad σ F1 H1 p1.wa Z fun b ρ' F' H' q p => z b ρ' F' H' q (p1.trans p)
    | false =>
      show tv σ H1 Z
      exact q1.2 rfl B ad σ F1 H1 p1.wa Z fun b ρ' F' H' q p => z b ρ' F' H' q (p1.trans p)
def stpI (l c : Int) (n : Nat) : List Int := (List.range n).map fun k : Nat => l + (k : Int) * c
theorem stpI_len (l c : Int) (n : Nat) : (stpI l c n).length = n := by simp [stpI]
theorem stpI_get {l c : Int} {n k : Nat} (h : k < n) : (stpI l c n)[k]? = some (l + (k : Int) * c) := by simp [stpI, h]
theorem itd_stp {F : Hp} (l c : Int) (n : Nat) : ItD (Itc l c n) F ((stpI l c n).map .int) where
  go := fun i H _ h => by rw [List.length_map, stpI_len] at h; exact h
  stop := fun i H _ h => by rw [List.length_map, stpI_len] at h; exact h
  yld := fun i H x H' F1 _ e2 y h => by
    rw [List.length_map, stpI_len] at h
    obtain ⟨rfl, rfl⟩ := y
    exact ⟨.int (l + (i : Int) * c), F1, by rw [List.getElem?_map, stpI_get h]; rfl, Gr.refl e2, .int _⟩
theorem ei_rng3 {ρ : Pu.Env} {t : TA} {Q : List D → Pu.Env → Prop} (h : EA t ρ fun ds ρ1 => ∃ l n c m, ds = [.int l, .int n, .int c] ∧ RgC l n c m ∧ Q ((stpI l c m).map .int) ρ1) : EI (iRng3 t) ρ Q := fun B ad σ F H w R z =>
  h B ad σ F H w _ fun ds ρ1 vs F1 H1 q p r => by
    obtain ⟨l, n, c, m, rfl, rg, q⟩ := q
    cases r with
    | cons r1 r =>
      cases r with
      | cons r2 r =>
        cases r with
        | cons r3 r =>
          cases r
          exact ⟨l, n, c, m, by rw [r1.int_inv, r2.int_inv, r3.int_inv], rg, z _ ρ1 _ F1 H1 q p (itd_stp l c m)⟩
end
end Pu
/-! PuX: xs.remove(n), xs an own list of ints -/
namespace Pu
open PySem L2
section
variable {ρ : Pu.Env} {te : TE} {K : PySem.W.Frag} {P : Po}
theorem erase_find : ∀ (ns : List Int) (x : Int), x ∈ ns → ∃ j : Nat, ns[j]? = some x ∧ (∀ m : Nat, m < j → ns[m]? ≠ some x) ∧ ns.eraseIdx j = ns.erase x
  | n :: ns, x, h => by
    by_cases c : n = x
    · subst c
      exact ⟨0, rfl, fun m hm => absurd hm (Nat.not_lt_zero _), by simp⟩
    · obtain ⟨j, h1, h2, h3⟩ := erase_find ns x ((List.mem_cons.mp h).resolve_left fun e => c e.symm)
      refine ⟨j + 1, by simpa using h1, fun m hm => ?_, ?_⟩
      · cases m with
        | zero => simpa using c
        | succ m => simpa using h2 m (by omega)
      · rw [List.eraseIdx_cons_succ, h3, List.erase_cons_tail (by simpa using c)]
/-- xs.remove(n), xs an own list of ints -/
theorem sx_rem {i : Nat} {es : List D} (h : ρ[i]? = some (.own es)) (k : EX te ρ fun d ρ1 => ∃ (ns : List Int) (x : Int), ρ1[i]? = some (.own (ns.map .int)) ∧ d = .int x ∧ x ∈ ns ∧ NX P (ρ1.set i (.own ((ns.erase x).map .int)))) : SX (tDrop (tBM K "list" rRemI (tVar i) (tCons te tNil))) ρ P := fun B σ F H w Dn n r b c => by
  obtain ⟨ad, w⟩ := w
  obtain ⟨p0, vs0, _, _, k1, k0, _⟩ := w.sl i _ h
  refine ⟨_, k1, .inl ⟨rfl, _, .inl (.inl k0)⟩, k B ad σ F H w _ fun d ρ1 v F1 H1 q1 p1 r1 => ?_⟩
  obtain ⟨ns, x, h1, rfl, hx, ρ', l, q⟩ := q1
  obtain ⟨p, vs, _, _, k2, k3, rr⟩ := p1.wa.sl i _ h1
  have e := k1.symm.trans k2
  cases e
  have ev := rr.ints_inv
  subst ev
  have ex := r1.int_inv
  subst ex
  obtain ⟨j, j1, j2, j3⟩ := erase_find ns x hx
  refine ⟨_, ns, x, j, rfl, rfl, k3, j1, j2, ?_⟩
  rw [j3]
  exact n ρ' σ F1 _ q ((p1.wa.mut h1 k2 (RpA.ints _)).weak l)
end
end Pu
/-! PuY: a dict {k: True for k in ints}, k in it; a op b op c op d as a value; data < data -/
namespace Pu
open PySem L2 PyProof.Rows
/-! ### a op b op c op d, as a value -/
section
def tChain3 (r r' r'' : R2) (ta tb tc td : TE) : TE := fun σ H Q => ta σ H fun x H1 => tb σ H1 fun y H2 => r x y H2 fun z H3 => ∃ k, z = .bl k ∧
  (if k = true then tc σ H3 fun x3 H4 => r' y x3 H4 fun z2 H5 => ∃ k2, z2 = .bl k2 ∧ (if k2 = true then td σ H5 fun x4 H6 => r'' x3 x4 H6 Q else Q (.bl false) H5) else Q (.bl false) H3)
theorem pe_chain3 {X : Cx} {a b c d : Expr} {ta tb tc td : TE} {pos : Pos} {op op' op'' : CmpOp} {r r' r'' : R2} (ho : OpR X (compareOp op) r) (ho' : OpR X (compareOp op') r') (ho'' : OpR X (compareOp op'') r'') (ha : PE X a ta) (hb : PE X b tb) (hc : PE X c tc) (hd : PE X d td)
    (hm : lastMarks [op, op', op''] [b, c, d] = false := by with_unfolding_all rfl) : PE X (.Compare a [op, op', op''] [b, c, d] pos) (tChain3 r r' r'' ta tb tc td) := by
  refine ⟨fun pins s σ H Q I h => ?_⟩
  refine Compare_chain (thn (ha.run pins s σ H _ I h) fun v s1 ⟨x, H1, I1, r1, q1⟩ => chain_link (thn (hb.run pins s1 σ H1 _ I1 q1) fun u s2 ⟨y, H2, I2, r2, q2⟩ =>
    thn (ho pins s2 σ H2 x y v u _ I2 r1 r2 q2) fun d s3 ⟨z, H3, I3, r3, k, e, q3⟩ => ?_)) hm
  subst e
  cases r3
  refine wpAny_truthy_bool ?_
  cases k with
  | false => exact ite_ff ⟨.bl false, H3, I3, rfl, q3⟩
  | true =>
    refine ite_tt (chain_link (thn (hc.run pins s3 σ H3 _ I3 q3) fun u3 s4 ⟨x3, H4, I4, r4, q4⟩ => thn (ho' pins s4 σ H4 y x3 u u3 _ I4 r2 r4 q4) fun _ s5 ⟨z2, H5, I5, r5, k2, e2, q5⟩ => ?_))
    subst e2
    cases r5
    refine wpAny_truthy_bool ?_
    cases k2 with
    | false => exact ite_ff ⟨.bl false, H5, I5, rfl, q5⟩
    | true => exact ite_tt (chain_last (thn (hd.run pins s5 σ H5 _ I5 q5) fun u4 s6 ⟨x4, H6, I6, r6, q6⟩ => ho'' pins s6 σ H6 x3 x4 u3 u4 Q I6 r4 r6 q6))
theorem ex_ch3 {ρ : Pu.Env} {r r' r'' : R2} {ta tb tc td : TE} {Q : D → Pu.Env → Prop} (h : EX ta ρ fun d1 ρ1 => EX tb ρ1 fun d2 ρ2 => OpD r d1 d2 fun d => ∃ b, d = .bool b ∧ (b = true → EX tc ρ2 fun d3 ρ3 => OpD r' d2 d3 fun d => ∃ b2, d = .bool b2 ∧
    (b2 = true → EX td ρ3 fun d4 ρ4 => OpD r'' d3 d4 fun d => Q d ρ4) ∧ (b2 = false → Q (.bool false) ρ3)) ∧ (b = false → Q (.bool false) ρ2)) : EX (tChain3 r r' r'' ta tb tc td) ρ Q := fun B ad σ F H w Z z =>
  h B ad σ F H w _ fun d1 ρ1 x F1 H1 q1 p1 r1 => q1 B ad σ F1 H1 p1.wa _ fun d2 ρ2 y F2 H2 q2 p2 r2 => q2 F2 H2 x y p2.wa.gr.fh (r1.up p2.gr.ff) r2 _ fun d v F3 H3 kd g rv => by
    obtain ⟨b, rfl, k1, k2⟩ := kd
    refine ⟨b, rv.bl_inv, ?_⟩
    have p3 := (p1.trans p2).trans (Post.of p2.wa g)
    cases b with
    | false => exact z _ ρ2 _ F3 H3 (k2 rfl) p3 (.bl false)
    | true =>
      show tc σ H3 _
      refine k1 rfl B ad σ F3 H3 p3.wa _ fun d3 ρ3 u F4 H4 q4 p4 r4 => q4 F4 H4 y u p4.wa.gr.fh ((r2.up g.ff).up p4.gr.ff) r4 _ fun d v F5 H5 kd2 g2 rv2 => ?_
      obtain ⟨b2, rfl, m1, m2⟩ := kd2
      refine ⟨b2, rv2.bl_inv, ?_⟩
      have p5 := (p3.trans p4).trans (Post.of p4.wa g2)
      cases b2 with
      | false => exact z _ ρ3 _ F5 H5 (m2 rfl) p5 (.bl false)
      | true =>
        show td σ H5 _
        refine m1 rfl B ad σ F5 H5 p5.wa _ fun d4 ρ4 u4 F6 H6 q6 p6 r6 => q6 F6 H6 u u4 p6.wa.gr.fh ((r4.up g2.ff).up p6.gr.ff) r6 _ fun d v F7 H7 kd3 g3 rv3 => ?_
        exact z d ρ4 v F7 H7 kd3 ((p5.trans p6).trans (Post.of p6.wa g3)) rv3
end
/-! ### data < data -/
section
variable {X : Cx} {K : PySem.W.Frag} {d1 d2 : D} {Q : D → Prop}
def rLtD (K : PySem.W.Frag) : R2 := fun x y H Q => ∃ d e, Dp K H x d ∧ Dp K H y e ∧ PySem.W.alike d e = true ∧ d ≠ .none ∧ min d.depth e.depth ≤ 60 ∧ Q (.bl (PySem.W.dataLt d e)) H
theorem op_ltD (hu : X.A.units + 64 < cLine) : OpR X (compareOp .Lt) (rLtD X.K) := by
  rintro pins s σ H x y v u Q I rx ry ⟨d, e, hd, he, pd, pe, hz, q⟩
  obtain ⟨as, r1⟩ := Dp.reads I d x v hd rx
  obtain ⟨bs, r2⟩ := Dp.reads I e y u he ry
  exact PySem.W.lt_data r1 r2 pd pe (by omega) ⟨.bl _, H, I, rfl, q⟩
theorem opd_ltD (al : PySem.W.alike d1 d2 = true) (hn : d1 ≠ .none) (h : min d1.depth d2.depth ≤ 60) (k : Q (.bool (PySem.W.dataLt d1 d2))) : OpD (rLtD K) d1 d2 Q := fun F H x y e rx ry Z z => ⟨d1, d2, rx.dp e, ry.dp e, al, hn, h, z _ _ F H k (Gr.refl e) (.bl _)⟩
end
/-! ### {k: True for k in ints} -/
section
variable {X : Cx}
theorem ps_setDc {i : Nat} {y : Str} {py : Pos} {kx vx tg iter : Expr} {ifs : List Expr} {scope : Scope} {own : List (Str × Nat)} {pos spos : Pos} {wi : TI} {g : TG} {tt : TT} {tk tv : TE} (hc : X.calm = true) (hN : X.N.Nodup) (hy : X.N[i]? = some y) (hyl : X.env.scope.names.lookup y = some .local)
    (hsw : swapsWith (.DictComp kx vx [⟨tg, iter, ifs, 0⟩] scope pos) (some (.Name y py)) spos.line X.env = pure true) (hi : PI X tg iter wi) (ok : BlkOk X.N X.env.scope scope own)
    (hg : ∀ (s : Shared) (H : Hp) (C : Addr) (cl : List (Str × Addr)) (fp : List Addr), PG (X.blk s H scope (compEnvC scope cl C X.env) fp) tg g) (ht : ∀ (s : Shared) (H : Hp) (C : Addr) (cl : List (Str × Addr)) (fp : List Addr), PTs (X.blk s H scope (compEnvC scope cl C X.env) fp) ifs tt)
    (hk : ∀ (s : Shared) (H : Hp) (C : Addr) (cl : List (Str × Addr)) (fp : List Addr), PE (X.blk s H scope (compEnvC scope cl C X.env) fp) kx tk)
    (he : ∀ (s : Shared) (H : Hp) (C : Addr) (cl : List (Str × Addr)) (fp : List Addr), PE (X.blk s H scope (compEnvC scope cl C X.env) fp) vx tv) (hs : ∀ x, foldedSetIterable iter X.env x = pure x := by intro _; rfl) :
    PS X (.Assign [.Name y py] (.DictComp kx vx [⟨tg, iter, ifs, 0⟩] scope pos) spos) (tAsg (tDc wi g tt tk tv (own.map (·.2))) (gName i)) := by
  refine ⟨fun pins s σ H D I h => ?_⟩
  rw [exec_Assign_Name_used _ _ _ _ hsw]
  refine wpAny_bind (wpAny_standAt (wpAny_bind ?_))
  show wpAny _ X.A (do let _ ← comprehension (.DictComp kx vx [⟨tg, iter, ifs, 0⟩] scope pos) scope X.env (firstIterPos [⟨tg, iter, ifs, 0⟩] pos) newDict false (eval iter X.env) (some (assign (.Name y py) X.env))) _ _ s
  have h : tDc wi g tt tk tv (own.map (·.2)) σ H (fun x H1 => gName i x σ H1 D.nx) := h
  refine wpAny_bind (thn (dc_core (Qf := fun _ s' => SP X pins D .next s') hc hN I hi ok hg ht hk he hs h fun L C s' m H' I' q hn f => ?_) fun _ s' hq => wpAny_pure (wpAny_pure hq))
  show wpAny _ _ (assign (.Name y py) X.env (.ref L)) _ _ _
  refine wpAny_assign_Name (store_ok2 (v := V.ref L) I' hN hy (.inl hyl) rfl (fun s2 I2 ⟨a, sb, ha⟩ => ?_) (.inr hyl))
  obtain ⟨f0, f1, f2, f3, f4, f5⟩ := f
  have haC : C ≠ a := by
    rcases ha with z | z
    · rw [z]; exact f1
    · exact fun e => f4 y a z e.symm
  refine ⟨m, hn.sameBut sb haC, fun h3 sb3 => ?_⟩
  exact ⟨_, H', I2.turned (t' := s2.toks) (fun b o hb e => (sb3.2 b hb).trans e) f0 f1 f3 f4 f5, q⟩
theorem sw_trueD {kx vx : Expr} {gs : List Comprehension} {scope : Scope} {pos py : Pos} {y : Str} {l : Nat} {env : PySem.Env} (hk : env.scope.kind = .function) (hy : env.scope.names.lookup y = some .local) (hl : (py.line == pos.line) = true)
    (ha : (scope.names.any fun (n, k) => n == y && (k == .local || k == .cell)) = false) : swapsWith (.DictComp kx vx gs scope pos) (some (.Name y py)) l env = pure true := by
  have ky : env.kindOf y = some .local := hy
  have hb : env.blockKind = .function := by unfold Env.blockKind; rw [hk]; rfl
  unfold swapsWith
  simp only [hb, ky, ha, Expr.pos, hl]
  rfl
end
section
variable {ρ : Pu.Env} {P : Po} {wi : TI} {g : TG} {tt : TT} {tk tv : TE} {vs : List Nat} {i : Nat}
def kb (x : Int) : Key × V := ((.inl x : Key), V.bl true)
theorem put_kb {xs : List Int} {x : Int} (h : x ∉ xs) : putK (xs.map kb) (.inl x : Key) (V.bl true) = (xs ++ [x]).map kb := by
  have e1 : ((xs.map kb).any fun kv => decide (kv.1 = (.inl x : Key))) = false := by
    rw [List.any_eq_false]
    intro y hy
    obtain ⟨q, hq, rfl⟩ := List.mem_map.mp hy
    simp only [decide_eq_true_eq, kb, Sum.inl.injEq]
    exact fun e => h (e ▸ hq)
  unfold putK
  rw [e1, if_neg Bool.false_ne_true]
  simp [kb]
theorem sx_dcSet (h00 : i ≠ 0) (h : EI wi ρ fun ds ρ1 => ∃ xs : List Int, ds = xs.map .int ∧ xs.Nodup ∧ xs.length < 1000000 ∧ Plain ρ1 vs ∧
    (∀ x ∈ xs, SG vs g (.int x) (wipeE ρ1 vs) fun ρ2 => unw vs ρ1 ρ2 = ρ1 ∧ ET tt ρ2 fun b ρ3 => b = true ∧ ρ3 = ρ2 ∧ EX tk ρ2 fun e ρ4 => e = .int x ∧ ρ4 = ρ2 ∧ EX tv ρ2 fun e ρ5 => e = .bool true ∧ ρ5 = ρ2) ∧ NX P (ρ1.set i (.st (.dbl xs)))) : SX (tAsg (tDc wi g tt tk tv vs) (gName i)) ρ P := fun B σ F H w Dn n r bk ct => by
  obtain ⟨ad, w⟩ := w
  refine h B ad σ F H w _ fun ds ρ1 J F1 H1 q1 p1 it => ?_
  obtain ⟨xs, rfl, nd, hz, pl, turn, done⟩ := q1
  intro Dl hD
  have nw := p1.wa.newp hD
  have lenX : (xs.map PyData.int).length = xs.length := List.length_map _
  let Inv := fun (i : Nat) (H' : Hp) => ∃ F', Post B ad σ ρ1 F1 H1 ρ1 F' H' ∧ F' Dl = none ∧ H' Dl = some (.dK ((xs.take i).map kb))
  refine ⟨fun i m H' => m = xs.length - i ∧ i ≤ xs.length ∧ Inv i H', ⟨_, rfl, Nat.zero_le _, F1, Post.of p1.wa (Gr.heap p1.wa.gr.fh (same_upd hD)), nw.1, upd_same⟩, ?_⟩
  rintro i m H' ⟨rfl, hi, F', P', hF, hH⟩
  by_cases hlt : i < xs.length
  · refine .inr ⟨it.go i H' (P'.gr.ff.trans P'.wa.gr.fh) (by rw [lenX]; exact hlt), fun H2 => Inv (i + 1) H2, fun H2 k => ⟨xs.length - (i + 1), by omega, rfl, hlt, k⟩, fun x H2 y => ?_⟩
    obtain ⟨d, F2, e, gr, rx⟩ := it.yld i H' x H2 F' P'.gr.ff P'.wa.gr.fh y (by rw [lenX]; exact hlt)
    rw [List.getElem?_map, List.getElem?_eq_getElem hlt] at e
    cases e
    have hx : xs[i] ∈ xs := List.getElem_mem hlt
    have hnx : xs[i] ∉ xs.take i := fun hm => by
      obtain ⟨j, hj⟩ := List.getElem?_of_mem hm
      have hj2 := (List.getElem?_eq_some_iff.mp hj).1
      rw [List.length_take] at hj2
      rw [List.getElem?_take] at hj
      split at hj
      · have := (List.getElem?_eq_some_iff.mp hj).2
        have := (List.getElem_inj nd).mp this
        omega
      · cases hj
    have P2 := P'.trans (Post.of P'.wa gr)
    have w2 := P'.wa.grow gr
    have hF2 : F2 Dl = none := gr.fr Dl (by rw [hH]; intro z; cases z) hF
    have hH2 : H2 Dl = some (.dK ((xs.take i).map kb)) := gr.kp Dl _ hH id
    have nms : ∀ (ρ2 : Env), ¬ MS ad ρ2 Dl := fun ρ2 ⟨j, S, _, m⟩ => nw.2.2 j m
    refine turn _ hx B ad (wipe σ vs) F2 H2 x (w2.wiped pl) (pl.ad w2) rx _ fun ρ2 σ2 q wb e2 fr => ?_
    obtain ⟨eu, q⟩ := q
    have e2' : wipe σ2 vs = wipe σ vs := by
      rw [e2]
      apply List.ext_getElem?
      intro j
      rw [wipe_get, wipe_get, wipe_length]
      split
      · rfl
      · first | rfl | rw [wipe_get, if_neg (by assumption)]
    refine ⟨e2', q B ad σ2 F2 H2 wb _ fun b ρ3 F3 H3 q3 p3 => ?_⟩
    obtain ⟨rfl, rfl, q3⟩ := q3
    show tk σ2 H3 _
    refine q3 B ad σ2 F3 H3 p3.wa _ fun e ρ4 v F4 H4 q4 p4 rv => ?_
    obtain ⟨rfl, rfl, q4⟩ := q4
    have ev := rv.int_inv
    subst ev
    refine q4 B ad σ2 F4 H4 p4.wa _ fun e ρ5 v F5 H5 q5 p5 rv2 => ?_
    obtain ⟨rfl, rfl⟩ := q5
    have ev2 := rv2.bl_inv
    subst ev2
    have p34 := (p3.trans p4).trans p5
    have pu := Post.unwiped w2 pl e2' fr wb p34
    rw [eu] at pu
    have hH4 : H5 Dl = some (.dK ((xs.take i).map kb)) := p34.gr.kp Dl _ hH2 (nms _)
    have hF4 : F5 Dl = none := p34.gr.fr Dl (by rw [hH2]; intro z; cases z) hF2
    refine ⟨_, (.inl xs[i] : Key), rfl, hH4, Nat.lt_of_lt_of_le (by rw [List.length_map, List.length_take]; omega) (show 1000000 ≤ sizeLine by decide), F5, ?_, hF4, ?_⟩
    · have pt := P2.trans pu
      have ne1 : ∀ a o, H1 a = some o → a ≠ Dl := fun a o q z => by rw [z, hD] at q; cases q
      have neF : ∀ a o, F5 a = some o → a ≠ Dl := fun a o q z => by rw [z, hF4] at q; cases q
      refine ⟨⟨⟨pt.wa.gr.ff, fun a o q => by rw [upd_ne (neF a o q)]; exact pt.wa.gr.fh a o q, fun a o q m => ?_, fun a q => ?_, pt.wa.gr.fr⟩, pt.wa.len, fun j s q => ?_, pt.wa.fz, pt.wa.dj, pt.wa.out, pt.wa.pin⟩, ⟨pt.gr.ff, fun a o q => by rw [upd_ne (neF a o q)]; exact pt.gr.fh a o q, fun a o q m => by rw [upd_ne (ne1 a o q)]; exact pt.gr.kp a o q m, fun a q => ?_, pt.gr.fr⟩, pt.sh⟩
      · rw [upd_ne (fun z => by rw [z, nw.2.1] at q; cases q)]
        exact pt.wa.gr.kp a o q m
      · by_cases ha : a = Dl
        · rw [ha, upd_same]; intro z; cases z
        · rw [upd_ne ha]; exact pt.wa.gr.al a q
      · have k := pt.wa.sl j s q
        cases s with
        | emp => exact k
        | val d => exact k
        | own es =>
          obtain ⟨p, ws, a1, a2, a3, a4, a5⟩ := k
          refine ⟨p, ws, a1, a2, a3, ?_, a5⟩
          rw [upd_ne (fun z => nw.2.2 j (by rw [a1, z]; simp))]
          exact a4
        | st S =>
          obtain ⟨s, a1, a2⟩ := k
          exact ⟨s, a1, a2.keep (Same.refl _) fun a m o e => by
            rw [upd_ne (fun z => nw.2.2 j (by rw [← z]; exact m))]
            exact e⟩
      · by_cases ha : a = Dl
        · rw [ha, upd_same]; intro z; cases z
        · rw [upd_ne ha]; exact pt.gr.al a q
    · rw [upd_same, put_kb hnx, List.take_add_one, List.getElem?_eq_getElem hlt]
      rfl
  · have e : i = xs.length := by omega
    subst e
    refine .inl ⟨it.stop _ H' (P'.gr.ff.trans P'.wa.gr.fh) (by rw [lenX]; exact Nat.le_refl _), ?_⟩
    rw [List.take_length] at hH
    obtain ⟨ρ2, l, q⟩ := done
    have wf := P'.wa
    refine n ρ2 _ F' H' q (W.weak ⟨fun k => if k = i then (if i < ρ1.length then [Dl] else []) else ad k, wf.gr, by rw [List.length_set, List.length_set]; exact wf.len, fun j sl e => ?_, fun j q m => ?_, fun j1 j2 q m1 m2 => ?_, fun j e => ?_, wf.pin.to fun S2 e => by
      rcases get_set e with ⟨e0, _⟩ | ⟨hj, e⟩
      · exact absurd e0.symm h00
      · exact ⟨⟨S2, e⟩, List.getElem?_set_ne (Ne.symm hj), if_neg hj⟩⟩ l)
    · rcases get_set e with ⟨rfl, rfl⟩ | ⟨hj, e'⟩
      · have hi : j < ρ1.length := by
          have := (List.getElem?_eq_some_iff.mp e).1
          rwa [List.length_set] at this
        exact ⟨Dl, List.getElem?_set_self (by rw [wf.len]; exact hi), by rw [if_pos rfl, if_pos hi]; exact ⟨rfl, hH⟩⟩
      · rw [if_neg hj, List.getElem?_set_ne (Ne.symm hj)]
        exact wf.sl j sl e'
    · by_cases hj : j = i
      · simp only [if_pos hj] at m
        by_cases hi : i < ρ1.length
        · simp only [if_pos hi] at m
          have eq : q = Dl := by simpa using m
          rw [eq]
          exact ⟨hF, .inl nw.2.1⟩
        · simp [if_neg hi] at m
      · simp only [if_neg hj] at m
        exact wf.fz j q m
    · have g : ∀ j, q ∈ (if j = i then (if i < ρ1.length then [Dl] else []) else ad j) → (j = i ∧ q = Dl) ∨ (j ≠ i ∧ q ∈ ad j) := fun j m => by
        by_cases hj : j = i
        · simp only [if_pos hj] at m
          by_cases hi : i < ρ1.length
          · simp only [if_pos hi] at m
            exact .inl ⟨hj, by simpa using m⟩
          · simp [if_neg hi] at m
        · simp only [if_neg hj] at m
          exact .inr ⟨hj, m⟩
      rcases g j1 m1 with ⟨a1, b1⟩ | ⟨a1, b1⟩ <;> rcases g j2 m2 with ⟨a2, b2⟩ | ⟨a2, b2⟩
      · rw [a1, a2]
      · exact absurd b2 (by rw [b1]; exact nw.2.2 j2)
      · exact absurd b1 (by rw [b2]; exact nw.2.2 j1)
      · exact wf.dj j1 j2 q b1 b2
    · show (if j = i then (if i < ρ1.length then [Dl] else []) else ad j) = []
      have e' := get_set' e
      by_cases hj : j = i
      · subst hj
        rw [if_pos rfl, if_neg (by rw [List.getElem?_eq_none_iff] at e'; omega)]
      · rw [if_neg hj]
        exact wf.out j e'
/-- k in such a dict -/
theorem val_kb : ∀ (ks : List Int) (k : Int), (valV (ks.map kb) (.inl k : Key)).isSome = decide (k ∈ ks)
  | [], k => rfl
  | a :: ks, k => by
    by_cases c : a = k
    · subst c
      rw [List.map_cons, show valV (kb a :: ks.map kb) (.inl a : Key) = some (V.bl true) from valV_pos (p := kb a) rfl]
      simp
    · rw [List.map_cons, valV_neg (by simp [kb, c]), val_kb ks k]
      have : k ≠ a := fun e => c e.symm
      by_cases h : k ∈ ks <;> simp [h, this]
theorem ex_inDbl {ty : TE} {Q : D → Pu.Env → Prop} {j : Nat} (h : EX ty ρ fun d ρ1 => ∃ k ks, d = .int k ∧ ρ1[j]? = some (.st (.dbl ks)) ∧ Q (.bool (decide (k ∈ ks))) ρ1) : EX (tDIn ty (tVar j)) ρ Q := fun B ad σ F H w Z z => by
  refine h B ad σ F H w _ fun d ρ1 y F1 H1 q1 p1 r1 => ?_
  obtain ⟨k, ks, rfl, h1, q⟩ := q1
  obtain ⟨s1, k1, st1⟩ := p1.wa.sl j _ h1
  have ey := r1.int_inv
  subst ey
  refine ⟨_, k1, s1, _, rfl, DGet.k (k := (.inl k : Key)) st1.2, ?_⟩
  have e := val_kb ks k
  show Z (.bl (valV (ks.map kb) (.inl k : Key)).isSome) H1
  rw [e]
  exact z _ ρ1 _ F1 H1 q p1 (.bl _)
end
end Pu
/-! PuO: instances of own classes whose attributes are data -/
namespace Pu
open PySem L2 PyProof.Rows
/-! ### attributes by name -/
def putD (f : Str) (d : D) : List (Str × D) → List (Str × D)
  | [] => [(f, d)]
  | (g, x) :: r => if g = f then (g, d) :: r else (g, x) :: putD f d r
theorem putD_nil (f : Str) (d : D) : putD f d [] = [(f, d)] := rfl
theorem putD_eq (f : Str) (d x : D) (r : List (Str × D)) : putD f d ((f, x) :: r) = (f, d) :: r := if_pos rfl
theorem putD_ne {f g : Str} (h : ¬ g = f) (d x : D) (r : List (Str × D)) : putD f d ((g, x) :: r) = (g, x) :: putD f d r := if_neg h
theorem lk_nil (f : Str) : List.lookup f ([] : List (Str × D)) = none := rfl
theorem lk_eq {α : Type} (f : Str) (x : α) (r : List (Str × α)) : List.lookup f ((f, x) :: r) = some x := by simp [List.lookup]
theorem lk_ne {α : Type} {f g : Str} (h : ¬ g = f) (x : α) (r : List (Str × α)) : List.lookup f ((g, x) :: r) = List.lookup f r := by
  have hb : (f == g) = false := beq_eq_false_iff_ne.mpr fun e => h e.symm
  simp only [List.lookup, hb]
section
variable {F : Hp}
theorem FldA.get : ∀ {vs : List (Str × V)} {fs : List (Str × D)} {f : Str} {d : D}, FldA F vs fs → fs.lookup f = some d → ∃ v, vs.lookup f = some v ∧ Rp F v d
  | [], [], _, _, _, e => by cases e
  | (g, v) :: vs, (g', x) :: fs, f, d, h, e => by
    obtain ⟨rfl, r, h⟩ := h
    by_cases q : g = f
    · subst q
      rw [lk_eq] at e
      cases e
      exact ⟨v, lk_eq _ _ _, r⟩
    · rw [lk_ne q] at e
      obtain ⟨u, a, b⟩ := FldA.get h e
      exact ⟨u, by rw [lk_ne q]; exact a, b⟩
  | [], _ :: _, _, _, h, _ => h.elim
  | _ :: _, [], _, _, h, _ => h.elim
theorem FldA.no : ∀ {vs : List (Str × V)} {fs : List (Str × D)} {f : Str}, FldA F vs fs → fs.lookup f = none → vs.lookup f = none
  | [], [], _, _, _ => rfl
  | (g, v) :: vs, (g', x) :: fs, f, h, e => by
    obtain ⟨rfl, r, h⟩ := h
    by_cases q : g = f
    · subst q
      rw [lk_eq] at e
      cases e
    · rw [lk_ne q] at e ⊢
      exact FldA.no h e
  | [], _ :: _, _, h, _ => h.elim
  | _ :: _, [], _, h, _ => h.elim
theorem FldA.len : ∀ {vs : List (Str × V)} {fs : List (Str × D)}, FldA F vs fs → vs.length = fs.length
  | [], [], _ => rfl
  | (g, v) :: vs, (g', x) :: fs, h => by rw [List.length_cons, List.length_cons, FldA.len h.2.2]
  | [], _ :: _, h => h.elim
  | _ :: _, [], h => h.elim
theorem FldA.put : ∀ {vs : List (Str × V)} {fs : List (Str × D)} {f : Str} {v : V} {d : D}, FldA F vs fs → Rp F v d → FldA F (putF f v vs) (putD f d fs)
  | [], [], f, v, d, _, r => ⟨rfl, r, trivial⟩
  | (g, u) :: vs, (g', x) :: fs, f, v, d, h, r => by
    obtain ⟨rfl, ru, h⟩ := h
    unfold putF putD
    by_cases q : g = f
    · rw [if_pos q, if_pos q]; exact ⟨rfl, r, h⟩
    · rw [if_neg q, if_neg q]; exact ⟨rfl, ru, FldA.put h r⟩
  | [], _ :: _, _, _, _, h, _ => h.elim
  | _ :: _, [], _, _, _, h, _ => h.elim
end
/-! ### readings and rules -/
/-- what of the text an object's class must have: C is plain, none of the names is the class's own -/
structure ObF (K : PySem.W.Frag) (C : Addr) (ns : List Str) : Prop where
  cl : Cls K C
  no : ∀ f ∈ ns, NoAttr K C f
/-- o.f -/
def tFldC (C : Addr) (ta : TE) (f : Str) : TE := fun σ H Q => ta σ H fun x H1 => ∃ a dx fs v, x = .ref a ∧ H1 a = some (.ins C dx fs) ∧ fs.lookup f = some v ∧ Q v H1
/-- o.f = value -/
def sFldC (C : Addr) (ta tv : TE) (f : Str) : TS := fun D σ H => tv σ H fun y H1 => ta σ H1 fun x H2 => ∃ a dx fs, x = .ref a ∧ H2 a = some (.ins C dx fs) ∧ fs.length < 1000 ∧ D.nx σ (upd H2 a (.ins C dx (putF f y fs)))
section
variable {X : Cx} {o e value : Expr} {f : Str} {pos pos' : Pos} {ta tv : TE} {C : Addr} {ns : List Str}
theorem pe_fldC (c : ObF X.K C ns) (hf : f ∈ ns) (he : PE X e ta) (hb : attributeBase e f X.env (eval e X.env) = eval e X.env) : PE X (.Attribute e f pos) (tFldC C ta f) := by
  refine ⟨fun pins s σ H Q I h => ?_⟩
  refine attr_of hb (thn (he.run pins s σ H _ I h) fun u s1 ⟨x, H1, I1, rx, a, dx, fs, v, ex, ea, l, q⟩ => ?_)
  subst ex
  obtain rfl : u = Value.ref a := rx
  exact getattr_ok I1 ea c.cl (c.no f hf) l fun u' s2 I2 ru => ⟨v, H1, I2, ru, q⟩
theorem ps_fldC (c : ObF X.K C ns) (hf : f ∈ ns) (ha : PE X o ta) (hv : PE X value tv) (hs : swapsWith value (some (.Attribute o f pos')) pos.line X.env = pure false) : PS X (.Assign [.Attribute o f pos'] value pos) (sFldC C ta tv f) := by
  refine ⟨fun pins s σ H D I h => ?_⟩
  refine plainObj_wpAny_Assign_Attribute (thn (hv.run pins s σ H _ I h) fun u s1 ⟨y, H1, I1, ry, q⟩ => thn (ha.run pins s1 σ H1 _ I1 q) fun ov s2 ⟨x, H2, I2, rx, a, dx, fs, ex, ea, l, q2⟩ => ?_) hs
  subst ex
  obtain rfl : ov = Value.ref a := rx
  exact setattr_ok I2 ea c.cl (c.no f hf) l ry fun s3 I3 => ⟨σ, _, I3, q2⟩
end
/-- a method that keeps a promise -/
inductive CalM (P : Program) (w : World) (K : PySem.W.Frag) (mg : Str → Option Value) (base : Heap) (C : Addr) (m : Str) (ps : List Str) (sp : Sp) (k : Nat) : Prop
  | mk (f : Addr) (fd : FuncData) (ok : FnOk P w K mg base CX0 k f fd ps sp) (hm : Meth K C m f) (bd : Binds K fd ps []) : CalM P w K mg base C m ps sp k
/-- a class whose __init__ keeps a promise -/
inductive CalC (P : Program) (w : World) (K : PySem.W.Frag) (mg : Str → Option Value) (base : Heap) (C : Addr) (x : Str) (ps : List Str) (sp : Sp) (k : Nat) : Prop
  | mk (f : Addr) (fd : FuncData) (ok : FnOk P w K mg base CX0 k f fd ps sp) (hm : mg x = some (.ref C)) (mk : Mk K C f) (bd : Binds K fd ps []) : CalC P w K mg base C x ps sp k
section
variable {X : Cx} {k : Nat} {C : Addr} {ns : List Str} {ps : List Str} {sp : Sp} {x m : Str} {p pos apos : Pos} {e o : Expr} {es : List Expr} {t : TA} {ta : TE}
theorem pe_calM {pl : Sem Bool} (M : CalM X.prog X.w X.K X.mg X.base C m ps sp k) (c : ObF X.K C ns) (hr : Room k X.A) (he : PE X o ta) (ha : PA X (e :: es) t)
    (hst : starEach (e :: es) X.env = (false, eval e X.env) :: starEach es X.env := by rfl) (hpl : (backTo pos (starEach es X.env)).any (·.1) = false := by rfl)
    (ht : eval (.Call (.Attribute o m apos) (e :: es) [] pos) X.env = (do
      let ov ← eval o X.env
      standAt apos.atName
      let (f, first) ← holding [ov] (getMethod ov m pl)
      callWith pos f first (backTo pos (starEach (e :: es) X.env)) (backToKw pos (keywordEach [] X.env))) := by rfl) :
    PE X (.Call (.Attribute o m apos) (e :: es) [] pos) (tMeth C m sp [] E0 ta t) := by
  obtain ⟨f, fd, ok, hm, bd⟩ := M
  exact pe_meth he c.cl hm ok hr bd .nil pass0 ha hst hpl ht
theorem pe_calM0 {pl : Sem Bool} (M : CalM X.prog X.w X.K X.mg X.base C m ps sp k) (c : ObF X.K C ns) (hr : Room k X.A) (he : PE X o ta)
    (ht : eval (.Call (.Attribute o m apos) [] [] pos) X.env = (do
      let ov ← eval o X.env
      standAt apos.atName
      let (f, first) ← holding [ov] (getMethod ov m pl)
      callWith pos f first (backTo pos (starEach [] X.env)) (backToKw pos (keywordEach [] X.env))) := by rfl) :
    PE X (.Call (.Attribute o m apos) [] [] pos) (tMeth C m sp [] E0 ta tNil) := by
  obtain ⟨f, fd, ok, hm, bd⟩ := M
  exact pe_meth0 he c.cl hm ok hr bd .nil pass0 ht
theorem pe_mkC (M : CalC X.prog X.w X.K X.mg X.base C x ps sp k) (hr : Room (k + 1) X.A) (hg : Gl X x) (ha : PA X (e :: es) t) (hdb : (x == ("__debug__" : Str)) = false := by decide)
    (he : starEach (e :: es) X.env = (false, eval e X.env) :: starEach es X.env := by rfl) (hpl : (backTo pos (starEach es X.env)).any (·.1) = false := by rfl) :
    PE X (.Call (.Name x p) (e :: es) [] pos) (tMake C sp [] E0 t) := by
  obtain ⟨f, fd, ok, hm, mk, bd⟩ := M
  exact pe_make mk ok hr hg hm bd .nil pass0 ha hdb he hpl
end
/-! ### over slots -/
section
variable {ρ : Pu.Env} {i : Nat} {C : Addr} {f m : Str} {t : TA} {tv : TE} {E : XK} {P : Po}
theorem ex_fld {fs : List (Str × D)} {d : D} {Q : D → Pu.Env → Prop} (h : ρ[i]? = some (.st (.obj C fs))) (hl : fs.lookup f = some d) (k : Q d ρ) : EX (tFldC C (tVar i) f) ρ Q := fun B ad σ F H w Z z => by
  obtain ⟨s, k0, dx, vs, has, hs, hf⟩ := w.sl i _ h
  obtain ⟨v, hv, r⟩ := hf.get hl
  exact ⟨_, k0, s, dx, vs, v, rfl, hs, hv, z d ρ v F H k (Post.refl w) r⟩
theorem sx_fld {fs0 : List (Str × D)} (h0 : ρ[i]? = some (.st (.obj C fs0))) (h : EX tv ρ fun d ρ1 => ∃ fs, ρ1[i]? = some (.st (.obj C fs)) ∧ fs.length < 1000 ∧ NX P (ρ1.set i (.st (.obj C (putD f d fs))))) : SX (sFldC C (tVar i) tv f) ρ P := fun B σ F H w Dn n r b c => by
  obtain ⟨ad, w⟩ := w
  refine h B ad σ F H w _ fun d ρ1 v F1 H1 q p rv => ?_
  obtain ⟨fs, h1, hlen, ρ2, l, q⟩ := q
  obtain ⟨s, k0, dx, vs, has, hs, hf⟩ := p.wa.sl i _ h1
  refine ⟨_, k0, s, dx, vs, rfl, hs, by rw [hf.len]; exact hlen, ?_⟩
  have fs0 : F1 s = none := (p.wa.fz i s (by rw [has]; simp)).1
  have neF : ∀ a o, F1 a = some o → a ≠ s := fun a o e z => by rw [z, fs0] at e; cases e
  have w2 := p.wa.stp (S' := .obj C (putD f d fs)) (F' := F1) (H' := upd H1 s (.ins C dx (putF f v vs))) h1 k0 ⟨Same.refl F1, fun a o e => by rw [upd_ne (neF a o e)]; exact p.wa.gr.fh a o e, fun a o e ha => by rw [upd_ne (fun z => ha (by rw [has, z]; simp))]; exact e, fun a e => by
    by_cases z : a = s
    · rw [z, upd_same]; intro q; cases q
    · rw [upd_ne z]; exact e, fun a e z => z⟩ (by rw [has]; exact ⟨dx, _, rfl, upd_same, hf.put rv⟩) (fun a ha => (p.wa.fz i a ha).1)
  exact n ρ2 _ F1 _ q (W.weak ⟨_, w2⟩ l)
theorem ex_meth {R : Stt → List D → (D → Stt → Prop) → Prop} {fs : List (Str × D)} {Q : D → Pu.Env → Prop} (h0 : ρ[i]? = some (.st (.obj C fs))) (hm : fs.lookup m = none) (h : EA t ρ fun ds ρ1 => ∃ S, ρ1[i]? = some (.st S) ∧ R S ds fun d S' => Q d (ρ1.set i (.st S'))) :
    EX (tMeth C m (spS R) [] E (tVar i) t) ρ Q := fun B ad σ F H w Z z => by
  obtain ⟨s, k0, dx, vs, has, hs, hf⟩ := w.sl i _ h0
  obtain ⟨v, e, q⟩ := (ex_callS (E := E) h0 h B ad σ F H w Z z : tCall (spS R) [] E (tCons (tVar i) t) σ H Z)
  rw [k0] at e
  cases e
  exact ⟨_, k0, s, dx, vs, rfl, hs, hf.no hm, q⟩
theorem sx_make {R : Stt → List D → (D → Stt → Prop) → Prop} (h00 : i ≠ 0) (h : EA t ρ fun ds ρ1 => R (.obj C []) ds fun d S => d = .none ∧ NX P (ρ1.set i (.st S))) : SX (tAsg (tMake C (spS R) [] E t) (gName i)) ρ P := fun B σ F H w Dn n r b c => by
  obtain ⟨ad, w⟩ := w
  refine h B ad σ F H w _ fun ds ρ1 vs F1 H1 q p rv => ?_
  intro x dx hx hdx ne
  rw [List.append_nil]
  have nx := p.wa.newp hx
  have keep : ∀ a o, H1 a = some o → upd (upd H1 dx (.own x)) x (.ins C dx []) a = some o := fun a o e => by rw [upd_ne (ne_of_none e hx), upd_ne (ne_of_none e hdx)]; exact e
  refine ⟨F1, x, [x], .obj C [], vs, ds, _, rfl, fun a o e => keep a o (p.wa.gr.fh a o e), ⟨dx, [], rfl, upd_same, trivial⟩, fun a ha => by rw [List.mem_singleton.mp ha]; exact nx.1, rv, q, fun d S v F' H' zd g st fn rv' => ?_⟩
  obtain ⟨rfl, ρ2, l, q⟩ := zd
  refine ⟨rv'.non_inv, ?_⟩
  have some_of : ∀ a, H1 a ≠ none → ∃ o, H1 a = some o := fun a e => by
    cases q : H1 a with
    | none => exact absurd q e
    | some o => exact ⟨o, rfl⟩
  have up : ∀ a, H1 a ≠ none → upd (upd H1 dx (.own x)) x (.ins C dx []) a ≠ none := fun a e => by
    obtain ⟨o, ho⟩ := some_of a e
    rw [keep a o ho]; intro z; cases z
  have g2 : Gr Non F1 H1 F' H' := ⟨g.ff, g.fh, fun a o e _ => g.kp a o (keep a o e) (fun z => by
    rw [List.mem_singleton.mp z, hx] at e; cases e), fun a e => g.al a (up a e), fun a e z => g.fr a (up a e) z⟩
  have w2 := (p.wa.grow g2).setSt2 i h00 st fn fun a ha => by rw [List.mem_singleton.mp ha]; exact nx.2
  exact n ρ2 _ F' H' q (W.weak ⟨_, w2⟩ l)
end
end Pu
/-! PuZ: a dict whose keys are pairs of ints; data <= data; min(xs, default=d) -/
namespace Pu
open PySem L2 PyProof.Rows
abbrev Kt := (Int × Int) × Int
def getT (kvs : List Kt) (k : Int × Int) : Option Int := (kvs.find? fun p => decide (p.1 = k)).map (·.2)
def putT (kvs : List Kt) (k : Int × Int) (n : Int) : List Kt := if (kvs.any fun p => decide (p.1 = k)) = true then kvs.map (fun p => if p.1 = k then (p.1, n) else p) else kvs ++ [(k, n)]
def kt (p : Kt) : List Key × V := (([.inl p.1.1, .inl p.1.2] : List Key), V.int p.2)
theorem kt_key (p : Kt) (a b : Int) : ((kt p).1 = ([.inl a, .inl b] : List Key)) ↔ p.1 = (a, b) := by
  obtain ⟨⟨x, y⟩, n⟩ := p
  simp [kt]
theorem getT_nil (k : Int × Int) : getT [] k = none := rfl
theorem getT_put (kvs : List Kt) (k j : Int × Int) (n : Int) : getT (putT kvs k n) j = if j = k then some n else getT kvs j := by
  unfold putT
  split
  · rename_i h
    unfold getT
    induction kvs with
    | nil => simp at h
    | cons p kvs ih =>
      rw [List.map_cons, List.find?_cons, List.find?_cons]
      by_cases e : p.1 = k
      · rw [if_pos e]
        by_cases ej : j = k
        · subst ej
          simp [e]
        · have e1 : ¬ p.1 = j := fun z => ej (by rw [← z, e])
          simp only [decide_eq_false e1]
          rw [if_neg ej]
          have key : ∀ l : List Kt, ((l.map fun p => if p.1 = k then (p.1, n) else p).find? fun p => decide (p.1 = j)).map (·.2) = (l.find? fun p => decide (p.1 = j)).map (·.2) := by
            intro l
            induction l with
            | nil => rfl
            | cons q l ihl =>
              rw [List.map_cons, List.find?_cons, List.find?_cons]
              by_cases eq : q.1 = k
              · have e2 : ¬ q.1 = j := fun z => ej (by rw [← z, eq])
                rw [if_pos eq]
                simp only [decide_eq_false e2]
                exact ihl
              · rw [if_neg eq]
                by_cases e3 : q.1 = j
                · simp [e3]
                · simp only [decide_eq_false e3]
                  exact ihl
          exact key kvs
      · rw [if_neg e]
        have h' : (kvs.any fun p => decide (p.1 = k)) = true := by simpa [e] using h
        by_cases ej : p.1 = j
        · have : ¬ j = k := fun z => e (by rw [ej, z])
          simp [ej, this]
        · simp only [decide_eq_false ej]
          exact ih h'
  · rename_i h
    have hn : ∀ p ∈ kvs, ¬ p.1 = k := fun p hp e => h (by rw [List.any_eq_true]; exact ⟨p, hp, decide_eq_true e⟩)
    unfold getT
    rw [List.find?_append]
    by_cases ej : j = k
    · subst ej
      have : kvs.find? (fun p => decide (p.1 = j)) = none := List.find?_eq_none.mpr fun p hp => by simpa using hn p hp
      rw [this]
      simp
    · rw [if_neg ej]
      cases hf : kvs.find? (fun p => decide (p.1 = j)) with
      | some q => simp
      | none =>
        have : ¬ k = j := fun z => ej z.symm
        simp [this]
theorem putT_len (kvs : List Kt) (k : Int × Int) (n : Int) : (putT kvs k n).length ≤ kvs.length + 1 := by
  unfold putT
  split
  · rw [List.length_map]; omega
  · rw [List.length_append, List.length_singleton]; omega
theorem val_kt (kvs : List Kt) (a b : Int) : valV (kvs.map kt) ([.inl a, .inl b] : List Key) = (getT kvs (a, b)).map V.int := by
  unfold valV getT
  induction kvs with
  | nil => rfl
  | cons p kvs ih =>
    rw [List.map_cons, List.find?_cons, List.find?_cons]
    by_cases e : p.1 = (a, b)
    · rw [decide_eq_true ((kt_key p a b).mpr e), decide_eq_true e]
      rfl
    · rw [decide_eq_false (fun z => e ((kt_key p a b).mp z)), decide_eq_false e]
      exact ih
theorem put_kt (kvs : List Kt) (a b n : Int) : putK (kvs.map kt) ([.inl a, .inl b] : List Key) (V.int n) = (putT kvs (a, b) n).map kt := by
  have e1 : ((kvs.map kt).any fun kv => decide (kv.1 = ([.inl a, .inl b] : List Key))) = kvs.any fun p => decide (p.1 = (a, b)) := by
    induction kvs with
    | nil => rfl
    | cons p kvs ih =>
      rw [List.map_cons, List.any_cons, List.any_cons, ih]
      congr 1
      by_cases e : p.1 = (a, b)
      · rw [decide_eq_true ((kt_key p a b).mpr e), decide_eq_true e]
      · rw [decide_eq_false (fun z => e ((kt_key p a b).mp z)), decide_eq_false e]
  unfold putK putT
  rw [e1]
  split
  · rw [List.map_map, List.map_map]
    refine List.map_congr_left fun p _ => ?_
    simp only [Function.comp]
    by_cases e : p.1 = (a, b)
    · rw [if_pos ((kt_key p a b).mpr e), if_pos e]
      rfl
    · rw [if_neg (fun z => e ((kt_key p a b).mp z)), if_neg e]
  · rw [List.map_append]
    rfl
section
variable {ρ : Pu.Env} {P : Po} {i : Nat} {tk tv ty tx : TE}
theorem sx_dnewT (h00 : i ≠ 0) (k : NX P (ρ.set i (.st (.dtt [])))) : SX (tAsg tDNewT (gName i)) ρ P := fun B σ F H w Dn n r b c => by
  obtain ⟨ad, w⟩ := w
  intro p hp
  have nw := w.newp hp
  obtain ⟨ρ2, l, q⟩ := k
  have w1 := w.updD (o := .dT []) nw.2.1 nw.2.2 nw.1
  have w2 := w1.setSt2 (S := .dtt []) (s := p) (as := [p]) i h00 ⟨rfl, upd_same⟩ (fun a ha => by rw [List.mem_singleton.mp ha]; exact nw.1) fun a ha => by rw [List.mem_singleton.mp ha]; exact nw.2
  exact n ρ2 _ F _ q (W.weak ⟨_, w2⟩ l)
theorem Rp.pair_inv {F : Hp} {v : V} {a b : Int} (h : Rp F v (.tuple [.int a, .int b])) : ∃ t, v = .ref t ∧ F t = some (.tup [.int a, .int b]) := by
  obtain ⟨t, xs, rfl, ht, ra⟩ := h.tup_inv
  obtain ⟨u, v, rfl, r1, r2⟩ := ra.two
  rw [r1.int_inv, r2.int_inv] at ht
  exact ⟨t, rfl, ht⟩
theorem sx_dputT {kvs0 : List Kt} (h0 : ρ[i]? = some (.st (.dtt kvs0))) (h : EX tv ρ fun d ρ1 => EX tk ρ1 fun e ρ2 => ∃ n a b kvs, d = .int n ∧ e = .tuple [.int a, .int b] ∧ ρ2[i]? = some (.st (.dtt kvs)) ∧ kvs.length < 1000000 ∧ NX P (ρ2.set i (.st (.dtt (putT kvs (a, b) n))))) :
    SX (sDPut (tVar i) tk tv) ρ P := fun B σ F H w Dn n r b c => by
  obtain ⟨ad, w⟩ := w
  obtain ⟨s0, k0, _⟩ := w.sl i _ h0
  refine h B ad σ F H w _ fun d ρ1 v F1 H1 q1 p1 r1 => ?_
  refine ⟨_, k0, q1 B ad σ F1 H1 p1.wa _ fun e ρ2 y F2 H2 q2 p2 r2 => ?_⟩
  obtain ⟨m, a, b', kvs, rfl, rfl, h1, hz, ρ', l, q⟩ := q2
  obtain ⟨s, k1, has, st⟩ := p2.wa.sl i _ h1
  rw [k0] at k1
  cases k1
  have ev := r1.int_inv
  subst ev
  obtain ⟨t, rfl, ht⟩ := r2.pair_inv
  have fs0 : F2 s0 = none := (p2.wa.fz i s0 (by rw [has]; simp)).1
  have neF : ∀ a o, F2 a = some o → a ≠ s0 := fun a o e z => by rw [z, fs0] at e; cases e
  refine ⟨s0, _, rfl, DPut.t (k := ([.inl a, .inl b'] : List Key)) st (p2.wa.gr.fh _ _ ht) (by rw [List.length_map]; exact Nat.lt_of_lt_of_le hz (by decide)), ?_⟩
  rw [show (kvs.map fun p => (([.inl p.1.1, .inl p.1.2] : List Key), V.int p.2)) = kvs.map kt from rfl, put_kt]
  have w2 := p2.wa.stp (S' := .dtt (putT kvs (a, b') m)) (F' := F2) (H' := upd H2 s0 (.dT ((putT kvs (a, b') m).map kt))) h1 k0 ⟨Same.refl F2, fun a o e => by rw [upd_ne (neF a o e)]; exact p2.wa.gr.fh a o e, fun a o e ha => by rw [upd_ne (fun z => ha (by rw [has, z]; simp))]; exact e, fun a e => by
    by_cases z : a = s0
    · rw [z, upd_same]; intro q; cases q
    · rw [upd_ne z]; exact e, fun a e z => z⟩ ⟨has, upd_same⟩ (fun a ha => (p2.wa.fz i a ha).1)
  exact n ρ' _ F2 _ q (W.weak ⟨_, w2⟩ l)
theorem ex_dgetT {kvs0 : List Kt} {Q : D → Pu.Env → Prop} (h0 : ρ[i]? = some (.st (.dtt kvs0))) (h : EX ty ρ fun e ρ1 => EX tx ρ1 fun d ρ2 => ∃ n a b kvs, d = .int n ∧ e = .tuple [.int a, .int b] ∧ ρ2[i]? = some (.st (.dtt kvs)) ∧ Q (.int ((getT kvs (a, b)).getD n)) ρ2) :
    EX (tDGet2 (tVar i) ty tx) ρ Q := fun B ad σ F H w Z z => by
  obtain ⟨s0, k0, has0, st0⟩ := w.sl i _ h0
  refine ⟨_, k0, s0, rfl, .inr ⟨_, .inl st0⟩, h B ad σ F H w _ fun e ρ1 y F1 H1 q1 p1 r1 => q1 B ad σ F1 H1 p1.wa _ fun d ρ2 v F2 H2 q2 p2 r2 => ?_⟩
  obtain ⟨m, a, b', kvs, rfl, rfl, h1, q⟩ := q2
  obtain ⟨s, k1, has, st⟩ := p2.wa.sl i _ h1
  rw [k0] at k1
  cases k1
  have ev := r2.int_inv
  subst ev
  obtain ⟨t, rfl, ht⟩ := (r1.up p2.gr.ff).pair_inv
  refine ⟨_, DGet.t (k := ([.inl a, .inl b'] : List Key)) st (p2.wa.gr.fh _ _ ht), ?_⟩
  rw [show (kvs.map fun p => (([.inl p.1.1, .inl p.1.2] : List Key), V.int p.2)) = kvs.map kt from rfl, val_kt]
  have e : ((getT kvs (a, b')).map V.int).getD (V.int m) = V.int ((getT kvs (a, b')).getD m) := by cases getT kvs (a, b') <;> rfl
  rw [e]
  exact z _ ρ2 _ F2 H2 q (p1.trans p2) (.int _)
end
/-! ### data <= data -/
section
variable {X : Cx} {K : PySem.W.Frag} {d1 d2 : D} {Q : D → Prop}
def rLeD (K : PySem.W.Frag) : R2 := fun x y H Q => ∃ d e, Dp K H x d ∧ Dp K H y e ∧ PySem.W.alike d e = true ∧ d ≠ .none ∧ min d.depth e.depth ≤ 60 ∧ Q (.bl (!PySem.W.dataLt e d)) H
theorem op_leD (hu : X.A.units + 64 < cLine) : OpR X (compareOp .LtE) (rLeD X.K) := by
  rintro pins s σ H x y v u Q I rx ry ⟨d, e, hd, he, pd, pe, hz, q⟩
  obtain ⟨as, r1⟩ := Dp.reads I d x v hd rx
  obtain ⟨bs, r2⟩ := Dp.reads I e y u he ry
  exact PySem.W.le_data r1 r2 pd pe (by omega) ⟨.bl _, H, I, rfl, q⟩
theorem opd_leD (al : PySem.W.alike d1 d2 = true) (hn : d1 ≠ .none) (h : min d1.depth d2.depth ≤ 60) (k : Q (.bool (!PySem.W.dataLt d2 d1))) : OpD (rLeD K) d1 d2 Q := fun F H x y e rx ry Z z => ⟨d1, d2, rx.dp e, ry.dp e, al, hn, h, z _ _ F H k (Gr.refl e) (.bl _)⟩
theorem opd_leP {p q : Int × Int} (k : Q (.bool (!ltP q p))) : OpD (rLeD K) (encP p) (encP q) Q := opd_leD rfl (by unfold encP; simp) (min_l (by simp [encP, PyData.depth, PyData.depthAll])) (by rw [dataLt_P]; exact k)
end
/-! ### min(ints, default=n) -/
section
variable {X : Cx}
def rMnDf (K : PySem.W.Frag) : List V → List V → Hp → VK → Prop := fun vs zs H Q => ∃ (F : Hp) (a : Addr) (xs : List V) (ns : List Int) (n : Int), vs = [.ref a] ∧ zs = [.int n] ∧ Same F H ∧ Rd F a (.lst xs) ∧ RpA F xs (ns.map .int) ∧ Q (.int (if ns.isEmpty then n else foldMin ns)) H
theorem cb_minDf (hc : X.calm = true) (hu : X.A.units + 64 < cLine) : CallRK X (.builtin "min") ["default"] (rMnDf X.K) := by
  rintro pins s σ H vs zs us ws Q I r rz ⟨F, a, xs, ns, n, rfl, rfl, e, ha, ra, q⟩
  obtain ⟨its, rv, hl, _⟩ := I.list (sqL_rd (K := X.K) ha e)
  obtain ⟨as, rr⟩ := rpa_reads I e ra rv
  rw [Vals.ref1 r]
  obtain ⟨w, rfl, rw1⟩ : ∃ w, ws = [w] ∧ RelV (.int n) w := by
    cases rz with
    | cons h t => cases t; exact ⟨_, rfl, h⟩
  have hz : PyData.depthAll (ns.map PyData.int) ≤ 60 := by
    clear q ra rr
    induction ns with
    | nil => simp [PyData.depthAll]
    | cons m ns ih => rw [List.map_cons]; simp only [PyData.depthAll, PyData.depth]; omega
  refine PySem.W.min_list_default (I.ok.hd hc) hl.isList (by simpa using rr) (alike_ints ns) (by omega) (fun h0 h' tk hk => ?_) fun y ys i v h' tk bs hxs hi rd hk => ?_
  · have : ns = [] := by simpa using h0
    subst this
    exact ⟨_, H, I.kept hk, rw1, q⟩
  · cases ns with
    | nil => cases hxs
    | cons m ns =>
      have e1 : PyData.int m = y := (List.cons.inj hxs).1
      have e2 : ns.map PyData.int = ys := (List.cons.inj hxs).2
      subst e1 e2
      have al := alike_ints (m :: ns)
      obtain ⟨y, ry, rp⟩ := pick_rp I e ra rv al (minD_mem (.int m) (ns.map .int)) hi rd hk
      rw [PySem.W.minD_ints] at rp
      rw [rp.int_inv] at ry
      exact ⟨_, H, I.kept hk, ry, q⟩
theorem ex_minDf {K : PySem.W.Frag} {ρ : Pu.Env} {te tk : TE} {Q : D → Pu.Env → Prop} (h : EX te ρ fun d ρ1 => ∃ ns : List Int, d = .list (ns.map .int) ∧ EX tk ρ1 fun e ρ2 => ∃ n, e = .int n ∧ Q (.int (if ns.isEmpty then n else foldMin ns)) ρ2) :
    EX (tCKw (rMnDf K) (tCons te tNil) (tCons tk tNil)) ρ Q := fun B ad σ F H w Z z => by
  refine h B ad σ F H w _ fun d ρ1 v F1 H1 q1 p1 r1 => ?_
  obtain ⟨ns, rfl, q1⟩ := q1
  refine q1 B ad σ F1 H1 p1.wa _ fun e ρ2 u F2 H2 q2 p2 r2 => ?_
  obtain ⟨n, rfl, q⟩ := q2
  obtain ⟨a, xs, rfl, ha, ra⟩ := (r1.up p2.gr.ff).lst_inv
  have ev := r2.int_inv
  subst ev
  exact ⟨F2, a, xs, ns, n, rfl, rfl, p2.wa.gr.fh, ha, ra, z _ ρ2 _ F2 H2 q (p1.trans p2) (.int _)⟩
end
end Pu
/-! PuP: xs.pop(); sorted(set(a list of pairs of ints)) -/
namespace Pu
open PySem L2 PyProof.Rows
section
variable {ρ : Pu.Env} {te : TE} {K : PySem.W.Frag} {P : Po}
/-- xs.pop(), its value dropped -/
theorem sx_pop {i : Nat} {es : List D} (h : ρ[i]? = some (.own es)) (h0 : es ≠ []) (k : NX P (ρ.set i (.own es.dropLast))) : SX (tDrop (tBM K "list" rPop (tVar i) tNil)) ρ P := fun B σ F H w Dn n r b c => by
  obtain ⟨ad, w⟩ := w
  obtain ⟨p0, vs0, _, _, k1, k0, rr⟩ := w.sl i _ h
  obtain ⟨ρ', l, q⟩ := k
  have hlen : vs0.length = es.length := rr.len
  have hpos : 0 < es.length := List.length_pos_iff.mpr h0
  have hlt : vs0.length - 1 < vs0.length := by omega
  refine ⟨_, k1, .inl ⟨rfl, _, .inl (.inl k0)⟩, p0, vs0, vs0[vs0.length - 1], rfl, rfl, k0, List.getElem?_eq_getElem hlt, ?_⟩
  have r2 : RpA F vs0.dropLast es.dropLast := by
    rw [List.dropLast_eq_take, List.dropLast_eq_take, hlen]
    exact rr.take _
  exact n ρ' σ F _ q ((w.mut h k1 r2).weak l)
end
/-! sorted of a set of pairs -/
def encA (q : Addr × List Int) : D := .tuple (q.2.map .int)
section
variable {P : Program} {w : World} {A : Around} {E : Value → Shared → Prop} {s : Shared}
theorem each_refs {h : Heap} : ∀ L1 : List (Addr × List Int), PySem.W.EachIs (fun v (q : Addr × List Int) => v = Value.ref q.1) (L1.map fun q => Value.ref q.1) L1
  | [] => .nil
  | q :: L1 => .cons rfl (each_refs (h := h) L1)
theorem each_back : ∀ {out : List Value} {L1 : List (Addr × List Int)}, PySem.W.EachIs (fun v (q : Addr × List Int) => v = Value.ref q.1) out L1 → out = L1.map fun q => Value.ref q.1
  | _, _, .nil => rfl
  | _, _, .cons h t => by rw [h, each_back t]; rfl
theorem each_rds {h : Heap} {R : Addr × List Int → Addr → Prop} : ∀ {L1 : List (Addr × List Int)}, (∀ q ∈ L1, ∃ as, Reads h (.ref q.1) (encA q) as ∧ ∀ a ∈ as, R q a) → PySem.W.EachIs (fun v (q : Addr × List Int) => ∃ as, Reads h v (encA q) as ∧ ∀ a ∈ as, R q a) (L1.map fun q => Value.ref q.1) L1
  | [], _ => .nil
  | q :: L1, k => .cons (k q (by simp)) (each_rds fun r hr => k r (by simp [hr]))
theorem back_list {L : List (Addr × List Int)} : ∀ {vs : List Value}, (∀ v ∈ vs, v ∈ L.map fun q => Value.ref q.1) → ∃ L1 : List (Addr × List Int), vs = L1.map (fun q => Value.ref q.1) ∧ ∀ q ∈ L1, q ∈ L
  | [], _ => ⟨[], rfl, fun q m => by cases m⟩
  | v :: vs, k => by
    obtain ⟨L1, e1, s1⟩ := back_list (vs := vs) fun u m => k u (by simp [m])
    obtain ⟨q, hq, e⟩ := List.mem_map.mp (k v (by simp))
    exact ⟨q :: L1, by rw [e1, ← e]; rfl, fun r m => by
      rcases List.mem_cons.mp m with rfl | m
      · exact hq
      · exact s1 r m⟩
theorem alike_A {L : List (Addr × List Int)} (h2 : ∀ q ∈ L, ∃ x y, q.2 = [x, y]) : PySem.W.AllAlike (L.map encA) := fun x hx y hy => by
  obtain ⟨a, ma, rfl⟩ := List.mem_map.mp hx
  obtain ⟨b, mb, rfl⟩ := List.mem_map.mp hy
  obtain ⟨x1, y1, e1⟩ := h2 a ma
  obtain ⟨x2, y2, e2⟩ := h2 b mb
  unfold encA
  rw [e1, e2]
  rfl
theorem sortable_A {L : List (Addr × List Int)} (h2 : ∀ q ∈ L, ∃ x y, q.2 = [x, y]) : PySem.W.Sortable (L.map encA) := .inl fun x hx => by
  obtain ⟨a, ma, rfl⟩ := List.mem_map.mp hx
  obtain ⟨x1, y1, e1⟩ := h2 a ma
  exact ⟨.int x1, [.int y1], by unfold encA; rw [e1]; rfl⟩
theorem readsAll_nil {h : Heap} {x y : Int} {vs : List Value} {as : List Addr} (r : ReadsAll h vs [.int x, .int y] as) : as = [] := by
  cases r with
  | cons r1 r =>
    cases r1
    cases r with
    | cons r2 r =>
      cases r2
      cases r
      rfl
theorem reads_nil {h : Heap} {v : Value} {q : Addr × List Int} {as : List Addr} (h2 : ∃ x y, q.2 = [x, y]) (r : Reads h v (encA q) as) : as = [] := by
  obtain ⟨x, y, e⟩ := h2
  unfold encA at r
  rw [e] at r
  cases r with
  | tuple _ _ _ r => exact readsAll_nil r
theorem depth_A {q : Addr × List Int} (h2 : ∃ x y, q.2 = [x, y]) : (encA q).depth ≤ 2 := by
  obtain ⟨x, y, e⟩ := h2
  unfold encA
  rw [e]
  simp [PyData.depth, PyData.depthAll]
theorem sorted_setP {a : Addr} {L : List (Addr × List Int)} {es : Array (Int × Value)} {ep : Nat} {t : SetTable} {Q : Value → Shared → Prop} (R : SetTR P w s.heap a L es ep t) (hh : A.handled = none) (hu : A.units + 20 < cLine)
    (h2 : ∀ q ∈ L, ∃ x y, q.2 = [x, y]) (hr : ∀ q ∈ L, ∃ as, Reads s.heap (.ref q.1) (encA q) as)
    (done : ∀ s' p (out : Array Value) (c : Nat) (L1 L2 : List (Addr × List Int)), (∀ b o, s.heap.get? b = some o → s'.heap.get? b = some o) → s'.gens = s.gens → s'.os = s.os → s.heap.objs.size ≤ p →
      s'.heap.get? p = some (seqObj "list" out c) → out.toList = L2.map (fun q => Value.ref q.1) → L1.Perm L → L2 = L1.mergeSort (PySem.W.dataLe false encA) → Q (.ref p) s') :
    wpAny (model P w) A (call (.builtin "sorted") [.ref a]) Q E s := by
  obtain ⟨ob, hob, hexact, hdat⟩ := R.ob
  have size1 := R.size
  have few1 := R.few
  refine Calls.call_function_entry kind_sorted plain_sorted entry_sorted (args_sorted1 _) ?_
  unfold Builtin.«sorted»
  refine wpAny_bind (m := checkCount "sorted" 1 1 _) (wpAny_pure ?_)
  refine wpAny_bind (collect_set (A := A.in1) hh ⟨ob, hob, hexact.1, hdat⟩ R.fits (by unfold scanBound; omega) R.tab.ris R.led fun s1 vs keep1 hsz gens1 os1 perm1 => ?_)
  have rows1 : es.toList.map (·.2) = L.map fun q => Value.ref q.1 := by
    rw [R.rows]; unfold rowsOf; rw [List.map_map]; rfl
  rw [rows1] at perm1
  obtain ⟨L1, rfl, sub1⟩ := back_list (L := L) (vs := vs) fun v m => perm1.mem_iff.mp m
  have nref : (L.map fun q => Value.ref q.1).Nodup := by
    refine List.pairwise_map.mpr (List.Pairwise.imp_of_mem (fun {q r} mq mr ne e => ?_) (List.pairwise_map.mp R.nd))
    injection e with e
    have i1 := R.tup q mq
    have i2 := R.tup r mr
    rw [e] at i1
    exact ne (i1.inj i2)
  have pL : L1.Perm L := by
    have n1 : (L1.map fun q => Value.ref q.1).Nodup := perm1.nodup_iff.mpr nref
    refine (List.perm_ext_iff_of_nodup (nodup_of_map n1) (nodup_of_map nref)).mpr fun q => ⟨sub1 q, fun mq => ?_⟩
    obtain ⟨r, mr, e⟩ := List.mem_map.mp (perm1.mem_iff.mpr (List.mem_map.mpr ⟨q, mq, rfl⟩))
    injection e with e
    have i1 := R.tup r (sub1 r mr)
    have i2 := R.tup q mq
    rw [e] at i1
    have : r = q := Prod.ext e (i1.inj i2)
    rwa [← this]
  have len1 : (L1.map fun q => Value.ref q.1).length < 64 := by rw [List.length_map, pL.length_eq]; exact few1
  refine wpAny_bind (wpAny_newList ?_ (by rw [sizeLine_eq]; omega))
  have hnew : (s1.heap.push (seqObj "list" (L1.map fun q => Value.ref q.1).toArray 0)).get? s1.heap.objs.size = some (seqObj "list" (L1.map fun q => Value.ref q.1).toArray 0) := Heap.get?_push_size _ rfl
  have rds : ∀ q ∈ L1, ∃ as, Reads (s1.heap.push (seqObj "list" (L1.map fun q => Value.ref q.1).toArray 0)) (.ref q.1) (encA q) as ∧ s1.heap.objs.size ∉ as := fun q mq => by
    obtain ⟨as, rd⟩ := hr q (sub1 q mq)
    have rd1 := PyProof.Rows.Reads.keeps keep1 rd
    exact ⟨as, PyProof.Rows.Reads.keeps (fun b u e => Heap.get?_push_of_some _ e) rd1, by rw [reads_nil (h2 q (sub1 q mq)) rd]; simp⟩
  refine wpAny_bind (wpAny_holding (PySem.W.list_sort_data (s := { s1 with heap := s1.heap.push (seqObj "list" (L1.map fun q => Value.ref q.1).toArray 0) }) (bs := L1) (enc := encA) hnew (each_refs (h := s1.heap) L1) ?_ (alike_A fun q m => h2 q (sub1 q m)) (sortable_A fun q m => h2 q (sub1 q m)) ?_ ?_ fun out ho eo => ?_))
  · have k : ∀ {L0 : List (Addr × List Int)}, (∀ q ∈ L0, ∃ as, Reads (s1.heap.push (seqObj "list" (L1.map fun q => Value.ref q.1).toArray 0)) (.ref q.1) (encA q) as ∧ s1.heap.objs.size ∉ as) →
        PySem.W.EachIs (fun v (q : Addr × List Int) => ∃ as, Reads (s1.heap.push (seqObj "list" (L1.map fun q => Value.ref q.1).toArray 0)) v (encA q) as ∧ s1.heap.objs.size ∉ as) (L0.map fun q => Value.ref q.1) L0 := fun {L0} => by
      induction L0 with
      | nil => exact fun _ => .nil
      | cons q L0 ih => exact fun k => .cons (k q (by simp)) (ih fun r hr => k r (by simp [hr]))
    exact k rds
  · rw [List.length_map] at len1
    rw [sizeLine_eq]; omega
  · intro b mb
    have := depth_A (h2 b (sub1 b mb))
    simp
    omega
  · have e2 := each_back eo
    obtain ⟨c, hc⟩ := sortedHeap_at (vs := L1.map fun q => Value.ref q.1) (out := out.toArray) hnew
    refine wpAny_pure ⟨_, rfl, done _ s1.heap.objs.size out.toArray c L1 _ (fun b u e => ?_) gens1 os1 hsz hc (by simpa using e2) pL rfl⟩
    have q := keep1 b u e
    have lt1 := Heap.lt_size q
    refine Eq.trans (sortedHeap_old (Nat.ne_of_lt lt1) (by rw [size_push']; exact Nat.lt_succ_of_lt lt1)) ?_
    exact Heap.get?_push_of_some _ q
end
section
variable {X : Cx}
def rSortS (K : PySem.W.Frag) (P : Program) (w : World) : List V → Hp → VK → Prop := fun vs H Q => ∃ (F : Hp) (a : Addr) (L : List (Addr × List Int)), vs = [V.ref a] ∧ H a = some (SetTO P w a L) ∧ Same F H ∧ (∀ q ∈ L, ∃ x y, q.2 = [x, y] ∧ F q.1 = some (.tup [.int x, .int y])) ∧
  ∀ (L1 : List (Addr × List Int)) (p : Addr), L1.Perm L → (L.map (·.2)).Nodup → H p = none → Q (.ref p) (upd H p (.lst ((L1.mergeSort (PySem.W.dataLe false encA)).map fun q => V.ref q.1)))
theorem vals_refs : ∀ L : List (Addr × List Int), Vals (L.map fun q => V.ref q.1) (L.map fun q => Value.ref q.1)
  | [] => .nil
  | q :: L => .cons rfl (vals_refs L)
theorem cb_sortS (hc : X.calm = true) (hu : X.A.units + 64 < cLine) : CallR X (.builtin "sorted") (rSortS X.K X.prog X.w) := by
  rintro pins s σ H vs us Q I r ⟨F, a, L, rfl, ha, e, hf, q⟩
  have R0 : SetT0 X.prog X.w s.heap a L := (I.hok a _ ha).1
  have two : ∀ q ∈ L, ∃ x y, q.2 = [x, y] := fun q m => by
    obtain ⟨x, y, e1, _⟩ := hf q m
    exact ⟨x, y, e1⟩
  have rp : ∀ q ∈ L, Rp F (V.ref q.1) (encA q) := fun q m => by
    obtain ⟨x, y, e1, e2⟩ := hf q m
    unfold encA
    rw [e1]
    exact .tup e2 (.cons (.int _) (.cons (.int _) .nil))
  obtain ⟨es, ep, t, R⟩ := R0.full fun p m => I.isT (by
    obtain ⟨x, y, e1, e2⟩ := hf p m
    rw [e1]
    exact sqT_rd e2 e)
  have rds : ∀ q ∈ L, ∃ as, Reads s.heap (.ref q.1) (encA q) as := fun q m => Dp.reads I (encA q) (V.ref q.1) (.ref q.1) (Rp.dp e _ (rp q m)) rfl
  rw [Vals.ref1 r]
  refine sorted_setP R (I.ok.hd hc) (by omega) two rds fun s' p out c L1 L2 keep hg ho hp hget hout pm eL => ?_
  have len2 : L2.length = L.length := by rw [eL, List.length_mergeSort, pm.length_eq]
  have hlen : (L2.map fun q => V.ref q.1).length ≤ sizeLine := by rw [List.length_map, len2, sizeLine_eq]; have := R.few; omega
  have hn : H p = none := I.hok.fresh hp
  have hv : Vals (L2.map fun q => V.ref q.1) out.toList := by rw [hout]; exact vals_refs L2
  have J : Inv X pins σ (upd H p (.lst (L2.map fun q => V.ref q.1))) { s with heap := s'.heap, gens := s'.gens, drawn := s'.drawn, toks := s'.toks } := I.call (ch := []) (Un.laid keep hp hn) (I.hok.laid keep hp ⟨hlen, out.toList, c, hv, hget⟩) (by rw [hg]; exact I.bare) (fun _ z => nomatch z)
  have es' : s' = { s with heap := s'.heap, gens := s'.gens, drawn := s'.drawn, toks := s'.toks } := by
    cases s'; cases s; cases ho; rfl
  rw [es', eL] at *
  exact ⟨.ref p, _, J, rfl, q L1 p pm R.nd hn⟩
def ltQ (p q : Int × Int) : Prop := p.1 < q.1 ∨ p.1 = q.1 ∧ p.2 < q.2
/-- sorted(set(a list of pairs of ints)): a new list -/
def tSSP (K : PySem.W.Frag) (te : TE) : TE := fun σ H Q => te σ H fun x H1 => ∃ (F : Hp) (l : Addr) (ks : List (Addr × (Int × Int))), x = .ref l ∧ Same F H1 ∧ SqL K H1 l (ks.map fun p => V.ref p.1) ∧ (∀ p ∈ ks, F p.1 = some (.tup [.int p.2.1, .int p.2.2])) ∧ ks.length < 64 ∧
  ∀ (us : List (Addr × (Int × Int))) (H2 : Hp) (p : Addr), (∀ u ∈ us, F u.1 = some (.tup [.int u.2.1, .int u.2.2])) → (us.map (·.2)).Pairwise ltQ → (∀ k, k ∈ us.map (·.2) ↔ k ∈ ks.map (·.2)) → Same H1 H2 → H2 p = none → Q (.ref p) (upd H2 p (.lst (us.map fun q => V.ref q.1)))
def unA (q : Addr × List Int) : Addr × (Int × Int) := (q.1, (q.2.getD 0 0, q.2.getD 1 0))
def toA (q : Addr × (Int × Int)) : Addr × List Int := (q.1, [q.2.1, q.2.2])
theorem sorted_ltQ {L : List (Addr × List Int)} (h2 : ∀ q ∈ L, ∃ x y, q.2 = [x, y]) (nd : (L.map (·.2)).Nodup) : (((L.mergeSort (PySem.W.dataLe false encA)).map unA).map (·.2)).Pairwise ltQ := by
  have enc2 : ∀ q ∈ L, encA q = encP (unA q).2 := fun q m => by
    obtain ⟨x, y, e⟩ := h2 q m
    unfold encA unA encP
    rw [e]; rfl
  have cmp : ∀ a ∈ L, ∀ b ∈ L, PySem.W.dataLe false encA a b = !ltP (unA b).2 (unA a).2 := fun a ma b mb => by
    show (!PySem.W.dataLt (encA b) (encA a)) = _
    rw [enc2 a ma, enc2 b mb, dataLt_P]
  have e : (L.mergeSort (PySem.W.dataLe false encA)).map (fun q => (unA q).2) = (L.map fun q => (unA q).2).mergeSort (fun a b => !ltP b a) := PySem.W.sort_maps (r := PySem.W.dataLe false encA) (s := fun a b => !ltP b a) (fun q => (unA q).2) (l := L) cmp
  rw [List.map_map]
  show (List.map (fun q => (unA q).2) _).Pairwise ltQ
  rw [e]
  have srt := List.pairwise_mergeSort (le := fun a b : Int × Int => !ltP b a) (fun a b c h1 h2 => by unfold ltP at *; simp at *; omega) (fun a b => by unfold ltP; simp; omega) (L.map fun q => (unA q).2)
  have nd2 : ((L.map fun q => (unA q).2).mergeSort (fun a b => !ltP b a)).Nodup := by
    refine (List.mergeSort_perm _ _).nodup_iff.mpr ?_
    refine List.pairwise_map.mpr (List.Pairwise.imp_of_mem (fun {a b} ma mb ne z => ne ?_) (List.pairwise_map.mp nd))
    obtain ⟨x, y, e1⟩ := h2 a ma
    obtain ⟨x', y', e2⟩ := h2 b mb
    unfold unA at z
    rw [e1, e2] at z ⊢
    simpa using z
  refine (srt.and nd2).imp fun {a b} h => ?_
  obtain ⟨h1, h3⟩ := h
  obtain ⟨a1, a2⟩ := a
  obtain ⟨b1, b2⟩ := b
  unfold ltP at h1
  unfold ltQ
  simp at h1 h3 ⊢
  omega
def tCl (ta : TE) : TE := fun σ H Q => ∃ Z : VK, ta σ H Z ∧ ∀ v H1, Z v H1 → Q v H1
theorem pe_sortSetP {a : Expr} {ta : TE} {p p2 q pos : Pos} (hc : X.calm = true) (hu : X.A.units + 64 < cLine) (hg : Gl X "sorted") (hm : X.mg "sorted" = none) (hg2 : Gl X "set") (hm2 : X.mg "set" = none) (ha : PE X a ta)
    (na : starEach [a] X.env = (false, eval a X.env) :: starEach [] X.env := by rfl) : PE X (.Call (.Name "sorted" p) [.Call (.Name "set" p2) [a] [] q] [] pos) (tSSP X.K ta) := by
  have hb : PE X a (tCl ta) := ⟨fun pins s σ H Q I ⟨Z, h, k⟩ => L2.thn (ha.run pins s σ H Z I h) fun v s1 ⟨x, H1, I1, r1, q1⟩ => ⟨x, H1, I1, r1, k _ _ q1⟩⟩
  have m1 : PE X (.Call (.Name "set" p2) [a] [] q) _ := pe_callTy (cr_setOfT hc hu) hg2 hm2 PyProof.Rows.boot_set (pa_cons hb pa_nil (hs := na)) (he := na)
  have m2 := pe_callB (X := X) (p := p) (pos := pos) (cb_sortS hc hu) hg hm boot_sorted (pa_cons m1 pa_nil)
  refine ⟨fun pins s σ H Q I h => m2.run pins s σ H Q I ⟨_, h, ?_⟩⟩
  rintro x H1 ⟨F, l, ks, rfl, e, hl, hf, hlen, q⟩
  have hinv : ∀ {k : List Int} {u : Addr × (Int × Int)}, [u.2.1, u.2.2] = k → (k.getD 0 0, k.getD 1 0) = u.2 := fun {k u} e => by rw [← e]; rfl
  refine ⟨l, ks.map toA, rfl, by rw [List.map_map]; exact hl, fun p mp => ?_, by rw [List.length_map]; exact hlen, fun a L hn hsub hcov => ?_⟩
  · obtain ⟨u, mu, rfl⟩ := List.mem_map.mp mp
    exact sqT_rd (hf u mu) e
  have two : ∀ q ∈ L, ∃ x y, q.2 = [x, y] ∧ F q.1 = some (.tup [.int x, .int y]) := fun q m => by
    obtain ⟨u, mu, rfl⟩ := List.mem_map.mp (hsub q m)
    exact ⟨u.2.1, u.2.2, rfl, hf u mu⟩
  refine ⟨F, a, L, rfl, upd_same, e.trans (same_upd hn), two, fun L1 p pm nd hp => ?_⟩
  have two2 : ∀ q ∈ L1, ∃ x y, q.2 = [x, y] := fun q m => by
    obtain ⟨x, y, e1, _⟩ := two q (pm.mem_iff.mp m)
    exact ⟨x, y, e1⟩
  have nd1 : (L1.map (·.2)).Nodup := ((pm.map (·.2)).nodup_iff).mpr nd
  have fin := q ((L1.mergeSort (PySem.W.dataLe false encA)).map unA) (upd H1 a (SetTO X.prog X.w a L)) p (fun u mu => ?_) (sorted_ltQ two2 nd1) (fun k => ?_) (same_upd hn) hp
  · rw [List.map_map] at fin
    exact fin
  · obtain ⟨r, mr, rfl⟩ := List.mem_map.mp mu
    obtain ⟨x, y, e1, e2⟩ := two r (pm.mem_iff.mp (List.mem_mergeSort.mp mr))
    unfold unA
    rw [e1]
    exact e2
  · constructor
    · intro mk
      obtain ⟨u, mu, rfl⟩ := List.mem_map.mp mk
      obtain ⟨r, mr, rfl⟩ := List.mem_map.mp mu
      obtain ⟨v, mv, rfl⟩ := List.mem_map.mp (hsub r (pm.mem_iff.mp (List.mem_mergeSort.mp mr)))
      exact List.mem_map.mpr ⟨v, mv, rfl⟩
    · intro mk
      obtain ⟨v, mv, rfl⟩ := List.mem_map.mp mk
      obtain ⟨r, mr, e1⟩ := List.mem_map.mp (hcov _ (List.mem_map.mpr ⟨v, mv, rfl⟩))
      refine List.mem_map.mpr ⟨unA r, List.mem_map.mpr ⟨r, List.mem_mergeSort.mpr (pm.mem_iff.mpr mr), rfl⟩, ?_⟩
      unfold unA
      rw [e1]
      rfl
/-- two strictly sorted lists with the same members are one -/
theorem risP_eq : ∀ {xs ys : List (Int × Int)}, xs.Pairwise ltQ → ys.Pairwise ltQ → (∀ k, k ∈ xs ↔ k ∈ ys) → xs = ys
  | [], [], _, _, _ => rfl
  | [], y :: ys, _, _, h => absurd ((h y).mpr (by simp)) (by simp)
  | x :: xs, [], _, _, h => absurd ((h x).mp (by simp)) (by simp)
  | x :: xs, y :: ys, hx, hy, h => by
    rw [List.pairwise_cons] at hx hy
    have e : x = y := by
      rcases List.mem_cons.mp ((h x).mp (by simp)) with q | q
      · exact q
      · rcases List.mem_cons.mp ((h y).mpr (by simp)) with q2 | q2
        · exact q2.symm
        · have a := hx.1 y q2
          have b := hy.1 x q
          unfold ltQ at a b
          omega
    subst e
    refine congrArg (x :: ·) (risP_eq hx.2 hy.2 fun k => ?_)
    constructor
    · intro hk
      rcases List.mem_cons.mp ((h k).mp (List.mem_cons_of_mem _ hk)) with q | q
      · have a := hx.1 k hk
        subst q
        unfold ltQ at a; omega
      · exact q
    · intro hk
      rcases List.mem_cons.mp ((h k).mpr (List.mem_cons_of_mem _ hk)) with q | q
      · have a := hy.1 k hk
        subst q
        unfold ltQ at a; omega
      · exact q
theorem rpa_tups {F : Hp} : ∀ {us : List (Addr × (Int × Int))}, (∀ u ∈ us, F u.1 = some (.tup [.int u.2.1, .int u.2.2])) → RpA F (us.map fun q => V.ref q.1) ((us.map (·.2)).map encP)
  | [], _ => .nil
  | u :: us, h => .cons (.tup (h u (by simp)) (.cons (.int _) (.cons (.int _) .nil))) (rpa_tups fun v m => h v (by simp [m]))
theorem tups_inv {F : Hp} : ∀ {ps : List (Int × Int)} {xs : List V}, RpA F xs (ps.map encP) → ∃ ks : List (Addr × (Int × Int)), ks.map (·.2) = ps ∧ xs = ks.map (fun q => V.ref q.1) ∧ ∀ u ∈ ks, F u.1 = some (.tup [.int u.2.1, .int u.2.2])
  | [], _, h => by cases h; exact ⟨[], rfl, rfl, fun u m => by cases m⟩
  | p :: ps, _, h => by
    cases h with
    | cons h1 h2 =>
      obtain ⟨ks, e1, e2, e3⟩ := tups_inv h2
      obtain ⟨a, ys, rfl, t1, t2⟩ := h1.tup_inv
      have ey : ys = [.int p.1, .int p.2] := by
        cases t2 with
        | cons u1 t2 =>
          cases t2 with
          | cons u2 t2 =>
            cases t2
            rw [u1.int_inv, u2.int_inv]
      refine ⟨(a, p) :: ks, by rw [List.map_cons, e1], by rw [List.map_cons, e2], fun u m => ?_⟩
      rcases List.mem_cons.mp m with rfl | m
      · rw [t1, ey]
      · exact e3 u m
theorem eo_sortSetP {K : PySem.W.Frag} {ρ : Pu.Env} {te : TE} {Q : List D → Pu.Env → Prop} (h : EX te ρ fun d ρ1 => ∃ ps : List (Int × Int), d = .list (ps.map encP) ∧ ps.length < 64 ∧ ∀ us : List (Int × Int), us.Pairwise ltQ → (∀ k, k ∈ us ↔ k ∈ ps) → Q (us.map encP) ρ1) : EO (tSSP K te) ρ Q := fun B ad σ F H w Z z =>
  h B ad σ F H w _ fun d ρ1 v F1 H1 q1 p1 rv => by
    obtain ⟨ps, rfl, hl, q⟩ := q1
    obtain ⟨a, xs, rfl, h1, h2⟩ := rv.lst_inv
    obtain ⟨ks, rfl, rfl, hk⟩ := tups_inv h2
    rw [List.length_map] at hl
    refine ⟨F1, a, ks, rfl, p1.wa.gr.fh, sqL_rd h1 p1.wa.gr.fh, hk, hl, fun us H2 p ht hs hm sm hp => ?_⟩
    have hH1 : H1 p = none := by
      cases e : H1 p with
      | none => rfl
      | some o => rw [sm p o e] at hp; cases hp
    have hH : H p = none := by
      cases e : H p with
      | none => rfl
      | some o => exact absurd hH1 (p1.gr.al p (by rw [e]; intro z; cases z))
    have g : Same H1 (upd H2 p (.lst (us.map fun q => V.ref q.1))) := sm.trans (same_upd hp)
    exact z ((us.map (·.2)).map encP) ρ1 p (us.map fun q => V.ref q.1) F1 _ (q _ hs hm) (p1.trans (Post.of p1.wa (Gr.heap p1.wa.gr.fh g))) (p1.wa.newp hH1).1 hH upd_same (rpa_tups ht)
end
/-! chains and tests of pairs -/
section
variable {K : PySem.W.Frag} {Q : D → Prop}
theorem opd_ltP {p q : Int × Int} (k : Q (.bool (ltP p q))) : OpD (rLtD K) (encP p) (encP q) Q := opd_ltD rfl (by unfold encP; simp) (min_l (by simp [encP, PyData.depth, PyData.depthAll])) (by rw [dataLt_P]; exact k)
end
end Pu
/-! readings of the defs of law_k21_whole_rings_and_winds: printed by gen.py -/
namespace Law_k21
open PySem L2 Pu

/-- turn: slots one 0, other 1, third 2 -/
abbrev N_turn : List Str := ["one", "other", "third"]
def T_turn (K : PySem.W.Frag) : TS :=
    (tRet (tOp (rI0 fun i j => .int (i - j)) (tOp (rI CMul fun i j => .int (i * j)) (tOp (rI0 fun i j => .int (i - j)) (tOp (rIxA K) (tVar 1) (tC (.int 0))) (tOp (rIxA K) (tVar 0) (tC (.int 0)))) (tOp (rI0 fun i j => .int (i - j)) (tOp (rIxA K) (tVar 2) (tC (.int 1))) (tOp (rIxA K) (tVar 0) (tC (.int 1))))) (tOp (rI CMul fun i j => .int (i * j)) (tOp (rI0 fun i j => .int (i - j)) (tOp (rIxA K) (tVar 1) (tC (.int 1))) (tOp (rIxA K) (tVar 0) (tC (.int 1)))) (tOp (rI0 fun i j => .int (i - j)) (tOp (rIxA K) (tVar 2) (tC (.int 0))) (tOp (rIxA K) (tVar 0) (tC (.int 0)))))))
/-- half_ring: slots places 0, found 1, place 2; own: found -/
abbrev N_half_ring : List Str := ["places", "found", "place"]
def T_half_ring (K : PySem.W.Frag) (R_turn : List D → (D → Prop) → Prop) : TS :=
    (tSeq (tAsg (tLst tNil) (gName 1))
    (tSeq (tFor (iList K (tVar 0)) (gName 2)
      (tSeq (tWhile (tAnd (tTest (tOp (rI0 fun i j => .bl (decide (j < i))) (tCB (Pu.rLen K) (tCons (tVar 1) tNil)) (tC (.int 1)))) (tTest (tOp (rI0 fun i j => .bl (decide (i ≤ j))) (tCall (spP R_turn) [] E0 (tCons (tOp (rIxA K) (tVar 1) (tUn (rU fun i => .int (-i)) (tC (.int 2)))) (tCons (tOp (rIxA K) (tVar 1) (tUn (rU fun i => .int (-i)) (tC (.int 1)))) (tCons (tVar 2) tNil)))) (tC (.int 0)))))
      (tDrop (tBM K "list" rPop (tVar 1) tNil)))
    (tDrop (tBM K "list" rAppend (tVar 1) (tCons (tVar 2) tNil)))))
    (tRet (tVar 1))))
/-- ring_around: slots places 0, rows 1, lower 2, upper 3 -/
abbrev N_ring_around : List Str := ["places", "rows", "lower", "upper"]
def T_ring_around (K : PySem.W.Frag) (R_half_ring : List D → (D → Prop) → Prop) : TS :=
    (tSeq (tAsg (tSSP K (tVar 0)) (gName 1))
    (tSeq (tIfS (tTest (tOp (rI0 fun i j => .bl (decide (i < j))) (tCB (Pu.rLen K) (tCons (tVar 1) tNil)) (tC (.int 3))))
      (tRet (tVar 1))
      tNext)
    (tSeq (tPar 2 3 (tCons (tCall (spP R_half_ring) [] E0 (tCons (tVar 1) tNil)) (tCons (tCall (spP R_half_ring) [] E0 (tCons (tRevL K (tVar 1)) tNil)) tNil)))
    (tRet (tOp (rPlus K) (tSl (rSl K) (tVar 2) tNoPart (tPart (tUn (rU fun i => .int (-i)) (tC (.int 1))))) (tSl (rSl K) (tVar 3) tNoPart (tPart (tUn (rU fun i => .int (-i)) (tC (.int 1))))))))))
/-- ring_fault: slots places 0, ring 1, rows 2, at 3, corner 4, low 5, high 6, flat 7, place 8, due 9, here 10, after 11 -/
abbrev N_ring_fault : List Str := ["places", "ring", "rows", "at", "corner", "low", "high", "flat", "place", "due", "here", "after"]
def T_ring_fault (K : PySem.W.Frag) (R_turn : List D → (D → Prop) → Prop) : TS :=
    (tSeq (tAsg (tSSP K (tVar 0)) (gName 2))
    (tSeq (tFor (iEnum K (tCons (tVar 1) tNil)) (gTup K 2 (gCons (gName 3) (gCons (gName 4) gNil)))
      (tIfS (tOr (tTest (tOp (rNinP K) (tVar 4) (tVar 2))) (tTest (tOp (rInP K) (tVar 4) (tSl (rSl K) (tVar 1) tNoPart (tPart (tVar 3))))))
      (tRet (tTup (tCons (tC (.str "corner")) (tCons (tVar 3) tNil))))
      tNext))
    (tSeq (tIfS (tTest (tOp (rI0 fun i j => .bl (decide (i < j))) (tCB (Pu.rLen K) (tCons (tVar 1) tNil)) (tC (.int 3))))
      (tSeq (tAsg (tIf (tTest (tOp (rI0 fun i j => .bl (decide (j < i))) (tCB (Pu.rLen K) (tCons (tVar 2) tNil)) (tC (.int 0)))) (tTup (tCons (tOp (rIxA K) (tVar 2) (tC (.int 0))) (tCons (tOp (rIxA K) (tVar 2) (tUn (rU fun i => .int (-i)) (tC (.int 1)))) tNil))) (tTup (tCons (tC .non) (tCons (tC .non) tNil)))) (gTup K 2 (gCons (gName 5) (gCons (gName 6) gNil))))
    (tSeq (tAsg (tCB (rAllB K) (tCons (tLc (iList K (tVar 2)) (gName 8) tYes (tOp (rEqP K) (tCall (spP R_turn) [] E0 (tCons (tVar 5) (tCons (tVar 6) (tCons (tVar 8) tNil)))) (tC (.int 0))) [8]) tNil)) (gName 7))
    (tSeq (tAsg (tIf (tTest (tOp (rI0 fun i j => .bl (decide (i < j))) (tCB (Pu.rLen K) (tCons (tVar 2) tNil)) (tC (.int 2)))) (tVar 2) (tLst (tCons (tVar 5) (tCons (tVar 6) tNil)))) (gName 9))
    (tRet (tIf (tAnd (tB (tVar 7)) (tTest (tOp (rEqP K) (tVar 1) (tVar 9)))) (tC .non) (tTup (tCons (tC (.str "flat")) tNil)))))))
      tNext)
    (tSeq (tIfS (tTest (tOp (rNeP K) (tOp (rIxA K) (tVar 1) (tC (.int 0))) (tCB (rMnD K) (tCons (tVar 1) tNil))))
      (tRet (tTup (tCons (tC (.str "first")) tNil)))
      tNext)
    (tSeq (tFor (iRng1 (tCons (tCB (Pu.rLen K) (tCons (tVar 1) tNil)) tNil)) (gName 3)
      (tSeq (tPar 10 11 (tCons (tOp (rIxA K) (tVar 1) (tVar 3)) (tCons (tOp (rIxA K) (tVar 1) (tOp (rI (fun _ j => 0 < j) fun i j => .int (i % j)) (tOp (rPlus K) (tVar 3) (tC (.int 1))) (tCB (Pu.rLen K) (tCons (tVar 1) tNil)))) tNil)))
    (tSeq (tIfS (tTest (tOp (rI0 fun i j => .bl (decide (i ≤ j))) (tCall (spP R_turn) [] E0 (tCons (tVar 10) (tCons (tVar 11) (tCons (tOp (rIxA K) (tVar 1) (tOp (rI (fun _ j => 0 < j) fun i j => .int (i % j)) (tOp (rPlus K) (tVar 3) (tC (.int 2))) (tCB (Pu.rLen K) (tCons (tVar 1) tNil)))) tNil)))) (tC (.int 0))))
      (tRet (tTup (tCons (tC (.str "turn")) (tCons (tVar 3) tNil))))
      tNext)
    (tFor (iList K (tVar 2)) (gName 8)
      (tIfS (tTest (tOp (rI0 fun i j => .bl (decide (i < j))) (tCall (spP R_turn) [] E0 (tCons (tVar 10) (tCons (tVar 11) (tCons (tVar 8) tNil)))) (tC (.int 0))))
      (tRet (tTup (tCons (tC (.str "outside")) (tCons (tVar 8) tNil))))
      tNext)))))
    (tRet (tC .non)))))))
/-- area_twice: slots ring 0, after 1, one 2, other 3 -/
abbrev N_area_twice : List Str := ["ring", "after", "one", "other"]
def T_area_twice (K : PySem.W.Frag) : TS :=
    (tSeq (tAsg (tOp (rPlus K) (tSl (rSl K) (tVar 0) (tPart (tC (.int 1))) tNoPart) (tSl (rSl K) (tVar 0) tNoPart (tPart (tC (.int 1))))) (gName 1))
    (tRet (tCB (rSum K) (tCons (tLc (iZip K (tCons (tVar 0) (tCons (tVar 1) tNil))) (gTup K 2 (gCons (gName 2) (gCons (gName 3) gNil))) tYes (tOp (rI0 fun i j => .int (i - j)) (tOp (rI CMul fun i j => .int (i * j)) (tOp (rIxA K) (tVar 2) (tC (.int 0))) (tOp (rIxA K) (tVar 3) (tC (.int 1)))) (tOp (rI CMul fun i j => .int (i * j)) (tOp (rIxA K) (tVar 2) (tC (.int 1))) (tOp (rIxA K) (tVar 3) (tC (.int 0))))) [2, 3]) tNil))))
/-- square_far: slots one 0, other 1 -/
abbrev N_square_far : List Str := ["one", "other"]
def T_square_far (K : PySem.W.Frag) : TS :=
    (tRet (tOp (rPlus K) (tOp (rI CMul fun i j => .int (i * j)) (tOp (rI0 fun i j => .int (i - j)) (tOp (rIxA K) (tVar 0) (tC (.int 0))) (tOp (rIxA K) (tVar 1) (tC (.int 0)))) (tOp (rI0 fun i j => .int (i - j)) (tOp (rIxA K) (tVar 0) (tC (.int 0))) (tOp (rIxA K) (tVar 1) (tC (.int 0))))) (tOp (rI CMul fun i j => .int (i * j)) (tOp (rI0 fun i j => .int (i - j)) (tOp (rIxA K) (tVar 0) (tC (.int 1))) (tOp (rIxA K) (tVar 1) (tC (.int 1)))) (tOp (rI0 fun i j => .int (i - j)) (tOp (rIxA K) (tVar 0) (tC (.int 1))) (tOp (rIxA K) (tVar 1) (tC (.int 1)))))))
/-- farthest: slots places 0, ring 1, best 2, at 3, other 4, one 5, square 6 -/
abbrev N_farthest : List Str := ["places", "ring", "best", "at", "other", "one", "square"]
def T_farthest (K : PySem.W.Frag) (R_ring_around : List D → (D → Prop) → Prop) (R_square_far : List D → (D → Prop) → Prop) : TS :=
    (tSeq (tAsg (tCB (rSrD K) (tCons (tCall (spP R_ring_around) [] E0 (tCons (tVar 0) tNil)) tNil)) (gName 1))
    (tSeq (tAsg (tTup (tCons (tC (.int 0)) (tCons (tOp (rIxA K) (tVar 1) (tC (.int 0))) (tCons (tOp (rIxA K) (tVar 1) (tC (.int 0))) tNil)))) (gName 2))
    (tSeq (tFor (iEnum K (tCons (tVar 1) tNil)) (gTup K 2 (gCons (gName 3) (gCons (gName 4) gNil)))
      (tFor (iList K (tSl (rSl K) (tVar 1) tNoPart (tPart (tVar 3)))) (gName 5)
      (tSeq (tAsg (tCall (spP R_square_far) [] E0 (tCons (tVar 5) (tCons (tVar 4) tNil))) (gName 6))
    (tIfS (tOr (tTest (tOp (rI0 fun i j => .bl (decide (j < i))) (tVar 6) (tOp (rIxA K) (tVar 2) (tC (.int 0))))) (tAnd (tTest (tOp (rEqP K) (tVar 6) (tOp (rIxA K) (tVar 2) (tC (.int 0))))) (tTest (tOp (rLtD K) (tTup (tCons (tVar 5) (tCons (tVar 4) tNil))) (tSl (rSl K) (tVar 2) (tPart (tC (.int 1))) tNoPart)))))
      (tAsg (tTup (tCons (tVar 6) (tCons (tVar 5) (tCons (tVar 4) tNil)))) (gName 2))
      tNext))))
    (tRet (tVar 2)))))
/-- is_within: slots ring 0, place 1, at 2 -/
abbrev N_is_within : List Str := ["ring", "place", "at"]
def T_is_within (K : PySem.W.Frag) (R_turn : List D → (D → Prop) → Prop) : TS :=
    (tSeq (tIfS (tTest (tOp (rI0 fun i j => .bl (decide (i < j))) (tCB (Pu.rLen K) (tCons (tVar 0) tNil)) (tC (.int 3))))
      (tSeq (tIfS (tTest (tOp (rI0 fun i j => .bl (decide (i < j))) (tCB (Pu.rLen K) (tCons (tVar 0) tNil)) (tC (.int 2))))
      (tRet (tOp (rInP K) (tVar 1) (tVar 0)))
      tNext)
    (tRet (tAndV (tOp (rEqP K) (tCall (spP R_turn) [] E0 (tCons (tOp (rIxA K) (tVar 0) (tC (.int 0))) (tCons (tOp (rIxA K) (tVar 0) (tC (.int 1))) (tCons (tVar 1) tNil)))) (tC (.int 0))) (tChain (rLeD K) (rLeD K) (tCB (rMnD K) (tCons (tVar 0) tNil)) (tVar 1) (tCB (rMxD K) (tCons (tVar 0) tNil))))))
      tNext)
    (tRet (tCB (rAllB K) (tCons (tLc (iRng1 (tCons (tCB (Pu.rLen K) (tCons (tVar 0) tNil)) tNil)) (gName 2) tYes (tOp (rI0 fun i j => .bl (decide (j ≤ i))) (tCall (spP R_turn) [] E0 (tCons (tOp (rIxA K) (tVar 0) (tVar 2)) (tCons (tOp (rIxA K) (tVar 0) (tOp (rI (fun _ j => 0 < j) fun i j => .int (i % j)) (tOp (rPlus K) (tVar 2) (tC (.int 1))) (tCB (Pu.rLen K) (tCons (tVar 0) tNil)))) (tCons (tVar 1) tNil)))) (tC (.int 0))) [2]) tNil))))
/-- minus: slots one 0, other 1 -/
abbrev N_minus : List Str := ["one", "other"]
def T_minus (K : PySem.W.Frag) : TS :=
    (tRet (tTup (tCons (tOp (rI0 fun i j => .int (i - j)) (tOp (rIxA K) (tVar 0) (tC (.int 0))) (tOp (rIxA K) (tVar 1) (tC (.int 0)))) (tCons (tOp (rI0 fun i j => .int (i - j)) (tOp (rIxA K) (tVar 0) (tC (.int 1))) (tOp (rIxA K) (tVar 1) (tC (.int 1)))) tNil))))
/-- across: slots one 0, other 1 -/
abbrev N_across : List Str := ["one", "other"]
def T_across (K : PySem.W.Frag) : TS :=
    (tRet (tOp (rI0 fun i j => .int (i - j)) (tOp (rI CMul fun i j => .int (i * j)) (tOp (rIxA K) (tVar 0) (tC (.int 0))) (tOp (rIxA K) (tVar 1) (tC (.int 1)))) (tOp (rI CMul fun i j => .int (i * j)) (tOp (rIxA K) (tVar 0) (tC (.int 1))) (tOp (rIxA K) (tVar 1) (tC (.int 0))))))
/-- is_convex: slots corners 0, count 1, at 2, here 3, after 4, other 5 -/
abbrev N_is_convex : List Str := ["corners", "count", "at", "here", "after", "other"]
def T_is_convex (K : PySem.W.Frag) (R_across : List D → (D → Prop) → Prop) (R_minus : List D → (D → Prop) → Prop) : TS :=
    (tSeq (tAsg (tCB (Pu.rLen K) (tCons (tVar 0) tNil)) (gName 1))
    (tSeq (tIfS (tTest (tOp (rI0 fun i j => .bl (decide (i < j))) (tVar 1) (tC (.int 3))))
      (tRet (tC (.bl false)))
      tNext)
    (tSeq (tFor (iRng1 (tCons (tVar 1) tNil)) (gName 2)
      (tSeq (tPar 3 4 (tCons (tOp (rIxA K) (tVar 0) (tVar 2)) (tCons (tOp (rIxA K) (tVar 0) (tOp (rI (fun _ j => 0 < j) fun i j => .int (i % j)) (tOp (rPlus K) (tVar 2) (tC (.int 1))) (tVar 1))) tNil)))
    (tSeq (tFor (iList K (tVar 0)) (gName 5)
      (tIfS (tAnd (tTest (tOp (rNinP K) (tVar 5) (tTup (tCons (tVar 3) (tCons (tVar 4) tNil))))) (tTest (tOp (rI0 fun i j => .bl (decide (i ≤ j))) (tCall (spP R_across) [] E0 (tCons (tCall (spP R_minus) [] E0 (tCons (tVar 4) (tCons (tVar 3) tNil))) (tCons (tCall (spP R_minus) [] E0 (tCons (tVar 5) (tCons (tVar 3) tNil))) tNil))) (tC (.int 0)))))
      (tRet (tC (.bl false)))
      tNext))
    (tIfS (tTest (tOp (rEqP K) (tVar 3) (tVar 4)))
      (tRet (tC (.bl false)))
      tNext))))
    (tRet (tC (.bl true))))))
/-- fallen: slots start 0, winds 1, ticks 2, wind 3 -/
abbrev N_fallen : List Str := ["start", "winds", "ticks", "wind"]
def T_fallen (K : PySem.W.Frag) : TS :=
    (tRet (tLc (iList K (tVar 1)) (gName 3) tYes (tTup (tCons (tOp (rPlus K) (tOp (rIxA K) (tVar 0) (tC (.int 0))) (tOp (rI CMul fun i j => .int (i * j)) (tVar 2) (tOp (rIxA K) (tVar 3) (tC (.int 0))))) (tCons (tOp (rPlus K) (tOp (rIxA K) (tVar 0) (tC (.int 1))) (tOp (rI CMul fun i j => .int (i * j)) (tVar 2) (tOp (rIxA K) (tVar 3) (tC (.int 1))))) tNil))) [3]))
/-- parting_edge: slots one 0, other 1, at 2, here 3, after 4, corner 5 -/
abbrev N_parting_edge : List Str := ["one", "other", "at", "here", "after", "corner"]
def T_parting_edge (K : PySem.W.Frag) (R_across : List D → (D → Prop) → Prop) (R_minus : List D → (D → Prop) → Prop) : TS :=
    (tSeq (tFor (iRng1 (tCons (tCB (Pu.rLen K) (tCons (tVar 0) tNil)) tNil)) (gName 2)
      (tSeq (tAsg (tTup (tCons (tOp (rIxA K) (tVar 0) (tVar 2)) (tCons (tOp (rIxA K) (tVar 0) (tOp (rI (fun _ j => 0 < j) fun i j => .int (i % j)) (tOp (rPlus K) (tVar 2) (tC (.int 1))) (tCB (Pu.rLen K) (tCons (tVar 0) tNil)))) tNil))) (gTup K 2 (gCons (gName 3) (gCons (gName 4) gNil))))
    (tIfS (tB (tCB (rAllB K) (tCons (tLc (iList K (tVar 1)) (gName 5) tYes (tOp (rI0 fun i j => .bl (decide (i ≤ j))) (tCall (spP R_across) [] E0 (tCons (tCall (spP R_minus) [] E0 (tCons (tVar 4) (tCons (tVar 3) tNil))) (tCons (tCall (spP R_minus) [] E0 (tCons (tVar 5) (tCons (tVar 3) tNil))) tNil))) (tC (.int 0))) [5]) tNil)))
      (tRet (tVar 2))
      tNext)))
    (tRet (tC .non)))
/-- clipped: slots corners 0, here 1, after 2, found 3, sides 4, x 5, y 6, by 7, at 8, one 9, two 10, left 11, right 12; own: found, sides -/
abbrev N_clipped : List Str := ["corners", "here", "after", "found", "sides", "x", "y", "by", "at", "one", "two", "left", "right"]
def T_clipped (K : PySem.W.Frag) (R_across : List D → (D → Prop) → Prop) (R_minus : List D → (D → Prop) → Prop) (R_crossing : List D → (D → Prop) → Prop) : TS :=
    (tSeq (tAsg (tLst tNil) (gName 3))
    (tSeq (tAsg (tLst tNil) (gName 4))
    (tSeq (tFor (iList K (tVar 0)) (gTup K 3 (gCons (gName 5) (gCons (gName 6) (gCons (gName 7) gNil))))
      (tDrop (tBM K "list" rAppend (tVar 4) (tCons (tCall (spP R_across) [] E0 (tCons (tCall (spP R_minus) [] E0 (tCons (tVar 2) (tCons (tVar 1) tNil))) (tCons (tTup (tCons (tOp (rI0 fun i j => .int (i - j)) (tVar 5) (tOp (rI CMul fun i j => .int (i * j)) (tOp (rIxA K) (tVar 1) (tC (.int 0))) (tVar 7))) (tCons (tOp (rI0 fun i j => .int (i - j)) (tVar 6) (tOp (rI CMul fun i j => .int (i * j)) (tOp (rIxA K) (tVar 1) (tC (.int 1))) (tVar 7))) tNil))) tNil))) tNil))))
    (tSeq (tFor (iRng1 (tCons (tCB (Pu.rLen K) (tCons (tVar 0) tNil)) tNil)) (gName 8)
      (tSeq (tPar 9 10 (tCons (tOp (rIxA K) (tVar 0) (tVar 8)) (tCons (tOp (rIxA K) (tVar 0) (tOp (rI (fun _ j => 0 < j) fun i j => .int (i % j)) (tOp (rPlus K) (tVar 8) (tC (.int 1))) (tCB (Pu.rLen K) (tCons (tVar 0) tNil)))) tNil)))
    (tSeq (tPar 11 12 (tCons (tOp (rIxA K) (tVar 4) (tVar 8)) (tCons (tOp (rIxA K) (tVar 4) (tOp (rI (fun _ j => 0 < j) fun i j => .int (i % j)) (tOp (rPlus K) (tVar 8) (tC (.int 1))) (tCB (Pu.rLen K) (tCons (tVar 0) tNil)))) tNil)))
    (tSeq (tIfS (tTest (tOp (rI0 fun i j => .bl (decide (j ≤ i))) (tVar 11) (tC (.int 0))))
      (tDrop (tBM K "list" rAppend (tVar 3) (tCons (tVar 9) tNil)))
      tNext)
    (tIfS (tOr (tTest (tChain (rI0 fun i j => .bl (decide (j < i))) (rI0 fun i j => .bl (decide (j < i))) (tVar 11) (tC (.int 0)) (tVar 12))) (tTest (tChain (rI0 fun i j => .bl (decide (i < j))) (rI0 fun i j => .bl (decide (i < j))) (tVar 11) (tC (.int 0)) (tVar 12))))
      (tDrop (tBM K "list" rAppend (tVar 3) (tCons (tCall (spP R_crossing) [] E0 (tCons (tVar 9) (tCons (tVar 10) (tCons (tVar 11) (tCons (tVar 12) tNil))))) tNil)))
      tNext)))))
    (tRet (tVar 3))))))
/-- crossing: slots one 0, two 1, left 2, right 3, a 4, b 5, by 6, x 7, y 8 -/
abbrev N_crossing : List Str := ["one", "two", "left", "right", "a", "b", "by", "x", "y"]
def T_crossing (K : PySem.W.Frag) (R_lowest : List D → (D → Prop) → Prop) : TS :=
    (tSeq (tPar 4 5 (tCons (tOp (rI CMulW fun i j => .int (i * j)) (tCB (rAbs) (tCons (tVar 2) tNil)) (tOp (rIxA K) (tVar 1) (tC (.int 2)))) (tCons (tOp (rI CMulW fun i j => .int (i * j)) (tCB (rAbs) (tCons (tVar 3) tNil)) (tOp (rIxA K) (tVar 0) (tC (.int 2)))) tNil)))
    (tSeq (tAsg (tOp (rI CMulW fun i j => .int (i * j)) (tOp (rI CMulW fun i j => .int (i * j)) (tOp (rIxA K) (tVar 0) (tC (.int 2))) (tOp (rIxA K) (tVar 1) (tC (.int 2)))) (tOp (rPlus K) (tOp (rI CMulW fun i j => .int (i * j)) (tCB (rAbs) (tCons (tVar 2) tNil)) (tOp (rIxA K) (tVar 1) (tC (.int 2)))) (tOp (rI CMulW fun i j => .int (i * j)) (tCB (rAbs) (tCons (tVar 3) tNil)) (tOp (rIxA K) (tVar 0) (tC (.int 2)))))) (gName 6))
    (tSeq (tAsg (tOp (rPlus K) (tOp (rI CMulW fun i j => .int (i * j)) (tOp (rI CMulW fun i j => .int (i * j)) (tOp (rIxA K) (tVar 1) (tC (.int 0))) (tOp (rIxA K) (tVar 0) (tC (.int 2)))) (tVar 4)) (tOp (rI CMulW fun i j => .int (i * j)) (tOp (rI CMulW fun i j => .int (i * j)) (tOp (rIxA K) (tVar 0) (tC (.int 0))) (tOp (rIxA K) (tVar 1) (tC (.int 2)))) (tVar 5))) (gName 7))
    (tSeq (tAsg (tOp (rPlus K) (tOp (rI CMulW fun i j => .int (i * j)) (tOp (rI CMulW fun i j => .int (i * j)) (tOp (rIxA K) (tVar 1) (tC (.int 1))) (tOp (rIxA K) (tVar 0) (tC (.int 2)))) (tVar 4)) (tOp (rI CMulW fun i j => .int (i * j)) (tOp (rI CMulW fun i j => .int (i * j)) (tOp (rIxA K) (tVar 0) (tC (.int 1))) (tOp (rIxA K) (tVar 1) (tC (.int 2)))) (tVar 5))) (gName 8))
    (tRet (tCall (spP R_lowest) [] E0 (tCons (tVar 7) (tCons (tVar 8) (tCons (tVar 6) tNil)))))))))
/-- lowest: slots x 0, y 1, by 2, one 3, other 4, two 5 -/
abbrev N_lowest : List Str := ["x", "y", "by", "one", "other", "two"]
def T_lowest (K : PySem.W.Frag) : TS :=
    (tSeq (tPar 3 4 (tCons (tCB (rAbs) (tCons (tVar 0) tNil)) (tCons (tVar 2) tNil)))
    (tSeq (tWhile (tTest (tOp (rI0 fun i j => .bl (decide (j < i))) (tVar 4) (tC (.int 0))))
      (tPar 3 4 (tCons (tVar 4) (tCons (tOp (rI (fun _ j => 0 < j) fun i j => .int (i % j)) (tVar 3) (tVar 4)) tNil))))
    (tSeq (tPar 5 4 (tCons (tCB (rAbs) (tCons (tVar 1) tNil)) (tCons (tVar 3) tNil)))
    (tSeq (tWhile (tTest (tOp (rI0 fun i j => .bl (decide (j < i))) (tVar 4) (tC (.int 0))))
      (tPar 5 4 (tCons (tVar 4) (tCons (tOp (rI (fun _ j => 0 < j) fun i j => .int (i % j)) (tVar 5) (tVar 4)) tNil))))
    (tRet (tTup (tCons (tOp (rI CDivW fun i j => .int (i / j)) (tVar 0) (tVar 5)) (tCons (tOp (rI CDivW fun i j => .int (i / j)) (tVar 1) (tVar 5)) (tCons (tOp (rI CDivW fun i j => .int (i / j)) (tVar 2) (tVar 5)) tNil)))))))))
/-- meeting: slots one 0, other 1, found 2, x 3, y 4, at 5 -/
abbrev N_meeting : List Str := ["one", "other", "found", "x", "y", "at"]
def T_meeting (K : PySem.W.Frag) (R_clipped : List D → (D → Prop) → Prop) : TS :=
    (tSeq (tAsg (tLc (iList K (tVar 0)) (gTup K 2 (gCons (gName 3) (gCons (gName 4) gNil))) tYes (tTup (tCons (tVar 3) (tCons (tVar 4) (tCons (tC (.int 1)) tNil)))) [3, 4]) (gName 2))
    (tSeq (tFor (iRng1 (tCons (tCB (Pu.rLen K) (tCons (tVar 1) tNil)) tNil)) (gName 5)
      (tAsg (tCall (spP R_clipped) [] E0 (tCons (tVar 2) (tCons (tOp (rIxA K) (tVar 1) (tVar 5)) (tCons (tOp (rIxA K) (tVar 1) (tOp (rI (fun _ j => 0 < j) fun i j => .int (i % j)) (tOp (rPlus K) (tVar 5) (tC (.int 1))) (tCB (Pu.rLen K) (tCons (tVar 1) tNil)))) tNil)))) (gName 2)))
    (tRet (tVar 2))))
/-- middle: slots corners 0, by 1, corner 2, x 3, y 4 -/
abbrev N_middle : List Str := ["corners", "by", "corner", "x", "y"]
def T_middle (K : PySem.W.Frag) (R_lowest : List D → (D → Prop) → Prop) : TS :=
    (tSeq (tAsg (tC (.int 1)) (gName 1))
    (tSeq (tFor (iList K (tVar 0)) (gName 2)
      (tAsg (tOp (rI CMulW fun i j => .int (i * j)) (tVar 1) (tOp (rIxA K) (tVar 2) (tC (.int 2)))) (gName 1)))
    (tSeq (tAsg (tCB (rSum K) (tCons (tLc (iList K (tVar 0)) (gName 2) tYes (tOp (rI CMulW fun i j => .int (i * j)) (tOp (rIxA K) (tVar 2) (tC (.int 0))) (tOp (rI CDivW fun i j => .int (i / j)) (tVar 1) (tOp (rIxA K) (tVar 2) (tC (.int 2))))) [2]) tNil)) (gName 3))
    (tSeq (tAsg (tCB (rSum K) (tCons (tLc (iList K (tVar 0)) (gName 2) tYes (tOp (rI CMulW fun i j => .int (i * j)) (tOp (rIxA K) (tVar 2) (tC (.int 1))) (tOp (rI CDivW fun i j => .int (i / j)) (tVar 1) (tOp (rIxA K) (tVar 2) (tC (.int 2))))) [2]) tNil)) (gName 4))
    (tRet (tCall (spP R_lowest) [] E0 (tCons (tVar 3) (tCons (tVar 4) (tCons (tOp (rI CMulW fun i j => .int (i * j)) (tVar 1) (tCB (Pu.rLen K) (tCons (tVar 0) tNil))) tNil)))))))))
/-- may_hit: slots start 0, winds 1, ticks 2, place 3, reach 4, side 5, one 6, other 7, edge 8, x 9, y 10, by 11 -/
abbrev N_may_hit : List Str := ["start", "winds", "ticks", "place", "reach", "side", "one", "other", "edge", "x", "y", "by"]
def T_may_hit (K : PySem.W.Frag) (R_fallen : List D → (D → Prop) → Prop) (R_middle : List D → (D → Prop) → Prop) (R_parting_edge : List D → (D → Prop) → Prop) (R_meeting : List D → (D → Prop) → Prop) (R_lowest : List D → (D → Prop) → Prop) : TS :=
    (tSeq (tAsg (tCall (spP R_fallen) [] E0 (tCons (tVar 0) (tCons (tVar 1) (tCons (tVar 2) tNil)))) (gName 4))
    (tSeq (tFor (iEnumT K (tCons (tTup (tCons (tTup (tCons (tVar 4) (tCons (tVar 3) tNil))) (tCons (tTup (tCons (tVar 3) (tCons (tVar 4) tNil))) tNil))) tNil)) (gTup K 2 (gCons (gName 5) (gCons (gTup K 2 (gCons (gName 6) (gCons (gName 7) gNil))) gNil)))
      (tSeq (tAsg (tCall (spP R_parting_edge) [] E0 (tCons (tVar 6) (tCons (tVar 7) tNil))) (gName 8))
    (tIfS (tTest (tOp (rIsnt) (tVar 8) (tC .non)))
      (tRet (tTup (tCons (tC (.str "apart")) (tCons (tVar 5) (tCons (tVar 8) tNil)))))
      tNext)))
    (tSeq (tAsg (tCall (spP R_middle) [] E0 (tCons (tCall (spP R_meeting) [] E0 (tCons (tVar 4) (tCons (tVar 3) tNil))) tNil)) (gTup K 3 (gCons (gName 9) (gCons (gName 10) (gCons (gName 11) gNil)))))
    (tRet (tTup (tCons (tC (.str "wind")) (tCons (tCall (spP R_lowest) [] E0 (tCons (tOp (rI0 fun i j => .int (i - j)) (tVar 9) (tOp (rI CMul fun i j => .int (i * j)) (tOp (rIxA K) (tVar 0) (tC (.int 0))) (tVar 11))) (tCons (tOp (rI0 fun i j => .int (i - j)) (tVar 10) (tOp (rI CMul fun i j => .int (i * j)) (tOp (rIxA K) (tVar 0) (tC (.int 1))) (tVar 11))) (tCons (tOp (rI CMul fun i j => .int (i * j)) (tVar 11) (tVar 2)) tNil)))) tNil)))))))
/-- safe_of: slots pieces 0, winds 1, places 2, safe 3, hit 4, at 5, place 6, told 7, start 8, ticks 9, rows 10, number 11, word 12; own: hit, safe -/
abbrev N_safe_of : List Str := ["pieces", "winds", "places", "safe", "hit", "at", "place", "told", "start", "ticks", "rows", "number", "word"]
def T_safe_of (K : PySem.W.Frag) (R_may_hit : List D → (D → Prop) → Prop) : TS :=
    (tSeq (tAsg (tLst tNil) (gName 3))
    (tSeq (tAsg (tLst tNil) (gName 4))
    (tSeq (tFor (iEnum K (tCons (tVar 2) tNil)) (gTup K 2 (gCons (gName 5) (gCons (gName 6) gNil)))
      (tSeq (tAsg (tLc (iList K (tVar 0)) (gTup K 2 (gCons (gName 8) (gCons (gName 9) gNil))) tYes (tOp (rIxA K) (tCall (spP R_may_hit) [] E0 (tCons (tVar 8) (tCons (tVar 1) (tCons (tVar 9) (tCons (tVar 6) tNil))))) (tC (.int 0))) [8, 9]) (gName 7))
    (tSeq (tAsg (tLc (iEnum K (tCons (tVar 7) tNil)) (gTup K 2 (gCons (gName 11) (gCons (gName 12) gNil))) (tTest (tOp (rEqP K) (tVar 12) (tC (.str "wind")))) (tVar 11) [11, 12]) (gName 10))
    (tIfS (tTest (tOp (rEqP K) (tCB (Pu.rLen K) (tCons (tVar 10) tNil)) (tC (.int 0))))
      (tDrop (tBM K "list" rAppend (tVar 3) (tCons (tVar 5) tNil)))
      (tDrop (tBM K "list" rAppend (tVar 4) (tCons (tTup (tCons (tVar 5) (tCons (tOp (rIxA K) (tVar 10) (tC (.int 0))) tNil))) tNil)))))))
    (tRet (tTup (tCons (tVar 3) (tCons (tVar 4) tNil)))))))
/-- _law_draw: slots state 0, script 1, size 2, cell 3, mixed 4, digit 5; own: state -/
abbrev N_l_draw : List Str := ["state", "script", "size", "cell", "mixed", "digit"]
def T_l_draw (K : PySem.W.Frag) : TS :=
    (tSeq (tIfS (tTest (tOp (rEqP K) (tOp (rIxA K) (tVar 0) (tC (.int 1))) (tC (.int 0))))
      (tSeq (tAsg (tC (.int 0)) (gName 3))
    (tSeq (tIfS (tTest (tOp (rI0 fun i j => .bl (decide (j < i))) (tCB (Pu.rLen K) (tCons (tVar 1) tNil)) (tC (.int 0))))
      (tAsg (tOp (rIxA K) (tVar 1) (tOp (rI (fun _ j => 0 < j) fun i j => .int (i % j)) (tOp (rIxA K) (tVar 0) (tC (.int 0))) (tCB (Pu.rLen K) (tCons (tVar 1) tNil)))) (gName 3))
      tNext)
    (tSeq (tIfS (tTest (tOp (rI0 fun i j => .bl (decide (i < j))) (tVar 3) (tC (.int 0))))
      (tAsg (tOp (rI0 fun i j => .int (i - j)) (tC (.int 1)) (tOp (rI CMul fun i j => .int (i * j)) (tC (.int 2)) (tVar 3))) (gName 3))
      tNext)
    (tSeq (tAsg (tOp (rI (fun _ j => 0 < j) fun i j => .int (i % j)) (tCB (rInt) (tCons (tOp (rI CMul fun i j => .int (i * j)) (tOp (rPlus K) (tOp (rPlus K) (tVar 3) (tOp (rI CMul fun i j => .int (i * j)) (tOp (rIxA K) (tVar 0) (tC (.int 0))) (tC (.int 7919)))) (tC (.int 1))) (tC (.int 48271))) tNil)) (tC (.int 2147483647))) (gName 4))
    (tSeq (tAsg (tOp (rI (fun _ j => 0 < j) fun i j => .int (i % j)) (tCB (rInt) (tCons (tOp (rPlus K) (tOp (rI CMul fun i j => .int (i * j)) (tVar 4) (tC (.int 69621))) (tOp (rI CMul fun i j => .int (i * j)) (tOp (rIxA K) (tVar 0) (tC (.int 0))) (tC (.int 104729)))) tNil)) (tC (.int 4294967291))) (gSub (tVar 0) (tC (.int 1)) rSetL))
    (tSeq (tIfS (tAnd (tTest (tOp (rI0 fun i j => .bl (decide (j ≤ i))) (tVar 3) (tOp (rI CPow fun i j => .int (i ^ j.toNat)) (tC (.int 10)) (tC (.int 18))))) (tTest (tOp (rI0 fun i j => .bl (decide (i < j))) (tOp (rIxA K) (tVar 0) (tC (.int 0))) (tCB (Pu.rLen K) (tCons (tVar 1) tNil)))))
      (tAsg (tVar 3) (gSub (tVar 0) (tC (.int 1)) rSetL))
      tNext)
    (tAsg (tOp (rPlus K) (tOp (rIxA K) (tVar 0) (tC (.int 0))) (tC (.int 1))) (gSub (tVar 0) (tC (.int 0)) rSetL))))))))
      tNext)
    (tSeq (tAsg (tOp (rI (fun _ j => 0 < j) fun i j => .int (i % j)) (tCB (rInt) (tCons (tOp (rIxA K) (tVar 0) (tC (.int 1))) tNil)) (tVar 2)) (gName 5))
    (tSeq (tAsg (tOp (rI CDiv fun i j => .int (i / j)) (tOp (rIxA K) (tVar 0) (tC (.int 1))) (tVar 2)) (gSub (tVar 0) (tC (.int 1)) rSetL))
    (tRet (tVar 5)))))
/-- _law_pick: slots state 0, script 1, items 2 -/
abbrev N_l_pick : List Str := ["state", "script", "items"]
def T_l_pick (K : PySem.W.Frag) (R_l_draw : Stt → List D → (D → Stt → Prop) → Prop) : TS :=
    (tRet (tOp (rIxA K) (tVar 2) (tCall (spS R_l_draw) [] E0 (tCons (tVar 0) (tCons (tVar 1) (tCons (tCB (Pu.rLen K) (tCons (tVar 2) tNil)) tNil))))))
/-- law: slots script 0, state 1, size 2, winds 3, pieces 4, _ 5, corners 6, start 7, ticks 8, own 9, ring 10, x 11, y 12, shift 13, mirrored 14, square 15, one 16, other 17, place 18, apart 19, k 20, here 21, after 22, left 23, corner 24, told 25 -/
abbrev N_law : List Str := ["script", "state", "size", "winds", "pieces", "_", "corners", "start", "ticks", "own", "ring", "x", "y", "shift", "mirrored", "square", "one", "other", "place", "apart", "k", "here", "after", "left", "corner", "told"]
def T_law (K : PySem.W.Frag) (R_l_pick : Stt → List D → (D → Stt → Prop) → Prop) (R_ring_around : List D → (D → Prop) → Prop) (R_farthest : List D → (D → Prop) → Prop) (R_l_draw : Stt → List D → (D → Stt → Prop) → Prop) (R_fallen : List D → (D → Prop) → Prop) (R_ring_fault : List D → (D → Prop) → Prop) (R_is_convex : List D → (D → Prop) → Prop) (R_area_twice : List D → (D → Prop) → Prop) (R_is_within : List D → (D → Prop) → Prop) (R_may_hit : List D → (D → Prop) → Prop) (R_safe_of : List D → (D → Prop) → Prop) : TS :=
    (tSeq (tAsg (tLst (tCons (tC (.int 0)) (tCons (tC (.int 0)) tNil))) (gName 1))
    (tSeq (tAsg (tOp (rPlus K) (tC (.int 1)) (tCall (spS R_l_draw) [] E0 (tCons (tVar 1) (tCons (tVar 0) (tCons (tC (.int 3)) tNil))))) (gName 2))
    (tSeq (tAsg (tCall (spS R_l_pick) [] E0 (tCons (tVar 1) (tCons (tVar 0) (tCons (tLst (tCons (tLst (tCons (tTup (tCons (tOp (rI0 fun i j => .int (i - j)) (tC (.int 0)) (tVar 2)) (tCons (tOp (rI0 fun i j => .int (i - j)) (tC (.int 0)) (tVar 2)) tNil))) (tCons (tTup (tCons (tVar 2) (tCons (tOp (rI0 fun i j => .int (i - j)) (tC (.int 0)) (tVar 2)) tNil))) (tCons (tTup (tCons (tVar 2) (tCons (tVar 2) tNil))) (tCons (tTup (tCons (tOp (rI0 fun i j => .int (i - j)) (tC (.int 0)) (tVar 2)) (tCons (tVar 2) tNil))) tNil))))) (tCons (tLst (tCons (tTup (tCons (tOp (rI0 fun i j => .int (i - j)) (tC (.int 0)) (tVar 2)) (tCons (tOp (rI0 fun i j => .int (i - j)) (tC (.int 0)) (tVar 2)) tNil))) (tCons (tTup (tCons (tOp (rI CMul fun i j => .int (i * j)) (tC (.int 2)) (tVar 2)) (tCons (tC (.int 0)) tNil))) (tCons (tTup (tCons (tC (.int 0)) (tCons (tOp (rI CMul fun i j => .int (i * j)) (tC (.int 2)) (tVar 2)) tNil))) tNil)))) tNil))) tNil)))) (gName 3))
    (tSeq (tAsg (tLc (iRng1 (tCons (tOp (rPlus K) (tC (.int 1)) (tCall (spS R_l_draw) [] E0 (tCons (tVar 1) (tCons (tVar 0) (tCons (tC (.int 4)) tNil))))) tNil)) (gName 5) tYes (tTup (tCons (tTup (tCons (tOp (rI0 fun i j => .int (i - j)) (tCall (spS R_l_draw) [] E0 (tCons (tVar 1) (tCons (tVar 0) (tCons (tC (.int 20)) tNil)))) (tC (.int 10))) (tCons (tOp (rI0 fun i j => .int (i - j)) (tCall (spS R_l_draw) [] E0 (tCons (tVar 1) (tCons (tVar 0) (tCons (tC (.int 20)) tNil)))) (tC (.int 10))) tNil))) (tCons (tOp (rPlus K) (tC (.int 1)) (tCall (spS R_l_draw) [] E0 (tCons (tVar 1) (tCons (tVar 0) (tCons (tC (.int 6)) tNil))))) tNil))) [5]) (gName 4))
    (tSeq (tAsg (tLst tNil) (gName 6))
    (tSeq (tFor (iList K (tVar 4)) (gTup K 2 (gCons (gName 7) (gCons (gName 8) gNil)))
      (tSeq (tAsg (tCall (spP R_fallen) [] E0 (tCons (tVar 7) (tCons (tVar 3) (tCons (tVar 8) tNil)))) (gName 9))
    (tSeq (tAsg (tCall (spP R_ring_around) [] E0 (tCons (tVar 9) tNil)) (gName 10))
    (tSeq (tIfS (tOr (tTest (tOp (rNeP K) (tCB (rSrD K) (tCons (tVar 10) tNil)) (tCB (rSrD K) (tCons (tVar 9) tNil)))) (tOr (tTest (tOp (rNotB) (tCall (spP R_is_convex) [] E0 (tCons (tVar 10) tNil)) (tC (.bl true)))) (tTest (tOp (rNeP K) (tCall (spP R_area_twice) [] E0 (tCons (tVar 10) tNil)) (tOp (rI CMul fun i j => .int (i * j)) (tOp (rI CMul fun i j => .int (i * j)) (tVar 8) (tVar 8)) (tCall (spP R_area_twice) [] E0 (tCons (tVar 3) tNil)))))))
      (tRet (tC (.bl false)))
      tNext)
    (tAsg (tOp (rPlus K) (tVar 6) (tVar 9)) (gName 6))))))
    (tSeq (tAsg (tCall (spP R_ring_around) [] E0 (tCons (tVar 6) tNil)) (gName 10))
    (tSeq (tIfS (tOr (tTest (tOp (rIsnt) (tCall (spP R_ring_fault) [] E0 (tCons (tVar 6) (tCons (tVar 10) tNil))) (tC .non))) (tTest (tOp (rNotB) (tCall (spP R_is_convex) [] E0 (tCons (tVar 10) tNil)) (tC (.bl true)))))
      (tRet (tC (.bl false)))
      tNext)
    (tSeq (tFor (iList K (tVar 4)) (gTup K 2 (gCons (gName 7) (gCons (gName 8) gNil)))
      (tFor (iList K (tLst (tCons (tTup (tCons (tC (.int 0)) (tCons (tC (.int 0)) tNil))) (tCons (tOp (rIxA K) (tVar 3) (tC (.int 0))) (tCons (tOp (rIxA K) (tVar 3) (tC (.int 1))) (tCons (tTup (tCons (tC (.int 0)) (tCons (tOp (rI0 fun i j => .int (i - j)) (tVar 2) (tC (.int 1))) tNil))) tNil)))))) (gTup K 2 (gCons (gName 11) (gCons (gName 12) gNil)))
      (tIfS (tNot (tB (tCall (spP R_is_within) [] E0 (tCons (tVar 10) (tCons (tTup (tCons (tOp (rPlus K) (tOp (rIxA K) (tVar 7) (tC (.int 0))) (tOp (rI CMul fun i j => .int (i * j)) (tVar 8) (tVar 11))) (tCons (tOp (rPlus K) (tOp (rIxA K) (tVar 7) (tC (.int 1))) (tOp (rI CMul fun i j => .int (i * j)) (tVar 8) (tVar 12))) tNil))) tNil)))))
      (tRet (tC (.bl false)))
      tNext)))
    (tSeq (tAsg (tTup (tCons (tOp (rI0 fun i j => .int (i - j)) (tCall (spS R_l_draw) [] E0 (tCons (tVar 1) (tCons (tVar 0) (tCons (tC (.int 9)) tNil)))) (tC (.int 4))) (tCons (tOp (rI0 fun i j => .int (i - j)) (tCall (spS R_l_draw) [] E0 (tCons (tVar 1) (tCons (tVar 0) (tCons (tC (.int 9)) tNil)))) (tC (.int 4))) tNil))) (gName 13))
    (tSeq (tIfS (tTest (tOp (rNeP K) (tCall (spP R_ring_around) [] E0 (tCons (tLc (iList K (tVar 6)) (gTup K 2 (gCons (gName 11) (gCons (gName 12) gNil))) tYes (tTup (tCons (tOp (rPlus K) (tVar 11) (tOp (rIxA K) (tVar 13) (tC (.int 0)))) (tCons (tOp (rPlus K) (tVar 12) (tOp (rIxA K) (tVar 13) (tC (.int 1)))) tNil))) [11, 12]) tNil)) (tLc (iList K (tVar 10)) (gTup K 2 (gCons (gName 11) (gCons (gName 12) gNil))) tYes (tTup (tCons (tOp (rPlus K) (tVar 11) (tOp (rIxA K) (tVar 13) (tC (.int 0)))) (tCons (tOp (rPlus K) (tVar 12) (tOp (rIxA K) (tVar 13) (tC (.int 1)))) tNil))) [11, 12])))
      (tRet (tC (.bl false)))
      tNext)
    (tSeq (tAsg (tCall (spP R_ring_around) [] E0 (tCons (tLc (iList K (tVar 6)) (gTup K 2 (gCons (gName 11) (gCons (gName 12) gNil))) tYes (tTup (tCons (tOp (rI0 fun i j => .int (i - j)) (tC (.int 0)) (tVar 11)) (tCons (tVar 12) tNil))) [11, 12]) tNil)) (gName 14))
    (tSeq (tIfS (tOr (tTest (tOp (rNeP K) (tCB (rSrD K) (tCons (tVar 14) tNil)) (tCB (rSrD K) (tCons (tLc (iList K (tVar 10)) (gTup K 2 (gCons (gName 11) (gCons (gName 12) gNil))) tYes (tTup (tCons (tOp (rI0 fun i j => .int (i - j)) (tC (.int 0)) (tVar 11)) (tCons (tVar 12) tNil))) [11, 12]) tNil)))) (tTest (tOp (rNeP K) (tCall (spP R_area_twice) [] E0 (tCons (tVar 14) tNil)) (tCall (spP R_area_twice) [] E0 (tCons (tVar 10) tNil)))))
      (tRet (tC (.bl false)))
      tNext)
    (tSeq (tAsg (tCall (spP R_farthest) [] E0 (tCons (tVar 6) tNil)) (gTup K 3 (gCons (gName 15) (gCons (gName 16) (gCons (gName 17) gNil)))))
    (tSeq (tIfS (tOr (tTest (tOp (rNinP K) (tVar 16) (tVar 10))) (tOr (tTest (tOp (rNinP K) (tVar 17) (tVar 10))) (tTest (tOp (rNeP K) (tCall (spP R_farthest) [] E0 (tCons (tVar 10) tNil)) (tTup (tCons (tVar 15) (tCons (tVar 16) (tCons (tVar 17) tNil))))))))
      (tRet (tC (.bl false)))
      tNext)
    (tSeq (tFor (iRng1 (tCons (tC (.int 3)) tNil)) (gName 5)
      (tSeq (tAsg (tOp (rI0 fun i j => .int (i - j)) (tCall (spS R_l_draw) [] E0 (tCons (tVar 1) (tCons (tVar 0) (tCons (tC (.int 70)) tNil)))) (tC (.int 35))) (gName 11))
    (tSeq (tAsg (tOp (rI0 fun i j => .int (i - j)) (tCall (spS R_l_draw) [] E0 (tCons (tVar 1) (tCons (tVar 0) (tCons (tC (.int 70)) tNil)))) (tC (.int 35))) (gName 12))
    (tSeq (tAsg (tLst (tCons (tTup (tCons (tVar 11) (tCons (tVar 12) tNil))) (tCons (tTup (tCons (tOp (rPlus K) (tVar 11) (tC (.int 2))) (tCons (tVar 12) tNil))) (tCons (tTup (tCons (tOp (rPlus K) (tVar 11) (tC (.int 2))) (tCons (tOp (rPlus K) (tVar 12) (tC (.int 3))) tNil))) (tCons (tTup (tCons (tVar 11) (tCons (tOp (rPlus K) (tVar 12) (tC (.int 3))) tNil))) tNil))))) (gName 18))
    (tSeq (tAsg (tC (.bl false)) (gName 19))
    (tSeq (tFor (iRng1 (tCons (tCB (Pu.rLen K) (tCons (tVar 10) tNil)) tNil)) (gName 20)
      (tSeq (tAsg (tOp (rIxA K) (tVar 10) (tVar 20)) (gName 21))
    (tSeq (tAsg (tOp (rIxA K) (tVar 10) (tOp (rI (fun _ j => 0 < j) fun i j => .int (i % j)) (tOp (rPlus K) (tVar 20) (tC (.int 1))) (tCB (Pu.rLen K) (tCons (tVar 10) tNil)))) (gName 22))
    (tSeq (tAsg (tLc (iList K (tVar 18)) (gName 24) (tTest (tOp (rI0 fun i j => .bl (decide (j < i))) (tOp (rI0 fun i j => .int (i - j)) (tOp (rI CMul fun i j => .int (i * j)) (tOp (rI0 fun i j => .int (i - j)) (tOp (rIxA K) (tVar 22) (tC (.int 0))) (tOp (rIxA K) (tVar 21) (tC (.int 0)))) (tOp (rI0 fun i j => .int (i - j)) (tOp (rIxA K) (tVar 24) (tC (.int 1))) (tOp (rIxA K) (tVar 21) (tC (.int 1))))) (tOp (rI CMul fun i j => .int (i * j)) (tOp (rI0 fun i j => .int (i - j)) (tOp (rIxA K) (tVar 22) (tC (.int 1))) (tOp (rIxA K) (tVar 21) (tC (.int 1)))) (tOp (rI0 fun i j => .int (i - j)) (tOp (rIxA K) (tVar 24) (tC (.int 0))) (tOp (rIxA K) (tVar 21) (tC (.int 0)))))) (tC (.int 0)))) (tVar 24) [24]) (gName 23))
    (tAsg (tOrV (tVar 19) (tOp (rEqP K) (tVar 23) (tLst tNil))) (gName 19))))))
    (tSeq (tAsg (tLc (iList K (tVar 4)) (gTup K 2 (gCons (gName 7) (gCons (gName 8) gNil))) tYes (tOp (rIxA K) (tCall (spP R_may_hit) [] E0 (tCons (tVar 7) (tCons (tVar 3) (tCons (tVar 8) (tCons (tVar 18) tNil))))) (tC (.int 0))) [7, 8]) (gName 25))
    (tIfS (tOr (tAnd (tB (tVar 19)) (tTest (tOp (rInP K) (tC (.str "wind")) (tVar 25)))) (tTest (tOp (rNeP K) (tOp (rEqP K) (tOp (rIxA K) (tCall (spP R_safe_of) [] E0 (tCons (tVar 4) (tCons (tVar 3) (tCons (tLst (tCons (tVar 18) tNil)) tNil)))) (tC (.int 0))) (tLst (tCons (tC (.int 0)) tNil))) (tOp (rNinP K) (tC (.str "wind")) (tVar 25)))))
      (tRet (tC (.bl false)))
      tNext))))))))
    (tRet (tC (.bl true)))))))))))))))))))
end Law_k21
/-! k44: rings around places: plain mathematics -/
namespace Law_k21.R
abbrev Pt := Int × Int
def tn (a b c : Pt) : Int := (b.1 - a.1) * (c.2 - a.2) - (b.2 - a.2) * (c.1 - a.1)
def fr (a b : Pt) : Int := (a.1 - b.1) * (a.1 - b.1) + (a.2 - b.2) * (a.2 - b.2)
/-- (b - a) . (c - a) -/
def dt (a b c : Pt) : Int := (b.1 - a.1) * (c.1 - a.1) + (b.2 - a.2) * (c.2 - a.2)
def lx (p q : Pt) : Prop := p.1 < q.1 ∨ p.1 = q.1 ∧ p.2 < q.2
theorem lx_trans {a b c : Pt} (h : lx a b) (k : lx b c) : lx a c := by unfold lx at *; omega
theorem lx_irr {a : Pt} (h : lx a a) : False := by unfold lx at h; omega
theorem lx_tri (a b : Pt) : a = b ∨ lx a b ∨ lx b a := by
  obtain ⟨a1, a2⟩ := a
  obtain ⟨b1, b2⟩ := b
  unfold lx
  simp only [Prod.mk.injEq]
  omega
/-! vectors -/
def pos (x y : Int) : Prop := 0 < x ∨ x = 0 ∧ 0 < y
def pos0 (x y : Int) : Prop := 0 < x ∨ x = 0 ∧ 0 ≤ y
theorem pos.z {x y : Int} (h : pos x y) : pos0 x y := by unfold pos at h; unfold pos0; omega
theorem idn (ux uy vx vy wx wy : Int) : vx * (ux * wy - uy * wx) = ux * (vx * wy - vy * wx) + wx * (ux * vy - uy * vx) := by grind
theorem mul_nn {a b : Int} (h : 0 ≤ a) (k : 0 ≤ b) : 0 ≤ a * b := Int.mul_nonneg h k
theorem nn_of_mul {a b : Int} (h : 0 < a) (k : 0 ≤ a * b) : 0 ≤ b := by
  rcases Int.lt_or_le b 0 with q | q
  · have := Int.mul_neg_of_pos_of_neg h q
    omega
  · exact q
theorem np_of_mul {a b : Int} (h : a < 0) (k : 0 ≤ a * b) : b ≤ 0 := by
  rcases Int.lt_or_le 0 b with q | q
  · have := Int.mul_neg_of_neg_of_pos h q
    omega
  · exact q
theorem sq_nn (a : Int) : 0 ≤ a * a := by
  rcases Int.le_total 0 a with h | h
  · exact Int.mul_nonneg h h
  · exact Int.mul_nonneg_of_nonpos_of_nonpos h h
theorem T1 {ux uy vx vy wx wy : Int} (hu : pos0 ux uy) (hv : pos vx vy) (hw : pos0 wx wy) (h1 : 0 ≤ ux * vy - uy * vx) (h2 : 0 ≤ vx * wy - vy * wx) : 0 ≤ ux * wy - uy * wx := by
  have u0 : 0 ≤ ux := by unfold pos0 at hu; omega
  have w0 : 0 ≤ wx := by unfold pos0 at hw; omega
  rcases hv with hv | ⟨hv, hv2⟩
  · refine nn_of_mul hv ?_
    rw [idn ux uy vx vy wx wy]
    have := mul_nn u0 h2
    have := mul_nn w0 h1
    omega
  · subst hv
    have e : wx = 0 := by
      have h3 : 0 ≤ (-vy) * wx := by grind
      have := np_of_mul (by omega) h3
      omega
    subst e
    have hy : 0 ≤ wy := by unfold pos0 at hw; omega
    have := mul_nn u0 hy
    grind
theorem pos_of {a b : Pt} (h : lx a b) : pos (b.1 - a.1) (b.2 - a.2) := by unfold lx at h; unfold pos; omega
theorem pos0_of {a b : Pt} (h : a = b ∨ lx a b) : pos0 (b.1 - a.1) (b.2 - a.2) := by
  rcases h with rfl | h
  · unfold pos0; omega
  · exact (pos_of h).z
theorem tn_cyc (a b c : Pt) : tn a b c = tn b c a := by unfold tn; grind
theorem tn_swap (a b c : Pt) : tn a c b = - tn a b c := by unfold tn; grind
theorem tn_bb (a b : Pt) : tn a b b = 0 := by unfold tn; grind
theorem tn_aa (a b : Pt) : tn a b a = 0 := by unfold tn; grind
theorem tn_add (a b p t : Pt) : tn a p t = tn a b t - tn a b p + tn b p t := by unfold tn; grind
/-! the half ring, its last corner first -/
def pops (p : Pt) : List Pt → List Pt
  | b :: a :: r => if tn a b p ≤ 0 then pops p (a :: r) else b :: a :: r
  | r => r
def halfR (xs : List Pt) : List Pt := xs.foldl (fun st p => p :: pops p st) []
def half (xs : List Pt) : List Pt := (halfR xs).reverse
def Cv : List Pt → Prop
  | c :: b :: a :: r => 0 < tn a b c ∧ Cv (b :: a :: r)
  | _ => True
def Lf (t : Pt) : List Pt → Prop
  | b :: a :: r => 0 ≤ tn a b t ∧ Lf t (a :: r)
  | _ => True
abbrev Dn (st : List Pt) : Prop := st.Pairwise fun a b => lx b a
theorem Lf_back {p : Pt} : ∀ {r : List Pt} {a b : Pt}, 0 ≤ tn a b p → Cv (b :: a :: r) → Dn (b :: a :: r) → lx b p → Lf p (b :: a :: r)
  | [], a, b, h, _, _, _ => ⟨h, trivial⟩
  | z :: r, a, b, h, hc, hd, hp => by
    have hab : lx a b := (List.pairwise_cons.mp hd).1 a (by simp)
    have hd2 := (List.pairwise_cons.mp hd).2
    have hza : lx z a := (List.pairwise_cons.mp hd2).1 z (by simp)
    refine ⟨h, Lf_back ?_ hc.2 hd2 (lx_trans hab hp)⟩
    have h1 := hc.1
    have k := T1 (pos_of hza).z (pos_of hab) (pos_of (lx_trans hab hp)).z (by unfold tn at h1; grind) (by unfold tn at h; grind)
    unfold tn
    grind
/-- the step: behind the pops, the new corner put on -/
theorem pops_ok {T : List Pt} {p : Pt} : ∀ (st : List Pt) (c : Pt), st.head? = some c → Cv st → Dn st → lx c p → (∀ t ∈ T, Lf t st) → (∀ t ∈ T, (c = t ∨ lx c t) → 0 ≤ tn c p t) → (∀ t ∈ T, ∀ l, st.getLast? = some l → l = t ∨ lx l t) →
    Cv (p :: pops p st) ∧ (∀ t ∈ T, Lf t (p :: pops p st)) ∧ Lf p (p :: pops p st) ∧ (pops p st).getLast? = st.getLast? ∧ pops p st <:+ st
  | [], c, h, _, _, _, _, _, _ => by cases h
  | [b], c, h, _, _, hp, hL, hH, hl => by
    cases h
    refine ⟨trivial, fun t m => ⟨?_, trivial⟩, ⟨by rw [tn_bb]; omega, trivial⟩, rfl, List.suffix_refl _⟩
    exact hH t m (hl t m b rfl)
  | b :: a :: r, c, h, hc, hd, hp, hL, hH, hl => by
    cases h
    have hab : lx a b := (List.pairwise_cons.mp hd).1 a (by simp)
    have hd2 := (List.pairwise_cons.mp hd).2
    have hc2 : Cv (a :: r) := by
      cases r with
      | nil => trivial
      | cons z r => exact hc.2
    unfold pops
    by_cases q : tn a b p ≤ 0
    · rw [if_pos q]
      have k := pops_ok (T := T) (p := p) (a :: r) a rfl hc2 hd2 (lx_trans hab hp) (fun t m => (hL t m).2) (fun t m ht => ?_) (fun t m l e => hl t m l (by rw [List.getLast?_cons_cons]; exact e))
      · obtain ⟨k1, k2, k3, k4, k5⟩ := k
        exact ⟨k1, k2, k3, by rw [k4, List.getLast?_cons_cons], k5.trans (List.suffix_cons _ _)⟩
      · have h1 := (hL t m).1
        by_cases hb : b = t ∨ lx b t
        · have := hH t m hb
          rw [tn_add a b p t]
          omega
        · have k := T1 (pos_of (lx_trans hab hp)).z (pos_of hab) (pos0_of ht) (by unfold tn at q; grind) (by unfold tn at h1; grind)
          unfold tn
          exact k
    · rw [if_neg q]
      refine ⟨⟨by omega, hc⟩, fun t m => ⟨?_, hL t m⟩, ⟨by rw [tn_bb]; omega, Lf_back (by omega) hc hd hp⟩, rfl, List.suffix_refl _⟩
      by_cases hb : b = t ∨ lx b t
      · exact hH t m hb
      · have htb : lx t b := by
          rcases lx_tri b t with e | e | e
          · exact absurd (.inl e) hb
          · exact absurd (.inr e) hb
          · exact e
        have h1 := (hL t m).1
        have k := T1 (pos_of htb).z (pos_of hab) (pos_of hp).z (by unfold tn at h1; grind) (by unfold tn at q; grind)
        unfold tn
        grind
structure Inv (T st : List Pt) : Prop where
  hd : st.head? = T.getLast?
  lst : st.getLast? = T.head?
  cv : Cv st
  dn : Dn st
  lf : ∀ t ∈ T, Lf t st
  sub : ∀ c ∈ st, c ∈ T
theorem last_le : ∀ {T : List Pt} {l t : Pt}, T.Pairwise lx → T.getLast? = some l → t ∈ T → t = l ∨ lx t l
  | [], _, _, _, h, _ => by cases h
  | [x], l, t, _, h, m => by
    have : x = l := by simpa using h
    have : t = x := by simpa using m
    exact .inl (by simp_all)
  | x :: y :: T, l, t, hp, h, m => by
    rw [List.getLast?_cons_cons] at h
    rw [List.pairwise_cons] at hp
    rcases List.mem_cons.mp m with rfl | m
    · exact .inr (hp.1 l (List.mem_of_getLast? h))
    · exact last_le hp.2 h m
theorem head_le : ∀ {T : List Pt} {l t : Pt}, T.Pairwise lx → T.head? = some l → t ∈ T → l = t ∨ lx l t
  | [], _, _, _, h, _ => by cases h
  | x :: T, l, t, hp, h, m => by
    have e : x = l := by simpa using h
    subst e
    rcases List.mem_cons.mp m with rfl | m
    · exact .inl rfl
    · exact .inr ((List.pairwise_cons.mp hp).1 t m)
theorem inv_step {T st : List Pt} {p : Pt} (I : Inv T st) (hT : T ≠ []) (hs : (T ++ [p]).Pairwise lx) : Inv (T ++ [p]) (p :: pops p st) := by
  rw [List.pairwise_append] at hs
  obtain ⟨hs1, _, hs2⟩ := hs
  obtain ⟨c, hc⟩ : ∃ c, T.getLast? = some c := ⟨_, List.getLast?_eq_some_getLast hT⟩
  have hcp : lx c p := hs2 c (List.mem_of_getLast? hc) p (by simp)
  have hA : ∀ t ∈ T, (c = t ∨ lx c t) → 0 ≤ tn c p t := fun t m h => by
    have : t = c := by
      rcases last_le hs1 hc m with e | e
      · exact e
      · rcases h with h | h
        · exact h.symm
        · exact absurd (lx_trans e h) (fun z => lx_irr z)
    rw [this, tn_aa]
    exact Int.le_refl 0
  have hB : ∀ t ∈ T, ∀ l, st.getLast? = some l → l = t ∨ lx l t := fun t m l e => by
    rw [I.lst] at e
    exact head_le hs1 e m
  obtain ⟨k1, k2, k3, k4, k5⟩ := pops_ok (T := T) (p := p) st c (by rw [I.hd, hc]) I.cv I.dn hcp I.lf hA hB
  have hsub : ∀ x ∈ pops p st, x ∈ st := fun x hx => k5.subset hx
  refine ⟨by simp, ?_, k1, ?_, fun t m => ?_, fun x m => ?_⟩
  · have e : (p :: pops p st).getLast? = st.getLast? := by
      cases h : pops p st with
      | nil =>
        rw [h] at k4
        have : st = [] := by simpa using k4.symm
        have h2 := I.hd
        rw [this, hc] at h2
        cases h2
      | cons x r => rw [List.getLast?_cons_cons, ← h, k4]
    rw [e, I.lst]
    cases T with
    | nil => exact absurd rfl hT
    | cons x T => rfl
  · rw [Dn, List.pairwise_cons]
    exact ⟨fun x m => hs2 x (I.sub x (hsub x m)) p (by simp), I.dn.sublist k5.sublist⟩
  · rcases List.mem_append.mp m with m | m
    · exact k2 t m
    · have : t = p := by simpa using m
      rw [this]; exact k3
  · rcases List.mem_cons.mp m with rfl | m
    · simp
    · exact List.mem_append.mpr (.inl (I.sub x (hsub x m)))
theorem inv_fold : ∀ (ys T st : List Pt), Inv T st → T ≠ [] → (T ++ ys).Pairwise lx → Inv (T ++ ys) (ys.foldl (fun st p => p :: pops p st) st)
  | [], T, st, I, _, _ => by rw [List.append_nil]; exact I
  | p :: ys, T, st, I, hT, hs => by
    have e : T ++ p :: ys = (T ++ [p]) ++ ys := by simp
    rw [List.foldl_cons, e]
    rw [e] at hs
    exact inv_fold ys _ _ (inv_step I hT (List.pairwise_append.mp hs).1) (by simp) hs
theorem half_inv {xs : List Pt} (hn : xs ≠ []) (hs : xs.Pairwise lx) : Inv xs (halfR xs) := by
  cases xs with
  | nil => exact absurd rfl hn
  | cons y ys =>
    have I : Inv [y] [y] := ⟨rfl, rfl, trivial, by simp, fun t m => trivial, fun c m => m⟩
    exact inv_fold ys [y] [y] I (by simp) hs
theorem Cv_get : ∀ {st : List Pt} {k : Nat} {a b c : Pt}, Cv st → st[k]? = some c → st[k + 1]? = some b → st[k + 2]? = some a → 0 < tn a b c
  | x :: y :: z :: r, 0, a, b, c, h, h1, h2, h3 => by
    simp at h1 h2 h3
    subst h1; subst h2; subst h3
    exact h.1
  | x :: y :: z :: r, k + 1, a, b, c, h, h1, h2, h3 => Cv_get (st := y :: z :: r) (k := k) h.2 (by simpa using h1) (by simpa using h2) (by simpa using h3)
  | [], k, _, _, _, _, h1, _, _ => by simp at h1
  | [x], k, _, _, _, _, _, h2, _ => by simp at h2
  | [x, y], k, _, _, _, _, _, _, h3 => by simp at h3
theorem Lf_get {t : Pt} : ∀ {st : List Pt} {k : Nat} {a b : Pt}, Lf t st → st[k]? = some b → st[k + 1]? = some a → 0 ≤ tn a b t
  | y :: z :: r, 0, a, b, h, h1, h2 => by
    simp at h1 h2
    subst h1; subst h2
    exact h.1
  | y :: z :: r, k + 1, a, b, h, h1, h2 => Lf_get (st := z :: r) (k := k) h.2 (by simpa using h1) (by simpa using h2)
  | [], k, _, _, _, h1, _ => by simp at h1
  | [x], k, _, _, _, _, h2 => by simp at h2
structure Hf (xs l : List Pt) : Prop where
  hd : l.head? = xs.head?
  lst : l.getLast? = xs.getLast?
  asc : l.Pairwise lx
  cv : ∀ (k : Nat) (a b c : Pt), l[k]? = some a → l[k + 1]? = some b → l[k + 2]? = some c → 0 < tn a b c
  lf : ∀ (k : Nat) (a b : Pt), l[k]? = some a → l[k + 1]? = some b → ∀ t ∈ xs, 0 ≤ tn a b t
  sub : ∀ c ∈ l, c ∈ xs
theorem half_ok {xs : List Pt} (hn : xs ≠ []) (hs : xs.Pairwise lx) : Hf xs (half xs) := by
  have I := half_inv hn hs
  have len : (half xs).length = (halfR xs).length := by simp [half]
  have get : ∀ (k : Nat) (a : Pt), (half xs)[k]? = some a → k < (halfR xs).length ∧ (halfR xs)[(halfR xs).length - 1 - k]? = some a := fun k a h => by
    have hk : k < (halfR xs).length := by
      have := (List.getElem?_eq_some_iff.mp h).1
      omega
    unfold half at h
    rw [List.getElem?_reverse hk] at h
    exact ⟨hk, h⟩
  refine ⟨by unfold half; rw [List.head?_reverse]; exact I.lst, by unfold half; rw [List.getLast?_reverse]; exact I.hd, ?_, fun k a b c h1 h2 h3 => ?_, fun k a b h1 h2 t m => ?_, fun c m => I.sub c (by simpa [half] using m)⟩
  · unfold half
    rw [List.pairwise_reverse]
    exact I.dn
  · obtain ⟨g1, g2⟩ := get _ _ h1
    obtain ⟨g3, g4⟩ := get _ _ h2
    obtain ⟨g5, g6⟩ := get _ _ h3
    refine Cv_get (k := (halfR xs).length - 1 - (k + 2)) I.cv g6 ?_ ?_
    · rw [← g4]; congr 1; omega
    · rw [← g2]; congr 1; omega
  · obtain ⟨g1, g2⟩ := get _ _ h1
    obtain ⟨g3, g4⟩ := get _ _ h2
    refine Lf_get (k := (halfR xs).length - 1 - (k + 1)) (I.lf t m) g4 ?_
    rw [← g2]; congr 1; omega
/-! the other half: all mirrored -/
def ng (p : Pt) : Pt := (-p.1, -p.2)
theorem ng_ng (p : Pt) : ng (ng p) = p := by
  obtain ⟨a, b⟩ := p
  simp [ng]
theorem tn_ng (a b c : Pt) : tn (ng a) (ng b) (ng c) = tn a b c := by unfold tn ng; grind
theorem lx_ng {a b : Pt} : lx (ng a) (ng b) ↔ lx b a := by unfold lx ng; simp only; omega
theorem pops_ng (p : Pt) : ∀ st : List Pt, pops (ng p) (st.map ng) = (pops p st).map ng
  | [] => rfl
  | [b] => rfl
  | b :: a :: r => by
    have ih := pops_ng p (a :: r)
    rw [List.map_cons] at ih
    simp only [List.map_cons, pops, tn_ng]
    split
    · exact ih
    · rfl
theorem fold_ng : ∀ (xs st : List Pt), (xs.map ng).foldl (fun st p => p :: pops p st) (st.map ng) = (xs.foldl (fun st p => p :: pops p st) st).map ng
  | [], _ => rfl
  | x :: xs, st => by
    have := fold_ng xs (x :: pops x st)
    rw [List.map_cons] at this
    simp only [List.map_cons, List.foldl_cons, pops_ng]
    exact this
theorem half_ng (xs : List Pt) : half (xs.map ng) = (half xs).map ng := by
  have := fold_ng xs []
  unfold half halfR
  rw [List.map_nil] at this
  rw [this, List.map_reverse]
/-- what the upper half is -/
structure Hg (xs l : List Pt) : Prop where
  hd : l.head? = xs.getLast?
  lst : l.getLast? = xs.head?
  dsc : l.Pairwise fun a b => lx b a
  cv : ∀ (k : Nat) (a b c : Pt), l[k]? = some a → l[k + 1]? = some b → l[k + 2]? = some c → 0 < tn a b c
  lf : ∀ (k : Nat) (a b : Pt), l[k]? = some a → l[k + 1]? = some b → ∀ t ∈ xs, 0 ≤ tn a b t
  sub : ∀ c ∈ l, c ∈ xs
theorem half_up {xs : List Pt} (hn : xs ≠ []) (hs : xs.Pairwise lx) : Hg xs (half xs.reverse) := by
  have hs2 : (xs.reverse.map ng).Pairwise lx := by
    rw [List.pairwise_map, List.pairwise_reverse]
    exact hs.imp fun h => lx_ng.mpr h
  have H := half_ok (xs := xs.reverse.map ng) (by simpa using hn) hs2
  rw [half_ng] at H
  have up : ∀ {l : List Pt} {k : Nat} {a : Pt}, l[k]? = some a → (l.map ng)[k]? = some (ng a) := fun h => by rw [List.getElem?_map, h]; rfl
  have inj : ∀ {a b : Option Pt}, a.map ng = b.map ng → a = b := fun {a b} h => by
    cases a <;> cases b <;> simp at h ⊢
    rename_i x y
    rw [← ng_ng x, h, ng_ng]
  refine ⟨inj ?_, inj ?_, ?_, fun k a b c h1 h2 h3 => ?_, fun k a b h1 h2 t m => ?_, fun c m => ?_⟩
  · have := H.hd
    simpa using this
  · have := H.lst
    simpa using this
  · have := H.asc
    rw [List.pairwise_map] at this
    exact this.imp fun h => lx_ng.mp h
  · have := H.cv k _ _ _ (up h1) (up h2) (up h3)
    rwa [tn_ng] at this
  · have := H.lf k _ _ (up h1) (up h2) (ng t) (List.mem_map_of_mem (List.mem_reverse.mpr m))
    rwa [tn_ng] at this
  · have := H.sub (ng c) (List.mem_map_of_mem m)
    obtain ⟨d, hd, e⟩ := List.mem_map.mp this
    rw [← ng_ng c, ← e, ng_ng]
    exact List.mem_reverse.mp hd
/-! rings -/
def at' (r : List Pt) (k : Nat) : Pt := r.getD k (0, 0)
theorem at_some {r : List Pt} {k : Nat} (h : k < r.length) : r[k]? = some (at' r k) := by
  unfold at'
  rw [List.getD_eq_getElem?_getD, List.getElem?_eq_getElem h]
  rfl
theorem at_mem {r : List Pt} {k : Nat} (h : k < r.length) : at' r k ∈ r := List.mem_of_getElem? (at_some h)
theorem at_of {r : List Pt} {k : Nat} {a : Pt} (h : r[k]? = some a) : at' r k = a := by
  unfold at'
  rw [List.getD_eq_getElem?_getD, h]
  rfl
theorem mem_at {r : List Pt} {c : Pt} (h : c ∈ r) : ∃ k, k < r.length ∧ at' r k = c := by
  obtain ⟨k, hk⟩ := List.mem_iff_getElem?.mp h
  exact ⟨k, (List.getElem?_eq_some_iff.mp hk).1, at_of hk⟩
structure Ring0 (rows r : List Pt) : Prop where
  n3 : 3 ≤ r.length
  sub : ∀ c ∈ r, c ∈ rows
  left : ∀ k, k < r.length → ∀ t ∈ rows, 0 ≤ tn (at' r k) (at' r ((k + 1) % r.length)) t
  cvx : ∀ k, k < r.length → 0 < tn (at' r k) (at' r ((k + 1) % r.length)) (at' r ((k + 2) % r.length))
  first : ∀ c ∈ r, at' r 0 = c ∨ lx (at' r 0) c
theorem junction {rows : List Pt} {m l M u : Pt} (hm : m ∈ rows) (hM : ∀ t ∈ rows, t = M ∨ lx t M) (hl : lx l M) (hu : lx u M) (mu : u ∈ rows) (h1 : ∀ t ∈ rows, 0 ≤ tn l M t) (h2 : ∀ t ∈ rows, 0 ≤ tn M u t) (nf : ¬ ∀ t ∈ rows, tn m M t = 0) : 0 < tn l M u := by
  refine Int.lt_of_not_ge fun hge => nf fun t mt => ?_
  have e0 : tn l M u = 0 := by have := h1 u mu; omega
  have par : ∀ t ∈ rows, (M.1 - l.1) * (M.2 - t.2) - (M.2 - l.2) * (M.1 - t.1) = 0 := fun t mt => by
    have a1 := h1 t mt
    have k := T1 (pos_of hl).z (pos_of hu) (pos0_of (hM t mt)) (by unfold tn at e0; grind) (by have := h2 t mt; unfold tn at this; grind)
    unfold tn at a1
    have e1 : (M.1 - l.1) * (t.2 - l.2) - (M.2 - l.2) * (t.1 - l.1) = -((M.1 - l.1) * (M.2 - t.2) - (M.2 - l.2) * (M.1 - t.1)) := by grind
    rw [e1] at a1
    omega
  have k1 := T1 (pos0_of (hM m hm)) (pos_of hl) (pos0_of (hM t mt)) (by have := par m hm; grind) (by have := par t mt; grind)
  have k2 := T1 (pos0_of (hM t mt)) (pos_of hl) (pos0_of (hM m hm)) (by have := par t mt; grind) (by have := par m hm; grind)
  have e1 : tn m M t = (M.1 - t.1) * (M.2 - m.2) - (M.2 - t.2) * (M.1 - m.1) := by unfold tn; grind
  have e2 : tn m M t = -((M.1 - m.1) * (M.2 - t.2) - (M.2 - m.2) * (M.1 - t.1)) := by unfold tn; grind
  omega
def Flat (rows : List Pt) : Prop := ∀ a ∈ rows, ∀ b ∈ rows, ∀ t ∈ rows, tn a b t = 0
def ringL (rows : List Pt) : List Pt := (half rows).dropLast ++ (half rows.reverse).dropLast
theorem drop_at {l : List Pt} {k : Nat} (h : k < l.length - 1) : l.dropLast[k]? = some (at' l k) := by
  rw [List.dropLast_eq_take, List.getElem?_take, if_pos h, at_some (by omega)]
theorem head_at {l : List Pt} {a : Pt} (h : l.head? = some a) : at' l 0 = a ∧ 0 < l.length := by
  cases l with
  | nil => cases h
  | cons x l => exact ⟨by simpa [at'] using h, by simp⟩
theorem last_at {l : List Pt} {a : Pt} (h : l.getLast? = some a) : at' l (l.length - 1) = a := by
  rw [List.getLast?_eq_getElem?] at h
  exact at_of h
theorem asc_at {l : List Pt} (h : l.Pairwise lx) {i j : Nat} (hij : i < j) (hj : j < l.length) : lx (at' l i) (at' l j) := by
  have := List.pairwise_iff_getElem.mp h i j (by omega) hj hij
  have e1 : at' l i = l[i] := at_of (List.getElem?_eq_getElem (by omega))
  have e2 : at' l j = l[j] := at_of (List.getElem?_eq_getElem hj)
  rw [e1, e2]; exact this
theorem dsc_at {l : List Pt} (h : l.Pairwise fun a b => lx b a) {i j : Nat} (hij : i < j) (hj : j < l.length) : lx (at' l j) (at' l i) := by
  have := List.pairwise_iff_getElem.mp h i j (by omega) hj hij
  have e1 : at' l i = l[i] := at_of (List.getElem?_eq_getElem (by omega))
  have e2 : at' l j = l[j] := at_of (List.getElem?_eq_getElem hj)
  rw [e1, e2]; exact this
/-- what both halves tell of the ring -/
structure Built (rows r lo up : List Pt) (m M : Pt) : Prop where
  la : 2 ≤ lo.length
  lb : 2 ≤ up.length
  n : r.length = (lo.length - 1) + (up.length - 1)
  e1 : ∀ k, k ≤ lo.length - 1 → at' r k = at' lo k
  e2 : ∀ j, j ≤ up.length - 1 → at' r ((lo.length - 1 + j) % r.length) = at' up j
  m0 : at' lo 0 = m
  M0 : at' up 0 = M
  M1 : at' lo (lo.length - 1) = M
  m1 : at' up (up.length - 1) = m
theorem built {rows : List Pt} (hs : rows.Pairwise lx) (h2 : 2 ≤ rows.length) : ∃ m M, rows.head? = some m ∧ rows.getLast? = some M ∧ lx m M ∧ Hf rows (half rows) ∧ Hg rows (half rows.reverse) ∧ Built rows (ringL rows) (half rows) (half rows.reverse) m M := by
  have hn : rows ≠ [] := by rintro rfl; simp at h2
  have H := half_ok hn hs
  have G := half_up hn hs
  obtain ⟨m, hm⟩ : ∃ m, rows.head? = some m := by
    cases rows with
    | nil => exact absurd rfl hn
    | cons x l => exact ⟨x, rfl⟩
  obtain ⟨M, hM⟩ : ∃ M, rows.getLast? = some M := ⟨_, List.getLast?_eq_some_getLast hn⟩
  have hmM : lx m M := by
    have := asc_at hs (i := 0) (j := rows.length - 1) (by omega) (by omega)
    rwa [(head_at hm).1, last_at hM] at this
  have l0 := head_at (H.hd.trans hm)
  have u0 := head_at (G.hd.trans hM)
  have l1 := last_at (H.lst.trans hM)
  have u1 := last_at (G.lst.trans hm)
  have la : 2 ≤ (half rows).length := by
    rcases Nat.lt_or_ge (half rows).length 2 with q | q
    · have e : (half rows).length - 1 = 0 := by omega
      rw [e, l0.1] at l1
      rw [l1] at hmM
      exact (lx_irr hmM).elim
    · exact q
  have lb : 2 ≤ (half rows.reverse).length := by
    rcases Nat.lt_or_ge (half rows.reverse).length 2 with q | q
    · have e : (half rows.reverse).length - 1 = 0 := by omega
      rw [e, u0.1] at u1
      rw [u1] at hmM
      exact (lx_irr hmM).elim
    · exact q
  refine ⟨m, M, hm, hM, hmM, H, G, ?_⟩
  have n : (ringL rows).length = ((half rows).length - 1) + ((half rows.reverse).length - 1) := by simp [ringL]
  have get1 : ∀ k, k < (half rows).length - 1 → at' (ringL rows) k = at' (half rows) k := fun k hk => at_of (by
    unfold ringL
    rw [List.getElem?_append_left (by simpa using hk), drop_at hk])
  have get2 : ∀ j, j < (half rows.reverse).length - 1 → at' (ringL rows) ((half rows).length - 1 + j) = at' (half rows.reverse) j := fun j hj => at_of (by
    unfold ringL
    rw [List.getElem?_append_right (by simp), List.length_dropLast, show (half rows).length - 1 + j - ((half rows).length - 1) = j by omega, drop_at hj])
  refine ⟨la, lb, n, fun k hk => ?_, fun j hj => ?_, l0.1, u0.1, l1, u1⟩
  · by_cases q : k < (half rows).length - 1
    · exact get1 k q
    · have e : k = (half rows).length - 1 := by omega
      subst e
      have := get2 0 (by omega)
      rw [Nat.add_zero] at this
      rw [this, l1, u0.1]
  · by_cases q : j < (half rows.reverse).length - 1
    · rw [Nat.mod_eq_of_lt (by omega)]
      exact get2 j q
    · have e : j = (half rows.reverse).length - 1 := by omega
      subst e
      rw [n, Nat.mod_self, get1 0 (by omega), l0.1, u1]
theorem flat_of {rows : List Pt} {m M : Pt} (hmM : lx m M) (h : ∀ t ∈ rows, tn m M t = 0) : Flat rows := fun a ha b hb t ht => by
  have p := pos_of hmM
  have e1 := h a ha
  have e2 := h b hb
  have e3 := h t ht
  unfold tn at *
  rcases p with p | ⟨p, p2⟩
  · have z : (M.1 - m.1) * ((b.1 - a.1) * (t.2 - a.2) - (b.2 - a.2) * (t.1 - a.1)) = 0 := by grind
    rcases Int.mul_eq_zero.mp z with z | z
    · omega
    · exact z
  · have z : (M.2 - m.2) * ((b.1 - a.1) * (t.2 - a.2) - (b.2 - a.2) * (t.1 - a.1)) = 0 := by grind
    rcases Int.mul_eq_zero.mp z with z | z
    · omega
    · exact z
theorem ring0_ok {rows : List Pt} (hs : rows.Pairwise lx) (h2 : 2 ≤ rows.length) (nf : ¬ Flat rows) : Ring0 rows (ringL rows) := by
  obtain ⟨m, M, hm, hM, hmM, H, G, B⟩ := built hs h2
  have mm : m ∈ rows := List.mem_of_head? hm
  have MM : M ∈ rows := List.mem_of_getLast? hM
  have hmin : ∀ t ∈ rows, m = t ∨ lx m t := fun t mt => head_le hs hm mt
  have hmax : ∀ t ∈ rows, t = M ∨ lx t M := fun t mt => last_le hs hM mt
  have nf1 : ¬ ∀ t ∈ rows, tn m M t = 0 := fun h => nf (flat_of hmM h)
  obtain ⟨la, lb, n, e1, e2, m0, M0, M1, m1⟩ := B
  generalize half rows = lo at *
  generalize half rows.reverse = up at *
  have hsub : ∀ c ∈ ringL rows, c ∈ rows := fun c mc => by
    obtain ⟨k, hk, rfl⟩ := mem_at mc
    by_cases q : k < lo.length - 1
    · rw [e1 k (by omega)]
      exact H.sub _ (at_mem (by omega))
    · have := e2 (k - (lo.length - 1)) (by omega)
      rw [Nat.mod_eq_of_lt (by omega), show lo.length - 1 + (k - (lo.length - 1)) = k by omega] at this
      rw [this]
      exact G.sub _ (at_mem (by omega))
  have hleft : ∀ k, k < (ringL rows).length → ∀ t ∈ rows, 0 ≤ tn (at' (ringL rows) k) (at' (ringL rows) ((k + 1) % (ringL rows).length)) t := fun k hk t mt => by
    by_cases q : k < lo.length - 1
    · rw [Nat.mod_eq_of_lt (by omega), e1 k (by omega), e1 (k + 1) (by omega)]
      exact H.lf k _ _ (at_some (by omega)) (at_some (by omega)) t mt
    · obtain ⟨j, rfl⟩ : ∃ j, k = lo.length - 1 + j := ⟨k - (lo.length - 1), by omega⟩
      have a1 := e2 j (by omega)
      rw [Nat.mod_eq_of_lt (by omega)] at a1
      rw [a1, Nat.add_assoc, e2 (j + 1) (by omega)]
      exact G.lf j _ _ (at_some (by omega)) (at_some (by omega)) t mt
  have h3 : 3 ≤ (ringL rows).length := by
    rcases Nat.lt_or_ge (ringL rows).length 3 with q | q
    · have a1 : lo.length = 2 := by omega
      have a2 : up.length = 2 := by omega
      refine absurd (fun t mt => ?_) nf1
      have k1 := H.lf 0 _ _ (at_some (by omega)) (at_some (by omega)) t mt
      have k2 := G.lf 0 _ _ (at_some (by omega)) (at_some (by omega)) t mt
      rw [a1] at M1
      rw [a2] at m1
      rw [m0, M1] at k1
      rw [M0, m1] at k2
      have e : tn M m t = - tn m M t := by unfold tn; grind
      show tn m M t = 0
      omega
    · exact q
  refine ⟨h3, hsub, hleft, fun k hk => ?_, fun c mc => ?_⟩
  · by_cases q1 : k + 2 ≤ lo.length - 1
    · rw [Nat.mod_eq_of_lt (by omega), Nat.mod_eq_of_lt (by omega), e1 k (by omega), e1 (k + 1) (by omega), e1 (k + 2) (by omega)]
      exact H.cv k _ _ _ (at_some (by omega)) (at_some (by omega)) (at_some (by omega))
    · by_cases q2 : k < lo.length - 1
      · have ek : k = lo.length - 2 := by omega
        have x1 := e2 1 (by omega)
        rw [show k + 2 = lo.length - 1 + 1 by omega, x1, Nat.mod_eq_of_lt (by omega), e1 k (by omega), e1 (k + 1) (by omega), show k + 1 = lo.length - 1 by omega, M1]
        refine junction mm hmax ?_ ?_ (G.sub _ (at_mem (by omega))) (fun t mt => ?_) (fun t mt => ?_) nf1
        · have := asc_at H.asc (i := k) (j := lo.length - 1) (by omega) (by omega)
          rwa [M1] at this
        · have := dsc_at G.dsc (i := 0) (j := 1) (by omega) (by omega)
          rwa [M0] at this
        · have := H.lf k _ _ (at_some (by omega)) (at_some (by omega)) t mt
          rwa [show k + 1 = lo.length - 1 by omega, M1] at this
        · have := G.lf 0 _ _ (at_some (by omega)) (at_some (by omega)) t mt
          rwa [M0] at this
      · obtain ⟨j, rfl⟩ : ∃ j, k = lo.length - 1 + j := ⟨k - (lo.length - 1), by omega⟩
        have a1 := e2 j (by omega)
        rw [Nat.mod_eq_of_lt (by omega)] at a1
        rw [a1, Nat.add_assoc, Nat.add_assoc, e2 (j + 1) (by omega)]
        by_cases q3 : j + 2 ≤ up.length - 1
        · rw [e2 (j + 2) q3]
          exact G.cv j _ _ _ (at_some (by omega)) (at_some (by omega)) (at_some (by omega))
        · have ej : j + 1 = up.length - 1 := by omega
          have ei : (lo.length - 1 + (j + 2)) % (ringL rows).length = 1 := by
            rw [show lo.length - 1 + (j + 2) = (ringL rows).length + 1 by omega, Nat.add_mod_left, Nat.mod_eq_of_lt (by omega)]
          rw [ei, e1 1 (by omega), ej, m1]
          rw [← tn_ng]
          refine junction (rows := rows.map ng) (m := ng M) (List.mem_map_of_mem MM) (fun t mt => ?_) (lx_ng.mpr ?_) (lx_ng.mpr ?_) (List.mem_map_of_mem (H.sub _ (at_mem (by omega)))) (fun t mt => ?_) (fun t mt => ?_) (fun h => nf1 fun t mt => ?_)
          · obtain ⟨t, mt2, rfl⟩ := List.mem_map.mp mt
            rcases hmin t mt2 with q | q
            · exact .inl (by rw [q])
            · exact .inr (lx_ng.mpr q)
          · have := dsc_at G.dsc (i := j) (j := up.length - 1) (by omega) (by omega)
            rwa [m1] at this
          · have := asc_at H.asc (i := 0) (j := 1) (by omega) (by omega)
            rwa [m0] at this
          · obtain ⟨t, mt2, rfl⟩ := List.mem_map.mp mt
            have := G.lf j _ _ (at_some (by omega)) (at_some (by omega)) t mt2
            rwa [ej, m1, ← tn_ng] at this
          · obtain ⟨t, mt2, rfl⟩ := List.mem_map.mp mt
            have := H.lf 0 _ _ (at_some (by omega)) (at_some (by omega)) t mt2
            rwa [m0, ← tn_ng] at this
          · have := h (ng t) (List.mem_map_of_mem mt)
            rw [tn_ng] at this
            have e : tn M m t = - tn m M t := by unfold tn; grind
            show tn m M t = 0
            omega
  · rw [e1 0 (by omega), m0]
    exact hmin c (hsub c mc)
theorem sq_zero {x : Int} (h : x * x ≤ 0) : x = 0 := by
  rcases Int.lt_trichotomy x 0 with q | q | q
  · have := Int.mul_pos_of_neg_of_neg q q
    omega
  · exact q
  · have := Int.mul_pos q q
    omega
theorem sq_sum {x y : Int} (h : x * x + y * y ≤ 0) : x = 0 ∧ y = 0 := by
  have := sq_nn x
  have := sq_nn y
  exact ⟨sq_zero (by omega), sq_zero (by omega)⟩
theorem fr_nn (a b : Pt) : 0 ≤ fr a b := by
  have := sq_nn (a.1 - b.1)
  have := sq_nn (a.2 - b.2)
  unfold fr
  omega
theorem fr_zero {a b : Pt} (h : fr a b ≤ 0) : a = b := by
  unfold fr at h
  have := sq_sum h
  exact Prod.ext (by omega) (by omega)
theorem fr_self (a : Pt) : fr a a = 0 := by unfold fr; grind
theorem fr_comm (a b : Pt) : fr a b = fr b a := by unfold fr; grind
theorem ne_of_tn {a b c : Pt} (h : 0 < tn a b c) : a ≠ b := fun e => by
  subst e
  unfold tn at h
  grind
theorem fr_pos {a b : Pt} (h : a ≠ b) : 0 < fr a b := by
  rcases Int.lt_or_le 0 (fr a b) with q | q
  · exact q
  · exact absurd (fr_zero q) h
theorem sq_lt {s D : Int} (h0 : 0 ≤ s) (h : s < D) : s * s < D * D := by
  have k := Int.mul_pos (show 0 < D - s by omega) (show 0 < D + s by omega)
  have e : (D - s) * (D + s) = D * D - s * s := by grind
  omega
theorem same_dir {a b c : Pt} (h1 : tn a b c = 0) (h2 : 0 ≤ dt a b c) (h3 : fr a b = fr a c) : b = c := by
  have e1 : dt a b c * dt a b c = fr a b * fr a c - tn a b c * tn a b c := by unfold dt fr tn; grind
  rw [h1, ← h3] at e1
  have n1 := fr_nn a b
  have e2 : dt a b c = fr a b := by
    rcases Int.lt_trichotomy (dt a b c) (fr a b) with q | q | q
    · have := sq_lt h2 q
      omega
    · exact q
    · have := sq_lt n1 q
      omega
  have e3 : fr b c = fr a b + fr a c - 2 * dt a b c := by unfold fr dt; grind
  exact fr_zero (by omega)
section
variable {rows r : List Pt} (R : Ring0 rows r)
include R
theorem Ring0.npos : 0 < r.length := by have := R.n3; omega
theorem Ring0.pre {k : Nat} (h : k < r.length) : ∃ z, z < r.length ∧ (z + 1) % r.length = k ∧ (z + 2) % r.length = (k + 1) % r.length := by
  refine ⟨(k + r.length - 1) % r.length, Nat.mod_lt _ R.npos, ?_, ?_⟩
  · rw [Nat.mod_add_mod, show k + r.length - 1 + 1 = k + r.length by omega, Nat.add_mod_right, Nat.mod_eq_of_lt h]
  · rw [Nat.mod_add_mod, show k + r.length - 1 + 2 = k + 1 + r.length by omega, Nat.add_mod_right]
theorem Ring0.nxm (k : Nat) : at' r ((k + 1) % r.length) ∈ rows := R.sub _ (at_mem (Nat.mod_lt _ R.npos))
theorem Ring0.tight {k : Nat} (h : k < r.length) {t : Pt} (mt : t ∈ rows) (e : tn (at' r k) (at' r ((k + 1) % r.length)) t = 0) : 0 ≤ dt (at' r k) (at' r ((k + 1) % r.length)) t ∧ fr (at' r k) t ≤ fr (at' r k) (at' r ((k + 1) % r.length)) := by
  obtain ⟨z, hz, z1, z2⟩ := R.pre h
  have a1 := R.cvx z hz
  have a2 := R.left z hz t mt
  rw [z1, z2] at a1
  rw [z1] at a2
  have b1 := R.cvx k h
  have b2 := R.left ((k + 1) % r.length) (Nat.mod_lt _ R.npos) t mt
  rw [Nat.mod_add_mod] at b2
  rw [show k + 1 + 1 = k + 2 by omega] at b2
  generalize at' r z = z' at *
  generalize at' r k = a at *
  generalize at' r ((k + 1) % r.length) = b at *
  generalize at' r ((k + 2) % r.length) = c at *
  have D := fr_pos (ne_of_tn b1)
  have i1 : fr a b * tn z' a t = tn z' a b * dt a b t := by unfold fr tn dt at *; grind
  have d0 : 0 ≤ dt a b t := nn_of_mul a1 (by rw [← i1]; exact mul_nn (by omega) a2)
  have i2 : fr a b * tn b c t = tn a b c * (fr a b - dt a b t) := by unfold fr tn dt at *; grind
  have d1 : 0 ≤ fr a b - dt a b t := nn_of_mul b1 (by rw [← i2]; exact mul_nn (by omega) b2)
  refine ⟨d0, ?_⟩
  have i3 : fr a b * fr a t = dt a b t * dt a b t + tn a b t * tn a b t := by unfold fr tn dt; grind
  rw [e] at i3
  have i4 : dt a b t * dt a b t ≤ fr a b * fr a b := Int.mul_le_mul (by omega) (by omega) d0 (by omega)
  have i5 : 0 ≤ fr a b * (fr a b - fr a t) := by rw [Int.mul_sub]; omega
  have := nn_of_mul D i5
  omega
/-- who follows a corner is told by the corner -/
theorem Ring0.succ_uniq {k j : Nat} (h : k < r.length) (hj : j < r.length) (e : at' r k = at' r j) : at' r ((k + 1) % r.length) = at' r ((j + 1) % r.length) := by
  have a1 := R.left k h _ (R.nxm j)
  have a2 := R.left j hj _ (R.nxm k)
  rw [← e] at a2
  have e1 := tn_swap (at' r k) (at' r ((k + 1) % r.length)) (at' r ((j + 1) % r.length))
  have t1 := R.tight h (R.nxm j) (by omega)
  have t2 := R.tight hj (R.nxm k) (by rw [← e]; omega)
  rw [← e] at t2
  exact same_dir (by omega) t1.1 (by omega)
end
/-- the law's edges -/
structure LE (rows : List Pt) (p q : Pt) : Prop where
  ne : q ≠ p
  nn : ∀ t ∈ rows, 0 ≤ tn p q t
  some : ∃ t ∈ rows, 0 < tn p q t
  ahead : ∀ t ∈ rows, tn p q t = 0 → fr p t ≤ fr p q
  behind : ∀ t ∈ rows, tn p q t = 0 → 0 ≤ dt p t q
theorem dt_comm (a b c : Pt) : dt a b c = dt a c b := by unfold dt; grind
theorem Ring0.le {rows r : List Pt} (R : Ring0 rows r) {k : Nat} (h : k < r.length) : LE rows (at' r k) (at' r ((k + 1) % r.length)) :=
  ⟨fun e => ne_of_tn (R.cvx k h) e.symm, R.left k h, ⟨_, R.sub _ (at_mem (Nat.mod_lt _ R.npos)), R.cvx k h⟩, fun t mt e => (R.tight h mt e).2, fun t mt e => by rw [dt_comm]; exact (R.tight h mt e).1⟩
/-! every place is between three corners -/
def Bary (r : List Pt) (p : Pt) : Prop := ∃ x ∈ r, ∃ y ∈ r, ∃ z ∈ r, ∃ α β γ : Int, 0 ≤ α ∧ 0 ≤ β ∧ 0 ≤ γ ∧ 0 < α + β + γ ∧ α * (x.1 - p.1) + β * (y.1 - p.1) + γ * (z.1 - p.1) = 0 ∧ α * (x.2 - p.2) + β * (y.2 - p.2) + γ * (z.2 - p.2) = 0
theorem last_yes {Q : Nat → Prop} [DecidablePred Q] : ∀ (d a : Nat), Q a → ∃ k, a ≤ k ∧ k ≤ a + d ∧ Q k ∧ (k = a + d ∨ ¬ Q (k + 1))
  | 0, a, h => ⟨a, by omega, by omega, h, .inl rfl⟩
  | d + 1, a, h => by
    by_cases q : Q (a + 1)
    · obtain ⟨k, k1, k2, k3, k4⟩ := last_yes d (a + 1) q
      exact ⟨k, by omega, by omega, k3, by rcases k4 with e | e; exact .inl (by omega); exact .inr e⟩
    · exact ⟨a, by omega, by omega, h, .inr q⟩
theorem cone {ux uy vx vy wx wy : Int} (hu : pos ux uy) (hv : pos vx vy) (h : 0 < ux * vy - uy * vx) (h1 : 0 ≤ ux * wy - uy * wx) (h2 : 0 ≤ wx * vy - wy * vx) : pos0 wx wy := by
  have ix : (ux * vy - uy * vx) * wx = (wx * vy - wy * vx) * ux + (ux * wy - uy * wx) * vx := by grind
  have iy : (ux * vy - uy * vx) * wy = (wx * vy - wy * vx) * uy + (ux * wy - uy * wx) * vy := by grind
  have u0 : 0 ≤ ux := by unfold pos at hu; omega
  have v0 : 0 ≤ vx := by unfold pos at hv; omega
  have x1 := mul_nn h2 u0
  have x2 := mul_nn h1 v0
  have w0 : 0 ≤ wx := nn_of_mul h (by rw [ix]; omega)
  by_cases q : 0 < wx
  · exact .inl q
  · have z : wx = 0 := by omega
    refine .inr ⟨z, ?_⟩
    rw [z, Int.mul_zero] at ix
    rw [z] at x1 x2
    have z1 : (0 * vy - wy * vx) * ux = 0 := by omega
    have z2 : (ux * wy - uy * 0) * vx = 0 := by omega
    refine nn_of_mul h ?_
    rw [iy, z]
    have y1 : 0 ≤ (0 * vy - wy * vx) * uy := by
      rcases hu with hu | ⟨hu, hu2⟩
      · rcases Int.mul_eq_zero.mp z1 with e | e
        · rw [e]; omega
        · omega
      · rw [z] at h2
        exact mul_nn h2 (by omega)
    have y2 : 0 ≤ (ux * wy - uy * 0) * vy := by
      rcases hv with hv | ⟨hv, hv2⟩
      · rcases Int.mul_eq_zero.mp z2 with e | e
        · rw [e]; omega
        · omega
      · rw [z] at h1
        exact mul_nn h1 (by omega)
    omega
theorem Ring0.bary {rows r : List Pt} (R : Ring0 rows r) {p : Pt} (hp : ∀ k, k < r.length → 0 ≤ tn (at' r k) (at' r ((k + 1) % r.length)) p) : Bary r p := by
  have n3 := R.n3
  have l0 := hp 0 (by omega)
  have ln := hp (r.length - 1) (by omega)
  have c0 := R.cvx (r.length - 1) (by omega)
  have c2 := R.cvx (r.length - 2) (by omega)
  have m1 : (r.length - 1 + 1) % r.length = 0 := by rw [show r.length - 1 + 1 = r.length by omega, Nat.mod_self]
  have m2 : (r.length - 1 + 2) % r.length = 1 := by rw [show r.length - 1 + 2 = r.length + 1 by omega, Nat.add_mod_left, Nat.mod_eq_of_lt (by omega)]
  have m3 : (r.length - 2 + 1) % r.length = r.length - 1 := by rw [Nat.mod_eq_of_lt (by omega)]; omega
  have m4 : (r.length - 2 + 2) % r.length = 0 := by rw [show r.length - 2 + 2 = r.length by omega, Nat.mod_self]
  rw [Nat.mod_eq_of_lt (by omega)] at l0
  rw [m1] at ln
  rw [m1, m2] at c0
  rw [m3, m4] at c2
  have posk : ∀ k, k < r.length → at' r 0 ≠ at' r k → pos ((at' r k).1 - (at' r 0).1) ((at' r k).2 - (at' r 0).2) := fun k hk ne => by
    rcases R.first _ (at_mem hk) with e | e
    · exact absurd e ne
    · exact pos_of e
  have p1 := posk 1 (by omega) (by
    have := R.cvx 0 (by omega)
    rw [Nat.mod_eq_of_lt (by omega)] at this
    exact ne_of_tn this)
  have pn := posk (r.length - 1) (by omega) (ne_of_tn c0).symm
  have pp : pos0 (p.1 - (at' r 0).1) (p.2 - (at' r 0).2) := by
    refine cone p1 pn ?_ ?_ ?_
    · unfold tn at c0; grind
    · unfold tn at l0; exact l0
    · unfold tn at ln; grind
  obtain ⟨k, k1, k2, k3, k4⟩ := last_yes (Q := fun k => 0 ≤ tn (at' r 0) (at' r k) p) (r.length - 2) 1 (by simpa using l0)
  have key : ∀ a b : Pt, 0 ≤ tn a b p → 0 ≤ tn (at' r 0) a p → tn (at' r 0) b p ≤ 0 → 0 < tn a b p + (- tn (at' r 0) b p) + tn (at' r 0) a p → a ∈ r → b ∈ r → Bary r p := fun a b h1 h2 h3 h4 ma mb =>
    ⟨at' r 0, at_mem (by omega), a, ma, b, mb, tn a b p, - tn (at' r 0) b p, tn (at' r 0) a p, h1, by omega, h2, h4, by unfold tn; grind, by unfold tn; grind⟩
  by_cases q : k + 1 < r.length
  · have q2 : ¬ 0 ≤ tn (at' r 0) (at' r (k + 1)) p := by
      rcases k4 with e | e
      · omega
      · exact e
    have h1 := hp k (by omega)
    rw [Nat.mod_eq_of_lt q] at h1
    exact key _ _ h1 k3 (by omega) (by omega) (at_mem (by omega)) (at_mem q)
  · have ek : k = r.length - 1 := by omega
    rw [ek] at k3
    have h1 := hp (r.length - 2) (by omega)
    rw [m3] at h1
    have e0 : tn (at' r 0) (at' r (r.length - 1)) p = 0 := by
      have : tn (at' r (r.length - 1)) (at' r 0) p = - tn (at' r 0) (at' r (r.length - 1)) p := by unfold tn; grind
      omega
    have h2 : 0 ≤ tn (at' r 0) (at' r (r.length - 2)) p := by
      have u0 : pos0 ((at' r (r.length - 2)).1 - (at' r 0).1) ((at' r (r.length - 2)).2 - (at' r 0).2) := pos0_of (R.first _ (at_mem (by omega)))
      have k := T1 u0 pn pp (by unfold tn at c2; grind) (by unfold tn at e0; grind)
      unfold tn
      exact k
    refine key _ _ h1 h2 (by omega) ?_ (at_mem (by omega)) (at_mem (by omega))
    have : tn (at' r (r.length - 2)) (at' r (r.length - 1)) p + -tn (at' r 0) (at' r (r.length - 1)) p + tn (at' r 0) (at' r (r.length - 2)) p = tn (at' r (r.length - 2)) (at' r (r.length - 1)) (at' r 0) := by unfold tn; grind
    omega
theorem w3 {α β γ x y z : Int} (a : 0 ≤ α) (b : 0 ≤ β) (c : 0 ≤ γ) (hx : α = 0 ∨ 0 ≤ x) (hy : β = 0 ∨ 0 ≤ y) (hz : γ = 0 ∨ 0 ≤ z) (h : α * x + β * y + γ * z ≤ 0) : α * x = 0 ∧ β * y = 0 ∧ γ * z = 0 := by
  have n : ∀ {u v : Int}, 0 ≤ u → (u = 0 ∨ 0 ≤ v) → 0 ≤ u * v := fun {u v} h1 h2 => by
    rcases h2 with rfl | h2
    · omega
    · exact mul_nn h1 h2
  have := n a hx
  have := n b hy
  have := n c hz
  omega
theorem zero_or {u v : Int} (h : u * v = 0) : u = 0 ∨ v = 0 := Int.mul_eq_zero.mp h
theorem at_pt {p q t : Pt} (ne : q ≠ p) (h1 : tn p q t = 0) (h2 : dt p q t = 0) : t = p := by
  have e : fr p q * fr p t = tn p q t * tn p q t + dt p q t * dt p q t := by unfold fr tn dt; grind
  rw [h1, h2] at e
  have d := fr_pos (fun z => ne z.symm : p ≠ q)
  rcases zero_or (show fr p q * fr p t = 0 by omega) with q | q
  · omega
  · exact (fr_zero (by omega)).symm
theorem LE.mem {rows r : List Pt} {p q : Pt} (h : LE rows p q) (sub : ∀ c ∈ r, c ∈ rows) (B : Bary r p) : p ∈ r := by
  obtain ⟨x, mx, y, my, z, mz, α, β, γ, a, b, c, s, e1, e2⟩ := B
  have sF : α * tn p q x + β * tn p q y + γ * tn p q z = (q.1 - p.1) * (α * (x.2 - p.2) + β * (y.2 - p.2) + γ * (z.2 - p.2)) - (q.2 - p.2) * (α * (x.1 - p.1) + β * (y.1 - p.1) + γ * (z.1 - p.1)) := by unfold tn; grind
  have sG : α * dt p q x + β * dt p q y + γ * dt p q z = (q.1 - p.1) * (α * (x.1 - p.1) + β * (y.1 - p.1) + γ * (z.1 - p.1)) + (q.2 - p.2) * (α * (x.2 - p.2) + β * (y.2 - p.2) + γ * (z.2 - p.2)) := by unfold dt; grind
  rw [e1, e2] at sF sG
  obtain ⟨f1, f2, f3⟩ := w3 a b c (.inr (h.nn x (sub x mx))) (.inr (h.nn y (sub y my))) (.inr (h.nn z (sub z mz))) (by omega)
  have g : ∀ {w : Int} {t : Pt}, t ∈ r → w * tn p q t = 0 → w = 0 ∨ 0 ≤ dt p q t := fun {w t} m e => by
    rcases zero_or e with e | e
    · exact .inl e
    · exact .inr (by rw [dt_comm]; exact h.behind t (sub t m) e)
  obtain ⟨g1, g2, g3⟩ := w3 a b c (g mx f1) (g my f2) (g mz f3) (by omega)
  have fin : ∀ {w : Int} {t : Pt}, t ∈ r → 0 < w → w * tn p q t = 0 → w * dt p q t = 0 → p ∈ r := fun {w t} m hw k1 k2 => by
    have k3 : tn p q t = 0 := by rcases zero_or k1 with e | e; omega; exact e
    have k4 : dt p q t = 0 := by rcases zero_or k2 with e | e; omega; exact e
    rw [← at_pt h.ne k3 k4]; exact m
  by_cases h1 : 0 < α
  · exact fin mx h1 f1 g1
  · by_cases h2 : 0 < β
    · exact fin my h2 f2 g2
    · exact fin mz (by omega) f3 g3
theorem far_mem {r : List Pt} {p q : Pt} (B : Bary r p) (h : ∀ t ∈ r, fr q t ≤ fr q p) : p ∈ r := by
  obtain ⟨x, mx, y, my, z, mz, α, β, γ, a, b, c, s, e1, e2⟩ := B
  have id1 : ∀ t : Pt, fr p t = fr q t - fr q p - 2 * ((p.1 - q.1) * (t.1 - p.1) + (p.2 - q.2) * (t.2 - p.2)) := fun t => by unfold fr; grind
  have sF : α * fr p x + β * fr p y + γ * fr p z = α * (fr q x - fr q p) + β * (fr q y - fr q p) + γ * (fr q z - fr q p) - 2 * ((p.1 - q.1) * (α * (x.1 - p.1) + β * (y.1 - p.1) + γ * (z.1 - p.1)) + (p.2 - q.2) * (α * (x.2 - p.2) + β * (y.2 - p.2) + γ * (z.2 - p.2))) := by
    rw [id1 x, id1 y, id1 z]; grind
  rw [e1, e2] at sF
  have le : ∀ {w : Int} {t : Pt}, t ∈ r → 0 ≤ w → w * (fr q t - fr q p) ≤ 0 := fun {w t} m hw => by
    have := h t m
    have := mul_nn hw (show 0 ≤ fr q p - fr q t by omega)
    have e : w * (fr q t - fr q p) = - (w * (fr q p - fr q t)) := by grind
    omega
  have := le mx a
  have := le my b
  have := le mz c
  obtain ⟨f1, f2, f3⟩ := w3 a b c (.inr (fr_nn p x)) (.inr (fr_nn p y)) (.inr (fr_nn p z)) (by omega)
  have fin : ∀ {w : Int} {t : Pt}, t ∈ r → 0 < w → w * fr p t = 0 → p ∈ r := fun {w t} m hw k1 => by
    have k3 : fr p t = 0 := by rcases zero_or k1 with e | e; omega; exact e
    rw [fr_zero (by omega : fr p t ≤ 0)]; exact m
  by_cases h1 : 0 < α
  · exact fin mx h1 f1
  · by_cases h2 : 0 < β
    · exact fin my h2 f2
    · exact fin mz (by omega) f3
structure Ring (rows r : List Pt) : Prop extends Ring0 rows r where
  inj : ∀ i j, i < r.length → j < r.length → at' r i = at' r j → i = j
theorem ring_ok {rows : List Pt} (hs : rows.Pairwise lx) (h2 : 2 ≤ rows.length) (nf : ¬ Flat rows) : Ring rows (ringL rows) := by
  have R := ring0_ok hs h2 nf
  obtain ⟨m, M, hm, hM, hmM, H, G, B⟩ := built hs h2
  obtain ⟨la, lb, n, e1, e2, m0, M0, M1, m1⟩ := B
  have lt : ∀ i j, i < j → j < (ringL rows).length → at' (ringL rows) i ≠ at' (ringL rows) j := fun i j hij hj e => by
    by_cases q : j < (half rows).length - 1
    · rw [e1 i (by omega), e1 j (by omega)] at e
      have := asc_at H.asc hij (by omega)
      rw [e] at this
      exact lx_irr this
    · obtain ⟨j', rfl⟩ : ∃ j', j = (half rows).length - 1 + j' := ⟨j - ((half rows).length - 1), by omega⟩
      have a1 := e2 j' (by omega)
      rw [Nat.mod_eq_of_lt (by omega)] at a1
      by_cases q2 : i < (half rows).length - 1
      · have u := R.succ_uniq (by omega) hj e
        rw [Nat.mod_eq_of_lt (by omega), e1 (i + 1) (by omega), Nat.add_assoc, e2 (j' + 1) (by omega)] at u
        rw [e1 i (by omega), a1] at e
        have b1 := asc_at H.asc (i := i) (j := i + 1) (by omega) (by omega)
        have b2 := dsc_at G.dsc (i := j') (j := j' + 1) (by omega) (by omega)
        rw [u, e] at b1
        exact lx_irr (lx_trans b1 b2)
      · obtain ⟨i', rfl⟩ : ∃ i', i = (half rows).length - 1 + i' := ⟨i - ((half rows).length - 1), by omega⟩
        have a2 := e2 i' (by omega)
        rw [Nat.mod_eq_of_lt (by omega)] at a2
        rw [a1, a2] at e
        have := dsc_at G.dsc (i := i') (j := j') (by omega) (by omega)
        rw [e] at this
        exact lx_irr this
  refine ⟨R, fun i j hi hj e => ?_⟩
  rcases Nat.lt_trichotomy i j with q | q | q
  · exact absurd e (lt i j q hj)
  · exact q
  · exact absurd e.symm (lt j i q hi)
theorem Ring.of_le {rows r : List Pt} (R : Ring rows r) {p q : Pt} (mp : p ∈ rows) (mq : q ∈ rows) (h : LE rows p q) : ∃ k, k < r.length ∧ at' r k = p ∧ at' r ((k + 1) % r.length) = q := by
  have mem := h.mem R.sub (R.toRing0.bary fun k hk => R.left k hk p mp)
  obtain ⟨k, hk, rfl⟩ := mem_at mem
  refine ⟨k, hk, rfl, ?_⟩
  have a1 := R.left k hk q mq
  have a2 := h.nn _ (R.toRing0.nxm k)
  have a3 := tn_swap (at' r k) (at' r ((k + 1) % r.length)) q
  have t := R.toRing0.tight hk mq (by omega)
  have f := h.ahead _ (R.toRing0.nxm k) (by omega)
  exact same_dir (by omega) t.1 (by omega)
/-! the law's edges, counted -/
def leB (rows : List Pt) (p q : Pt) : Bool := decide (q ≠ p) && rows.all (fun t => decide (0 ≤ tn p q t)) && rows.any (fun t => decide (0 < tn p q t)) && (rows.filter fun t => decide (tn p q t = 0 ∧ dt p t q < 0)).isEmpty && (rows.filter fun t => decide (tn p q t = 0 ∧ fr p q < fr p t)).isEmpty
theorem leB_iff {rows : List Pt} {p q : Pt} : leB rows p q = true ↔ LE rows p q := by
  unfold leB
  simp only [Bool.and_eq_true, decide_eq_true_eq, List.all_eq_true, List.any_eq_true, List.isEmpty_iff, List.filter_eq_nil_iff]
  constructor
  · rintro ⟨⟨⟨⟨a, b⟩, c⟩, d⟩, e⟩
    exact ⟨a, b, c, fun t m z => by have := e t m; omega, fun t m z => by have := d t m; omega⟩
  · rintro ⟨a, b, c, d, e⟩
    exact ⟨⟨⟨⟨a, b⟩, c⟩, fun t m z => by have := e t m z.1; omega⟩, fun t m z => by have := d t m z.1; omega⟩
def lawC (rows : List Pt) : List (Pt × Pt) := rows.flatMap fun p => (rows.filter fun q => leB rows p q).map fun q => (p, q)
theorem mem_lawC {rows : List Pt} {e : Pt × Pt} : e ∈ lawC rows ↔ e.1 ∈ rows ∧ e.2 ∈ rows ∧ LE rows e.1 e.2 := by
  unfold lawC
  simp only [List.mem_flatMap, List.mem_map, List.mem_filter, leB_iff]
  constructor
  · rintro ⟨p, hp, q, ⟨hq, h⟩, rfl⟩
    exact ⟨hp, hq, h⟩
  · rintro ⟨hp, hq, h⟩
    exact ⟨e.1, hp, e.2, ⟨hq, h⟩, rfl⟩
theorem lx_nodup {rows : List Pt} (hs : rows.Pairwise lx) : rows.Nodup := hs.imp fun {a b} h e => by subst e; exact lx_irr h
theorem lawC_nodup {rows : List Pt} (hs : rows.Pairwise lx) : (lawC rows).Nodup := by
  unfold lawC List.Nodup
  rw [List.pairwise_flatMap]
  refine ⟨fun p _ => ?_, ?_⟩
  · rw [List.pairwise_map]
    exact ((lx_nodup hs).sublist List.filter_sublist).imp fun h e => h (by simpa using e)
  · refine (lx_nodup hs).imp fun {a b} h x hx y hy e => h ?_
    obtain ⟨_, _, rfl⟩ := List.mem_map.mp hx
    obtain ⟨_, _, rfl⟩ := List.mem_map.mp hy
    simpa using (congrArg Prod.fst e)
theorem Ring.mem_C {rows r : List Pt} (R : Ring rows r) {e : Pt × Pt} : e ∈ lawC rows ↔ ∃ k, k < r.length ∧ e = (at' r k, at' r ((k + 1) % r.length)) := by
  rw [mem_lawC]
  constructor
  · rintro ⟨h1, h2, h3⟩
    obtain ⟨k, hk, e1, e2⟩ := R.of_le h1 h2 h3
    exact ⟨k, hk, by rw [e1, e2]⟩
  · rintro ⟨k, hk, rfl⟩
    exact ⟨R.sub _ (at_mem hk), R.toRing0.nxm k, R.toRing0.le hk⟩
theorem Ring.len_C {rows r : List Pt} (hs : rows.Pairwise lx) (R : Ring rows r) : (lawC rows).length = r.length := by
  have nd : ((List.range r.length).map fun k => (at' r k, at' r ((k + 1) % r.length))).Nodup := by
    unfold List.Nodup
    rw [List.pairwise_map]
    refine List.Pairwise.imp_of_mem (fun {a b} ma mb h e => ?_) (List.nodup_range (n := r.length))
    exact h (R.inj a b (List.mem_range.mp ma) (List.mem_range.mp mb) (congrArg Prod.fst e))
  have p := (List.perm_ext_iff_of_nodup (lawC_nodup hs) nd).mpr fun e => by
    rw [R.mem_C, List.mem_map]
    exact ⟨fun ⟨k, hk, h⟩ => ⟨k, List.mem_range.mpr hk, h.symm⟩, fun ⟨k, hk, h⟩ => ⟨k, List.mem_range.mp hk, h.symm⟩⟩
  have := p.length_eq
  simpa using this
theorem Ring.uniq {rows r s : List Pt} (hs : rows.Pairwise lx) (R : Ring rows r) (S : Ring rows s) : r = s := by
  have el : r.length = s.length := by rw [← R.len_C hs, ← S.len_C hs]
  have n3 := R.n3
  have z : at' r 0 = at' s 0 := by
    obtain ⟨k, hk, e1, _⟩ := S.of_le (R.sub _ (at_mem (by omega))) (R.toRing0.nxm 0) (R.toRing0.le (k := 0) (by omega))
    obtain ⟨j, hj, e2, _⟩ := R.of_le (S.sub _ (at_mem (by omega))) (S.toRing0.nxm 0) (S.toRing0.le (k := 0) (by omega))
    rcases S.first _ (at_mem hk) with a | a
    · rw [a, e1]
    · rcases R.first _ (at_mem hj) with b | b
      · rw [b, e2]
      · rw [e1] at a
        rw [e2] at b
        exact (lx_irr (lx_trans a b)).elim
  have all : ∀ k, k < r.length → at' r k = at' s k := fun k => by
    induction k with
    | zero => exact fun _ => z
    | succ k ih =>
      intro hk
      have e0 := ih (by omega)
      obtain ⟨j, hj, e1, e2⟩ := S.of_le (R.sub _ (at_mem (by omega))) (R.toRing0.nxm k) (R.toRing0.le (k := k) (by omega))
      have : j = k := S.inj j k hj (by omega) (by rw [e1, e0])
      subst this
      rw [Nat.mod_eq_of_lt (by omega), Nat.mod_eq_of_lt (by omega)] at e2
      exact e2.symm
  refine List.ext_getElem? fun k => ?_
  by_cases hk : k < r.length
  · rw [at_some hk, at_some (by omega), all k hk]
  · rw [List.getElem?_eq_none_iff.mpr (by omega), List.getElem?_eq_none_iff.mpr (by omega)]
/-! flat rows -/
theorem flat_C {rows : List Pt} (h : Flat rows) : lawC rows = [] := by
  refine List.eq_nil_iff_forall_not_mem.mpr fun e me => ?_
  obtain ⟨h1, h2, h3⟩ := mem_lawC.mp me
  obtain ⟨t, mt, ht⟩ := h3.some
  have := h _ h1 _ h2 t mt
  omega
def ringOf (rows : List Pt) : List Pt := if rows.length < 3 then rows else ringL rows
theorem flat_ring {rows : List Pt} (hs : rows.Pairwise lx) (h2 : 2 ≤ rows.length) (hf : Flat rows) : ∃ m M, rows.head? = some m ∧ rows.getLast? = some M ∧ lx m M ∧ ringOf rows = [m, M] := by
  obtain ⟨m, M, hm, hM, hmM, H, G, B⟩ := built hs h2
  refine ⟨m, M, hm, hM, hmM, ?_⟩
  unfold ringOf
  by_cases q : rows.length < 3
  · rw [if_pos q]
    match rows, h2, q, hm, hM with
    | [a, b], _, _, hm, hM => simp at hm hM; rw [hm, hM]
  · rw [if_neg q]
    obtain ⟨la, lb, n, e1, e2, m0, M0, M1, m1⟩ := B
    have a1 : (half rows).length = 2 := by
      rcases Nat.lt_or_ge 2 (half rows).length with z | z
      · have c := H.cv 0 _ _ _ (at_some (by omega)) (at_some (by omega)) (at_some (by omega))
        have := hf _ (H.sub _ (at_mem (k := 0) (by omega))) _ (H.sub _ (at_mem (k := 0 + 1) (by omega))) _ (H.sub _ (at_mem (k := 0 + 2) (by omega)))
        omega
      · omega
    have a2 : (half rows.reverse).length = 2 := by
      rcases Nat.lt_or_ge 2 (half rows.reverse).length with z | z
      · have c := G.cv 0 _ _ _ (at_some (by omega)) (at_some (by omega)) (at_some (by omega))
        have := hf _ (G.sub _ (at_mem (k := 0) (by omega))) _ (G.sub _ (at_mem (k := 0 + 1) (by omega))) _ (G.sub _ (at_mem (k := 0 + 2) (by omega)))
        omega
      · omega
    have x0 := e1 0 (by omega)
    have x1 := e1 1 (by omega)
    rw [a1] at M1
    rw [m0] at x0
    rw [show (1 : Nat) = 2 - 1 by rfl, M1] at x1
    have n2 : (ringL rows).length = 2 := by omega
    match h : ringL rows, n2 with
    | [a, b], _ =>
      rw [h] at x0 x1
      simp [at'] at x0 x1
      rw [x0, x1]
theorem two_flat {rows : List Pt} (h : rows.length ≤ 2) : Flat rows := fun a ha b hb t ht => by
  match rows, h with
  | [], _ => cases ha
  | [x], _ =>
    simp at ha hb ht
    subst ha; subst hb; subst ht
    exact tn_bb _ _
  | [x, y], _ =>
    simp at ha hb ht
    rcases ha with rfl | rfl <;> rcases hb with rfl | rfl <;> rcases ht with rfl | rfl <;> first | exact tn_bb _ _ | exact tn_aa _ _ | (unfold tn; grind)
/-- the three kinds of rings -/
theorem kinds {rows : List Pt} (hs : rows.Pairwise lx) : (rows.length < 2 ∧ ringOf rows = rows) ∨ (2 ≤ rows.length ∧ Flat rows ∧ ∃ m M, rows.head? = some m ∧ rows.getLast? = some M ∧ lx m M ∧ ringOf rows = [m, M]) ∨ (3 ≤ rows.length ∧ ¬ Flat rows ∧ Ring rows (ringOf rows)) := by
  by_cases q : rows.length < 2
  · exact .inl ⟨q, by unfold ringOf; rw [if_pos (by omega)]⟩
  · by_cases f : Flat rows
    · exact .inr (.inl ⟨by omega, f, flat_ring hs (by omega) f⟩)
    · have : 3 ≤ rows.length := by
        rcases Nat.lt_or_ge 2 rows.length with z | z
        · exact z
        · exact absurd (two_flat z) f
      refine .inr (.inr ⟨this, f, ?_⟩)
      unfold ringOf
      rw [if_neg (by omega)]
      exact ring_ok hs (by omega) f
theorem bary_seg {r : List Pt} {m M p : Pt} (hm : m ∈ r) (hM : M ∈ r) (l : lx m M) (h : tn m M p = 0) (h1 : m = p ∨ lx m p) (h2 : p = M ∨ lx p M) : Bary r p := by
  have q := pos_of l
  have p1 := pos0_of h1
  have p2 := pos0_of h2
  unfold tn at h
  by_cases c : 0 < M.1 - m.1
  · refine ⟨m, hm, M, hM, M, hM, M.1 - p.1, p.1 - m.1, 0, ?_, ?_, Int.le_refl 0, by omega, by grind, by grind⟩
    · unfold pos0 at p2; omega
    · unfold pos0 at p1; omega
  · have c0 : M.1 - m.1 = 0 := by unfold pos at q; omega
    have e1 : p.1 - m.1 = 0 := by unfold pos0 at p1 p2; omega
    have e2 : M.1 - p.1 = 0 := by omega
    refine ⟨m, hm, M, hM, M, hM, M.2 - p.2, p.2 - m.2, 0, ?_, ?_, Int.le_refl 0, ?_, by grind, by grind⟩
    · unfold pos0 at p2; omega
    · unfold pos0 at p1; omega
    · unfold pos at q; omega
theorem bary_self {r : List Pt} {p : Pt} (h : p ∈ r) : Bary r p := ⟨p, h, p, h, p, h, 1, 0, 0, by omega, by omega, by omega, by omega, by grind, by grind⟩
theorem bary_all {rows : List Pt} (hs : rows.Pairwise lx) {p : Pt} (mp : p ∈ rows) : Bary (ringOf rows) p := by
  rcases kinds hs with ⟨_, e⟩ | ⟨_, f, m, M, hm, hM, l, e⟩ | ⟨_, _, R⟩
  · rw [e]; exact bary_self mp
  · rw [e]
    exact bary_seg (by simp) (by simp) l (f _ (List.mem_of_head? hm) _ (List.mem_of_getLast? hM) p mp) (head_le hs hm mp) (last_le hs hM mp)
  · exact R.toRing0.bary fun k hk => R.left k hk p mp
theorem ring_sub {rows : List Pt} (hs : rows.Pairwise lx) : ∀ c ∈ ringOf rows, c ∈ rows := fun c mc => by
  rcases kinds hs with ⟨_, e⟩ | ⟨_, f, m, M, hm, hM, l, e⟩ | ⟨_, _, R⟩
  · rwa [e] at mc
  · rw [e] at mc
    simp at mc
    rcases mc with rfl | rfl
    · exact List.mem_of_head? hm
    · exact List.mem_of_getLast? hM
  · exact R.sub c mc
theorem ring_nd {rows : List Pt} (hs : rows.Pairwise lx) : ∀ i j, i < (ringOf rows).length → j < (ringOf rows).length → at' (ringOf rows) i = at' (ringOf rows) j → i = j := fun i j hi hj e => by
  rcases kinds hs with ⟨h, e1⟩ | ⟨_, f, m, M, hm, hM, l, e1⟩ | ⟨_, _, R⟩
  · rw [e1] at hi hj
    omega
  · rw [e1] at hi hj e
    match i, j, hi, hj, e with
    | 0, 0, _, _, _ => rfl
    | 1, 1, _, _, _ => rfl
    | 0, 1, _, _, e => simp [at'] at e; rw [e] at l; exact (lx_irr l).elim
    | 1, 0, _, _, e => simp [at'] at e; rw [e] at l; exact (lx_irr l).elim
  · exact R.inj i j hi hj e
/-! within -/
def leP (a b : Pt) : Prop := a = b ∨ lx a b
def inC (r : List Pt) (p : Pt) : Prop := if r.length < 3 then (if r.length < 2 then p ∈ r else tn (at' r 0) (at' r 1) p = 0 ∧ leP (at' r 0) p ∧ leP p (at' r 1)) else ∀ k, k < r.length → 0 ≤ tn (at' r k) (at' r ((k + 1) % r.length)) p
theorem ris_eq : ∀ {xs ys : List Pt}, xs.Pairwise lx → ys.Pairwise lx → (∀ k, k ∈ xs ↔ k ∈ ys) → xs = ys
  | [], [], _, _, _ => rfl
  | [], y :: ys, _, _, h => absurd ((h y).mpr (by simp)) (by simp)
  | x :: xs, [], _, _, h => absurd ((h x).mp (by simp)) (by simp)
  | x :: xs, y :: ys, hx, hy, h => by
    rw [List.pairwise_cons] at hx hy
    have e : x = y := by
      rcases List.mem_cons.mp ((h x).mp (by simp)) with q | q
      · exact q
      · rcases List.mem_cons.mp ((h y).mpr (by simp)) with q2 | q2
        · exact q2.symm
        · exact (lx_irr (lx_trans (hx.1 y q2) (hy.1 x q))).elim
    subst e
    refine congrArg (x :: ·) (ris_eq hx.2 hy.2 fun k => ?_)
    constructor
    · intro hk
      rcases List.mem_cons.mp ((h k).mp (List.mem_cons_of_mem _ hk)) with q | q
      · exact (lx_irr (q ▸ hx.1 k hk)).elim
      · exact q
    · intro hk
      rcases List.mem_cons.mp ((h k).mpr (List.mem_cons_of_mem _ hk)) with q | q
      · exact (lx_irr (q ▸ hy.1 k hk)).elim
      · exact q
theorem flat_sub {rows rows' : List Pt} (h : ∀ c ∈ rows, c ∈ rows') (f : Flat rows') : Flat rows := fun a ha b hb t ht => f a (h a ha) b (h b hb) t (h t ht)
theorem end_eq {rows : List Pt} {m m' : Pt} (h1 : m ∈ rows) (h2 : ∀ t ∈ rows, m = t ∨ lx m t) (h3 : m' ∈ rows) (h4 : ∀ t ∈ rows, m' = t ∨ lx m' t) : m = m' := by
  rcases h2 m' h3 with e | e
  · exact e
  · rcases h4 m h1 with f | f
    · exact f.symm
    · exact (lx_irr (lx_trans e f)).elim
/-- a place more -/
theorem more {rows rows' : List Pt} {p : Pt} (hs : rows.Pairwise lx) (hs' : rows'.Pairwise lx) (hm : ∀ k, k ∈ rows' ↔ k ∈ rows ∨ k = p) : ringOf rows' = ringOf rows ↔ inC (ringOf rows) p := by
  have sub : ∀ c ∈ rows, c ∈ rows' := fun c m => (hm c).mpr (.inl m)
  have mp : p ∈ rows' := (hm p).mpr (.inr rfl)
  rcases kinds hs with ⟨h, e1⟩ | ⟨h, f, m, M, h1, h2, l, e1⟩ | ⟨h, nf, R⟩
  · rw [e1]
    unfold inC
    rw [if_pos (by omega), if_pos h]
    constructor
    · intro e
      have q : ∃ c, c ∈ ringOf rows' := by
        rcases kinds hs' with ⟨_, e2⟩ | ⟨_, _, m, M, _, _, _, e2⟩ | ⟨_, _, R⟩
        · exact ⟨p, by rw [e2]; exact mp⟩
        · exact ⟨m, by rw [e2]; simp⟩
        · exact ⟨_, at_mem (k := 0) (by have := R.n3; omega)⟩
      rcases kinds hs' with ⟨h', e2⟩ | ⟨_, _, m, M, _, _, _, e2⟩ | ⟨_, _, R⟩
      · rw [e2] at e
        rw [← e]; exact mp
      · rw [e2] at e
        rw [← e] at h
        simp at h
      · have := R.n3
        rw [e] at this
        omega
    · intro m
      have e : rows' = rows := ris_eq hs' hs fun k => by
        rw [hm k]
        exact ⟨fun z => by rcases z with z | rfl; exact z; exact m, .inl⟩
      rw [e, e1]
  · have mm := List.mem_of_head? h1
    have mM := List.mem_of_getLast? h2
    rw [e1]
    unfold inC
    rw [if_pos (by simp), if_neg (by simp)]
    show _ ↔ tn m M p = 0 ∧ leP m p ∧ leP p M
    have fin : ∀ {m' M' : Pt}, rows'.head? = some m' → rows'.getLast? = some M' → Flat rows' → ([m', M'] = [m, M] ↔ tn m M p = 0 ∧ leP m p ∧ leP p M) := fun {m' M'} k1 k2 f' => by
      constructor
      · intro e
        simp at e
        obtain ⟨rfl, rfl⟩ := e
        exact ⟨f' _ (sub _ mm) _ (sub _ mM) _ mp, head_le hs' k1 mp, last_le hs' k2 mp⟩
      · rintro ⟨_, k3, k4⟩
        have em : m' = m := end_eq (List.mem_of_head? k1) (fun t mt => head_le hs' k1 mt) (sub _ mm) fun t mt => by
          rcases (hm t).mp mt with mt | rfl
          · exact head_le hs h1 mt
          · exact k3
        have eM : M' = M := by
          rcases last_le hs' k2 (sub _ mM) with e | e
          · exact e.symm
          · rcases (hm M').mp (List.mem_of_getLast? k2) with z | rfl
            · rcases last_le hs h2 z with z | z
              · exact z
              · exact (lx_irr (lx_trans e z)).elim
            · rcases k4 with z | z
              · exact z
              · exact (lx_irr (lx_trans e z)).elim
        rw [em, eM]
    rcases kinds hs' with ⟨h', _⟩ | ⟨_, f', m', M', k1, k2, _, e2⟩ | ⟨_, nf', R'⟩
    · match rows', h' with
      | [], _ => cases mp
      | [x], _ =>
        have a := sub _ mm
        have b := sub _ mM
        simp at a b
        rw [a, b] at l
        exact (lx_irr l).elim
    · rw [e2]
      exact fin k1 k2 f'
    · constructor
      · intro e
        have := R'.n3
        rw [e] at this
        simp at this
      · rintro ⟨k1, k2, k3⟩
        refine absurd (flat_of l fun t mt => ?_) nf'
        rcases (hm t).mp mt with mt | rfl
        · exact f _ mm _ mM t mt
        · exact k1
  · unfold inC
    rw [if_neg (by have := R.n3; omega)]
    have nf' : ¬ Flat rows' := fun f => nf (flat_sub sub f)
    constructor
    · intro e
      rcases kinds hs' with ⟨h', e2⟩ | ⟨_, f', _⟩ | ⟨_, _, R'⟩
      · exact absurd (two_flat (by omega)) nf'
      · exact absurd f' nf'
      · rw [e] at R'
        exact fun k hk => R'.left k hk p mp
    · intro hin
      have S : Ring rows' (ringOf rows) := ⟨⟨R.n3, fun c mc => sub c (R.sub c mc), fun k hk t mt => by
        rcases (hm t).mp mt with mt | rfl
        · exact R.left k hk t mt
        · exact hin k hk, R.cvx, R.first⟩, R.inj⟩
      rcases kinds hs' with ⟨h', e2⟩ | ⟨_, f', _⟩ | ⟨_, _, R'⟩
      · exact absurd (two_flat (by omega)) nf'
      · exact absurd f' nf'
      · exact R'.uniq hs' S
/-! the area -/
def cr (a b : Pt) : Int := a.1 * b.2 - a.2 * b.1
def fanI (r : List Pt) : Nat → Int
  | 0 => 0
  | k + 1 => fanI r k + tn (at' r 0) (at' r (k + 1)) (at' r (k + 2))
def sumI (r : List Pt) : Nat → Int
  | 0 => 0
  | k + 1 => sumI r k + cr (at' r k) (at' r ((k + 1) % r.length))
theorem fan_sum (r : List Pt) : ∀ k, k + 2 ≤ r.length → fanI r k = sumI r (k + 1) - cr (at' r 0) (at' r (k + 1))
  | 0, h => by
    show 0 = 0 + cr (at' r 0) (at' r ((0 + 1) % r.length)) - _
    rw [Nat.mod_eq_of_lt (by omega)]
    omega
  | k + 1, h => by
    have ih := fan_sum r k (by omega)
    show fanI r k + _ = sumI r (k + 1) + cr (at' r (k + 1)) (at' r ((k + 1 + 1) % r.length)) - _
    rw [ih, Nat.mod_eq_of_lt (by omega)]
    have : tn (at' r 0) (at' r (k + 1)) (at' r (k + 2)) = cr (at' r 0) (at' r (k + 1)) + cr (at' r (k + 1)) (at' r (k + 2)) - cr (at' r 0) (at' r (k + 2)) := by unfold tn cr; grind
    rw [this, show k + 1 + 1 = k + 2 by omega]
    omega
theorem area_fan {r : List Pt} (h : 3 ≤ r.length) : sumI r r.length = fanI r (r.length - 2) := by
  rw [fan_sum r _ (by omega)]
  obtain ⟨n, hn⟩ : ∃ n, r.length = n + 1 := ⟨r.length - 1, by omega⟩
  rw [show r.length - 2 + 1 = n by omega]
  have : sumI r (n + 1) = sumI r n + cr (at' r n) (at' r ((n + 1) % r.length)) := rfl
  rw [hn, this, hn, Nat.mod_self]
  unfold cr
  grind
theorem fan_pos {rows r : List Pt} (R : Ring rows r) : ∀ k, k + 2 < r.length → 0 < fanI r (k + 1)
  | 0, h => by
    have := R.cvx 0 (by omega)
    rw [Nat.mod_eq_of_lt (by omega), Nat.mod_eq_of_lt (by omega)] at this
    show 0 < 0 + tn (at' r 0) (at' r (0 + 1)) (at' r (0 + 2))
    omega
  | k + 1, h => by
    have ih := fan_pos R k (by omega)
    have := R.left (k + 2) (by omega) (at' r 0) (R.sub _ (at_mem (by omega)))
    rw [Nat.mod_eq_of_lt (by omega)] at this
    show 0 < fanI r (k + 1) + tn (at' r 0) (at' r (k + 2)) (at' r (k + 2 + 1))
    rw [tn_cyc]
    omega
/-! near -/
def nearE (a b p : Pt) (f : Int) : Prop := 0 < dt a b p ∧ dt a b p < fr a b ∧ tn a b p * tn a b p < f * f * fr a b
def nearL (a b p : Pt) (f : Int) : Prop := if dt a b p ≤ 0 then fr a p < f * f else if fr a b ≤ dt a b p then fr b p < f * f else fr a p * fr a b - dt a b p * dt a b p < f * f * fr a b
theorem lag (a b p : Pt) : fr a p * fr a b - dt a b p * dt a b p = tn a b p * tn a b p := by unfold fr dt tn; grind
theorem near_of {a b p : Pt} {f : Int} (h : fr a p < f * f ∨ nearE a b p f) : nearL a b p f := by
  unfold nearL
  split
  · rename_i q
    rcases h with h | h
    · exact h
    · have := h.1; omega
  · rename_i q
    split
    · rename_i q2
      rcases h with h | h
      · have e : fr b p = fr a p - 2 * dt a b p + fr a b := by unfold fr dt; grind
        have := fr_nn a b
        omega
      · have := h.2.1; omega
    · rename_i q2
      rcases h with h | h
      · have k := Int.mul_lt_mul_of_pos_right h (show 0 < fr a b by omega)
        have := sq_nn (dt a b p)
        omega
      · rw [lag]; exact h.2.2
theorem of_near {a b p : Pt} {f : Int} (h : nearL a b p f) : fr a p < f * f ∨ fr b p < f * f ∨ nearE a b p f := by
  unfold nearL at h
  split at h
  · exact .inl h
  · rename_i q
    split at h
    · exact .inr (.inl h)
    · rename_i q2
      rw [lag] at h
      exact .inr (.inr ⟨by omega, by omega, h⟩)
theorem near_any (r : List Pt) (p : Pt) (f : Int) : (∃ k, k < r.length ∧ (fr (at' r k) p < f * f ∨ nearE (at' r k) (at' r ((k + 1) % r.length)) p f)) ↔ ∃ k, k < r.length ∧ nearL (at' r k) (at' r ((k + 1) % r.length)) p f := by
  constructor
  · rintro ⟨k, hk, h⟩
    exact ⟨k, hk, near_of h⟩
  · rintro ⟨k, hk, h⟩
    rcases of_near h with h | h | h
    · exact ⟨k, hk, .inl h⟩
    · exact ⟨(k + 1) % r.length, Nat.mod_lt _ (by omega), .inl h⟩
    · exact ⟨k, hk, .inr h⟩
end Law_k21.R
/-! k31: convex polygons, what they have in common: plain mathematics -/
namespace Law_k21
abbrev Pt := Int × Int
abbrev P3 := Int × Int × Int
abbrev Ln := Pt × Pt
def lift (p : Pt) : P3 := (p.1, p.2, 1)
/-- on which side of a line, times by -/
def ev (l : Ln) (z : P3) : Int := (l.2.1 - l.1.1) * (z.2.1 - l.1.2 * z.2.2) - (l.2.2 - l.1.2) * (z.1 - l.1.1 * z.2.2)
def det3 (u v w : P3) : Int := u.1 * (v.2.1 * w.2.2 - v.2.2 * w.2.1) - u.2.1 * (v.1 * w.2.2 - v.2.2 * w.1) + u.2.2 * (v.1 * w.2.1 - v.2.1 * w.1)
def cmb (a : Int) (u : P3) (b : Int) (v : P3) : P3 := (a * u.1 + b * v.1, a * u.2.1 + b * v.2.1, a * u.2.2 + b * v.2.2)
def sm (t : Int) (u : P3) : P3 := (t * u.1, t * u.2.1, t * u.2.2)
theorem det_cyc (u v w : P3) : det3 u v w = det3 v w u := by unfold det3; grind
theorem det_aa (u w : P3) : det3 u u w = 0 := by unfold det3; grind
theorem det_bb (u v : P3) : det3 u v v = 0 := by unfold det3; grind
theorem det_c1 (a b : Int) (u v q r : P3) : det3 (cmb a u b v) q r = a * det3 u q r + b * det3 v q r := by unfold det3 cmb; grind
theorem det_c2 (a b : Int) (u v q r : P3) : det3 q (cmb a u b v) r = a * det3 q u r + b * det3 q v r := by unfold det3 cmb; grind
theorem det_c3 (a b : Int) (u v q r : P3) : det3 q r (cmb a u b v) = a * det3 q r u + b * det3 q r v := by unfold det3 cmb; grind
theorem det_s (t s r : Int) (u v w : P3) : det3 (sm t u) (sm s v) (sm r w) = t * s * r * det3 u v w := by unfold det3 sm; grind
theorem ev_c (l : Ln) (a b : Int) (u v : P3) : ev l (cmb a u b v) = a * ev l u + b * ev l v := by unfold ev cmb; grind
theorem ev_s (l : Ln) (t : Int) (u : P3) : ev l (sm t u) = t * ev l u := by unfold ev sm; grind
theorem ev_det3 (a b : Pt) (z : P3) : ev (a, b) z = det3 (lift a) (lift b) z := by unfold ev det3 lift; grind
theorem ev_det (a b c : Pt) : ev (a, b) (lift c) = det3 (lift a) (lift b) (lift c) := ev_det3 a b (lift c)
/-- forms -/
def co (l : Ln) : P3 := (-(l.2.2 - l.1.2), l.2.1 - l.1.1, (l.2.2 - l.1.2) * l.1.1 - (l.2.1 - l.1.1) * l.1.2)
def fm (c z : P3) : Int := c.1 * z.1 + c.2.1 * z.2.1 + c.2.2 * z.2.2
theorem ev_fm (l : Ln) (z : P3) : ev l z = fm (co l) z := by unfold ev fm co; grind
theorem cram (c u v w z : P3) : det3 u v w * fm c z = fm c u * det3 z v w + fm c v * det3 u z w + fm c w * det3 u v z := by unfold det3 fm; grind
theorem cram1 (c u v w : P3) : det3 u v w * c.1 = fm c u * det3 (1, 0, 0) v w + fm c v * det3 u (1, 0, 0) w + fm c w * det3 u v (1, 0, 0) := by unfold det3 fm; grind
theorem cram2 (c u v w : P3) : det3 u v w * c.2.1 = fm c u * det3 (0, 1, 0) v w + fm c v * det3 u (0, 1, 0) w + fm c w * det3 u v (0, 1, 0) := by unfold det3 fm; grind
theorem line_zero {l : Ln} {u v w : P3} (d : det3 u v w ≠ 0) (h1 : ev l u = 0) (h2 : ev l v = 0) (h3 : ev l w = 0) : l.1 = l.2 := by
  rw [ev_fm] at h1 h2 h3
  have e1 := cram1 (co l) u v w
  have e2 := cram2 (co l) u v w
  rw [h1, h2, h3] at e1 e2
  simp only [Int.zero_mul, Int.add_zero] at e1 e2
  have a := (Int.mul_eq_zero.mp e1).resolve_left d
  have b := (Int.mul_eq_zero.mp e2).resolve_left d
  unfold co at a b
  simp only at a b
  exact Prod.ext (by omega) (by omega)
theorem mul_nn {a b : Int} (h : 0 ≤ a) (k : 0 ≤ b) : 0 ≤ a * b := Int.mul_nonneg h k
theorem mul_pp {a b : Int} (h : 0 < a) (k : 0 < b) : 0 < a * b := Int.mul_pos h k
theorem pos_of_mul {a b : Int} (h : 0 < a) (k : 0 < a * b) : 0 < b := by
  rcases Int.lt_or_le 0 b with q | q
  · exact q
  · have := Int.mul_nonneg (Int.le_of_lt h) (show 0 ≤ -b by omega)
    rw [Int.mul_neg] at this
    omega
theorem nn_of_mul {a b : Int} (h : 0 < a) (k : 0 ≤ a * b) : 0 ≤ b := by
  rcases Int.lt_or_le b 0 with q | q
  · have := Int.mul_pos h (show 0 < -b by omega)
    rw [Int.mul_neg] at this
    omega
  · exact q
theorem zero_of_mul {a b : Int} (h : 0 < a) (k : a * b = 0) : b = 0 := (Int.mul_eq_zero.mp k).resolve_left (by omega)
/-! ### lowest terms -/
def gc (x y b : Int) : Nat := Nat.gcd y.natAbs (Nat.gcd x.natAbs b.natAbs)
def lowest (x y b : Int) : P3 := (x / (gc x y b : Int), y / (gc x y b : Int), b / (gc x y b : Int))
def prim (v : P3) : Prop := gc v.1 v.2.1 v.2.2 = 1
theorem gc_dvd (x y b : Int) : ((gc x y b : Nat) : Int) ∣ x ∧ ((gc x y b : Nat) : Int) ∣ y ∧ ((gc x y b : Nat) : Int) ∣ b := by
  have h1 : gc x y b ∣ y.natAbs := Nat.gcd_dvd_left _ _
  have h2 : gc x y b ∣ Nat.gcd x.natAbs b.natAbs := Nat.gcd_dvd_right _ _
  exact ⟨Int.ofNat_dvd_left.mpr (Nat.dvd_trans h2 (Nat.gcd_dvd_left _ _)), Int.ofNat_dvd_left.mpr h1, Int.ofNat_dvd_left.mpr (Nat.dvd_trans h2 (Nat.gcd_dvd_right _ _))⟩
theorem gc_pos {x y b : Int} (h : 1 ≤ b) : 0 < gc x y b := by
  have h2 : gc x y b ∣ b.natAbs := Nat.dvd_trans (Nat.gcd_dvd_right _ _) (Nat.gcd_dvd_right _ _)
  exact Nat.pos_of_dvd_of_pos h2 (by omega)
theorem gc_mul (t : Nat) (x y b : Int) : gc (t * x) (t * y) (t * b) = t * gc x y b := by
  unfold gc
  rw [Int.natAbs_mul, Int.natAbs_mul, Int.natAbs_mul, Int.natAbs_natCast, Nat.gcd_mul_left, Nat.gcd_mul_left]
theorem lowest_spec {x y b : Int} (h : 1 ≤ b) : (1 : Int) ≤ gc x y b ∧ sm (gc x y b) (lowest x y b) = (x, y, b) ∧ prim (lowest x y b) ∧ 1 ≤ (lowest x y b).2.2 := by
  have hp := gc_pos (x := x) (y := y) h
  obtain ⟨d1, d2, d3⟩ := gc_dvd x y b
  have e1 := Int.mul_ediv_cancel' d1
  have e2 := Int.mul_ediv_cancel' d2
  have e3 := Int.mul_ediv_cancel' d3
  refine ⟨by omega, ?_, ?_, ?_⟩
  · unfold sm lowest
    rw [e1, e2, e3]
  · have k := gc_mul (gc x y b) (x / (gc x y b : Int)) (y / (gc x y b : Int)) (b / (gc x y b : Int))
    rw [e1, e2, e3] at k
    have k2 : gc x y b * 1 = gc x y b * gc (x / (gc x y b : Int)) (y / (gc x y b : Int)) (b / (gc x y b : Int)) := by omega
    exact (Nat.eq_of_mul_eq_mul_left hp k2).symm
  · show 1 ≤ b / (gc x y b : Int)
    rcases Int.lt_or_le (b / (gc x y b : Int)) 1 with q | q
    · have : (gc x y b : Int) * (b / (gc x y b : Int)) ≤ 0 := by
        have := Int.mul_nonneg (show (0 : Int) ≤ gc x y b by omega) (show 0 ≤ -(b / (gc x y b : Int)) by omega)
        rw [Int.mul_neg] at this
        omega
      omega
    · exact q
def crossing (one two : P3) (l r : Int) : P3 :=
  lowest (two.1 * one.2.2 * (l.natAbs * two.2.2) + one.1 * two.2.2 * (r.natAbs * one.2.2)) (two.2.1 * one.2.2 * (l.natAbs * two.2.2) + one.2.1 * two.2.2 * (r.natAbs * one.2.2)) (one.2.2 * two.2.2 * (l.natAbs * two.2.2 + r.natAbs * one.2.2))
def opp (a b : Int) : Bool := decide (0 < a ∧ b < 0 ∨ a < 0 ∧ 0 < b)
structure Crs (f : Ln) (one two c : P3) : Prop where
  ex : ∃ t a b : Int, 0 < t ∧ 0 < a ∧ 0 < b ∧ sm t c = cmb a one b two
  pr : prim c
  b1 : 1 ≤ c.2.2
  on : ev f c = 0
theorem crossing_ok {f : Ln} {one two : P3} (h1 : 1 ≤ one.2.2) (h2 : 1 ≤ two.2.2) (o : opp (ev f one) (ev f two) = true) : Crs f one two (crossing one two (ev f one) (ev f two)) := by
  have o := of_decide_eq_true o
  have hl : 0 < ((ev f one).natAbs : Int) := by omega
  have hr : 0 < ((ev f two).natAbs : Int) := by omega
  have hb : 1 ≤ one.2.2 * two.2.2 * ((ev f one).natAbs * two.2.2 + (ev f two).natAbs * one.2.2) := by
    have := Int.mul_pos (Int.mul_pos (show 0 < one.2.2 by omega) (show 0 < two.2.2 by omega)) (Int.add_pos (Int.mul_pos hl (show 0 < two.2.2 by omega)) (Int.mul_pos hr (show 0 < one.2.2 by omega)))
    omega
  obtain ⟨s1, s2, s3, s4⟩ := lowest_spec (x := two.1 * one.2.2 * ((ev f one).natAbs * two.2.2) + one.1 * two.2.2 * ((ev f two).natAbs * one.2.2)) (y := two.2.1 * one.2.2 * ((ev f one).natAbs * two.2.2) + one.2.1 * two.2.2 * ((ev f two).natAbs * one.2.2)) hb
  have hw := Int.mul_pos (show 0 < one.2.2 by omega) (show 0 < two.2.2 by omega)
  have ex : ∃ t a b : Int, 0 < t ∧ 0 < a ∧ 0 < b ∧ sm t (crossing one two (ev f one) (ev f two)) = cmb a one b two ∧ a * ev f one + b * ev f two = 0 := by
    refine ⟨_, (ev f two).natAbs * (one.2.2 * two.2.2), (ev f one).natAbs * (one.2.2 * two.2.2), by omega, Int.mul_pos hr hw, Int.mul_pos hl hw, s2.trans ?_, ?_⟩
    · unfold cmb
      refine Prod.ext ?_ (Prod.ext ?_ ?_) <;> simp only <;> grind
    · rcases o with ⟨a, b⟩ | ⟨a, b⟩
      · rw [show ((ev f one).natAbs : Int) = ev f one by omega, show ((ev f two).natAbs : Int) = -ev f two by omega]
        grind
      · rw [show ((ev f one).natAbs : Int) = -ev f one by omega, show ((ev f two).natAbs : Int) = ev f two by omega]
        grind
  obtain ⟨t, a, b, ht, ha, hb2, e, z⟩ := ex
  refine ⟨⟨t, a, b, ht, ha, hb2, e⟩, s3, s4, ?_⟩
  have k := ev_s f t (crossing one two (ev f one) (ev f two))
  rw [e, ev_c, z] at k
  exact zero_of_mul ht k.symm
/-! ### polygons with a line for each edge -/
def a3 (V : List P3) (k : Nat) : P3 := V.getD k (0, 0, 1)
structure Pg (G : List Ln) (V : List P3) : Prop where
  n3 : 3 ≤ V.length
  tri : ∀ i j k, i < j → j < k → k < V.length → 0 < det3 (a3 V i) (a3 V j) (a3 V k)
  one : ∀ i, i < V.length → 1 ≤ (a3 V i).2.2
  prm : ∀ i, i < V.length → prim (a3 V i)
  nn : ∀ g ∈ G, ∀ i, i < V.length → 0 ≤ ev g (a3 V i)
  ne : ∀ g ∈ G, g.1 ≠ g.2
  lab : ∀ i, i < V.length → ∃ g ∈ G, ev g (a3 V i) = 0 ∧ ev g (a3 V ((i + 1) % V.length)) = 0
theorem tri_le {V : List P3} (tri : ∀ i j k, i < j → j < k → k < V.length → 0 < det3 (a3 V i) (a3 V j) (a3 V k)) {i j k : Nat} (h1 : i ≤ j) (h2 : j ≤ k) (h3 : k < V.length) : 0 ≤ det3 (a3 V i) (a3 V j) (a3 V k) := by
  rcases Nat.lt_or_ge i j with q | q
  · rcases Nat.lt_or_ge j k with r | r
    · exact Int.le_of_lt (tri i j k q r h3)
    · obtain rfl : j = k := by omega
      rw [det_bb]; exact Int.le_refl _
  · obtain rfl : i = j := by omega
    rw [det_aa]; exact Int.le_refl _
/-- a corner or a crossing -/
def sg (f : Ln) (V : List P3) (m : Nat) : Int := ev f (a3 V (m % V.length))
def kept (f : Ln) (V : List P3) (p : Nat) : Bool := if p % 2 = 0 then decide (0 ≤ sg f V (p / 2)) else opp (sg f V (p / 2)) (sg f V (p / 2 + 1))
def val (f : Ln) (V : List P3) (p : Nat) : P3 := if p % 2 = 0 then a3 V (p / 2 % V.length) else crossing (a3 V (p / 2 % V.length)) (a3 V ((p / 2 + 1) % V.length)) (sg f V (p / 2)) (sg f V (p / 2 + 1))
def clip (f : Ln) (V : List P3) : List P3 := ((List.range (2 * V.length)).filter (kept f V)).map (val f V)
theorem val_ex {f : Ln} {V : List P3} (h1 : ∀ i, i < V.length → 1 ≤ (a3 V i).2.2) (hn : 0 < V.length) {p : Nat} (k : kept f V p = true) :
    ∃ t a b : Int, 0 < t ∧ 0 < a ∧ 0 ≤ b ∧ (p % 2 = 1 → 0 < b) ∧ (p % 2 = 0 → b = 0) ∧ sm t (val f V p) = cmb a (a3 V (p / 2 % V.length)) b (a3 V ((p / 2 + 1) % V.length)) := by
  unfold val
  by_cases e : p % 2 = 0
  · rw [if_pos e]
    exact ⟨1, 1, 0, by omega, by omega, by omega, by omega, fun _ => rfl, by unfold sm cmb; simp⟩
  · rw [if_neg e]
    unfold kept at k
    rw [if_neg e] at k
    obtain ⟨⟨t, a, b, ht, ha, hb, q⟩, _, _, _⟩ := crossing_ok (f := f) (h1 _ (Nat.mod_lt (p / 2) hn)) (h1 _ (Nat.mod_lt (p / 2 + 1) hn)) k
    exact ⟨t, a, b, ht, ha, by omega, fun _ => hb, fun h => absurd h e, q⟩
theorem val_ok {f : Ln} {V : List P3} (h1 : ∀ i, i < V.length → 1 ≤ (a3 V i).2.2) (hp : ∀ i, i < V.length → prim (a3 V i)) (hn : 0 < V.length) {p : Nat} (k : kept f V p = true) : prim (val f V p) ∧ 1 ≤ (val f V p).2.2 := by
  unfold val
  by_cases e : p % 2 = 0
  · rw [if_pos e]
    exact ⟨hp _ (Nat.mod_lt _ hn), h1 _ (Nat.mod_lt _ hn)⟩
  · rw [if_neg e]
    unfold kept at k
    rw [if_neg e] at k
    have c := crossing_ok (f := f) (h1 _ (Nat.mod_lt (p / 2) hn)) (h1 _ (Nat.mod_lt (p / 2 + 1) hn)) k
    exact ⟨c.pr, c.b1⟩
theorem val_on {f : Ln} {V : List P3} (h1 : ∀ i, i < V.length → 1 ≤ (a3 V i).2.2) (hn : 0 < V.length) {p : Nat} (k : kept f V p = true) (e : p % 2 = 1) : ev f (val f V p) = 0 := by
  unfold val
  unfold kept at k
  rw [if_neg (by omega)] at k ⊢
  exact (crossing_ok (f := f) (h1 _ (Nat.mod_lt (p / 2) hn)) (h1 _ (Nat.mod_lt (p / 2 + 1) hn)) k).on
theorem kept_mod (f : Ln) (V : List P3) (p : Nat) : kept f V (p + 2 * V.length) = kept f V p := by
  have e1 : (p + 2 * V.length) % 2 = p % 2 := by omega
  have e2 : (p + 2 * V.length) / 2 = p / 2 + V.length := by omega
  unfold kept sg
  rw [e1, e2, Nat.add_mod_right, show p / 2 + V.length + 1 = p / 2 + 1 + V.length by omega, Nat.add_mod_right]
theorem val_mod (f : Ln) (V : List P3) (p : Nat) : val f V (p + 2 * V.length) = val f V p := by
  have e1 : (p + 2 * V.length) % 2 = p % 2 := by omega
  have e2 : (p + 2 * V.length) / 2 = p / 2 + V.length := by omega
  unfold val sg
  rw [e1, e2, Nat.add_mod_right, show p / 2 + V.length + 1 = p / 2 + 1 + V.length by omega, Nat.add_mod_right]
/-- corners around: three kept ones turn left -/
theorem tri_val {f : Ln} {V : List P3} (n3 : 3 ≤ V.length) (tri : ∀ i j k, i < j → j < k → k < V.length → 0 < det3 (a3 V i) (a3 V j) (a3 V k)) (h1 : ∀ i, i < V.length → 1 ≤ (a3 V i).2.2)
    {p q r : Nat} (hpq : p < q) (hqr : q < r) (hr : r < 2 * V.length) (kp : kept f V p = true) (kq : kept f V q = true) (kr : kept f V r = true) : 0 < det3 (val f V p) (val f V q) (val f V r) := by
  have hn : 0 < V.length := by omega
  -- no crossing beside two kept corners
  have no1 : ∀ a, kept f V (2 * a) = true → kept f V (2 * a + 1) = true → kept f V (2 * a + 2) = true → False := fun a k1 k2 k3 => by
    unfold kept at k1 k2 k3
    rw [if_pos (by omega)] at k1 k3
    rw [if_neg (by omega)] at k2
    have k1 := of_decide_eq_true k1
    have k2 := of_decide_eq_true k2
    have k3 := of_decide_eq_true k3
    rw [show 2 * a / 2 = a by omega] at k1
    rw [show (2 * a + 1) / 2 = a by omega] at k2
    rw [show (2 * a + 2) / 2 = a + 1 by omega] at k3
    omega
  obtain ⟨t1, a1, b1, ht1, ha1, hb1, o1, z1, e1⟩ := val_ex h1 hn kp
  obtain ⟨t2, a2, b2, ht2, ha2, hb2, o2, z2, e2⟩ := val_ex h1 hn kq
  obtain ⟨t3, a3', b3, ht3, ha3, hb3, o3, z3, e3⟩ := val_ex h1 hn kr
  refine pos_of_mul (Int.mul_pos (Int.mul_pos ht1 ht2) ht3) ?_
  rw [← det_s, e1, e2, e3]
  have i1 : p / 2 % V.length = p / 2 := Nat.mod_eq_of_lt (by omega)
  have i2 : q / 2 % V.length = q / 2 := Nat.mod_eq_of_lt (by omega)
  have i3 : r / 2 % V.length = r / 2 := Nat.mod_eq_of_lt (by omega)
  rw [i1, i2, i3]
  have le := fun {i j k} a b c => tri_le tri (i := i) (j := j) (k := k) a b c
  have le0 : ∀ {i j}, i ≤ j → j < V.length → 0 ≤ det3 (a3 V i) (a3 V j) (a3 V 0) := fun {i j} a b => by
    rw [← det_cyc]; exact le (Nat.zero_le _) a b
  have lt0 : ∀ {i j}, 0 < i → i < j → j < V.length → 0 < det3 (a3 V i) (a3 V j) (a3 V 0) := fun {i j} z a b => by
    rw [← det_cyc]; exact tri _ _ _ z a b
  simp only [det_c1, det_c2, det_c3]
  have i3' : (r / 2 + 1) % V.length = r / 2 + 1 ∧ r / 2 + 1 < V.length ∨ (r / 2 + 1) % V.length = 0 ∧ r / 2 + 1 = V.length := by
    rcases Nat.lt_or_ge (r / 2 + 1) V.length with x | x
    · exact .inl ⟨Nat.mod_eq_of_lt x, x⟩
    · exact .inr ⟨by rw [show r / 2 + 1 = V.length by omega, Nat.mod_self], by omega⟩
  -- the last index behind any two
  have le3 : ∀ {i j}, i ≤ j → j ≤ r / 2 → 0 ≤ det3 (a3 V i) (a3 V j) (a3 V ((r / 2 + 1) % V.length)) := fun {i j} x y => by
    rcases i3' with ⟨e, z⟩ | ⟨e, z⟩
    · rw [e]; exact le x (by omega) z
    · rw [e]; exact le0 x (by omega)
  have m3 : ∀ {x y z w : Int}, 0 ≤ x → 0 ≤ y → 0 ≤ z → 0 ≤ w → 0 ≤ z * (y * (x * w)) := fun a b c d => mul_nn c (mul_nn b (mul_nn a d))
  have p3 : ∀ {x y z w : Int}, 0 < x → 0 < y → 0 < z → 0 < w → 0 < z * (y * (x * w)) := fun a b c d => mul_pp c (mul_pp b (mul_pp a d))
  have ha1' := Int.le_of_lt ha1
  have ha2' := Int.le_of_lt ha2
  have ha3' := Int.le_of_lt ha3
  rcases Nat.lt_or_ge (p / 2) (q / 2) with c1 | c1
  · have j1 : (p / 2 + 1) % V.length = p / 2 + 1 := Nat.mod_eq_of_lt (by omega)
    rw [j1]
    rcases Nat.lt_or_ge (q / 2) (r / 2) with c2 | c2
    · have j2 : (q / 2 + 1) % V.length = q / 2 + 1 := Nat.mod_eq_of_lt (by omega)
      rw [j2]
      have k1 := p3 ha1 ha2 ha3 (tri (p / 2) (q / 2) (r / 2) c1 c2 (by omega))
      have k2 := m3 ha1' ha2' hb3 (le3 (i := p / 2) (j := q / 2) (by omega) (by omega))
      have k3 := m3 ha1' hb2 ha3' (le (i := p / 2) (j := q / 2 + 1) (k := r / 2) (by omega) (by omega) (by omega))
      have k4 := m3 ha1' hb2 hb3 (le3 (i := p / 2) (j := q / 2 + 1) (by omega) (by omega))
      have k5 := m3 hb1 ha2' ha3' (le (i := p / 2 + 1) (j := q / 2) (k := r / 2) (by omega) (by omega) (by omega))
      have k6 := m3 hb1 ha2' hb3 (le3 (i := p / 2 + 1) (j := q / 2) (by omega) (by omega))
      have k7 := m3 hb1 hb2 ha3' (le (i := p / 2 + 1) (j := q / 2 + 1) (k := r / 2) (by omega) (by omega) (by omega))
      have k8 := m3 hb1 hb2 hb3 (le3 (i := p / 2 + 1) (j := q / 2 + 1) (by omega) (by omega))
      simp only [Int.mul_add] at *
      omega
    · have c2 : q / 2 = r / 2 := by omega
      have hq : q % 2 = 0 := by omega
      have hr3 : r % 2 = 1 := by omega
      have hb3' := o3 hr3
      rw [z2 hq, ← c2]
      rw [← c2] at le3 i3'
      have k2 := m3 ha1' ha2' hb3 (le3 (i := p / 2) (j := q / 2) (by omega) (by omega))
      have k6 := m3 hb1 ha2' hb3 (le3 (i := p / 2 + 1) (j := q / 2) (by omega) (by omega))
      have big : 0 < b3 * (a2 * (a1 * det3 (a3 V (p / 2)) (a3 V (q / 2)) (a3 V ((q / 2 + 1) % V.length)))) ∨ 0 < b3 * (a2 * (b1 * det3 (a3 V (p / 2 + 1)) (a3 V (q / 2)) (a3 V ((q / 2 + 1) % V.length)))) := by
        rcases i3' with ⟨e, z⟩ | ⟨e, z⟩
        · rw [e]
          exact .inl (p3 ha1 ha2 hb3' (tri _ _ _ c1 (by omega) z))
        · rw [e]
          rcases Nat.eq_zero_or_pos (p / 2) with y | y
          · have : p % 2 = 1 := by
              rcases Nat.mod_two_eq_zero_or_one p with x | x
              · exfalso
                have hp0 : p = 0 := by omega
                have hr0 : r = 2 * (V.length - 1) + 1 := by omega
                have hq0 : q = 2 * (V.length - 1) := by omega
                refine no1 (V.length - 1) (by rw [← hq0]; exact kq) (by rw [← hr0]; exact kr) ?_
                rw [show 2 * (V.length - 1) + 2 = 0 + 2 * V.length by omega, kept_mod, ← hp0]
                exact kp
              · exact x
            have hb1' := o1 this
            exact .inr (p3 hb1' ha2 hb3' (lt0 (by omega) (by omega) (by omega)))
          · exact .inl (p3 ha1 ha2 hb3' (lt0 y c1 (by omega)))
      simp only [det_bb, Int.mul_zero, Int.zero_mul, Int.add_zero, Int.zero_add, Int.mul_add] at *
      omega
  · have c1 : p / 2 = q / 2 := by omega
    have hp2 : p % 2 = 0 := by omega
    have hq2 : q % 2 = 1 := by omega
    have hb2' := o2 hq2
    have c2 : q / 2 < r / 2 := by omega
    have j2 : (q / 2 + 1) % V.length = q / 2 + 1 := Nat.mod_eq_of_lt (by omega)
    rw [z1 hp2, c1, j2]
    have k3 := m3 ha1' hb2 ha3' (le (i := q / 2) (j := q / 2 + 1) (k := r / 2) (by omega) (by omega) (by omega))
    have k4 := m3 ha1' hb2 hb3 (le3 (i := q / 2) (j := q / 2 + 1) (by omega) (by omega))
    have big : 0 < a3' * (b2 * (a1 * det3 (a3 V (q / 2)) (a3 V (q / 2 + 1)) (a3 V (r / 2)))) ∨ 0 < b3 * (b2 * (a1 * det3 (a3 V (q / 2)) (a3 V (q / 2 + 1)) (a3 V ((r / 2 + 1) % V.length)))) := by
      rcases Nat.lt_or_ge (q / 2 + 1) (r / 2) with c3 | c3
      · exact .inl (p3 ha1 hb2' ha3 (tri _ _ _ (by omega) c3 (by omega)))
      · have c3 : r / 2 = q / 2 + 1 := by omega
        have : r % 2 = 1 := by
          rcases Nat.mod_two_eq_zero_or_one r with x | x
          · exfalso
            refine no1 (q / 2) ?_ ?_ ?_
            · rw [show 2 * (q / 2) = p by omega]; exact kp
            · rw [show 2 * (q / 2) + 1 = q by omega]; exact kq
            · rw [show 2 * (q / 2) + 2 = r by omega]; exact kr
          · exact x
        have hb3' := o3 this
        refine .inr (p3 ha1 hb2' hb3' ?_)
        rcases i3' with ⟨e, z⟩ | ⟨e, z⟩
        · rw [e]; exact tri _ _ _ (by omega) (by omega) z
        · rw [e]; exact lt0 (by omega) (by omega) (by omega)
    simp only [det_aa, Int.mul_zero, Int.zero_mul, Int.add_zero, Int.zero_add, Int.mul_add] at *
    omega
/-! the kept positions in order -/
theorem pos_lt (P : Nat → Bool) (N : Nat) : ((List.range N).filter P).Pairwise (· < ·) := List.Pairwise.filter _ List.pairwise_lt_range
theorem mono_at {l : List Nat} (h : l.Pairwise (· < ·)) {i j : Nat} (hij : i < j) (hj : j < l.length) : l.getD i 0 < l.getD j 0 := by
  have := List.pairwise_iff_getElem.mp h i j (by omega) hj hij
  rwa [List.getD_eq_getElem?_getD, List.getD_eq_getElem?_getD, List.getElem?_eq_getElem hj, List.getElem?_eq_getElem (show i < l.length by omega)]
theorem mem_at {l : List Nat} {x : Nat} (h : x ∈ l) : ∃ k, k < l.length ∧ l.getD k 0 = x := by
  obtain ⟨k, hk, e⟩ := List.getElem_of_mem h
  exact ⟨k, hk, by rw [List.getD_eq_getElem?_getD, List.getElem?_eq_getElem hk]; exact e⟩
theorem at_mem {l : List Nat} {k : Nat} (h : k < l.length) : l.getD k 0 ∈ l := by
  rw [List.getD_eq_getElem?_getD, List.getElem?_eq_getElem h]
  exact List.getElem_mem h
section
variable {P : Nat → Bool} {N : Nat}
theorem gap_in {k x : Nat} (hk : k + 1 < ((List.range N).filter P).length) (h1 : ((List.range N).filter P).getD k 0 < x) (h2 : x < ((List.range N).filter P).getD (k + 1) 0) : P x = false := by
  have so := pos_lt P N
  have hN := List.mem_range.mp (List.mem_filter.mp (at_mem hk)).1
  cases e : P x with
  | false => rfl
  | true =>
    obtain ⟨j, hj, ej⟩ := mem_at (List.mem_filter.mpr ⟨List.mem_range.mpr (show x < N by omega), e⟩)
    rcases Nat.lt_or_ge k j with q | q
    · rcases Nat.lt_or_ge j (k + 1) with r | r
      · omega
      · rcases Nat.lt_or_ge (k + 1) j with z | z
        · have := mono_at so z hj; omega
        · obtain rfl : j = k + 1 := by omega
          omega
    · rcases Nat.lt_or_ge j k with z | z
      · have := mono_at so z (by omega); omega
      · obtain rfl : j = k := by omega
        omega
theorem gap_lo {x : Nat} (hk : 0 < ((List.range N).filter P).length) (h2 : x < ((List.range N).filter P).getD 0 0) : P x = false := by
  have so := pos_lt P N
  have hN := List.mem_range.mp (List.mem_filter.mp (at_mem hk)).1
  cases e : P x with
  | false => rfl
  | true =>
    obtain ⟨j, hj, ej⟩ := mem_at (List.mem_filter.mpr ⟨List.mem_range.mpr (show x < N by omega), e⟩)
    rcases Nat.eq_zero_or_pos j with z | z
    · subst z; omega
    · have := mono_at so z hj; omega
theorem gap_hi {x : Nat} (hk : 0 < ((List.range N).filter P).length) (h2 : ((List.range N).filter P).getD (((List.range N).filter P).length - 1) 0 < x) (h3 : x < N) : P x = false := by
  have so := pos_lt P N
  cases e : P x with
  | false => rfl
  | true =>
    obtain ⟨j, hj, ej⟩ := mem_at (List.mem_filter.mpr ⟨List.mem_range.mpr h3, e⟩)
    rcases Nat.lt_or_ge j (((List.range N).filter P).length - 1) with z | z
    · have := mono_at so z (by omega); omega
    · obtain rfl : j = ((List.range N).filter P).length - 1 := by omega
      omega
end
theorem clip_at {f : Ln} {V : List P3} {k : Nat} (h : k < (clip f V).length) : a3 (clip f V) k = val f V (((List.range (2 * V.length)).filter (kept f V)).getD k 0) := by
  unfold a3 clip at *
  rw [List.length_map] at h
  rw [List.getD_eq_getElem?_getD, List.getElem?_map, List.getD_eq_getElem?_getD, List.getElem?_eq_getElem h]
  rfl
theorem clip_len (f : Ln) (V : List P3) : (clip f V).length = ((List.range (2 * V.length)).filter (kept f V)).length := by
  unfold clip; rw [List.length_map]
theorem clip_pos {f : Ln} {V : List P3} {k : Nat} (h : k < (clip f V).length) : ((List.range (2 * V.length)).filter (kept f V)).getD k 0 < 2 * V.length ∧ kept f V (((List.range (2 * V.length)).filter (kept f V)).getD k 0) = true := by
  rw [clip_len] at h
  obtain ⟨h1, h2⟩ := List.mem_filter.mp (at_mem h)
  exact ⟨List.mem_range.mp h1, h2⟩
/-- the line of an edge between kept positions -/
theorem edge_lab {G : List Ln} {f : Ln} {V : List P3} (I : Pg G V) {p q : Nat} (kp : kept f V p = true) (kq : kept f V q = true) (hpq : p < q) (gap : ∀ x, p < x → x < q → kept f V x = false) :
    ∃ g ∈ f :: G, ev g (val f V p) = 0 ∧ ev g (val f V q) = 0 := by
  have hn : 0 < V.length := by have := I.n3; omega
  obtain ⟨g, mg, g1, g2⟩ := I.lab (p / 2 % V.length) (Nat.mod_lt _ hn)
  rw [Nat.mod_add_mod] at g2
  -- a kept position on the edge is on its line
  have on : ∀ x, kept f V x = true → x / 2 = p / 2 → ev g (val f V x) = 0 := fun x kx e => by
    obtain ⟨t, a, b, ht, _, _, _, _, ex⟩ := val_ex I.one hn kx
    have k := ev_s g t (val f V x)
    rw [ex, ev_c, e, g1, g2] at k
    exact zero_of_mul ht (by omega)
  by_cases c : q ≤ 2 * (p / 2) + 2
  · refine ⟨g, List.mem_cons_of_mem _ mg, on p kp rfl, ?_⟩
    by_cases c2 : q = 2 * (p / 2) + 2
    · unfold val
      rw [if_pos (by omega), show q / 2 = p / 2 + 1 by omega]
      exact g2
    · exact on q kq (by omega)
  · refine ⟨f, List.mem_cons_self, ?_, ?_⟩
    · by_cases e : p % 2 = 1
      · exact val_on I.one hn kp e
      · have n1 := gap (p + 1) (by omega) (by omega)
        have n2 := gap (p + 2) (by omega) (by omega)
        unfold kept at kp n1 n2
        rw [if_pos (by omega)] at kp n2
        rw [if_neg (by omega)] at n1
        have kp := of_decide_eq_true kp
        have n1 := of_decide_eq_false n1
        have n2 := of_decide_eq_false n2
        rw [show (p + 1) / 2 = p / 2 by omega] at n1
        rw [show (p + 2) / 2 = p / 2 + 1 by omega] at n2
        unfold val
        rw [if_pos (by omega)]
        show sg f V (p / 2) = 0
        omega
    · by_cases e : q % 2 = 1
      · exact val_on I.one hn kq e
      · have n1 := gap (q - 1) (by omega) (by omega)
        have n2 := gap (q - 2) (by omega) (by omega)
        unfold kept at kq n1 n2
        rw [if_pos (by omega)] at kq n2
        rw [if_neg (by omega)] at n1
        have kq := of_decide_eq_true kq
        have n1 := of_decide_eq_false n1
        have n2 := of_decide_eq_false n2
        rw [show (q - 1) / 2 = q / 2 - 1 by omega, show q / 2 - 1 + 1 = q / 2 by omega] at n1
        rw [show (q - 2) / 2 = q / 2 - 1 by omega] at n2
        unfold val
        rw [if_pos (by omega)]
        show sg f V (q / 2) = 0
        omega
theorem nodup3 {l : List Nat} {a b c : Nat} (ha : a ∈ l) (hb : b ∈ l) (hc : c ∈ l) (h1 : a ≠ b) (h2 : a ≠ c) (h3 : b ≠ c) : 3 ≤ l.length := by
  have e1 : b ∈ l.erase a := (List.mem_erase_of_ne (Ne.symm h1)).mpr hb
  have e2 : c ∈ (l.erase a).erase b := (List.mem_erase_of_ne (Ne.symm h3)).mpr ((List.mem_erase_of_ne (Ne.symm h2)).mpr hc)
  have l1 := List.length_erase_of_mem ha
  have l2 := List.length_erase_of_mem e1
  have p1 := List.length_pos_of_mem e2
  have p2 := List.length_pos_of_mem e1
  have p3 := List.length_pos_of_mem ha
  omega
theorem clip_pg {G : List Ln} {f : Ln} {V : List P3} (I : Pg G V) (hf : f.1 ≠ f.2) {i : Nat} (hi : i < V.length) (pos : 0 < ev f (a3 V i)) : Pg (f :: G) (clip f V) := by
  have hn : 0 < V.length := by omega
  have n3 := I.n3
  have so := pos_lt (kept f V) (2 * V.length)
  refine ⟨?_, ?_, ?_, ?_, ?_, ?_, ?_⟩
  · rw [clip_len]
    have s0 : 0 < sg f V i := by unfold sg; rw [Nat.mod_eq_of_lt hi]; exact pos
    have k0 : kept f V (2 * i) = true := by
      unfold kept
      rw [if_pos (by omega), show 2 * i / 2 = i by omega]
      exact decide_eq_true (by omega)
    have mk : ∀ x, x < 2 * V.length → kept f V x = true → x ∈ (List.range (2 * V.length)).filter (kept f V) := fun x h k => List.mem_filter.mpr ⟨List.mem_range.mpr h, k⟩
    -- ahead
    have ah : ∃ x, x < 2 * V.length ∧ kept f V x = true ∧ (x = 2 * i + 1 ∨ x = 2 * ((i + 1) % V.length)) := by
      rcases Int.lt_or_le (sg f V (i + 1)) 0 with q | q
      · refine ⟨2 * i + 1, by omega, ?_, .inl rfl⟩
        unfold kept
        rw [if_neg (by omega), show (2 * i + 1) / 2 = i by omega]
        exact decide_eq_true (.inl ⟨s0, q⟩)
      · have := Nat.mod_lt (i + 1) hn
        refine ⟨2 * ((i + 1) % V.length), by omega, ?_, .inr rfl⟩
        unfold kept
        rw [if_pos (by omega), show 2 * ((i + 1) % V.length) / 2 = (i + 1) % V.length by omega]
        unfold sg at q ⊢
        rw [Nat.mod_mod]
        exact decide_eq_true q
    have bh : ∃ x, x < 2 * V.length ∧ kept f V x = true ∧ (x = 2 * ((i + (V.length - 1)) % V.length) + 1 ∨ x = 2 * ((i + (V.length - 1)) % V.length)) := by
      have hm := Nat.mod_lt (i + (V.length - 1)) hn
      have e : ((i + (V.length - 1)) % V.length + 1) % V.length = i := by
        rw [Nat.mod_add_mod, show i + (V.length - 1) + 1 = i + V.length by omega, Nat.add_mod_right, Nat.mod_eq_of_lt hi]
      have es : sg f V ((i + (V.length - 1)) % V.length + 1) = sg f V i := by
        unfold sg
        rw [e, Nat.mod_eq_of_lt hi]
      rcases Int.lt_or_le (sg f V ((i + (V.length - 1)) % V.length)) 0 with q | q
      · refine ⟨_, by omega, ?_, .inl rfl⟩
        unfold kept
        rw [if_neg (by omega), show (2 * ((i + (V.length - 1)) % V.length) + 1) / 2 = (i + (V.length - 1)) % V.length by omega, es]
        exact decide_eq_true (.inr ⟨q, s0⟩)
      · refine ⟨_, by omega, ?_, .inr rfl⟩
        unfold kept
        rw [if_pos (by omega), show (2 * ((i + (V.length - 1)) % V.length)) / 2 = (i + (V.length - 1)) % V.length by omega]
        exact decide_eq_true q
    obtain ⟨x, hx, kx, ex⟩ := ah
    obtain ⟨y, hy, ky, ey⟩ := bh
    have c1 : (i + 1) % V.length = i + 1 ∧ i + 1 < V.length ∨ (i + 1) % V.length = 0 ∧ i + 1 = V.length := by
      rcases Nat.lt_or_ge (i + 1) V.length with z | z
      · exact .inl ⟨Nat.mod_eq_of_lt z, z⟩
      · exact .inr ⟨by rw [show i + 1 = V.length by omega, Nat.mod_self], by omega⟩
    have c2 : (i + (V.length - 1)) % V.length = i - 1 ∧ 0 < i ∨ (i + (V.length - 1)) % V.length = V.length - 1 ∧ i = 0 := by
      rcases Nat.eq_zero_or_pos i with z | z
      · exact .inr ⟨by rw [z, Nat.zero_add]; exact Nat.mod_eq_of_lt (by omega), z⟩
      · exact .inl ⟨by rw [show i + (V.length - 1) = i - 1 + V.length by omega, Nat.add_mod_right, Nat.mod_eq_of_lt (by omega)], z⟩
    exact nodup3 (mk _ (by omega) k0) (mk x hx kx) (mk y hy ky) (by omega) (by omega) (by omega)
  · intro i j k hij hjk hk
    rw [clip_at (by omega), clip_at (by omega), clip_at hk]
    have hk' := hk
    rw [clip_len] at hk'
    exact tri_val n3 I.tri I.one (mono_at so hij (by omega)) (mono_at so hjk hk') (clip_pos hk).1 (clip_pos (by omega)).2 (clip_pos (by omega)).2 (clip_pos hk).2
  · intro k hk
    rw [clip_at hk]
    exact (val_ok I.one I.prm hn (clip_pos hk).2).2
  · intro k hk
    rw [clip_at hk]
    exact (val_ok I.one I.prm hn (clip_pos hk).2).1
  · intro g mg k hk
    rw [clip_at hk]
    have kp := (clip_pos hk).2
    generalize ((List.range (2 * V.length)).filter (kept f V)).getD k 0 = p at kp
    rcases List.mem_cons.mp mg with rfl | mg
    · by_cases e : p % 2 = 1
      · rw [val_on I.one hn kp e]; exact Int.le_refl _
      · unfold kept at kp
        rw [if_pos (by omega)] at kp
        unfold val
        rw [if_pos (by omega)]
        exact of_decide_eq_true kp
    · obtain ⟨t, a, b, ht, ha, hb, _, _, ex⟩ := val_ex I.one hn kp
      refine nn_of_mul ht ?_
      rw [← ev_s, ex, ev_c]
      exact Int.add_nonneg (mul_nn (Int.le_of_lt ha) (I.nn g mg _ (Nat.mod_lt _ hn))) (mul_nn hb (I.nn g mg _ (Nat.mod_lt _ hn)))
  · intro g mg
    rcases List.mem_cons.mp mg with rfl | mg
    · exact hf
    · exact I.ne g mg
  · intro k hk
    have h0 : 0 < (clip f V).length := by omega
    have hl := clip_len f V
    rcases Nat.lt_or_ge (k + 1) (clip f V).length with q | q
    · rw [Nat.mod_eq_of_lt q, clip_at hk, clip_at q]
      exact edge_lab I (clip_pos hk).2 (clip_pos q).2 (mono_at so (Nat.lt_succ_self k) (by omega)) fun x h1 h2 => gap_in (by omega) h1 h2
    · obtain rfl : k = (clip f V).length - 1 := by omega
      rw [show (clip f V).length - 1 + 1 = (clip f V).length by omega, Nat.mod_self, clip_at hk, clip_at h0, ← val_mod f V (((List.range (2 * V.length)).filter (kept f V)).getD 0 0)]
      have p1 := clip_pos hk
      have p0 := clip_pos h0
      have hi2 := fun x => gap_hi (P := kept f V) (N := 2 * V.length) (x := x) (by omega)
      rw [hl] at p1 ⊢
      refine edge_lab I p1.2 (by rw [kept_mod]; exact p0.2) (by omega) fun x h1 h2 => ?_
      rcases Nat.lt_or_ge x (2 * V.length) with z | z
      · exact hi2 x h1 z
      · have := gap_lo (P := kept f V) (N := 2 * V.length) (x := x - 2 * V.length) (by omega) (by omega)
        rw [← kept_mod, show x - 2 * V.length + 2 * V.length = x by omega] at this
        exact this
/-! ### polygons of places -/
def at' (r : List Pt) (k : Nat) : Pt := r.getD k (0, 0)
theorem at_some {r : List Pt} {k : Nat} (h : k < r.length) : r[k]? = some (at' r k) := by
  unfold at'
  rw [List.getElem?_eq_getElem h, List.getD_eq_getElem?_getD, List.getElem?_eq_getElem h]
  rfl
/-- corners to the left all the way -/
structure Conv (c : List Pt) : Prop where
  n3 : 3 ≤ c.length
  tri : ∀ i j k, i < j → j < k → k < c.length → 0 < det3 (lift (at' c i)) (lift (at' c j)) (lift (at' c k))
def edge (c : List Pt) (k : Nat) : Ln := (at' c k, at' c ((k + 1) % c.length))
def edges (c : List Pt) : List Ln := (List.range c.length).map (edge c)
theorem mem_edges {c : List Pt} {g : Ln} : g ∈ edges c ↔ ∃ k, k < c.length ∧ g = edge c k := by
  unfold edges
  simp only [List.mem_map, List.mem_range]
  constructor
  · rintro ⟨k, h, e⟩; exact ⟨k, h, e.symm⟩
  · rintro ⟨k, h, e⟩; exact ⟨k, h, e.symm⟩
theorem lift_at {c : List Pt} {k : Nat} (h : k < c.length) : a3 (c.map lift) k = lift (at' c k) := by
  unfold a3
  rw [List.getD_eq_getElem?_getD, List.getElem?_map, at_some h]
  rfl
theorem Conv.edge_nn {c : List Pt} (C : Conv c) {k j : Nat} (hk : k < c.length) (hj : j < c.length) : 0 ≤ ev (edge c k) (lift (at' c j)) ∧ (j ≠ k → j ≠ (k + 1) % c.length → 0 < ev (edge c k) (lift (at' c j))) := by
  unfold edge
  rw [ev_det]
  rcases Nat.lt_or_ge (k + 1) c.length with q | q
  · rw [Nat.mod_eq_of_lt q]
    by_cases e1 : j = k
    · subst e1
      rw [det_cyc, det_cyc, det_aa]
      exact ⟨Int.le_refl _, fun h => absurd rfl h⟩
    by_cases e2 : j = k + 1
    · subst e2
      rw [det_bb]
      exact ⟨Int.le_refl _, fun _ h => absurd rfl h⟩
    have : 0 < det3 (lift (at' c k)) (lift (at' c (k + 1))) (lift (at' c j)) := by
      rcases Nat.lt_or_ge j k with r | r
      · rw [← det_cyc]; exact C.tri _ _ _ r (by omega) q
      · exact C.tri _ _ _ (by omega) (by omega) hj
    exact ⟨by omega, fun _ _ => this⟩
  · have : k + 1 = c.length := by omega
    rw [this, Nat.mod_self]
    by_cases e1 : j = k
    · subst e1
      rw [det_cyc, det_cyc, det_aa]
      exact ⟨Int.le_refl _, fun h => absurd rfl h⟩
    by_cases e2 : j = 0
    · subst e2
      rw [det_bb]
      exact ⟨Int.le_refl _, fun _ h => absurd rfl h⟩
    have : 0 < det3 (lift (at' c k)) (lift (at' c 0)) (lift (at' c j)) := by
      rw [det_cyc]; exact C.tri _ _ _ (by omega) (by omega) hk
    exact ⟨by omega, fun _ _ => this⟩
theorem Conv.edge_ne {c : List Pt} (C : Conv c) {k : Nat} (hk : k < c.length) : (edge c k).1 ≠ (edge c k).2 := fun e => by
  have n3 := C.n3
  obtain ⟨j, hj, h1, h2⟩ : ∃ j, j < c.length ∧ j ≠ k ∧ j ≠ (k + 1) % c.length := by
    have := Nat.mod_lt (k + 1) (show 0 < c.length by omega)
    by_cases a : 0 ≠ k ∧ 0 ≠ (k + 1) % c.length
    · exact ⟨0, by omega, a.1, a.2⟩
    · by_cases b : 1 ≠ k ∧ 1 ≠ (k + 1) % c.length
      · exact ⟨1, by omega, b.1, b.2⟩
      · exact ⟨2, by omega, by omega, by omega⟩
  have := (C.edge_nn hk hj).2 h1 h2
  unfold ev at this
  rw [e] at this
  simp only [Int.sub_self, Int.zero_mul] at this
  omega
theorem Conv.edge_pos {c : List Pt} (C : Conv c) {k : Nat} (hk : k < c.length) : ∃ j, j < c.length ∧ 0 < ev (edge c k) (lift (at' c j)) := by
  have n3 := C.n3
  obtain ⟨j, hj, h1, h2⟩ : ∃ j, j < c.length ∧ j ≠ k ∧ j ≠ (k + 1) % c.length := by
    have := Nat.mod_lt (k + 1) (show 0 < c.length by omega)
    by_cases a : 0 ≠ k ∧ 0 ≠ (k + 1) % c.length
    · exact ⟨0, by omega, a.1, a.2⟩
    · by_cases b : 1 ≠ k ∧ 1 ≠ (k + 1) % c.length
      · exact ⟨1, by omega, b.1, b.2⟩
      · exact ⟨2, by omega, by omega, by omega⟩
  exact ⟨j, hj, (C.edge_nn hk hj).2 h1 h2⟩
theorem conv_pg {c : List Pt} (C : Conv c) : Pg (edges c) (c.map lift) := by
  have hn : 0 < c.length := by have := C.n3; omega
  have hm := fun k => Nat.mod_lt k hn
  refine ⟨by rw [List.length_map]; exact C.n3, ?_, ?_, ?_, ?_, ?_, ?_⟩
  · intro i j k h1 h2 h3
    rw [List.length_map] at h3
    rw [lift_at (by omega), lift_at (by omega), lift_at h3]
    exact C.tri i j k h1 h2 h3
  · intro i hi
    rw [List.length_map] at hi
    rw [lift_at hi]
    exact Int.le_refl _
  · intro i hi
    rw [List.length_map] at hi
    rw [lift_at hi]
    unfold prim gc lift
    simp
  · intro g mg i hi
    rw [List.length_map] at hi
    obtain ⟨k, hk, rfl⟩ := mem_edges.mp mg
    rw [lift_at hi]
    exact (C.edge_nn hk hi).1
  · intro g mg
    obtain ⟨k, hk, rfl⟩ := mem_edges.mp mg
    exact C.edge_ne hk
  · intro i hi
    rw [List.length_map] at hi ⊢
    refine ⟨edge c i, mem_edges.mpr ⟨i, hi, rfl⟩, ?_, ?_⟩
    · rw [lift_at hi]
      unfold edge
      rw [ev_det, det_cyc, det_cyc, det_aa]
    · rw [lift_at (hm _)]
      unfold edge
      rw [ev_det, det_bb]
/-! ### an edge that parts, or something in common -/
/-- the third corner is strictly on the side of an edge's line -/
theorem Pg.lab_pos {G : List Ln} {V : List P3} (I : Pg G V) {g : Ln} (mg : g ∈ G) {u v w : P3} (d : det3 u v w ≠ 0) (h1 : ev g u = 0) (h2 : ev g v = 0) (h3 : 0 ≤ ev g w) : 0 < ev g w := by
  rcases Int.lt_or_le 0 (ev g w) with q | q
  · exact q
  · exact absurd (line_zero d h1 h2 (by omega)) (I.ne g mg)
theorem max_at (V : List P3) (f : Ln) (h1 : ∀ i, i < V.length → 1 ≤ (a3 V i).2.2) : ∀ n, 0 < n → n ≤ V.length → ∃ i, i < n ∧ ∀ j, j < n → ev f (a3 V j) * (a3 V i).2.2 ≤ ev f (a3 V i) * (a3 V j).2.2
  | 1, _, _ => ⟨0, by omega, fun j hj => by
    have : j = 0 := by omega
    subst this
    exact Int.le_refl _⟩
  | n + 2, _, hn => by
    obtain ⟨i, hi, h⟩ := max_at V f h1 (n + 1) (by omega) (by omega)
    have wi := h1 i (by omega)
    have wn := h1 (n + 1) (by omega)
    rcases Int.lt_or_le (ev f (a3 V i) * (a3 V (n + 1)).2.2) (ev f (a3 V (n + 1)) * (a3 V i).2.2) with q | q
    · refine ⟨n + 1, by omega, fun j hj => ?_⟩
      rcases Nat.lt_or_ge j (n + 1) with r | r
      · have a := h j r
        have wj := h1 j (by omega)
        -- ev j / wj <= ev i / wi < ev n / wn
        have e1 := Int.mul_le_mul_of_nonneg_right a (show 0 ≤ (a3 V (n + 1)).2.2 by omega)
        have e2 := Int.mul_le_mul_of_nonneg_right (Int.le_of_lt q) (show 0 ≤ (a3 V j).2.2 by omega)
        refine Int.le_of_mul_le_mul_right (a := (a3 V i).2.2) ?_ (by omega)
        calc ev f (a3 V j) * (a3 V (n + 1)).2.2 * (a3 V i).2.2 = ev f (a3 V j) * (a3 V i).2.2 * (a3 V (n + 1)).2.2 := by grind
          _ ≤ ev f (a3 V i) * (a3 V j).2.2 * (a3 V (n + 1)).2.2 := e1
          _ = ev f (a3 V i) * (a3 V (n + 1)).2.2 * (a3 V j).2.2 := by grind
          _ ≤ ev f (a3 V (n + 1)) * (a3 V i).2.2 * (a3 V j).2.2 := e2
          _ = ev f (a3 V (n + 1)) * (a3 V j).2.2 * (a3 V i).2.2 := by grind
      · obtain rfl : j = n + 1 := by omega
        exact Int.le_refl _
    · refine ⟨i, by omega, fun j hj => ?_⟩
      rcases Nat.lt_or_ge j (n + 1) with r | r
      · exact h j r
      · obtain rfl : j = n + 1 := by omega
        exact q
/-- three forms at a corner and its neighbours -/
theorem three {f a b : Ln} {u v w : P3} (d : det3 u v w ≠ 0) (a1 : ev a u = 0) (a2 : ev a v = 0) (b1 : ev b v = 0) (b2 : ev b w = 0) (z : P3) :
    v.2.2 * (ev a w * ev b u) * ev f z + (ev f v * w.2.2 - ev f w * v.2.2) * ev b u * ev a z + (ev f v * u.2.2 - ev f u * v.2.2) * ev a w * ev b z = ev a w * ev b u * ev f v * z.2.2 := by
  -- the form that is nought at u, v, w
  have lin : ∀ z : P3, fm ((v.2.2 * (ev a w * ev b u) * (co f).1 + (ev f v * w.2.2 - ev f w * v.2.2) * ev b u * (co a).1 + (ev f v * u.2.2 - ev f u * v.2.2) * ev a w * (co b).1,
      v.2.2 * (ev a w * ev b u) * (co f).2.1 + (ev f v * w.2.2 - ev f w * v.2.2) * ev b u * (co a).2.1 + (ev f v * u.2.2 - ev f u * v.2.2) * ev a w * (co b).2.1,
      v.2.2 * (ev a w * ev b u) * (co f).2.2 + (ev f v * w.2.2 - ev f w * v.2.2) * ev b u * (co a).2.2 + (ev f v * u.2.2 - ev f u * v.2.2) * ev a w * (co b).2.2 - ev a w * ev b u * ev f v) : P3) z
      = v.2.2 * (ev a w * ev b u) * ev f z + (ev f v * w.2.2 - ev f w * v.2.2) * ev b u * ev a z + (ev f v * u.2.2 - ev f u * v.2.2) * ev a w * ev b z - ev a w * ev b u * ev f v * z.2.2 := fun z => by
    rw [ev_fm f z, ev_fm a z, ev_fm b z]
    unfold fm
    simp only
    generalize ev a w = x1
    generalize ev b u = x2
    generalize ev f v = x3
    generalize ev f w = x4
    generalize ev f u = x5
    grind
  have c := cram (v.2.2 * (ev a w * ev b u) * (co f).1 + (ev f v * w.2.2 - ev f w * v.2.2) * ev b u * (co a).1 + (ev f v * u.2.2 - ev f u * v.2.2) * ev a w * (co b).1,
      v.2.2 * (ev a w * ev b u) * (co f).2.1 + (ev f v * w.2.2 - ev f w * v.2.2) * ev b u * (co a).2.1 + (ev f v * u.2.2 - ev f u * v.2.2) * ev a w * (co b).2.1,
      v.2.2 * (ev a w * ev b u) * (co f).2.2 + (ev f v * w.2.2 - ev f w * v.2.2) * ev b u * (co a).2.2 + (ev f v * u.2.2 - ev f u * v.2.2) * ev a w * (co b).2.2 - ev a w * ev b u * ev f v) u v w z
  have l1 := lin u
  have l2 := lin v
  have l3 := lin w
  have lz := lin z
  rw [a1] at l1
  rw [a2, b1] at l2
  rw [b2] at l3
  have z1 : ∀ x y : Int, x = y → y = 0 → x = 0 := fun x y h k => h.trans k
  have l1 := z1 _ _ l1 (by generalize ev a w = x1; generalize ev b u = x2; generalize ev f v = x3; generalize ev f u = x5; generalize ev f w = x4; grind)
  have l2 := z1 _ _ l2 (by generalize ev a w = x1; generalize ev b u = x2; generalize ev f v = x3; generalize ev f u = x5; generalize ev f w = x4; grind)
  have l3 := z1 _ _ l3 (by generalize ev a w = x1; generalize ev b u = x2; generalize ev f v = x3; generalize ev f u = x5; generalize ev f w = x4; grind)
  rw [l1, l2, l3, Int.zero_mul, Int.zero_mul, Int.zero_mul] at c
  have := (Int.mul_eq_zero.mp c).resolve_left d
  rw [lz] at this
  omega
theorem Pg.turn {G : List Ln} {V : List P3} (I : Pg G V) {i : Nat} (hi : i < V.length) : 0 < det3 (a3 V ((i + (V.length - 1)) % V.length)) (a3 V i) (a3 V ((i + 1) % V.length)) := by
  have n3 := I.n3
  rcases Nat.eq_zero_or_pos i with z | z
  · subst z
    rw [Nat.zero_add, Nat.mod_eq_of_lt (show V.length - 1 < V.length by omega), Nat.mod_eq_of_lt (show 0 + 1 < V.length by omega), det_cyc]
    exact I.tri _ _ _ (by omega) (by omega) (by omega)
  · rw [show i + (V.length - 1) = i - 1 + V.length by omega, Nat.add_mod_right, Nat.mod_eq_of_lt (show i - 1 < V.length by omega)]
    rcases Nat.lt_or_ge (i + 1) V.length with q | q
    · rw [Nat.mod_eq_of_lt q]
      exact I.tri _ _ _ (by omega) (by omega) q
    · rw [show i + 1 = V.length by omega, Nat.mod_self, ← det_cyc]
      exact I.tri _ _ _ (by omega) (by omega) hi
theorem Pg.nbr {G : List Ln} {V : List P3} (I : Pg G V) {i : Nat} (hi : i < V.length) : ∃ u w a b, a ∈ G ∧ b ∈ G ∧ (∃ k, k < V.length ∧ u = a3 V k) ∧ (∃ k, k < V.length ∧ w = a3 V k) ∧ 0 < det3 u (a3 V i) w ∧ ev a u = 0 ∧ ev a (a3 V i) = 0 ∧ ev b (a3 V i) = 0 ∧ ev b w = 0 ∧ 0 < ev a w ∧ 0 < ev b u := by
  have hn : 0 < V.length := by omega
  have t := I.turn hi
  have m1 := Nat.mod_lt (i + (V.length - 1)) hn
  have m2 := Nat.mod_lt (i + 1) hn
  obtain ⟨a, ma, a1, a2⟩ := I.lab _ m1
  obtain ⟨b, mb, b1, b2⟩ := I.lab i hi
  rw [Nat.mod_add_mod, show i + (V.length - 1) + 1 = i + V.length by omega, Nat.add_mod_right, Nat.mod_eq_of_lt hi] at a2
  exact ⟨_, _, a, b, ma, mb, ⟨_, m1, rfl⟩, ⟨_, m2, rfl⟩, t, a1, a2, b1, b2, I.lab_pos ma (by omega) a1 a2 (I.nn a ma _ m2), I.lab_pos mb (by rw [← det_cyc]; omega) b1 b2 (I.nn b mb _ m1)⟩
/-- none of P's edges has Q behind it, none of Q's edges has P behind it -/
structure NoPart (P Q : List Pt) : Prop where
  p : ∀ k, k < P.length → ∃ j, j < Q.length ∧ 0 < ev (edge P k) (lift (at' Q j))
  q : ∀ k, k < Q.length → ∃ j, j < P.length ∧ 0 < ev (edge Q k) (lift (at' P j))
theorem not_all_out {P Q : List Pt} (CP : Conv P) (CQ : Conv Q) (N : NoPart P Q) {G : List Ln} {V : List P3} (I : Pg G V) (sub : ∀ g ∈ G, g ∈ edges P ∨ g ∈ edges Q) {m : Nat} (hm : m < Q.length) (h : ∀ i, i < V.length → ev (edge Q m) (a3 V i) ≤ 0) : False := by
  have n3 := I.n3
  obtain ⟨i, hi, mx⟩ := max_at V (edge Q m) I.one V.length (by omega) (Nat.le_refl _)
  obtain ⟨u, w, a, b, ma, mb, ⟨ku, hu, eu⟩, ⟨kw, hw, ew⟩, d, a1, a2, b1, b2, aw, bu⟩ := I.nbr hi
  have fv := h i hi
  have mu := mx ku hu
  have mw := mx kw hw
  rw [← eu] at mu
  rw [← ew] at mw
  have wv := I.one i hi
  generalize hv : a3 V i = v at *
  generalize hf : edge Q m = f at *
  have T := fun z => three (f := f) (by omega) a1 a2 b1 b2 z
  have hN : 0 < v.2.2 * (ev a w * ev b u) := mul_pp (by omega) (mul_pp aw bu)
  have hl : 0 ≤ (ev f v * w.2.2 - ev f w * v.2.2) * ev b u := mul_nn (by omega) (by omega)
  have hmu : 0 ≤ (ev f v * u.2.2 - ev f u * v.2.2) * ev a w := mul_nn (by omega) (by omega)
  have rhs : ev a w * ev b u * ev f v ≤ 0 := by
    have := mul_nn (Int.le_of_lt (mul_pp aw bu)) (show 0 ≤ - ev f v by omega)
    rw [Int.mul_neg] at this
    omega
  generalize v.2.2 * (ev a w * ev b u) = n at *
  generalize (ev f v * w.2.2 - ev f w * v.2.2) * ev b u = l at *
  generalize (ev f v * u.2.2 - ev f u * v.2.2) * ev a w = r at *
  generalize ev a w * ev b u * ev f v = x at *
  have K : ∀ p : Pt, n * ev f (lift p) + l * ev a (lift p) + r * ev b (lift p) ≤ 0 := fun p => by
    rw [T]
    show x * 1 ≤ 0
    omega
  have inP : ∀ g ∈ edges P, ∀ j, j < P.length → 0 ≤ ev g (lift (at' P j)) := fun g mg j hj => by
    obtain ⟨k, hk, rfl⟩ := mem_edges.mp mg
    exact (CP.edge_nn hk hj).1
  have inQ : ∀ g ∈ edges Q, ∀ j, j < Q.length → 0 ≤ ev g (lift (at' Q j)) := fun g mg j hj => by
    obtain ⟨k, hk, rfl⟩ := mem_edges.mp mg
    exact (CQ.edge_nn hk hj).1
  have fQ : ∀ j, j < Q.length → 0 ≤ ev f (lift (at' Q j)) := inQ f (mem_edges.mpr ⟨m, hm, hf.symm⟩)
  obtain ⟨j0, hj0, pos0⟩ := CQ.edge_pos hm
  rw [hf] at pos0
  obtain ⟨j1, hj1, pos1⟩ := N.q m hm
  rw [hf] at pos1
  have np : ∀ {a b : Int}, 0 < a → 0 < b → 0 < a * b := fun h k => mul_pp h k
  -- a line of P with a line of Q
  have mixed : ∀ (a b : Ln) (l r : Int), 0 ≤ l → 0 ≤ r → a ∈ edges P → b ∈ edges Q → (∀ p : Pt, n * ev f (lift p) + l * ev a (lift p) + r * ev b (lift p) ≤ 0) → False := fun a b l r hl hr ha hb K => by
    obtain ⟨k, hk, rfl⟩ := mem_edges.mp ha
    obtain ⟨j2, hj2, pos2⟩ := N.p k hk
    have k2 := K (at' Q j2)
    have x1 := mul_nn (Int.le_of_lt hN) (fQ j2 hj2)
    have x2 := mul_nn hr (inQ b hb j2 hj2)
    rcases Int.lt_or_le 0 l with q | q
    · have := mul_pp q pos2
      omega
    · have l0 : l = 0 := by omega
      subst l0
      have k0 := K (at' Q j0)
      have y1 := mul_pp hN pos0
      have y2 := mul_nn hr (inQ b hb j0 hj0)
      rw [Int.zero_mul] at k0
      omega
  rcases sub a ma with ha | ha <;> rcases sub b mb with hb | hb
  · have k1 := K (at' P j1)
    have y1 := mul_pp hN pos1
    have y2 := mul_nn hl (inP a ha j1 hj1)
    have y3 := mul_nn hmu (inP b hb j1 hj1)
    omega
  · exact mixed a b l r hl hmu ha hb K
  · exact mixed b a r l hmu hl hb ha fun p => by have := K p; omega
  · have k1 := K (at' Q j0)
    have y1 := mul_pp hN pos0
    have y2 := mul_nn hl (inQ a ha j0 hj0)
    have y3 := mul_nn hmu (inQ b hb j0 hj0)
    omega
/-! ### what they have in common -/
def meetN (P Q : List Pt) : Nat → List P3
  | 0 => P.map lift
  | k + 1 => clip (edge Q k) (meetN P Q k)
structure MI (P Q : List Pt) (m : Nat) (V : List P3) : Prop where
  ex : ∃ G, Pg G V ∧ (∀ g ∈ G, g ∈ edges P ∨ g ∈ edges Q) ∧ (∀ g ∈ edges P, g ∈ G) ∧ (∀ k, k < m → edge Q k ∈ G) ∧ G.length = P.length + m
theorem meet_ok {P Q : List Pt} (CP : Conv P) (CQ : Conv Q) (N : NoPart P Q) : ∀ m, m ≤ Q.length → MI P Q m (meetN P Q m)
  | 0, _ => ⟨edges P, conv_pg CP, fun g h => .inl h, fun g h => h, fun k h => absurd h (Nat.not_lt_zero _), by unfold edges; simp⟩
  | m + 1, hm => by
    obtain ⟨G, I, sub, hp, hq, hl⟩ := (meet_ok CP CQ N m (by omega)).ex
    have h : ∃ i, i < (meetN P Q m).length ∧ 0 < ev (edge Q m) (a3 (meetN P Q m) i) := by
      refine Classical.byContradiction fun no => not_all_out CP CQ N I sub (show m < Q.length by omega) fun i hi => ?_
      rcases Int.lt_or_le 0 (ev (edge Q m) (a3 (meetN P Q m) i)) with q | q
      · exact absurd ⟨i, hi, q⟩ no
      · exact q
    obtain ⟨i, hi, pos⟩ := h
    refine ⟨edge Q m :: G, clip_pg I (CQ.edge_ne (by omega)) hi pos, fun g mg => ?_, fun g mg => List.mem_cons_of_mem _ (hp g mg), fun k hk => ?_, by rw [List.length_cons]; omega⟩
    · rcases List.mem_cons.mp mg with rfl | mg
      · exact .inr (mem_edges.mpr ⟨m, by omega, rfl⟩)
      · exact sub g mg
    · rcases Nat.lt_or_ge k m with q | q
      · exact List.mem_cons_of_mem _ (hq k q)
      · obtain rfl : k = m := by omega
        exact List.mem_cons_self
/-! the middle -/
def prodB : List P3 → Int
  | [] => 1
  | v :: V => v.2.2 * prodB V
def sumX (B : Int) (V : List P3) : Int := (V.map fun v => v.1 * (B / v.2.2)).sum
def sumY (B : Int) (V : List P3) : Int := (V.map fun v => v.2.1 * (B / v.2.2)).sum
def mid (V : List P3) : P3 := lowest (sumX (prodB V) V) (sumY (prodB V) V) (prodB V * V.length)
theorem prod_pos : ∀ {V : List P3}, (∀ v ∈ V, 1 ≤ v.2.2) → 1 ≤ prodB V
  | [], _ => Int.le_refl _
  | v :: V, h => by
    have a := h v (by simp)
    have b := prod_pos (V := V) fun x hx => h x (by simp [hx])
    have := mul_pp (show 0 < v.2.2 by omega) (show 0 < prodB V by omega)
    show 1 ≤ v.2.2 * prodB V
    omega
theorem prod_dvd : ∀ {V : List P3} {v : P3}, v ∈ V → v.2.2 ∣ prodB V
  | u :: V, v, h => by
    rcases List.mem_cons.mp h with rfl | h
    · exact Int.dvd_mul_right _ _
    · exact Int.dvd_trans (prod_dvd h) (Int.dvd_mul_left _ _)
theorem ev_sums (g : Ln) (B : Int) : ∀ V : List P3, (∀ v ∈ V, v.2.2 ∣ B) → ev g (sumX B V, sumY B V, B * V.length) = (V.map fun v => B / v.2.2 * ev g v).sum
  | [], _ => by simp [ev, sumX, sumY]
  | v :: V, h => by
    have ih := ev_sums g B V fun x hx => h x (by simp [hx])
    have e := Int.mul_ediv_cancel' (h v (by simp))
    have ex : sumX B (v :: V) = v.1 * (B / v.2.2) + sumX B V := rfl
    have ey : sumY B (v :: V) = v.2.1 * (B / v.2.2) + sumY B V := rfl
    rw [List.map_cons, List.sum_cons, ← ih, ex, ey, List.length_cons]
    generalize hw : B / v.2.2 = w at *
    unfold ev
    simp only
    have el : B * ((V.length + 1 : Nat) : Int) = v.2.2 * w + B * V.length := by
      rw [e]
      grind
    rw [el]
    grind
theorem sum_pos {α : Type} {f : α → Int} : ∀ {V : List α}, (∀ v ∈ V, 0 ≤ f v) → (∃ v ∈ V, 0 < f v) → 0 < (V.map f).sum
  | [], _, ⟨v, h, _⟩ => by cases h
  | u :: V, h, ⟨v, mv, p⟩ => by
    rw [List.map_cons, List.sum_cons]
    have h0 := h u (by simp)
    have nn : ∀ W : List α, (∀ v ∈ W, 0 ≤ f v) → 0 ≤ (W.map f).sum := fun W hW => by
      induction W with
      | nil => simp
      | cons a W ih =>
        rw [List.map_cons, List.sum_cons]
        have := hW a (by simp)
        have := ih fun v hv => hW v (by simp [hv])
        omega
    rcases List.mem_cons.mp mv with rfl | mv
    · have := nn V fun x hx => h x (by simp [hx])
      omega
    · have := sum_pos (V := V) (fun x hx => h x (by simp [hx])) ⟨v, mv, p⟩
      omega
theorem mem_a3 {V : List P3} {v : P3} (h : v ∈ V) : ∃ i, i < V.length ∧ a3 V i = v := by
  obtain ⟨i, hi, e⟩ := List.getElem_of_mem h
  exact ⟨i, hi, by unfold a3; rw [List.getD_eq_getElem?_getD, List.getElem?_eq_getElem hi]; exact e⟩
theorem a3_mem {V : List P3} {i : Nat} (h : i < V.length) : a3 V i ∈ V := by
  unfold a3
  rw [List.getD_eq_getElem?_getD, List.getElem?_eq_getElem h]
  exact List.getElem_mem h
theorem Pg.some_pos {G : List Ln} {V : List P3} (I : Pg G V) {g : Ln} (mg : g ∈ G) : ∃ v ∈ V, 0 < ev g v := by
  have n3 := I.n3
  have d := I.tri 0 1 2 (by omega) (by omega) (by omega)
  have nn := fun i => I.nn g mg i
  rcases Int.lt_or_le 0 (ev g (a3 V 0)) with q | q
  · exact ⟨_, a3_mem (by omega), q⟩
  rcases Int.lt_or_le 0 (ev g (a3 V 1)) with r | r
  · exact ⟨_, a3_mem (by omega), r⟩
  refine ⟨_, a3_mem (i := 2) (by omega), I.lab_pos (u := a3 V 0) (v := a3 V 1) (w := a3 V 2) mg (by omega) ?_ ?_ (nn 2 (by omega))⟩
  · have := nn 0 (by omega); omega
  · have := nn 1 (by omega); omega
theorem mid_pre {V : List P3} (h : ∀ v ∈ V, 1 ≤ v.2.2) (hn : 0 < V.length) : 1 ≤ prodB V * V.length := by
  have := mul_pp (show 0 < prodB V by have := prod_pos h; omega) (show (0 : Int) < V.length by omega)
  omega
theorem mid_in {G : List Ln} {V : List P3} (I : Pg G V) : 1 ≤ (mid V).2.2 ∧ ∀ g ∈ G, 0 < ev g (mid V) := by
  have n3 := I.n3
  have h1 : ∀ v ∈ V, 1 ≤ v.2.2 := fun v mv => by
    obtain ⟨i, hi, rfl⟩ := mem_a3 mv
    exact I.one i hi
  obtain ⟨t1, e, _, b⟩ := lowest_spec (x := sumX (prodB V) V) (y := sumY (prodB V) V) (mid_pre h1 (by omega))
  refine ⟨b, fun g mg => ?_⟩
  refine pos_of_mul (a := gc (sumX (prodB V) V) (sumY (prodB V) V) (prodB V * V.length)) (by omega) ?_
  rw [← ev_s]
  unfold mid
  rw [e, ev_sums g (prodB V) V fun v mv => prod_dvd mv]
  have wp : ∀ v ∈ V, 0 < prodB V / v.2.2 := fun v mv => by
    have k := Int.mul_ediv_cancel' (prod_dvd mv)
    have p := prod_pos h1
    exact pos_of_mul (a := v.2.2) (by have := h1 v mv; omega) (by omega)
  refine sum_pos (fun v mv => ?_) ?_
  · obtain ⟨i, hi, e⟩ := mem_a3 mv
    exact mul_nn (Int.le_of_lt (wp v mv)) (by rw [← e]; exact I.nn g mg i hi)
  · obtain ⟨v, mv, p⟩ := I.some_pos mg
    exact ⟨v, mv, mul_pp (wp v mv) p⟩
/-! ### where a piece may come down -/
def fall (s : Pt) (W : List Pt) (t : Int) : List Pt := W.map fun w => (s.1 + t * w.1, s.2 + t * w.2)
def allOut (g : Ln) (c : List Pt) : Bool := c.all fun p => decide (ev g (lift p) ≤ 0)
def partE (one other : List Pt) : Option Nat := (List.range one.length).find? fun k => allOut (edge one k) other
def insideB (c : List Pt) (z : P3) : Bool := (List.range c.length).all fun k => decide (0 < ev (edge c k) z)
theorem inside_iff {c : List Pt} {z : P3} : insideB c z = true ↔ ∀ k, k < c.length → 0 < ev (edge c k) z := by
  unfold insideB
  rw [List.all_eq_true]
  constructor
  · intro h k hk
    exact of_decide_eq_true (h k (List.mem_range.mpr hk))
  · intro h k hk
    exact decide_eq_true (h k (List.mem_range.mp hk))
theorem mem_pt {c : List Pt} {p : Pt} (h : p ∈ c) : ∃ k, k < c.length ∧ at' c k = p := by
  obtain ⟨i, hi, e⟩ := List.getElem_of_mem h
  exact ⟨i, hi, by unfold at'; rw [List.getD_eq_getElem?_getD, List.getElem?_eq_getElem hi]; exact e⟩
theorem pt_mem {c : List Pt} {k : Nat} (h : k < c.length) : at' c k ∈ c := List.mem_of_getElem? (at_some h)
theorem allOut_iff {g : Ln} {c : List Pt} : allOut g c = true ↔ ∀ j, j < c.length → ev g (lift (at' c j)) ≤ 0 := by
  unfold allOut
  rw [List.all_eq_true]
  constructor
  · intro h k hk
    exact of_decide_eq_true (h _ (pt_mem hk))
  · intro h p hp
    obtain ⟨k, hk, rfl⟩ := mem_pt hp
    exact decide_eq_true (h k hk)
theorem part_none {one other : List Pt} (h : partE one other = none) : ∀ k, k < one.length → ∃ j, j < other.length ∧ 0 < ev (edge one k) (lift (at' other j)) := fun k hk => by
  have := List.find?_eq_none.mp h k (List.mem_range.mpr hk)
  rw [allOut_iff] at this
  refine Classical.byContradiction fun no => this fun j hj => ?_
  rcases Int.lt_or_le 0 (ev (edge one k) (lift (at' other j))) with q | q
  · exact absurd ⟨j, hj, q⟩ no
  · exact q
theorem part_some {one other : List Pt} {k : Nat} (h : partE one other = some k) : k < one.length ∧ ∀ j, j < other.length → ev (edge one k) (lift (at' other j)) ≤ 0 := by
  have m := List.mem_range.mp (List.mem_of_find?_eq_some h)
  have e := List.find?_some h
  exact ⟨m, allOut_iff.mp e⟩
theorem noPart_of {P Q : List Pt} (h1 : partE P Q = none) (h2 : partE Q P = none) : NoPart P Q := ⟨part_none h1, part_none h2⟩
theorem fall_at {s : Pt} {W : List Pt} {t : Int} {k : Nat} (h : k < W.length) : at' (fall s W t) k = (s.1 + t * (at' W k).1, s.2 + t * (at' W k).2) := by
  unfold fall
  rw [show at' (W.map fun w => (s.1 + t * w.1, s.2 + t * w.2)) k = (W.map fun w => (s.1 + t * w.1, s.2 + t * w.2)).getD k (0, 0) from rfl, List.getD_eq_getElem?_getD, List.getElem?_map, at_some h]
  rfl
theorem fall_len (s : Pt) (W : List Pt) (t : Int) : (fall s W t).length = W.length := by unfold fall; rw [List.length_map]
theorem fall_conv {s : Pt} {W : List Pt} {t : Int} (C : Conv W) (ht : 1 ≤ t) : Conv (fall s W t) := by
  refine ⟨by rw [fall_len]; exact C.n3, fun i j k h1 h2 h3 => ?_⟩
  rw [fall_len] at h3
  rw [fall_at (by omega), fall_at (by omega), fall_at h3]
  have p := C.tri i j k h1 h2 h3
  have q := mul_pp (mul_pp (show 0 < t by omega) (show 0 < t by omega)) p
  have e : det3 (lift (s.1 + t * (at' W i).1, s.2 + t * (at' W i).2)) (lift (s.1 + t * (at' W j).1, s.2 + t * (at' W j).2)) (lift (s.1 + t * (at' W k).1, s.2 + t * (at' W k).2)) = t * t * det3 (lift (at' W i)) (lift (at' W j)) (lift (at' W k)) := by
    unfold det3 lift
    grind
  omega
/-- the wind that leads to a place -/
def windTo (s : Pt) (t : Int) (z : P3) : P3 := lowest (z.1 - s.1 * z.2.2) (z.2.1 - s.2 * z.2.2) (z.2.2 * t)
def whereOf (s : Pt) (t : Int) (z : P3) : P3 := (s.1 * z.2.2 + t * z.1, s.2 * z.2.2 + t * z.2.1, z.2.2)
theorem edge_fall {s : Pt} {W : List Pt} {t : Int} {k : Nat} (h : k < W.length) (z : P3) : ev (edge (fall s W t) k) z = t * ev (edge W k) (z.1 - s.1 * z.2.2, z.2.1 - s.2 * z.2.2, t * z.2.2) := by
  unfold edge
  rw [fall_len, fall_at h, fall_at (Nat.mod_lt _ (by omega))]
  unfold ev
  grind
theorem ev_where {s : Pt} {t : Int} {W : List Pt} {k : Nat} (h : k < W.length) (z : P3) : ev (edge (fall s W t) k) (whereOf s t z) = t * t * ev (edge W k) z := by
  rw [edge_fall h]
  unfold whereOf ev
  simp only
  grind
structure Wind (s : Pt) (W : List Pt) (t : Int) (Q : List Pt) (z : P3) : Prop where
  b1 : 1 ≤ z.2.2
  winds : insideB W z = true
  place : insideB Q (whereOf s t z) = true
theorem wind_ok {s : Pt} {W Q : List Pt} {t : Int} (CW : Conv W) (CQ : Conv Q) (ht : 1 ≤ t) (h1 : partE (fall s W t) Q = none) (h2 : partE Q (fall s W t) = none) : Wind s W t Q (windTo s t (mid (meetN (fall s W t) Q Q.length))) := by
  obtain ⟨G, I, sub, hp, hq, _⟩ := (meet_ok (fall_conv CW ht) CQ (noPart_of h1 h2) Q.length (Nat.le_refl _)).ex
  obtain ⟨b, pos⟩ := mid_in I
  generalize mid (meetN (fall s W t) Q Q.length) = z at *
  have bt : 1 ≤ z.2.2 * t := by have := mul_pp (show 0 < z.2.2 by omega) (show 0 < t by omega); omega
  obtain ⟨c1, e, _, lb⟩ := lowest_spec (x := z.1 - s.1 * z.2.2) (y := z.2.1 - s.2 * z.2.2) bt
  have wd : ∀ g, 0 < t * ev g (z.1 - s.1 * z.2.2, z.2.1 - s.2 * z.2.2, t * z.2.2) → 0 < ev g (windTo s t z) := fun g h => by
    refine pos_of_mul (a := gc (z.1 - s.1 * z.2.2) (z.2.1 - s.2 * z.2.2) (z.2.2 * t)) (by omega) ?_
    rw [← ev_s]
    unfold windTo
    rw [e, Int.mul_comm z.2.2 t]
    exact pos_of_mul (by omega) h
  refine ⟨lb, inside_iff.mpr fun k hk => ?_, inside_iff.mpr fun k hk => ?_⟩
  · refine wd _ ?_
    rw [← edge_fall hk]
    exact pos _ (hp _ (mem_edges.mpr ⟨k, by rw [fall_len]; exact hk, rfl⟩))
  · have pk := pos _ (hq k hk)
    refine pos_of_mul (a := gc (z.1 - s.1 * z.2.2) (z.2.1 - s.2 * z.2.2) (z.2.2 * t)) (by omega) ?_
    rw [← ev_s]
    have ew : sm (gc (z.1 - s.1 * z.2.2) (z.2.1 - s.2 * z.2.2) (z.2.2 * t)) (whereOf s t (windTo s t z)) = sm t z := by
      have e1 := congrArg (fun v : P3 => v.1) e
      have e2 := congrArg (fun v : P3 => v.2.1) e
      have e3 := congrArg (fun v : P3 => v.2.2) e
      unfold sm at e1 e2 e3
      simp only at e1 e2 e3
      unfold windTo
      generalize lowest (z.1 - s.1 * z.2.2) (z.2.1 - s.2 * z.2.2) (z.2.2 * t) = l at *
      unfold sm whereOf
      simp only
      refine Prod.ext ?_ (Prod.ext ?_ ?_) <;> simp only <;> grind
    rw [ew, ev_s]
    exact mul_pp (by omega) pk
/-- a point within a polygon lies between three corners -/
theorem fan : ∀ (c : List Pt) (z : P3) (d : Nat), 0 ≤ det3 (lift (at' c 0)) (lift (at' c 1)) z → det3 (lift (at' c 0)) (lift (at' c (d + 2))) z ≤ 0 → ∃ i, 1 ≤ i ∧ i ≤ d + 1 ∧ 0 ≤ det3 (lift (at' c 0)) (lift (at' c i)) z ∧ det3 (lift (at' c 0)) (lift (at' c (i + 1))) z ≤ 0
  | c, z, 0, h, k => ⟨1, by omega, by omega, h, k⟩
  | c, z, d + 1, h, k => by
    rcases Int.lt_or_le 0 (det3 (lift (at' c 0)) (lift (at' c (d + 2))) z) with q | q
    · exact ⟨d + 2, by omega, by omega, Int.le_of_lt q, k⟩
    · obtain ⟨i, h1, h2, h3⟩ := fan c z d h q
      exact ⟨i, h1, by omega, h3⟩
theorem bary {c : List Pt} (C : Conv c) {z : P3} (h : ∀ k, k < c.length → 0 ≤ ev (edge c k) z) : ∃ i, 1 ≤ i ∧ i + 1 < c.length ∧ 0 ≤ det3 z (lift (at' c i)) (lift (at' c (i + 1))) ∧ 0 ≤ det3 (lift (at' c 0)) z (lift (at' c (i + 1))) ∧ 0 ≤ det3 (lift (at' c 0)) (lift (at' c i)) z := by
  have n3 := C.n3
  have h0 := h 0 (by omega)
  have hl := h (c.length - 1) (by omega)
  unfold edge at h0 hl
  rw [ev_det3, Nat.mod_eq_of_lt (by omega)] at h0
  rw [ev_det3, show c.length - 1 + 1 = c.length by omega, Nat.mod_self] at hl
  have sw : ∀ u v w : P3, det3 u v w = - det3 v u w := fun u v w => by unfold det3; grind
  rw [sw] at hl
  obtain ⟨i, i1, i2, p1, p2⟩ := fan c z (c.length - 3) h0 (by rw [show c.length - 3 + 2 = c.length - 1 by omega]; omega)
  have hi := h i (by omega)
  unfold edge at hi
  rw [ev_det3, Nat.mod_eq_of_lt (by omega)] at hi
  refine ⟨i, i1, by omega, by rw [det_cyc]; exact hi, ?_, p1⟩
  have e : det3 (lift (at' c 0)) z (lift (at' c (i + 1))) = - det3 (lift (at' c 0)) (lift (at' c (i + 1))) z := by unfold det3; grind
  omega
theorem ev_le {c : List Pt} (C : Conv c) {z : P3} (h : ∀ k, k < c.length → 0 ≤ ev (edge c k) z) {g : Ln} (hg : ∀ j, j < c.length → ev g (lift (at' c j)) ≤ 0) : ev g z ≤ 0 := by
  obtain ⟨i, i1, i2, d1, d2, d3⟩ := bary C h
  have n3 := C.n3
  have D := C.tri 0 i (i + 1) (by omega) (by omega) i2
  have e := cram (co g) (lift (at' c 0)) (lift (at' c i)) (lift (at' c (i + 1))) z
  rw [← ev_fm, ← ev_fm, ← ev_fm, ← ev_fm] at e
  have a := hg 0 (by omega)
  have b := hg i (by omega)
  have c' := hg (i + 1) (by omega)
  have x := mul_nn (show 0 ≤ -ev g (lift (at' c 0)) by omega) d1
  have y := mul_nn (show 0 ≤ -ev g (lift (at' c i)) by omega) d2
  have w := mul_nn (show 0 ≤ -ev g (lift (at' c (i + 1))) by omega) d3
  rw [Int.neg_mul] at x y w
  rcases Int.lt_or_le 0 (ev g z) with q | q
  · have := mul_pp D q
    omega
  · exact q
/-- what is parted has nothing in common -/
theorem part_no {P Q : List Pt} (CQ : Conv Q) {k : Nat} (h : partE P Q = some k) {z : P3} (hp : insideB P z = true) (hq : insideB Q z = true) : False := by
  obtain ⟨hk, out⟩ := part_some h
  have a := inside_iff.mp hp k hk
  have b := ev_le CQ (fun j hj => Int.le_of_lt (inside_iff.mp hq j hj)) out
  omega
/-! ### sizes -/
def cross (a b : P3) : P3 := (a.2.1 * b.2.2 - a.2.2 * b.2.1, a.2.2 * b.1 - a.1 * b.2.2, a.1 * b.2.1 - a.2.1 * b.1)
theorem cr1 (a b v : P3) : v.1 * (cross a b).2.1 - v.2.1 * (cross a b).1 = fm b v * a.2.2 - fm a v * b.2.2 := by unfold cross fm; grind
theorem cr2 (a b v : P3) : v.1 * (cross a b).2.2 - v.2.2 * (cross a b).1 = fm a v * b.2.1 - fm b v * a.2.1 := by unfold cross fm; grind
theorem cr3 (a b v : P3) : v.2.1 * (cross a b).2.2 - v.2.2 * (cross a b).2.1 = fm b v * a.1 - fm a v * b.1 := by unfold cross fm; grind
theorem indep (a b u w : P3) : fm a w * fm b u - fm a u * fm b w = (cross a b).1 * (w.2.1 * u.2.2 - w.2.2 * u.2.1) + (cross a b).2.1 * (w.2.2 * u.1 - w.1 * u.2.2) + (cross a b).2.2 * (w.1 * u.2.1 - w.2.1 * u.1) := by unfold cross fm; grind
theorem abs_le_of_mul {n v t : Int} (e : n = v * t) (ht : t ≠ 0) {A : Int} (h1 : -A ≤ n) (h2 : n ≤ A) : -A ≤ v ∧ v ≤ A := by
  have k := Int.natAbs_mul v t
  have p : 1 ≤ t.natAbs := by omega
  have le : v.natAbs ≤ n.natAbs := by
    rw [e, k]
    exact Nat.le_mul_of_pos_right _ p
  omega
theorem prim_bd {v a b : P3} (pv : prim v) (bv : 1 ≤ v.2.2) (ha : fm a v = 0) (hb : fm b v = 0) (nz : (cross a b).1 ≠ 0 ∨ (cross a b).2.1 ≠ 0 ∨ (cross a b).2.2 ≠ 0) {A : Int} (h1 : -A ≤ (cross a b).1 ∧ (cross a b).1 ≤ A) (h2 : -A ≤ (cross a b).2.1 ∧ (cross a b).2.1 ≤ A) (h3 : -A ≤ (cross a b).2.2 ∧ (cross a b).2.2 ≤ A) :
    (-A ≤ v.1 ∧ v.1 ≤ A) ∧ (-A ≤ v.2.1 ∧ v.2.1 ≤ A) ∧ v.2.2 ≤ A := by
  have e2 := cr2 a b v
  have e3 := cr3 a b v
  rw [ha, hb] at e2 e3
  generalize cross a b = n at *
  have q2 : v.1 * n.2.2 = v.2.2 * n.1 := by omega
  have q3 : v.2.1 * n.2.2 = v.2.2 * n.2.1 := by omega
  -- v's last divides n's last
  have dv : v.2.2 ∣ n.2.2 := by
    have d1 : v.2.2.natAbs ∣ v.1.natAbs * n.2.2.natAbs := by rw [← Int.natAbs_mul, q2, Int.natAbs_mul]; exact Nat.dvd_mul_right _ _
    have d2 : v.2.2.natAbs ∣ v.2.1.natAbs * n.2.2.natAbs := by rw [← Int.natAbs_mul, q3, Int.natAbs_mul]; exact Nat.dvd_mul_right _ _
    have d3 : v.2.2.natAbs ∣ v.2.2.natAbs * n.2.2.natAbs := Nat.dvd_mul_right _ _
    have d : v.2.2.natAbs ∣ Nat.gcd (v.2.1.natAbs * n.2.2.natAbs) (Nat.gcd (v.1.natAbs * n.2.2.natAbs) (v.2.2.natAbs * n.2.2.natAbs)) := Nat.dvd_gcd d2 (Nat.dvd_gcd d1 d3)
    rw [Nat.gcd_mul_right, Nat.gcd_mul_right] at d
    have pv : Nat.gcd v.2.1.natAbs (Nat.gcd v.1.natAbs v.2.2.natAbs) = 1 := pv
    rw [pv, Nat.one_mul] at d
    exact Int.natAbs_dvd_natAbs.mp d
  obtain ⟨t, et⟩ := dv
  have c1 : n.1 = v.1 * t := by
    rw [et] at q2
    refine Int.eq_of_mul_eq_mul_left (show v.2.2 ≠ 0 by omega) ?_
    rw [← q2]; grind
  have c2 : n.2.1 = v.2.1 * t := by
    rw [et] at q3
    refine Int.eq_of_mul_eq_mul_left (show v.2.2 ≠ 0 by omega) ?_
    rw [← q3]; grind
  have tn : t ≠ 0 := fun z => by
    subst z
    rw [Int.mul_zero] at c1 c2 et
    rcases nz with h | h | h
    · exact h c1
    · exact h c2
    · exact h et
  exact ⟨abs_le_of_mul c1 tn h1.1 h1.2, abs_le_of_mul c2 tn h2.1 h2.2, (abs_le_of_mul et tn h3.1 h3.2).2⟩
/-- places near 0 -/
def Nr (M : Int) (p : Pt) : Prop := (-M ≤ p.1 ∧ p.1 ≤ M) ∧ -M ≤ p.2 ∧ p.2 ≤ M
theorem mul_bd {x y A B : Int} (h1 : -A ≤ x) (h2 : x ≤ A) (h3 : -B ≤ y) (h4 : y ≤ B) : -(A * B) ≤ x * y ∧ x * y ≤ A * B := by
  have a := mul_nn (show 0 ≤ A - x by omega) (show 0 ≤ B + y by omega)
  have b := mul_nn (show 0 ≤ A + x by omega) (show 0 ≤ B - y by omega)
  have c := mul_nn (show 0 ≤ A - x by omega) (show 0 ≤ B - y by omega)
  have d := mul_nn (show 0 ≤ A + x by omega) (show 0 ≤ B + y by omega)
  have e1 : (A - x) * (B + y) + (A + x) * (B - y) = 2 * (A * B) - 2 * (x * y) := by grind
  have e2 : (A - x) * (B - y) + (A + x) * (B + y) = 2 * (A * B) + 2 * (x * y) := by grind
  omega
/-- lines between places near 0 -/
def LnB (l : Ln) : Prop := Nr 100000 l.1 ∧ Nr 100000 l.2
theorem co_bd {l : Ln} (h : LnB l) : (-200000 ≤ (co l).1 ∧ (co l).1 ≤ 200000) ∧ (-200000 ≤ (co l).2.1 ∧ (co l).2.1 ≤ 200000) ∧ (-40000000000 ≤ (co l).2.2 ∧ (co l).2.2 ≤ 40000000000) := by
  unfold LnB Nr at h
  have h1 := mul_bd (x := l.2.2 - l.1.2) (y := l.1.1) (A := 200000) (B := 100000) (by omega) (by omega) (by omega) (by omega)
  have h2 := mul_bd (x := l.2.1 - l.1.1) (y := l.1.2) (A := 200000) (B := 100000) (by omega) (by omega) (by omega) (by omega)
  unfold co
  simp only
  omega
theorem cross_bd {a b : Ln} (ha : LnB a) (hb : LnB b) : (-16000000000000000 ≤ (cross (co a) (co b)).1 ∧ (cross (co a) (co b)).1 ≤ 16000000000000000) ∧ (-16000000000000000 ≤ (cross (co a) (co b)).2.1 ∧ (cross (co a) (co b)).2.1 ≤ 16000000000000000) ∧ (-16000000000000000 ≤ (cross (co a) (co b)).2.2 ∧ (cross (co a) (co b)).2.2 ≤ 16000000000000000) := by
  obtain ⟨a1, a2, a3⟩ := co_bd ha
  obtain ⟨b1, b2, b3⟩ := co_bd hb
  generalize co a = u at *
  generalize co b = v at *
  have h1 := mul_bd (A := 200000) (B := 40000000000) a2.1 a2.2 b3.1 b3.2
  have h2 := mul_bd (A := 40000000000) (B := 200000) a3.1 a3.2 b2.1 b2.2
  have h3 := mul_bd (A := 40000000000) (B := 200000) a3.1 a3.2 b1.1 b1.2
  have h4 := mul_bd (A := 200000) (B := 40000000000) a1.1 a1.2 b3.1 b3.2
  have h5 := mul_bd (A := 200000) (B := 200000) a1.1 a1.2 b2.1 b2.2
  have h6 := mul_bd (A := 200000) (B := 200000) a2.1 a2.2 b1.1 b1.2
  unfold cross
  simp only
  omega
def Sz (v : P3) : Prop := (-16000000000000000 ≤ v.1 ∧ v.1 ≤ 16000000000000000) ∧ (-16000000000000000 ≤ v.2.1 ∧ v.2.1 ≤ 16000000000000000) ∧ 1 ≤ v.2.2 ∧ v.2.2 ≤ 16000000000000000
theorem Pg.size {G : List Ln} {V : List P3} (I : Pg G V) (hG : ∀ g ∈ G, LnB g) {v : P3} (mv : v ∈ V) : Sz v := by
  obtain ⟨i, hi, rfl⟩ := mem_a3 mv
  obtain ⟨u, w, a, b, ma, mb, _, _, d, a1, a2, b1, b2, aw, bu⟩ := I.nbr hi
  have cb := cross_bd (hG a ma) (hG b mb)
  rw [ev_fm] at a1 a2 b1 b2 aw bu
  have id := indep (co a) (co b) u w
  rw [a1, Int.zero_mul, Int.sub_zero] at id
  have nz : (cross (co a) (co b)).1 ≠ 0 ∨ (cross (co a) (co b)).2.1 ≠ 0 ∨ (cross (co a) (co b)).2.2 ≠ 0 := by
    refine Classical.byContradiction fun no => ?_
    have z1 : (cross (co a) (co b)).1 = 0 := Classical.byContradiction fun h => no (.inl h)
    have z2 : (cross (co a) (co b)).2.1 = 0 := Classical.byContradiction fun h => no (.inr (.inl h))
    have z3 : (cross (co a) (co b)).2.2 = 0 := Classical.byContradiction fun h => no (.inr (.inr h))
    rw [z1, z2, z3, Int.zero_mul, Int.zero_mul, Int.zero_mul] at id
    have := mul_pp aw bu
    omega
  have r := prim_bd (I.prm i hi) (I.one i hi) a2 b1 nz cb.1 cb.2.1 cb.2.2
  exact ⟨r.1, r.2.1, I.one i hi, r.2.2⟩
theorem edge_bd {c : List Pt} (h : ∀ p ∈ c, Nr 100000 p) {g : Ln} (mg : g ∈ edges c) : LnB g := by
  obtain ⟨k, hk, rfl⟩ := mem_edges.mp mg
  exact ⟨h _ (pt_mem hk), h _ (pt_mem (Nat.mod_lt _ (by omega)))⟩
/-- so many corners at most -/
theorem few_rows {α : Type} [BEq α] [LawfulBEq α] : ∀ {us ps : List α}, us.Nodup → (∀ k, k ∈ us → k ∈ ps) → us.length ≤ ps.length
  | [], ps, _, _ => Nat.zero_le _
  | u :: us, ps, nd, h => by
    rw [List.nodup_cons] at nd
    have := few_rows (us := us) (ps := ps.erase u) nd.2 fun k mk => (List.mem_erase_of_ne fun e => nd.1 (by rw [← e]; exact mk)).mpr (h k (by simp [mk]))
    rw [List.length_erase, if_pos (h u (by simp))] at this
    have : 0 < ps.length := List.length_pos_of_mem (h u (by simp))
    simp only [List.length_cons]
    omega
theorem Pg.no3 {G : List Ln} {V : List P3} (I : Pg G V) {g : Ln} (mg : g ∈ G) {i j k : Nat} (h1 : i < j) (h2 : j < k) (h3 : k < V.length) (z1 : ev g (a3 V i) = 0) (z2 : ev g (a3 V j) = 0) (z3 : ev g (a3 V k) = 0) : False := by
  have d := I.tri i j k h1 h2 h3
  exact I.ne g mg (line_zero (by omega) z1 z2 z3)
theorem Pg.len_le {G : List Ln} {V : List P3} (I : Pg G V) : V.length ≤ G.length := by
  have n3 := I.n3
  have ch : ∀ i, ∃ g, i < V.length → g ∈ G ∧ ev g (a3 V i) = 0 ∧ ev g (a3 V ((i + 1) % V.length)) = 0 := fun i => by
    by_cases q : i < V.length
    · obtain ⟨g, h⟩ := I.lab i q
      exact ⟨g, fun _ => h⟩
    · exact ⟨((0, 0), (0, 0)), fun h => absurd h q⟩
  obtain ⟨L, hL⟩ := Classical.axiomOfChoice ch
  have inj : ∀ i j, i < j → j < V.length → L i ≠ L j := fun i j hij hj e => by
    obtain ⟨mg, a1, a2⟩ := hL i (by omega)
    obtain ⟨_, b1, b2⟩ := hL j hj
    rw [← e] at b1 b2
    rw [Nat.mod_eq_of_lt (show i + 1 < V.length by omega)] at a2
    rcases Nat.lt_or_ge (i + 1) j with q | q
    · exact I.no3 mg (by omega) q hj a1 a2 b1
    · obtain rfl : j = i + 1 := by omega
      rcases Nat.lt_or_ge (i + 2) V.length with r | r
      · rw [Nat.mod_eq_of_lt (show i + 1 + 1 < V.length by omega)] at b2
        exact I.no3 mg (by omega) (by omega) r a1 a2 b2
      · rw [show i + 1 + 1 = V.length by omega, Nat.mod_self] at b2
        exact I.no3 mg (show 0 < i by omega) (by omega) hj b2 a1 a2
  have := few_rows (us := (List.range V.length).map fun i => L i) (ps := G) ?_ ?_
  · rwa [List.length_map, List.length_range] at this
  · refine List.pairwise_map.mpr (List.Pairwise.imp_of_mem (fun {i j} _ hj h => ?_) List.pairwise_lt_range)
    exact inj i j h (List.mem_range.mp hj)
  · intro g mg
    obtain ⟨i, hi, rfl⟩ := List.mem_map.mp mg
    exact (hL i (List.mem_range.mp hi)).1
end Law_k21
namespace Law_k21
open PySem L2 Pu
local macro_rules | `(tactic| walk_at "e") => `(tactic| first
  | ((with_reducible refine nx_seq ?_); (try dsimp only [List.set_cons_succ, List.set_cons_zero]))
  | ((with_reducible refine ex_vr ?_); dsimp only [VQ, List.set_cons_succ, List.set_cons_zero, List.getElem?_cons_zero, List.getElem?_cons_succ]; (fail_if_success (with_reducible show False)))
  | (with_reducible refine sx_seq ?_)
  | (with_reducible refine sx_if ?_)
  | (with_reducible refine sx_next ?_)
  | (with_reducible refine sx_ret ?_)
  | ((fail_if_success (with_reducible refine sx_asgO (eo_lst ?_))); (with_reducible refine sx_asg ?_))
  | (with_reducible refine ex_int ?_)
  | (with_reducible refine ex_str ?_)
  | (with_reducible refine ex_bl ?_)
  | (with_reducible refine ex_non ?_)
  | (with_reducible refine ex_op ?_)
  | (with_reducible refine ex_un ?_)
  | (with_reducible refine ex_chain ?_)
  | (with_reducible refine ex_call ?_)
  | (with_reducible refine ex_isT ?_)
  | (with_reducible refine ex_cb ?_)
  | (with_reducible refine ex_sl ?_)
  | (with_reducible refine ex_tup ?_)
  | (with_reducible refine ex_if ?_)
  | (with_reducible refine ex_of (eo_lst ?_))
  | (with_reducible refine ex_notV ?_)
  | (with_reducible refine ea_nil ?_)
  | (with_reducible refine ea_cons ?_)
  | (with_reducible refine ep_no ?_)
  | (with_reducible refine ep_some ?_)
  | (with_reducible refine et_test ?_)
  | (with_reducible refine et_B ?_)
  | (with_reducible refine et_ch3 ?_)
  | (with_reducible refine et_and ?_)
  | (with_reducible refine et_or ?_)
  | (with_reducible refine et_not ?_)
  | (with_reducible refine et_yes ?_)
  | (with_reducible refine et_truL ?_)
  | (with_reducible refine opd_plusI ?_)
  | (with_reducible refine opd_I0 ?_)
  | (with_reducible refine opd_B0 ?_)
  | (with_reducible refine opd_eqI ?_)
  | (with_reducible refine opd_neI ?_)
  | (with_reducible refine opd_eqS ?_)
  | (with_reducible refine opd_neS ?_)
  | (with_reducible refine opd_is ?_)
  | (with_reducible refine opd_isnt ?_)
  | (with_reducible refine opd_ixT rfl ?_)
  | (with_reducible refine opd_ixL rfl ?_)
  | (with_reducible refine und_neg ?_)
  | (with_reducible refine cbd_lenL ?_)
  | (with_reducible refine cbd_lenT ?_)
  | (with_reducible refine cbd_min2 ?_)
  | (with_reducible refine cbd_max2 ?_)
  | (with_reducible refine cbd_abs ?_)
  | (with_reducible refine cbd_int ?_)
  | (with_reducible refine cbd_tupL ?_)
  | (with_reducible refine cbd_listL ?_)
  | (with_reducible refine cbd_listT ?_)
  | (with_reducible refine cbd_sum ?_)
  | (with_reducible refine sld_T ?_)
  | (with_reducible refine sld_L ?_)
  | (with_reducible refine ex_revL ?_)
  | (with_reducible refine ex_bmL ?_)
  | (with_reducible refine ex_andV ?_)
  | (with_reducible refine ei_list ?_)
  | (with_reducible refine ei_rng1 ?_)
  | (with_reducible refine ei_rng2 ?_)
  | (with_reducible refine ei_enum ?_)
  | (with_reducible refine ei_enumT ?_)
  | (with_reducible refine ei_zip ?_)
  | (with_reducible refine sx_par ?_)
  | (with_reducible refine Exists.intro _ (And.intro rfl ?_))
  | (with_reducible refine Exists.intro _ (Exists.intro _ (And.intro rfl ?_)))
  | ((with_reducible show EX (tCall (spS _) [] _ (tCons (tVar _) _)) _ _); refine ex_callS rfl ?_)
  | ((with_reducible refine And.intro (show (_ : Nat) ≤ 100000 from ?_) ?_); (focus (simp; done)))
  | ((with_reducible refine opd_I ?_ ?_); focus (first | omega | (show CDiv _ _; exact ⟨by omega, by omega⟩) | (show CMul _ _; first | exact Or.inl ⟨by omega, by omega⟩ | exact Or.inr ⟨by omega, by omega⟩))))
local macro_rules | `(tactic| walk_at "es") => `(tactic| repeat walk_at "e")
local macro_rules | `(tactic| walk_at "w") => `(tactic| try dsimp only [wipeE, List.foldl_cons, List.foldl_nil, List.set_cons_succ, List.set_cons_zero])
local macro_rules | `(tactic| walk_at "le") => `(tactic| repeat' first | exact LeE.nil | (refine LeE.eq rfl ?_) | (refine LeE.emp ?_) | (refine LeE.eq ?_ ?_))
local macro_rules | `(tactic| walk_at "no") => `(tactic| ((refine And.intro (fun hb => absurd hb ?_) (fun _ => ?_)); (focus (first | (exact Bool.false_ne_true) | (simp; done) | (simp; omega) | (simp only [decide_eq_true_eq]; omega)))))
local macro_rules | `(tactic| walk_at "yes") => `(tactic| ((refine And.intro (fun _ => ?_) (fun hb => absurd hb ?_)); (rotate_left); (focus (first | (exact Bool.noConfusion) | (simp; done) | (simp; omega) | (simp only [decide_eq_false_iff_not]; omega)))))
local macro_rules | `(tactic| walk_at "ei") => `(tactic| repeat ((fail_if_success (with_reducible show SX (tSeq (tIfS _ _ _) _) _ _)); (fail_if_success (with_reducible show SX (tIfS _ _ _) _ _)); (fail_if_success (with_reducible show SX (tSeq (tAsg (tIf _ _ _) _) _) _ _)); walk_at "e"))
local macro_rules | `(tactic| walk_at "tv") => `(tactic| repeat' first | walk_at "e" | ((with_reducible show (_ = true → _) ∧ (_ = false → _)); refine And.intro (fun _ => ?_) (fun _ => ?_)))
namespace R
theorem filt_all {α : Type} (xs : List α) : (xs.filter fun _ => true) = xs := List.filter_eq_self.mpr fun _ _ => rfl
theorem take_snoc' {α : Type} {xs : List α} {k : Nat} {x : α} (h : xs[k]? = some x) : xs.take (k + 1) = xs.take k ++ [x] := by
  rw [List.take_succ, h]; rfl
/-- places near 0 -/
def Sm (p : Pt) : Prop := (-1000 ≤ p.1 ∧ p.1 ≤ 1000) ∧ -1000 ≤ p.2 ∧ p.2 ≤ 1000
theorem mul_bd {x y A B : Int} (h1 : -A ≤ x) (h2 : x ≤ A) (h3 : -B ≤ y) (h4 : y ≤ B) : -(A * B) ≤ x * y ∧ x * y ≤ A * B := by
  have a := mul_nn (show 0 ≤ A - x by omega) (show 0 ≤ B + y by omega)
  have b := mul_nn (show 0 ≤ A + x by omega) (show 0 ≤ B - y by omega)
  have c := mul_nn (show 0 ≤ A - x by omega) (show 0 ≤ B - y by omega)
  have d := mul_nn (show 0 ≤ A + x by omega) (show 0 ≤ B + y by omega)
  have e1 : (A - x) * (B + y) + (A + x) * (B - y) = 2 * (A * B) - 2 * (x * y) := by grind
  have e2 : (A - x) * (B - y) + (A + x) * (B + y) = 2 * (A * B) + 2 * (x * y) := by grind
  omega
theorem tn_bd {a b c : Pt} (ha : Sm a) (hb : Sm b) (hc : Sm c) : -8000000 ≤ tn a b c ∧ tn a b c ≤ 8000000 := by
  unfold Sm at *
  have h1 := mul_bd (x := b.1 - a.1) (y := c.2 - a.2) (A := 2000) (B := 2000) (by omega) (by omega) (by omega) (by omega)
  have h2 := mul_bd (x := b.2 - a.2) (y := c.1 - a.1) (A := 2000) (B := 2000) (by omega) (by omega) (by omega) (by omega)
  unfold tn
  omega
theorem fr_bd {a b : Pt} (ha : Sm a) (hb : Sm b) : 0 ≤ fr a b ∧ fr a b ≤ 8000000 := by
  have := fr_nn a b
  unfold Sm at *
  have h1 := mul_bd (x := a.1 - b.1) (y := a.1 - b.1) (A := 2000) (B := 2000) (by omega) (by omega) (by omega) (by omega)
  have h2 := mul_bd (x := a.2 - b.2) (y := a.2 - b.2) (A := 2000) (B := 2000) (by omega) (by omega) (by omega) (by omega)
  unfold fr at *
  omega
theorem dt_bd {a b c : Pt} (ha : Sm a) (hb : Sm b) (hc : Sm c) : -8000000 ≤ dt a b c ∧ dt a b c ≤ 8000000 := by
  unfold Sm at *
  have h1 := mul_bd (x := b.1 - a.1) (y := c.1 - a.1) (A := 2000) (B := 2000) (by omega) (by omega) (by omega) (by omega)
  have h2 := mul_bd (x := b.2 - a.2) (y := c.2 - a.2) (A := 2000) (B := 2000) (by omega) (by omega) (by omega) (by omega)
  unfold dt
  omega
def R_turn : List D → (D → Prop) → Prop := fun ds Z => ∃ a b c : Pt, ds = [encP a, encP b, encP c] ∧ (Sm a ∧ Sm b ∧ Sm c) ∧ Z (.int (tn a b c))
theorem sx_turn (K : PySem.W.Frag) (ds : List D) (Z : D → Prop) (h : R_turn ds Z) : SX (T_turn K) (startE N_turn ds) { nx := fun _ => Z .none, rt := fun d _ => Z d } := by
  obtain ⟨a, b, c, rfl, ⟨ha, hb, hc⟩, z⟩ := h
  show SX (T_turn K) [.val (encP a), .val (encP b), .val (encP c)] _
  unfold Sm at *
  unfold T_turn encP
  walk_at "es"
  exact z
def R_far : List D → (D → Prop) → Prop := fun ds Z => ∃ a b : Pt, ds = [encP a, encP b] ∧ (Sm a ∧ Sm b) ∧ Z (.int (fr a b))
theorem sx_square_far (K : PySem.W.Frag) (ds : List D) (Z : D → Prop) (h : R_far ds Z) : SX (T_square_far K) (startE N_square_far ds) { nx := fun _ => Z .none, rt := fun d _ => Z d } := by
  obtain ⟨a, b, rfl, ⟨ha, hb⟩, z⟩ := h
  show SX (T_square_far K) [.val (encP a), .val (encP b)] _
  unfold Sm at *
  unfold T_square_far encP
  walk_at "es"
  exact z
/-! the half ring -/
def R_half : List D → (D → Prop) → Prop := fun ds Z => ∃ ps : List Pt, ds = [.list (ps.map encP)] ∧ (∀ p ∈ ps, Sm p) ∧ ps.length ≤ 60 ∧ Z (.list ((half ps).map encP))
theorem stp_len : ∀ (ps : List Pt) (st : List Pt), (ps.foldl (fun st p => p :: pops p st) st).length ≤ st.length + ps.length
  | [], st => by simp
  | p :: ps, st => by
    have h := stp_len ps (p :: pops p st)
    have k : ∀ st : List Pt, (pops p st).length ≤ st.length := fun st => by
      induction st with
      | nil => simp [pops]
      | cons b r ih =>
        cases r with
        | nil => simp [pops]
        | cons a r =>
          unfold pops
          split
          · simp only [List.length_cons] at ih ⊢; omega
          · exact Nat.le_refl _
    have := k st
    rw [List.foldl_cons, List.length_cons]
    simp only [List.length_cons] at h
    omega
theorem pops_mem {p c : Pt} : ∀ {st : List Pt}, c ∈ pops p st → c ∈ st
  | [], h => h
  | [b], h => h
  | b :: a :: r, h => by
    unfold pops at h
    split at h
    · exact List.mem_cons_of_mem _ (pops_mem h)
    · exact h
theorem stp_mem {c : Pt} : ∀ (ps : List Pt) (st : List Pt), c ∈ ps.foldl (fun st p => p :: pops p st) st → c ∈ st ∨ c ∈ ps
  | [], st, h => .inl h
  | p :: ps, st, h => by
    rcases stp_mem ps _ h with h | h
    · rcases List.mem_cons.mp h with rfl | h
      · exact .inr (by simp)
      · exact .inl (pops_mem h)
    · exact .inr (by simp [h])
theorem atI_last {xs : List D} {x : D} : atI (xs ++ [x]) (-1) = some x := by
  unfold atI ixN
  rw [List.length_append, List.length_singleton, if_neg (by omega), if_pos (by omega)]
  show (xs ++ [x])[_]? = _
  rw [show (-1 + ((xs.length + 1 : Nat) : Int)).toNat = xs.length by omega, List.getElem?_append_right (Nat.le_refl _), Nat.sub_self]
  rfl
theorem atI_last2 {xs : List D} {x y : D} : atI (xs ++ [x, y]) (-2) = some x := by
  unfold atI ixN
  rw [List.length_append, show [x, y].length = 2 from rfl, if_neg (by omega), if_pos (by omega)]
  show (xs ++ [x, y])[_]? = _
  rw [show (-2 + ((xs.length + 2 : Nat) : Int)).toNat = xs.length by omega, List.getElem?_append_right (Nat.le_refl _), Nat.sub_self]
  rfl
theorem sx_half_ring (K : PySem.W.Frag) (ds : List D) (Z : D → Prop) (h : R_half ds Z) : SX (T_half_ring K R_turn) (startE N_half_ring ds) { nx := fun _ => Z .none, rt := fun d _ => Z d } := by
  obtain ⟨ps, rfl, sm, hl, z⟩ := h
  show SX (T_half_ring K R_turn) [.val (.list (ps.map encP)), .emp, .emp] _
  unfold T_half_ring
  refine sx_seq (sx_asgO (eo_lst ?_))
  walk_at "es"
  refine sx_for (J := [2]) (ei_list ?_)
  walk_at "es"
  refine ⟨fun i ρ' => ρ' = [.val (.list (ps.map encP)), .own ((halfR (ps.take i)).reverse.map encP), .emp], rfl, ?_, ?_⟩
  · rintro i dd ρ' hd0 rfl
    obtain ⟨p, hp, rfl⟩ := map_at hd0
    have hi := (List.getElem?_eq_some_iff.mp hp).1
    have sn : halfR (ps.take (i + 1)) = p :: pops p (halfR (ps.take i)) := by
      rw [take_snoc' hp]
      unfold halfR
      rw [List.foldl_append]
      rfl
    have sp := sm p (List.mem_of_getElem? hp)
    have l1 : (halfR (ps.take i)).length ≤ ps.length := by
      have := stp_len (ps.take i) []
      unfold halfR
      rw [List.length_take] at this
      simp only [List.length_nil] at this
      omega
    have m1 : ∀ c ∈ halfR (ps.take i), Sm c := fun c mc => by
      rcases stp_mem _ _ mc with h | h
      · cases h
      · exact sm c (List.mem_of_mem_take h)
    refine sg_name (by simp) ?_
    walk_at "w"
    refine sx_seq ?_
    refine sx_while (fun m ρ' => ∃ st : List Pt, pops p st = pops p (halfR (ps.take i)) ∧ m = st.length ∧ st.length ≤ ps.length ∧ (∀ c ∈ st, Sm c) ∧ ρ' = [.val (.list (ps.map encP)), .own (st.reverse.map encP), .val (encP p)]) _ ⟨_, rfl, rfl, l1, m1, rfl⟩ ?_
    rintro m ρ' ⟨st, e1, rfl, l2, m2, rfl⟩
    refine et_and ?_
    refine et_test (ex_op (ex_lenO rfl ?_))
    walk_at "es"
    rw [List.length_map, List.length_reverse]
    match st, e1, l2, m2 with
    | [], e1, l2, m2 =>
      have hst : pops p [] = [] := rfl
      walk_at "no"
      refine ⟨fun e => absurd e (by decide), fun _ => ?_⟩
      refine nx_seq ?_
      refine sx_app rfl ?_
      walk_at "es"
      refine ⟨by simp at l2 ⊢ <;> omega, ?_⟩
      walk_at "w"
      refine ⟨_, ?_, rfl⟩
      rw [sn, ← e1, hst]
      simp only [List.reverse_cons, List.map_append, List.map_cons, List.map_nil]
      walk_at "le"
    | [b], e1, l2, m2 =>
      have hst : pops p [b] = [b] := rfl
      walk_at "no"
      refine ⟨fun e => absurd e (by decide), fun _ => ?_⟩
      refine nx_seq ?_
      refine sx_app rfl ?_
      walk_at "es"
      refine ⟨by simp at l2 ⊢ <;> omega, ?_⟩
      walk_at "w"
      refine ⟨_, ?_, rfl⟩
      rw [sn, ← e1, hst]
      simp only [List.reverse_cons, List.map_append, List.map_cons, List.map_nil]
      walk_at "le"
    | b :: a :: r, e1, l2, m2 =>
      walk_at "yes"
      have er : ((b :: a :: r).reverse.map encP) = (r.reverse.map encP) ++ [encP a, encP b] := by simp
      refine et_test (ex_op (ex_call (ea_cons (ex_ixO rfl ?_))))
      walk_at "es"
      refine ⟨_, _, _, rfl, rfl, (by rw [er]; exact atI_last2), ?_⟩
      refine ea_cons (ex_ixO rfl ?_)
      walk_at "es"
      refine ⟨_, _, _, rfl, rfl, (by rw [er, show ∀ x y : D, r.reverse.map encP ++ [x, y] = (r.reverse.map encP ++ [x]) ++ [y] from fun x y => by simp]; exact atI_last), ?_⟩
      walk_at "es"
      refine ⟨a, b, p, rfl, ⟨m2 a (by simp), m2 b (by simp), sp⟩, ?_⟩
      walk_at "es"
      refine ⟨fun hb => ?_, fun hb => ?_⟩
      · have hb := of_decide_eq_true hb
        refine sx_pop rfl (by simp) ?_
        walk_at "w"
        refine ⟨_, ?_, _, ?_, a :: r, ?_, rfl, by simp at l2 ⊢ <;> omega, fun c mc => m2 c (by simp at mc ⊢; exact .inr mc), rfl⟩
        · rw [er]
          simp only [List.dropLast_append_cons, List.reverse_cons, List.map_append, List.map_cons, List.map_nil, List.dropLast_cons_cons, List.dropLast_singleton]
          walk_at "le"
        · simp
        · rw [← e1]
          show _ = if tn a b p ≤ 0 then _ else _
          rw [if_pos hb]
      · have hb := of_decide_eq_false hb
        have hst : pops p (b :: a :: r) = b :: a :: r := by
          show (if tn a b p ≤ 0 then _ else _) = _
          rw [if_neg hb]
        refine nx_seq ?_
        refine sx_app rfl ?_
        walk_at "es"
        refine ⟨by simp at l2 ⊢ <;> omega, ?_⟩
        walk_at "w"
        refine ⟨_, ?_, rfl⟩
        rw [sn, ← e1, hst]
        simp only [List.reverse_cons, List.map_append, List.map_cons, List.map_nil]
        walk_at "le"
  rintro ρ' rfl
  rw [List.length_map, List.take_length]
  refine nx_seq (sx_freeze 1 rfl ?_)
  walk_at "w"
  walk_at "es"
  exact z
/-! the ring -/
instance (p q : Pt) : Decidable (lx p q) := by unfold lx; infer_instance
def insU (p : Pt) : List Pt → List Pt
  | [] => [p]
  | q :: xs => if p = q then q :: xs else if lx p q then p :: q :: xs else q :: insU p xs
def srt (ps : List Pt) : List Pt := ps.foldr insU []
theorem ins_mem {p k : Pt} : ∀ {xs : List Pt}, k ∈ insU p xs ↔ k = p ∨ k ∈ xs
  | [] => by simp [insU]
  | q :: xs => by
    unfold insU
    split
    · rename_i e
      subst e
      simp
    · split
      · simp
      · rw [List.mem_cons, ins_mem, List.mem_cons]
        constructor
        · rintro (h | h | h)
          · exact .inr (.inl h)
          · exact .inl h
          · exact .inr (.inr h)
        · rintro (h | h | h)
          · exact .inr (.inl h)
          · exact .inl h
          · exact .inr (.inr h)
theorem ins_srt {p : Pt} : ∀ {xs : List Pt}, xs.Pairwise lx → (insU p xs).Pairwise lx
  | [], _ => by simp [insU]
  | q :: xs, h => by
    unfold insU
    have h2 := List.pairwise_cons.mp h
    split
    · exact h
    · rename_i ne
      split
      · rename_i l
        rw [List.pairwise_cons]
        refine ⟨fun k mk => ?_, h⟩
        rcases List.mem_cons.mp mk with rfl | mk
        · exact l
        · exact lx_trans l (h2.1 k mk)
      · rename_i l
        rw [List.pairwise_cons]
        refine ⟨fun k mk => ?_, ins_srt h2.2⟩
        rcases ins_mem.mp mk with rfl | mk
        · rcases lx_tri k q with e | e | e
          · exact absurd e ne
          · exact absurd e l
          · exact e
        · exact h2.1 k mk
theorem srt_mem {k : Pt} : ∀ {ps : List Pt}, k ∈ srt ps ↔ k ∈ ps
  | [] => Iff.rfl
  | p :: ps => by
    show k ∈ insU p (srt ps) ↔ _
    rw [ins_mem, srt_mem, List.mem_cons]
theorem srt_asc : ∀ ps : List Pt, (srt ps).Pairwise lx
  | [] => .nil
  | p :: ps => ins_srt (srt_asc ps)
theorem srt_is {us ps : List Pt} (hs : us.Pairwise lx) (hm : ∀ k, k ∈ us ↔ k ∈ ps) : us = srt ps := ris_eq hs (srt_asc ps) fun k => by rw [hm, srt_mem]
def R_ring : List D → (D → Prop) → Prop := fun ds Z => ∃ ps : List Pt, ds = [.list (ps.map encP)] ∧ (∀ p ∈ ps, Sm p) ∧ ps.length ≤ 20 ∧ Z (.list ((ringOf (srt ps)).map encP))
theorem few_rows : ∀ {us ps : List Pt}, us.Nodup → (∀ k, k ∈ us → k ∈ ps) → us.length ≤ ps.length
  | [], ps, _, _ => Nat.zero_le _
  | u :: us, ps, nd, h => by
    rw [List.nodup_cons] at nd
    have := few_rows (us := us) (ps := ps.erase u) nd.2 fun k mk => (List.mem_erase_of_ne fun e => nd.1 (by rw [← e]; exact mk)).mpr (h k (by simp [mk]))
    rw [List.length_erase, if_pos (h u (by simp))] at this
    have : 0 < ps.length := List.length_pos_of_mem (h u (by simp))
    simp only [List.length_cons]
    omega
theorem cut_m1 {α : Type} (f : α → D) (xs : List α) : cutD (xs.map f) none (some (-1)) = xs.dropLast.map f := by
  unfold cutD
  simp only [HT.sIx]
  rw [if_pos (by omega), List.length_map, List.dropLast_eq_take, List.map_take]
  show List.take ((-1 + (xs.length : Int)).toNat - 0) (List.map f xs) = _
  rw [Nat.sub_zero]
  congr 1
  omega
theorem sx_ring_around (K : PySem.W.Frag) (ds : List D) (Z : D → Prop) (h : R_ring ds Z) : SX (T_ring_around K R_half) (startE N_ring_around ds) { nx := fun _ => Z .none, rt := fun d _ => Z d } := by
  obtain ⟨ps, rfl, sm, hl, z⟩ := h
  show SX (T_ring_around K R_half) [.val (.list (ps.map encP)), .emp, .emp, .emp] _
  unfold T_ring_around
  refine sx_seq (sx_asg (ex_of (eo_sortSetP ?_)))
  walk_at "es"
  refine ⟨by omega, fun us hs hm => ?_⟩
  obtain rfl : us = srt ps := srt_is hs hm
  have sm2 : ∀ p ∈ srt ps, Sm p := fun p mp => sm p (srt_mem.mp mp)
  have hl2 := few_rows (lx_nodup (srt_asc ps)) fun k mk => srt_mem.mp mk
  refine nx_seq ?_
  walk_at "w"
  walk_at "es"
  rw [List.length_map]
  by_cases q : (srt ps).length < 3
  · walk_at "yes"
    walk_at "es"
    unfold ringOf at z
    rwa [if_pos q] at z
  · walk_at "no"
    walk_at "es"
    refine ⟨_, rfl, sm2, by omega, ?_⟩
    walk_at "es"
    refine ⟨_, by rw [← List.map_reverse], fun p mp => sm2 p (List.mem_reverse.mp mp), by rw [List.length_reverse]; omega, ?_⟩
    walk_at "es"
    rw [cut_m1, cut_m1]
    have h1 := stp_len (srt ps) []
    have h2 := stp_len (srt ps).reverse []
    refine opd_plusL ?_ ?_
    · rw [List.length_map, List.length_map, List.length_dropLast, List.length_dropLast]
      unfold half halfR
      rw [List.length_reverse, List.length_reverse]
      simp only [List.length_nil, List.length_reverse] at h1 h2
      omega
    · rw [← List.map_append]
      unfold ringOf at z
      rw [if_neg q] at z
      exact z

end R
end Law_k21
namespace Law_k21
open PySem L2 Pu
local macro_rules | `(tactic| walk_at "e") => `(tactic| first
  | ((with_reducible refine nx_seq ?_); (try dsimp only [List.set_cons_succ, List.set_cons_zero]))
  | ((with_reducible refine ex_vr ?_); dsimp only [VQ, List.set_cons_succ, List.set_cons_zero, List.getElem?_cons_zero, List.getElem?_cons_succ]; (fail_if_success (with_reducible show False)))
  | (with_reducible refine sx_seq ?_)
  | (with_reducible refine sx_if ?_)
  | (with_reducible refine sx_next ?_)
  | (with_reducible refine sx_ret ?_)
  | ((fail_if_success (with_reducible refine sx_asgO (eo_lst ?_))); (with_reducible refine sx_asg ?_))
  | (with_reducible refine ex_int ?_)
  | (with_reducible refine ex_str ?_)
  | (with_reducible refine ex_bl ?_)
  | (with_reducible refine ex_non ?_)
  | (with_reducible refine ex_op ?_)
  | (with_reducible refine ex_un ?_)
  | (with_reducible refine ex_chain ?_)
  | (with_reducible refine ex_call ?_)
  | (with_reducible refine ex_isT ?_)
  | (with_reducible refine ex_cb ?_)
  | (with_reducible refine ex_sl ?_)
  | (with_reducible refine ex_tup ?_)
  | (with_reducible refine ex_if ?_)
  | (with_reducible refine ex_of (eo_lst ?_))
  | (with_reducible refine ex_notV ?_)
  | (with_reducible refine ea_nil ?_)
  | (with_reducible refine ea_cons ?_)
  | (with_reducible refine ep_no ?_)
  | (with_reducible refine ep_some ?_)
  | (with_reducible refine et_test ?_)
  | (with_reducible refine et_B ?_)
  | (with_reducible refine et_ch3 ?_)
  | (with_reducible refine et_and ?_)
  | (with_reducible refine et_or ?_)
  | (with_reducible refine et_not ?_)
  | (with_reducible refine et_yes ?_)
  | (with_reducible refine et_truL ?_)
  | (with_reducible refine opd_plusI ?_)
  | (with_reducible refine opd_I0 ?_)
  | (with_reducible refine opd_B0 ?_)
  | (with_reducible refine opd_eqI ?_)
  | (with_reducible refine opd_neI ?_)
  | (with_reducible refine opd_eqS ?_)
  | (with_reducible refine opd_neS ?_)
  | (with_reducible refine opd_is ?_)
  | (with_reducible refine opd_isnt ?_)
  | (with_reducible refine opd_ixT rfl ?_)
  | (with_reducible refine opd_ixL rfl ?_)
  | (with_reducible refine und_neg ?_)
  | (with_reducible refine cbd_lenL ?_)
  | (with_reducible refine cbd_lenT ?_)
  | (with_reducible refine cbd_min2 ?_)
  | (with_reducible refine cbd_max2 ?_)
  | (with_reducible refine cbd_abs ?_)
  | (with_reducible refine cbd_int ?_)
  | (with_reducible refine cbd_tupL ?_)
  | (with_reducible refine cbd_listL ?_)
  | (with_reducible refine cbd_listT ?_)
  | (with_reducible refine cbd_sum ?_)
  | (with_reducible refine sld_T ?_)
  | (with_reducible refine sld_L ?_)
  | (with_reducible refine ex_revL ?_)
  | (with_reducible refine ex_bmL ?_)
  | (with_reducible refine ex_andV ?_)
  | (with_reducible refine ei_list ?_)
  | (with_reducible refine ei_rng1 ?_)
  | (with_reducible refine ei_rng2 ?_)
  | (with_reducible refine ei_enum ?_)
  | (with_reducible refine ei_enumT ?_)
  | (with_reducible refine ei_zip ?_)
  | (with_reducible refine sx_par ?_)
  | (with_reducible refine Exists.intro _ (And.intro rfl ?_))
  | (with_reducible refine Exists.intro _ (Exists.intro _ (And.intro rfl ?_)))
  | ((with_reducible show EX (tCall (spS _) [] _ (tCons (tVar _) _)) _ _); refine ex_callS rfl ?_)
  | ((with_reducible refine And.intro (show (_ : Nat) ≤ 100000 from ?_) ?_); (focus (simp; done)))
  | ((with_reducible refine opd_I ?_ ?_); focus (first | omega | (show CDiv _ _; exact ⟨by omega, by omega⟩) | (show CMul _ _; first | exact Or.inl ⟨by omega, by omega⟩ | exact Or.inr ⟨by omega, by omega⟩))))
local macro_rules | `(tactic| walk_at "es") => `(tactic| repeat walk_at "e")
local macro_rules | `(tactic| walk_at "w") => `(tactic| try dsimp only [wipeE, List.foldl_cons, List.foldl_nil, List.set_cons_succ, List.set_cons_zero])
local macro_rules | `(tactic| walk_at "le") => `(tactic| repeat' first | exact LeE.nil | (refine LeE.eq rfl ?_) | (refine LeE.emp ?_) | (refine LeE.eq ?_ ?_))
local macro_rules | `(tactic| walk_at "no") => `(tactic| ((refine And.intro (fun hb => absurd hb ?_) (fun _ => ?_)); (focus (first | (exact Bool.false_ne_true) | (simp; done) | (simp; omega) | (simp only [decide_eq_true_eq]; omega)))))
local macro_rules | `(tactic| walk_at "yes") => `(tactic| ((refine And.intro (fun _ => ?_) (fun hb => absurd hb ?_)); (rotate_left); (focus (first | (exact Bool.noConfusion) | (simp; done) | (simp; omega) | (simp only [decide_eq_false_iff_not]; omega)))))
local macro_rules | `(tactic| walk_at "ei") => `(tactic| repeat ((fail_if_success (with_reducible show SX (tSeq (tIfS _ _ _) _) _ _)); (fail_if_success (with_reducible show SX (tIfS _ _ _) _ _)); (fail_if_success (with_reducible show SX (tSeq (tAsg (tIf _ _ _) _) _) _ _)); walk_at "e"))
local macro_rules | `(tactic| walk_at "tv") => `(tactic| repeat' first | walk_at "e" | ((with_reducible show (_ = true → _) ∧ (_ = false → _)); refine And.intro (fun _ => ?_) (fun _ => ?_)))
namespace R
/-! ### the first fault -/
def tagD (s : Str) (k : Nat) : D := .tuple [.str s, .int (k : Int)]
def gC (rows ring : List Pt) (k : Nat) : Option D := if at' ring k ∉ rows ∨ at' ring k ∈ ring.take k then some (tagD (Str.ofString "corner") k) else none
def gO (rows : List Pt) (a b : Pt) (j : Nat) : Option D := if tn a b (at' rows j) < 0 then some (.tuple [.str (Str.ofString "outside"), encP (at' rows j)]) else none
def gE (rows ring : List Pt) (k : Nat) : Option D := if tn (at' ring k) (at' ring ((k + 1) % ring.length)) (at' ring ((k + 2) % ring.length)) ≤ 0 then some (tagD (Str.ofString "turn") k) else (List.range rows.length).findSome? (gO rows (at' ring k) (at' ring ((k + 1) % ring.length)))
def oD : Option D → D
  | none => .none
  | some d => d
def faultD (rows ring : List Pt) (fl : Bool) : D :=
  match (List.range ring.length).findSome? (gC rows ring) with
  | some d => d
  | none => if ring.length < 3 then (if fl = true then .none else .tuple [.str (Str.ofString "flat")]) else
    if at' ring 0 = minPs ring then oD ((List.range ring.length).findSome? (gE rows ring)) else .tuple [.str (Str.ofString "first")]
def R_fault : List D → (D → Prop) → Prop := fun ds Z => ∃ ps ring : List Pt, ds = [.list (ps.map encP), .list (ring.map encP)] ∧ (∀ p ∈ ps, Sm p) ∧ ps.length ≤ 20 ∧ (∀ p ∈ ring, Sm p) ∧ ring.length ≤ 50 ∧ Z (faultD (srt ps) ring (decide (ring = ringOf (srt ps))))
theorem depth_P (ps : List Pt) (d : D) : min (PyData.depthAll (ps.map encP)) d.depth ≤ 60 := Nat.le_trans (Nat.min_le_left _ _) (depthAll_le (dpn_map fun p _ => dpn_tup (dpn_cons dpn_int (dpn_cons dpn_int dpn_nil))))
theorem in_P {K : PySem.W.Frag} {ps : List Pt} {p : Pt} {Q : D → Prop} (k : Q (.bool (decide (p ∈ ps)))) : OpD (rInP K) (encP p) (.list (ps.map encP)) Q := opd_inL (depth_P ps _) (by rw [any_encP]; exact k)
theorem nin_P {K : PySem.W.Frag} {ps : List Pt} {p : Pt} {Q : D → Prop} (k : Q (.bool (!decide (p ∈ ps)))) : OpD (rNinP K) (encP p) (.list (ps.map encP)) Q := opd_ninL (depth_P ps _) (by rw [any_encP]; exact k)
theorem at_D {ps : List Pt} {k : Nat} (h : k < ps.length) : atI (ps.map encP) (k : Int) = some (encP (at' ps k)) := by
  rw [atI_map (0, 0) (by omega) (by omega), Int.toNat_natCast]; rfl
theorem at_getD {ps : List Pt} {k : Nat} {p : Pt} (h : ps[k]? = some p) : p = at' ps k := (at_of h).symm
theorem at_Sm {ps : List Pt} (h : ∀ p ∈ ps, Sm p) {k : Nat} (hk : k < ps.length) : Sm (at' ps k) := h _ (at_mem hk)
theorem mod_I (k n : Nat) : ((k : Int) + 1) % (n : Int) = (((k + 1) % n : Nat) : Int) := by rw [Int.natCast_emod, Int.natCast_add]; rfl
theorem mod_I2 (k n : Nat) : ((k : Int) + 2) % (n : Int) = (((k + 2) % n : Nat) : Int) := by rw [Int.natCast_emod, Int.natCast_add]; rfl
theorem op_m1 {k n : Nat} {Q : D → Prop} (h : 0 < n) (q : Q (.int (((k + 1) % n : Nat) : Int))) : OpD (rI (fun _ j => 0 < j) fun i j => .int (i % j)) (.int ((k : Int) + 1)) (.int (n : Int)) Q := opd_I (show (0 : Int) < (n : Int) by omega) (by rw [mod_I]; exact q)
theorem op_m2 {k n : Nat} {Q : D → Prop} (h : 0 < n) (q : Q (.int (((k + 2) % n : Nat) : Int))) : OpD (rI (fun _ j => 0 < j) fun i j => .int (i % j)) (.int ((k : Int) + 2)) (.int (n : Int)) Q := opd_I (show (0 : Int) < (n : Int) by omega) (by rw [mod_I2]; exact q)
theorem flat_same {rows ring : List Pt} (hs : rows.Pairwise lx) (h3 : ring.length < 3) : (ring = ringOf rows) ↔ ((∀ t ∈ rows, tn (at' rows 0) (at' rows (rows.length - 1)) t = 0) ∧ ring = (if rows.length < 2 then rows else [at' rows 0, at' rows (rows.length - 1)])) := by
  rcases kinds hs with ⟨h, e⟩ | ⟨h, f, m, M, h1, h2, l, e⟩ | ⟨h, nf, R⟩
  · rw [e, if_pos h]
    refine ⟨fun q => ⟨fun t mt => ?_, q⟩, fun q => q.2⟩
    match rows, h with
    | [x], _ =>
      have : t = x := by simpa using mt
      subst this
      exact tn_aa _ _
  · rw [e, if_neg (by omega), (head_at h1).1, last_at h2]
    exact ⟨fun q => ⟨fun t mt => f _ (List.mem_of_head? h1) _ (List.mem_of_getLast? h2) t mt, q⟩, fun q => q.2⟩
  · constructor
    · intro q
      have := R.n3
      rw [← q] at this
      omega
    · rintro ⟨q, _⟩
      have h1 : rows.head? = some (at' rows 0) := by
        rw [List.head?_eq_getElem?]
        exact at_some (by omega)
      have h2 : rows.getLast? = some (at' rows (rows.length - 1)) := by
        rw [List.getLast?_eq_getElem?]
        exact at_some (by omega)
      exact absurd (flat_of (asc_at hs (by omega) (by omega)) q) nf
theorem depth_L (ps : List Pt) (d : D) : min (PyData.list (ps.map encP)).depth d.depth ≤ 60 := by
  refine Nat.le_trans (Nat.min_le_left _ _) ?_
  have h : PyData.depthAll (ps.map encP) ≤ 59 := depthAll_le (dpn_map fun p _ => dpn_tup (dpn_cons dpn_int (dpn_cons dpn_int dpn_nil)))
  simp only [PyData.depth]
  omega
theorem depth_1 (p q : Pt) : min (encP p).depth (encP q).depth ≤ 60 := Nat.le_trans (Nat.min_le_left _ _) (by simp [encP, PyData.depth, PyData.depthAll])
theorem at_E {ps : List Pt} (h : ps ≠ []) : atI (ps.map encP) (-1) = some (encP (at' ps (ps.length - 1))) := by
  have hp := List.length_pos_iff.mpr h
  unfold atI ixN
  rw [List.length_map, if_neg (by omega), if_pos (by omega)]
  show (ps.map encP)[_]? = _
  rw [show (-1 + (ps.length : Int)).toNat = ps.length - 1 by omega, List.getElem?_map, at_some (by omega)]
  rfl
theorem sx_ring_fault (K : PySem.W.Frag) (ds : List D) (Z : D → Prop) (h : R_fault ds Z) : SX (T_ring_fault K R_turn) (startE N_ring_fault ds) { nx := fun _ => Z .none, rt := fun d _ => Z d } := by
  obtain ⟨ps, ring, rfl, sm, hl, sr, hr, z⟩ := h
  show SX (T_ring_fault K R_turn) [.val (.list (ps.map encP)), .val (.list (ring.map encP)), .emp, .emp, .emp, .emp, .emp, .emp, .emp, .emp, .emp, .emp] _
  unfold T_ring_fault
  refine sx_seq (sx_asg (ex_of (eo_sortSetP ?_)))
  walk_at "es"
  refine ⟨by omega, fun us hs hm => ?_⟩
  obtain rfl : us = srt ps := srt_is hs hm
  have ha := srt_asc ps
  have sm2 : ∀ p ∈ srt ps, Sm p := fun p mp => sm p (srt_mem.mp mp)
  have hl2 := few_rows (lx_nodup ha) fun k mk => srt_mem.mp mk
  clear hs hm
  generalize srt ps = rows at *
  refine nx_seq (sx_seq ?_)
  walk_at "w"
  refine sx_for (J := [3, 4]) (ei_enum ?_)
  walk_at "es"
  refine ⟨fun i ρ' => (∀ j, j < i → gC rows ring j = none) ∧ ρ' = [.val (.list (ps.map encP)), .val (.list (ring.map encP)), .val (.list (rows.map encP)), .emp, .emp, .emp, .emp, .emp, .emp, .emp, .emp, .emp], ⟨fun j hj => absurd hj (Nat.not_lt_zero _), rfl⟩, ?_, ?_⟩
  · rintro i dd ρ' hd0 ⟨ok, rfl⟩
    obtain ⟨c, hc, rfl⟩ := enum_at hd0
    have hi := (List.getElem?_eq_some_iff.mp hc).1
    obtain rfl := at_getD hc
    refine sg_tup rfl (sgs_cons (sg_name (by simp) (sgs_cons (sg_name (by simp) (sgs_nil ?_)))))
    walk_at "w"
    refine sx_if (et_val (decide (at' ring i ∉ rows ∨ at' ring i ∈ ring.take i)) ?_ ⟨fun hb => ?_, fun hb => ?_⟩)
    · walk_at "es"
      refine nin_P ?_
      walk_at "es"
      refine ⟨fun hb => ⟨?_, rfl⟩, fun hb => ?_⟩
      · have hb : at' ring i ∉ rows := by simpa using hb
        exact (decide_eq_true (.inl hb)).symm
      · have hb : at' ring i ∈ rows := by simpa using hb
        walk_at "es"
        rw [cut_n]
        refine in_P ?_
        walk_at "es"
        refine ⟨?_, rfl⟩
        rw [decide_eq_decide]
        exact ⟨.inr, fun h => h.resolve_left fun n => n hb⟩
    · have hb := of_decide_eq_true hb
      walk_at "es"
      have e := find_first (g := gC rows ring) hi ok (by unfold gC; rw [if_pos hb])
      unfold faultD at z
      rw [e] at z
      exact z
    · have hb := of_decide_eq_false hb
      walk_at "es"
      refine ⟨_, ?_, fun j hj => ?_, rfl⟩
      · walk_at "le"
      · rcases Nat.lt_or_ge j i with q | q
        · exact ok j q
        · obtain rfl : j = i := by omega
          unfold gC
          rw [if_neg hb]
  rintro ρ' ⟨ok, rfl⟩
  refine nx_seq ?_
  rw [enum_len] at ok
  have e0 := find_no ok
  have mem : ∀ k, k < ring.length → at' ring k ∈ rows := fun k hk => by
    have := ok k hk
    unfold gC at this
    split at this
    · cases this
    · rename_i q
      exact Classical.byContradiction fun h => q (.inl h)
  unfold faultD at z
  rw [e0] at z
  simp only at z
  walk_at "es"
  rw [List.length_map]
  by_cases q : ring.length < 3
  · rw [if_pos q] at z
    walk_at "yes"
    obtain ⟨lo, hi, h1, h0⟩ : ∃ lo hi : D, (rows ≠ [] → lo = encP (at' rows 0) ∧ hi = encP (at' rows (rows.length - 1))) ∧ (rows = [] → lo = .none ∧ hi = .none) := by
      by_cases e : rows = []
      · exact ⟨.none, .none, fun h => absurd e h, fun _ => ⟨rfl, rfl⟩⟩
      · exact ⟨_, _, fun _ => ⟨rfl, rfl⟩, fun h => absurd h e⟩
    refine sx_seq (sx_asgT (J := [5, 6]) (ex_val (.tuple [lo, hi]) ?_ ?_))
    · walk_at "es"
      by_cases e : rows = []
      · subst e
        obtain ⟨rfl, rfl⟩ := h0 rfl
        walk_at "no"
        walk_at "es"
        exact ⟨rfl, rfl⟩
      · obtain ⟨rfl, rfl⟩ := h1 e
        have hp := List.length_pos_iff.mpr e
        rw [List.length_map]
        walk_at "yes"
        walk_at "es"
        refine opd_ixL (at_D (k := 0) hp) ?_
        walk_at "es"
        refine opd_ixL (at_E e) ?_
        walk_at "es"
        exact ⟨rfl, rfl⟩
    refine sg_tup rfl (sgs_cons (sg_name (by simp) (sgs_cons (sg_name (by simp) (sgs_nil ?_)))))
    refine nx_seq ?_
    walk_at "w"
    refine sx_seq (sx_asg (ex_cb (ea_cons (ex_of (eo_lcP (α := Pt) (fun _ => true) (fun t => .bool (decide (tn (at' rows 0) (at' rows (rows.length - 1)) t = 0))) (ei_list ?_))))))
    walk_at "es"
    refine ⟨by omega, fun i hi => by simp at hi; subst hi; rfl, fun t ht => sg_name (by simp) ⟨rfl, ?_⟩, ?_⟩
    · have e : rows ≠ [] := fun h => by rw [h] at ht; cases ht
      have hp := List.length_pos_iff.mpr e
      obtain ⟨rfl, rfl⟩ := h1 e
      walk_at "w"
      refine et_yes ⟨rfl, rfl, fun _ => ?_⟩
      walk_at "es"
      refine ⟨_, _, t, rfl, ⟨at_Sm sm2 hp, at_Sm sm2 (by omega), sm2 t ht⟩, ?_⟩
      walk_at "es"
      exact ⟨rfl, rfl⟩
    rw [filt_all, show (rows.map fun t => PyData.bool (decide (tn (at' rows 0) (at' rows (rows.length - 1)) t = 0))) = (rows.map fun t => decide (tn (at' rows 0) (at' rows (rows.length - 1)) t = 0)).map .bool by rw [List.map_map]; rfl]
    walk_at "es"
    refine cbd_all ?_
    rw [List.all_map, show rows.all (id ∘ fun t => decide (tn (at' rows 0) (at' rows (rows.length - 1)) t = 0)) = decide (∀ t ∈ rows, tn (at' rows 0) (at' rows (rows.length - 1)) t = 0) by rw [Bool.eq_iff_iff]; simp]
    walk_at "ei"
    refine sx_seq (sx_asg (ex_val (.list ((if rows.length < 2 then rows else [at' rows 0, at' rows (rows.length - 1)]).map encP)) ?_ ?_))
    · walk_at "es"
      by_cases e : rows.length < 2
      · rw [if_pos e, List.length_map]
        walk_at "yes"
        walk_at "es"
        exact ⟨rfl, rfl⟩
      · rw [if_neg e, List.length_map]
        have e2 : rows ≠ [] := fun h => by rw [h] at e; simp at e
        obtain ⟨rfl, rfl⟩ := h1 e2
        walk_at "no"
        walk_at "es"
        exact ⟨rfl, rfl⟩
    refine nx_seq ?_
    walk_at "w"
    have fs := flat_same (ring := ring) ha q
    generalize hdue : (if rows.length < 2 then rows else [at' rows 0, at' rows (rows.length - 1)]) = due at *
    have zz : (ring = ringOf rows ↔ (∀ t ∈ rows, tn (at' rows 0) (at' rows (rows.length - 1)) t = 0) ∧ ring = due) := fs
    by_cases hf : ∀ t ∈ rows, tn (at' rows 0) (at' rows (rows.length - 1)) t = 0
    · by_cases he : ring = due
      · rw [if_pos (decide_eq_true (zz.mpr ⟨hf, he⟩))] at z
        rw [decide_eq_true hf]
        walk_at "es"
        walk_at "yes"
        walk_at "es"
        refine opd_eqP (depth_L ring _) ?_
        rw [eqv_LP, decide_eq_true he]
        walk_at "es"
        walk_at "yes"
        walk_at "es"
        exact z
      · rw [if_neg (by simpa using fun h => he (zz.mp h).2)] at z
        rw [decide_eq_true hf]
        walk_at "es"
        walk_at "yes"
        walk_at "es"
        refine opd_eqP (depth_L ring _) ?_
        rw [eqv_LP, decide_eq_false he]
        walk_at "es"
        walk_at "no"
        walk_at "es"
        exact z
    · rw [if_neg (by simpa using fun h => hf (zz.mp h).1)] at z
      rw [decide_eq_false hf]
      walk_at "es"
      walk_at "no"
      walk_at "es"
      walk_at "no"
      walk_at "es"
      exact z
  · rw [if_neg q] at z
    walk_at "no"
    walk_at "es"
    have hp : 0 < ring.length := by omega
    refine opd_ixL (at_D (k := 0) hp) ?_
    walk_at "es"
    refine cbd_minP hp ?_
    walk_at "es"
    refine opd_neP (depth_1 _ _) ?_
    rw [eqv_encP]
    walk_at "es"
    by_cases qf : at' ring 0 = minPs ring
    · rw [if_pos qf] at z
      rw [decide_eq_true qf]
      walk_at "no"
      walk_at "es"
      refine sx_for (J := [3]) (ei_rng1 ?_)
      walk_at "es"
      rw [List.length_map]
      refine ⟨by omega, fun i ρ' => (∀ j, j < i → gE rows ring j = none) ∧ ρ' = [.val (.list (ps.map encP)), .val (.list (ring.map encP)), .val (.list (rows.map encP)), .emp, .emp, .emp, .emp, .emp, .emp, .emp, .emp, .emp], ⟨fun j hj => absurd hj (Nat.not_lt_zero _), rfl⟩, ?_, ?_⟩
      · rintro i dd ρ' hd0 ⟨ok, rfl⟩
        obtain ⟨hi, rfl⟩ := rng_at hd0
        rw [Int.zero_add]
        have hi : i < ring.length := by omega
        have m1 := Nat.mod_lt (i + 1) hp
        have m2 := Nat.mod_lt (i + 2) hp
        refine sg_name (by simp) ?_
        walk_at "w"
        walk_at "es"
        refine opd_ixL (at_D hi) ?_
        walk_at "es"
        rw [List.length_map]
        refine op_m1 hp ?_
        refine opd_ixL (at_D m1) ?_
        walk_at "es"
        rw [List.length_map]
        refine op_m2 hp ?_
        refine opd_ixL (at_D m2) ?_
        walk_at "es"
        refine ⟨_, _, _, rfl, ⟨at_Sm sr hi, at_Sm sr m1, at_Sm sr m2⟩, ?_⟩
        walk_at "es"
        by_cases qt : tn (at' ring i) (at' ring ((i + 1) % ring.length)) (at' ring ((i + 2) % ring.length)) ≤ 0
        · rw [decide_eq_true qt]
          walk_at "yes"
          walk_at "es"
          have e := find_first (g := gE rows ring) hi ok (by unfold gE; rw [if_pos qt])
          rw [e] at z
          exact z
        · rw [decide_eq_false qt]
          walk_at "no"
          walk_at "es"
          refine sx_for (J := [8]) (ei_list ?_)
          walk_at "es"
          refine ⟨fun m ρ' => (∀ j, j < m → gO rows (at' ring i) (at' ring ((i + 1) % ring.length)) j = none) ∧ ρ' = [.val (.list (ps.map encP)), .val (.list (ring.map encP)), .val (.list (rows.map encP)), .val (.int (i : Int)), .emp, .emp, .emp, .emp, .emp, .emp, .val (encP (at' ring i)), .val (encP (at' ring ((i + 1) % ring.length)))], ⟨fun j hj => absurd hj (Nat.not_lt_zero _), rfl⟩, ?_, ?_⟩
          · rintro m dd ρ' hd0 ⟨ok2, rfl⟩
            obtain ⟨c, hc, rfl⟩ := map_at hd0
            have hm := (List.getElem?_eq_some_iff.mp hc).1
            obtain rfl := at_getD hc
            refine sg_name (by simp) ?_
            walk_at "w"
            walk_at "es"
            refine ⟨_, _, _, rfl, ⟨at_Sm sr hi, at_Sm sr m1, at_Sm sm2 hm⟩, ?_⟩
            walk_at "es"
            by_cases qo : tn (at' ring i) (at' ring ((i + 1) % ring.length)) (at' rows m) < 0
            · rw [decide_eq_true qo]
              walk_at "yes"
              walk_at "es"
              have e := find_first (g := gO rows (at' ring i) (at' ring ((i + 1) % ring.length))) hm ok2 (by unfold gO; rw [if_pos qo])
              have e2 := find_first (g := gE rows ring) hi ok (by unfold gE; rw [if_neg qt, e])
              rw [e2] at z
              exact z
            · rw [decide_eq_false qo]
              walk_at "no"
              walk_at "es"
              refine ⟨_, ?_, fun j hj => ?_, rfl⟩
              · walk_at "le"
              · rcases Nat.lt_or_ge j m with q | q
                · exact ok2 j q
                · obtain rfl : j = m := by omega
                  unfold gO
                  rw [if_neg qo]
          rintro ρ' ⟨ok2, rfl⟩
          rw [List.length_map] at ok2
          refine ⟨_, ?_, fun j hj => ?_, rfl⟩
          · walk_at "le"
          · rcases Nat.lt_or_ge j i with q | q
            · exact ok j q
            · obtain rfl : j = i := by omega
              unfold gE
              rw [if_neg qt, find_no ok2]
      rintro ρ' ⟨ok, rfl⟩
      rw [List.length_map, rngI_len, Int.toNat_natCast] at ok
      rw [find_no ok] at z
      refine nx_seq ?_
      walk_at "es"
      exact z
    · rw [if_neg qf] at z
      rw [decide_eq_false qf]
      walk_at "yes"
      walk_at "es"
      exact z

end R
end Law_k21
namespace Law_k21
open PySem L2 Pu
local macro_rules | `(tactic| walk_at "e") => `(tactic| first
  | ((with_reducible refine nx_seq ?_); (try dsimp only [List.set_cons_succ, List.set_cons_zero]))
  | ((with_reducible refine ex_vr ?_); dsimp only [VQ, List.set_cons_succ, List.set_cons_zero, List.getElem?_cons_zero, List.getElem?_cons_succ]; (fail_if_success (with_reducible show False)))
  | (with_reducible refine sx_seq ?_)
  | (with_reducible refine sx_if ?_)
  | (with_reducible refine sx_next ?_)
  | (with_reducible refine sx_ret ?_)
  | ((fail_if_success (with_reducible refine sx_asgO (eo_lst ?_))); (with_reducible refine sx_asg ?_))
  | (with_reducible refine ex_int ?_)
  | (with_reducible refine ex_str ?_)
  | (with_reducible refine ex_bl ?_)
  | (with_reducible refine ex_non ?_)
  | (with_reducible refine ex_op ?_)
  | (with_reducible refine ex_un ?_)
  | (with_reducible refine ex_chain ?_)
  | (with_reducible refine ex_call ?_)
  | (with_reducible refine ex_isT ?_)
  | (with_reducible refine ex_cb ?_)
  | (with_reducible refine ex_sl ?_)
  | (with_reducible refine ex_tup ?_)
  | (with_reducible refine ex_if ?_)
  | (with_reducible refine ex_of (eo_lst ?_))
  | (with_reducible refine ex_notV ?_)
  | (with_reducible refine ea_nil ?_)
  | (with_reducible refine ea_cons ?_)
  | (with_reducible refine ep_no ?_)
  | (with_reducible refine ep_some ?_)
  | (with_reducible refine et_test ?_)
  | (with_reducible refine et_B ?_)
  | (with_reducible refine et_ch3 ?_)
  | (with_reducible refine et_and ?_)
  | (with_reducible refine et_or ?_)
  | (with_reducible refine et_not ?_)
  | (with_reducible refine et_yes ?_)
  | (with_reducible refine et_truL ?_)
  | (with_reducible refine opd_plusI ?_)
  | (with_reducible refine opd_I0 ?_)
  | (with_reducible refine opd_B0 ?_)
  | (with_reducible refine opd_eqI ?_)
  | (with_reducible refine opd_neI ?_)
  | (with_reducible refine opd_eqS ?_)
  | (with_reducible refine opd_neS ?_)
  | (with_reducible refine opd_is ?_)
  | (with_reducible refine opd_isnt ?_)
  | (with_reducible refine opd_ixT rfl ?_)
  | (with_reducible refine opd_ixL rfl ?_)
  | (with_reducible refine und_neg ?_)
  | (with_reducible refine cbd_lenL ?_)
  | (with_reducible refine cbd_lenT ?_)
  | (with_reducible refine cbd_min2 ?_)
  | (with_reducible refine cbd_max2 ?_)
  | (with_reducible refine cbd_abs ?_)
  | (with_reducible refine cbd_int ?_)
  | (with_reducible refine cbd_tupL ?_)
  | (with_reducible refine cbd_listL ?_)
  | (with_reducible refine cbd_listT ?_)
  | (with_reducible refine cbd_sum ?_)
  | (with_reducible refine sld_T ?_)
  | (with_reducible refine sld_L ?_)
  | (with_reducible refine ex_revL ?_)
  | (with_reducible refine ex_bmL ?_)
  | (with_reducible refine ex_andV ?_)
  | (with_reducible refine ei_list ?_)
  | (with_reducible refine ei_rng1 ?_)
  | (with_reducible refine ei_rng2 ?_)
  | (with_reducible refine ei_enum ?_)
  | (with_reducible refine ei_enumT ?_)
  | (with_reducible refine ei_zip ?_)
  | (with_reducible refine sx_par ?_)
  | (with_reducible refine Exists.intro _ (And.intro rfl ?_))
  | (with_reducible refine Exists.intro _ (Exists.intro _ (And.intro rfl ?_)))
  | ((with_reducible show EX (tCall (spS _) [] _ (tCons (tVar _) _)) _ _); refine ex_callS rfl ?_)
  | ((with_reducible refine And.intro (show (_ : Nat) ≤ 100000 from ?_) ?_); (focus (simp; done)))
  | ((with_reducible refine opd_I ?_ ?_); focus (first | omega | (show CDiv _ _; exact ⟨by omega, by omega⟩) | (show CMul _ _; first | exact Or.inl ⟨by omega, by omega⟩ | exact Or.inr ⟨by omega, by omega⟩))))
local macro_rules | `(tactic| walk_at "es") => `(tactic| repeat walk_at "e")
local macro_rules | `(tactic| walk_at "w") => `(tactic| try dsimp only [wipeE, List.foldl_cons, List.foldl_nil, List.set_cons_succ, List.set_cons_zero])
local macro_rules | `(tactic| walk_at "le") => `(tactic| repeat' first | exact LeE.nil | (refine LeE.eq rfl ?_) | (refine LeE.emp ?_) | (refine LeE.eq ?_ ?_))
local macro_rules | `(tactic| walk_at "no") => `(tactic| ((refine And.intro (fun hb => absurd hb ?_) (fun _ => ?_)); (focus (first | (exact Bool.false_ne_true) | (simp; done) | (simp; omega) | (simp only [decide_eq_true_eq]; omega)))))
local macro_rules | `(tactic| walk_at "yes") => `(tactic| ((refine And.intro (fun _ => ?_) (fun hb => absurd hb ?_)); (rotate_left); (focus (first | (exact Bool.noConfusion) | (simp; done) | (simp; omega) | (simp only [decide_eq_false_iff_not]; omega)))))
local macro_rules | `(tactic| walk_at "ei") => `(tactic| repeat ((fail_if_success (with_reducible show SX (tSeq (tIfS _ _ _) _) _ _)); (fail_if_success (with_reducible show SX (tIfS _ _ _) _ _)); (fail_if_success (with_reducible show SX (tSeq (tAsg (tIf _ _ _) _) _) _ _)); walk_at "e"))
local macro_rules | `(tactic| walk_at "tv") => `(tactic| repeat' first | walk_at "e" | ((with_reducible show (_ = true → _) ∧ (_ = false → _)); refine And.intro (fun _ => ?_) (fun _ => ?_)))
namespace R
theorem minPs_is {ps : List Pt} {m : Pt} (hm : m ∈ ps) (h : ∀ y ∈ ps, y = m ∨ Pu.ltP m y = true) : minPs ps = m := by
  have asym : ∀ a b : Pt, Pu.ltP a b = true → Pu.ltP b a = false := fun a b h => by
    unfold Pu.ltP at h ⊢
    have h := of_decide_eq_true h
    exact decide_eq_false (by omega)
  have irr : ∀ b : Pt, Pu.ltP b b = false := fun b => by unfold Pu.ltP; exact decide_eq_false (by omega)
  have go : ∀ (qs : List Pt) (a : Pt), (∀ y ∈ a :: qs, y = m ∨ Pu.ltP m y = true) → m ∈ a :: qs → qs.foldl (fun a y => if Pu.ltP y a = true then y else a) a = m := by
    intro qs
    induction qs with
    | nil => exact fun a _ hm => (List.mem_singleton.mp hm).symm
    | cons q qs ih =>
      intro a h hm
      rw [List.foldl_cons]
      refine ih _ (fun y hy => ?_) ?_
      · rcases List.mem_cons.mp hy with rfl | hy
        · split
          · exact h q (by simp)
          · exact h a (by simp)
        · exact h y (by simp [hy])
      · have ha := h a (by simp)
        have hq := h q (by simp)
        rcases List.mem_cons.mp hm with e | hm
        · subst e
          rcases hq with e | e
          · subst e; rw [irr, if_neg (by decide)]; simp
          · rw [asym _ _ e, if_neg (by decide)]; simp
        · rcases List.mem_cons.mp hm with e | hm
          · subst e
            rcases ha with e | e
            · subst e; rw [irr, if_neg (by decide)]; simp
            · rw [if_pos e]; simp
          · exact List.mem_cons_of_mem _ hm
  cases ps with
  | nil => cases hm
  | cons p ps => exact go ps p h hm
theorem ltP_of {a b : Pt} (h : lx a b) : Pu.ltP a b = true := decide_eq_true h
/-! ### within, near, clear, the area -/
instance (a b : Pt) : Decidable (leP a b) := by unfold leP; infer_instance
instance (r : List Pt) (p : Pt) : Decidable (inC r p) := by unfold inC; infer_instance
/-- a ring as ring_around tells it: near 0, two corners in order -/
def RgD (r : List Pt) : Prop := (∀ p ∈ r, Sm p) ∧ r.length ≤ 20 ∧ (r.length = 2 → lx (at' r 0) (at' r 1))
def R_within : List D → (D → Prop) → Prop := fun ds Z => ∃ (r : List Pt) (p : Pt), ds = [.list (r.map encP), encP p] ∧ RgD r ∧ Sm p ∧ Z (.bool (decide (inC r p)))
theorem ltP_lx (a b : Pt) : Pu.ltP a b = decide (lx a b) := by
  unfold Pu.ltP
  exact decide_eq_decide.mpr Iff.rfl
theorem nltP {a b : Pt} : (!Pu.ltP b a) = decide (leP a b) := by
  rw [ltP_lx]
  by_cases h : lx b a
  · rw [decide_eq_true h]
    refine (decide_eq_false fun k => ?_).symm
    rcases k with rfl | k
    · exact lx_irr h
    · exact lx_irr (lx_trans h k)
  · rw [decide_eq_false h]
    refine (decide_eq_true ?_).symm
    rcases lx_tri a b with e | e | e
    · exact .inl e
    · exact .inr e
    · exact absurd e h
theorem all_rng (n : Nat) (f : Nat → Bool) : (((rngI 0 n).map fun k => f k.toNat).all id) = decide (∀ k, k < n → f k = true) := by
  rw [Bool.eq_iff_iff, List.all_eq_true, decide_eq_true_eq]
  constructor
  · intro h k hk
    have := h (f k) (List.mem_map.mpr ⟨(k : Int), rngI_mem.mpr ⟨by omega, by omega⟩, by rw [Int.toNat_natCast]⟩)
    exact this
  · intro h b hb
    obtain ⟨k, hk, rfl⟩ := List.mem_map.mp hb
    have hk := rngI_mem.mp hk
    exact h k.toNat (by omega)
theorem cbd_max2P {K : PySem.W.Frag} {a b : Pt} {Q : D → Prop} (l : lx a b) (k : Q (encP b)) : CbD (rMxD K) [.list [encP a, encP b]] Q := by
  refine cbd_maxD (d := encP a) (ds := [encP b]) (alike_P [a, b]) (deep_P [a, b]) ?_
  have e : PySem.W.maxD (encP a) [encP b] = encP b := by
    show (if PySem.W.dataLt (encP a) (encP b) then encP b else encP a) = _
    rw [dataLt_P, ltP_of l]
    rfl
  rw [e]
  exact k
theorem sx_is_within (K : PySem.W.Frag) (ds : List D) (Z : D → Prop) (h : R_within ds Z) : SX (T_is_within K R_turn) (startE N_is_within ds) { nx := fun _ => Z .none, rt := fun d _ => Z d } := by
  obtain ⟨r, p, rfl, ⟨sr, hl, h2⟩, sp, z⟩ := h
  show SX (T_is_within K R_turn) [.val (.list (r.map encP)), .val (encP p), .emp] _
  unfold T_is_within
  walk_at "es"
  rw [List.length_map]
  by_cases q : r.length < 3
  · walk_at "yes"
    walk_at "es"
    rw [List.length_map]
    by_cases q2 : r.length < 2
    · walk_at "yes"
      walk_at "es"
      refine in_P ?_
      have e : inC r p ↔ p ∈ r := by unfold inC; rw [if_pos q, if_pos q2]
      rwa [decide_eq_decide.mpr e] at z
    · walk_at "no"
      obtain ⟨a, b, rfl⟩ : ∃ a b, r = [a, b] := by
        match r, q, q2 with
        | [a, b], _, _ => exact ⟨a, b, rfl⟩
        | [], _, q2 => simp at q2
        | [_], _, q2 => simp at q2
      have l : lx a b := h2 rfl
      have s0 := sr a (by simp)
      have s1 := sr b (by simp)
      have e : inC [a, b] p ↔ tn a b p = 0 ∧ leP a p ∧ leP p b := Iff.rfl
      rw [decide_eq_decide.mpr e] at z
      walk_at "es"
      refine ⟨a, b, p, rfl, ⟨s0, s1, sp⟩, ?_⟩
      walk_at "es"
      by_cases c1 : tn a b p = 0
      · rw [decide_eq_true c1]
        walk_at "yes"
        have e2 : (tn a b p = 0 ∧ leP a p ∧ leP p b) ↔ (leP a p ∧ leP p b) := ⟨fun h => h.2, fun h => ⟨c1, h⟩⟩
        rw [decide_eq_decide.mpr e2] at z
        walk_at "es"
        refine cbd_minP (ps := [a, b]) (by simp) ?_
        rw [minPs_is (ps := [a, b]) (m := a) (by simp) fun y hy => by
          simp at hy
          rcases hy with rfl | rfl
          · exact .inl rfl
          · exact .inr (ltP_of l)]
        walk_at "es"
        refine opd_leP ?_
        rw [nltP]
        walk_at "es"
        by_cases c2 : leP a p
        · rw [decide_eq_true c2]
          walk_at "yes"
          walk_at "es"
          refine cbd_max2P l ?_
          walk_at "es"
          refine opd_leP ?_
          rw [nltP]
          have e3 : (leP a p ∧ leP p b) ↔ leP p b := ⟨fun h => h.2, fun h => ⟨c2, h⟩⟩
          rwa [decide_eq_decide.mpr e3] at z
        · rw [decide_eq_false c2]
          walk_at "no"
          rwa [decide_eq_false fun h => c2 h.1] at z
      · rw [decide_eq_false c1]
        walk_at "no"
        rwa [decide_eq_false fun h => c1 h.1] at z
  · walk_at "no"
    walk_at "es"
    have hp : 0 < r.length := by omega
    refine ex_of (eo_lcP (α := Int) (fun _ => true) (fun k => .bool (decide (0 ≤ tn (at' r k.toNat) (at' r ((k.toNat + 1) % r.length)) p))) (ei_rng1 ?_))
    walk_at "es"
    rw [List.length_map]
    refine ⟨by omega, rngI 0 r.length, _, rfl, by rw [rngI_len]; omega, fun i hi => by simp at hi; subst hi; rfl, fun x hx => sg_name (by simp) ⟨rfl, ?_⟩, ?_⟩
    · have hx := rngI_mem.mp hx
      obtain ⟨k, rfl⟩ : ∃ k : Nat, x = (k : Int) := ⟨x.toNat, by omega⟩
      have hk : k < r.length := by omega
      have m1 := Nat.mod_lt (k + 1) hp
      rw [Int.toNat_natCast]
      walk_at "w"
      refine et_yes ⟨rfl, rfl, fun _ => ?_⟩
      walk_at "es"
      refine opd_ixL (at_D hk) ?_
      walk_at "es"
      rw [List.length_map]
      refine op_m1 hp ?_
      refine opd_ixL (at_D m1) ?_
      walk_at "es"
      refine ⟨_, _, p, rfl, ⟨at_Sm sr hk, at_Sm sr m1, sp⟩, ?_⟩
      walk_at "es"
      exact ⟨rfl, rfl⟩
    rw [filt_all, show ((rngI 0 r.length).map fun k => PyData.bool (decide (0 ≤ tn (at' r k.toNat) (at' r ((k.toNat + 1) % r.length)) p))) = ((rngI 0 r.length).map fun k => decide (0 ≤ tn (at' r k.toNat) (at' r ((k.toNat + 1) % r.length)) p)).map .bool by rw [List.map_map]; rfl]
    walk_at "es"
    refine cbd_all ?_
    rw [all_rng r.length fun k => decide (0 ≤ tn (at' r k) (at' r ((k + 1) % r.length)) p)]
    have e : inC r p ↔ ∀ k, k < r.length → decide (0 ≤ tn (at' r k) (at' r ((k + 1) % r.length)) p) = true := by
      unfold inC
      rw [if_neg q]
      simp
    rwa [decide_eq_decide.mpr e] at z
/-! near -/
instance (a b p : Pt) (f : Int) : Decidable (nearE a b p f) := by unfold nearE; infer_instance
instance (a b p : Pt) (f : Int) : Decidable (nearL a b p f) := by unfold nearL; infer_instance
def R_near : List D → (D → Prop) → Prop := fun ds Z => ∃ (a b p : Pt) (f : Int), ds = [encP a, encP b, encP p, .int f] ∧ (Sm a ∧ Sm b ∧ Sm p) ∧ (0 ≤ f ∧ f ≤ 100) ∧ Z (.bool (decide (nearE a b p f)))
def R_lnear : List D → (D → Prop) → Prop := fun ds Z => ∃ (a b p : Pt) (f : Int), ds = [encP a, encP b, encP p, .int f] ∧ (Sm a ∧ Sm b ∧ Sm p) ∧ (0 ≤ f ∧ f ≤ 100) ∧ Z (.bool (decide (nearL a b p f)))
def clearF (r : List Pt) (p : Pt) (f : Int) : Bool := !decide (∃ k, k < r.length ∧ (fr (at' r k) p < f * f ∨ nearE (at' r k) (at' r ((k + 1) % r.length)) p f)) && !decide (inC r p)
def R_clear : List D → (D → Prop) → Prop := fun ds Z => ∃ (r : List Pt) (p : Pt) (f : Int), ds = [.list (r.map encP), encP p, .int f] ∧ RgD r ∧ Sm p ∧ (0 ≤ f ∧ f ≤ 100) ∧ Z (.bool (clearF r p f))
/-! the area -/
def R_area : List D → (D → Prop) → Prop := fun ds Z => ∃ r : List Pt, ds = [.list (r.map encP)] ∧ RgD r ∧ Z (.int (sumI r r.length))
theorem after_at {r : List Pt} {k : Nat} (hk : k < r.length) : (r.drop 1 ++ r.take 1)[k]? = some (at' r ((k + 1) % r.length)) := by
  by_cases q : k + 1 < r.length
  · rw [List.getElem?_append_left (by rw [List.length_drop]; omega), List.getElem?_drop, Nat.mod_eq_of_lt q, Nat.add_comm, at_some q]
  · have e : k + 1 = r.length := by omega
    rw [List.getElem?_append_right (by rw [List.length_drop]; omega), List.length_drop, show k - (r.length - 1) = 0 by omega, e, Nat.mod_self, List.getElem?_take, if_pos (by omega), at_some (by omega)]
theorem sum_cr (r : List Pt) : ∀ n, ((List.range n).map fun k => cr (at' r k) (at' r ((k + 1) % r.length))).sum = sumI r n
  | 0 => rfl
  | n + 1 => by
    rw [List.range_succ, List.map_append, List.sum_append, sum_cr r n]
    simp [sumI]
theorem sx_area_twice (K : PySem.W.Frag) (ds : List D) (Z : D → Prop) (h : R_area ds Z) : SX (T_area_twice K) (startE N_area_twice ds) { nx := fun _ => Z .none, rt := fun d _ => Z d } := by
  obtain ⟨r, rfl, ⟨sr, hl, _⟩, z⟩ := h
  show SX (T_area_twice K) [.val (.list (r.map encP)), .emp, .emp, .emp] _
  unfold T_area_twice
  walk_at "es"
  rw [show (some (1 : Int)) = some ((1 : Nat) : Int) from rfl, cut_n, cut_drop]
  refine opd_plusL (by simp only [List.length_map, List.length_drop, List.length_take]; omega) ?_
  rw [← List.map_append]
  walk_at "es"
  refine ex_of (eo_lcP (α := Nat) (fun _ => true) (fun k => .int (cr (at' r k) (at' r ((k + 1) % r.length)))) (ei_zip ?_))
  walk_at "es"
  have hz : List.zipWith (fun d f => PyData.tuple [d, f]) (r.map encP) ((r.drop 1 ++ r.take 1).map encP) = (List.range r.length).map fun k => .tuple [encP (at' r k), encP (at' r ((k + 1) % r.length))] := by
    refine List.ext_getElem? fun k => ?_
    by_cases hk : k < r.length
    · rw [List.getElem?_zipWith, List.getElem?_map, List.getElem?_map, List.getElem?_map, at_some hk, after_at hk, List.getElem?_range hk]
      rfl
    · rw [List.getElem?_eq_none (by simp; omega), List.getElem?_eq_none (by simp; omega)]
  refine ⟨List.range r.length, fun k => .tuple [encP (at' r k), encP (at' r ((k + 1) % r.length))], hz, by rw [List.length_range]; omega, fun i hi => by simp at hi; rcases hi with rfl | rfl <;> rfl, fun k hk => sg_tup rfl (sgs_cons (sg_name (by simp) (sgs_cons (sg_name (by simp) (sgs_nil ⟨rfl, ?_⟩))))), ?_⟩
  · have hk := List.mem_range.mp hk
    have s1 := at_Sm sr hk
    have s2 := at_Sm sr (Nat.mod_lt (k + 1) (show 0 < r.length by omega))
    generalize at' r k = a at *
    generalize at' r ((k + 1) % r.length) = b at *
    unfold Sm at s1 s2
    unfold encP
    walk_at "w"
    refine et_yes ⟨rfl, rfl, fun _ => ?_⟩
    walk_at "es"
    exact ⟨rfl, rfl⟩
  rw [filt_all, show ((List.range r.length).map fun k => PyData.int (cr (at' r k) (at' r ((k + 1) % r.length)))) = ((List.range r.length).map fun k => cr (at' r k) (at' r ((k + 1) % r.length))).map .int by rw [List.map_map]; rfl]
  walk_at "es"
  rw [sum_cr]
  exact z

end R
end Law_k21
namespace Law_k21
open PySem L2 Pu
local macro_rules | `(tactic| walk_at "e") => `(tactic| first
  | ((with_reducible refine nx_seq ?_); (try dsimp only [List.set_cons_succ, List.set_cons_zero]))
  | ((with_reducible refine ex_vr ?_); dsimp only [VQ, List.set_cons_succ, List.set_cons_zero, List.getElem?_cons_zero, List.getElem?_cons_succ]; (fail_if_success (with_reducible show False)))
  | (with_reducible refine sx_seq ?_)
  | (with_reducible refine sx_if ?_)
  | (with_reducible refine sx_next ?_)
  | (with_reducible refine sx_ret ?_)
  | ((fail_if_success (with_reducible refine sx_asgO (eo_lst ?_))); (with_reducible refine sx_asg ?_))
  | (with_reducible refine ex_int ?_)
  | (with_reducible refine ex_str ?_)
  | (with_reducible refine ex_bl ?_)
  | (with_reducible refine ex_non ?_)
  | (with_reducible refine ex_op ?_)
  | (with_reducible refine ex_un ?_)
  | (with_reducible refine ex_chain ?_)
  | (with_reducible refine ex_call ?_)
  | (with_reducible refine ex_isT ?_)
  | (with_reducible refine ex_cb ?_)
  | (with_reducible refine ex_sl ?_)
  | (with_reducible refine ex_tup ?_)
  | (with_reducible refine ex_if ?_)
  | (with_reducible refine ex_of (eo_lst ?_))
  | (with_reducible refine ex_notV ?_)
  | (with_reducible refine ea_nil ?_)
  | (with_reducible refine ea_cons ?_)
  | (with_reducible refine ep_no ?_)
  | (with_reducible refine ep_some ?_)
  | (with_reducible refine et_test ?_)
  | (with_reducible refine et_B ?_)
  | (with_reducible refine et_ch3 ?_)
  | (with_reducible refine et_and ?_)
  | (with_reducible refine et_or ?_)
  | (with_reducible refine et_not ?_)
  | (with_reducible refine et_yes ?_)
  | (with_reducible refine et_truL ?_)
  | (with_reducible refine opd_plusI ?_)
  | (with_reducible refine opd_I0 ?_)
  | (with_reducible refine opd_B0 ?_)
  | (with_reducible refine opd_eqI ?_)
  | (with_reducible refine opd_neI ?_)
  | (with_reducible refine opd_eqS ?_)
  | (with_reducible refine opd_neS ?_)
  | (with_reducible refine opd_is ?_)
  | (with_reducible refine opd_isnt ?_)
  | (with_reducible refine opd_ixT rfl ?_)
  | (with_reducible refine opd_ixL rfl ?_)
  | (with_reducible refine und_neg ?_)
  | (with_reducible refine cbd_lenL ?_)
  | (with_reducible refine cbd_lenT ?_)
  | (with_reducible refine cbd_min2 ?_)
  | (with_reducible refine cbd_max2 ?_)
  | (with_reducible refine cbd_abs ?_)
  | (with_reducible refine cbd_int ?_)
  | (with_reducible refine cbd_tupL ?_)
  | (with_reducible refine cbd_listL ?_)
  | (with_reducible refine cbd_listT ?_)
  | (with_reducible refine cbd_sum ?_)
  | (with_reducible refine sld_T ?_)
  | (with_reducible refine sld_L ?_)
  | (with_reducible refine ex_revL ?_)
  | (with_reducible refine ex_bmL ?_)
  | (with_reducible refine ex_andV ?_)
  | (with_reducible refine ei_list ?_)
  | (with_reducible refine ei_rng1 ?_)
  | (with_reducible refine ei_rng2 ?_)
  | (with_reducible refine ei_enum ?_)
  | (with_reducible refine ei_enumT ?_)
  | (with_reducible refine ei_zip ?_)
  | (with_reducible refine sx_par ?_)
  | (with_reducible refine Exists.intro _ (And.intro rfl ?_))
  | (with_reducible refine Exists.intro _ (Exists.intro _ (And.intro rfl ?_)))
  | ((with_reducible show EX (tCall (spS _) [] _ (tCons (tVar _) _)) _ _); refine ex_callS rfl ?_)
  | ((with_reducible refine And.intro (show (_ : Nat) ≤ 100000 from ?_) ?_); (focus (simp; done)))
  | ((with_reducible refine opd_I ?_ ?_); focus (first | omega | (show CDiv _ _; exact ⟨by omega, by omega⟩) | (show CMul _ _; first | exact Or.inl ⟨by omega, by omega⟩ | exact Or.inr ⟨by omega, by omega⟩))))
local macro_rules | `(tactic| walk_at "es") => `(tactic| repeat walk_at "e")
local macro_rules | `(tactic| walk_at "w") => `(tactic| try dsimp only [wipeE, List.foldl_cons, List.foldl_nil, List.set_cons_succ, List.set_cons_zero])
local macro_rules | `(tactic| walk_at "le") => `(tactic| repeat' first | exact LeE.nil | (refine LeE.eq rfl ?_) | (refine LeE.emp ?_) | (refine LeE.eq ?_ ?_))
local macro_rules | `(tactic| walk_at "no") => `(tactic| ((refine And.intro (fun hb => absurd hb ?_) (fun _ => ?_)); (focus (first | (exact Bool.false_ne_true) | (simp; done) | (simp; omega) | (simp only [decide_eq_true_eq]; omega)))))
local macro_rules | `(tactic| walk_at "yes") => `(tactic| ((refine And.intro (fun _ => ?_) (fun hb => absurd hb ?_)); (rotate_left); (focus (first | (exact Bool.noConfusion) | (simp; done) | (simp; omega) | (simp only [decide_eq_false_iff_not]; omega)))))
local macro_rules | `(tactic| walk_at "ei") => `(tactic| repeat ((fail_if_success (with_reducible show SX (tSeq (tIfS _ _ _) _) _ _)); (fail_if_success (with_reducible show SX (tIfS _ _ _) _ _)); (fail_if_success (with_reducible show SX (tSeq (tAsg (tIf _ _ _) _) _) _ _)); walk_at "e"))
local macro_rules | `(tactic| walk_at "tv") => `(tactic| repeat' first | walk_at "e" | ((with_reducible show (_ = true → _) ∧ (_ = false → _)); refine And.intro (fun _ => ?_) (fun _ => ?_)))
namespace R
/-! ### the two farthest -/
abbrev T3 := Int × Pt × Pt
def ltPP (x y : Pt × Pt) : Prop := lx x.1 y.1 ∨ x.1 = y.1 ∧ lx x.2 y.2
instance (x y : Pt × Pt) : Decidable (ltPP x y) := by unfold ltPP; infer_instance
def ge3 (t : T3) (c : Pt × Pt) : Prop := fr c.1 c.2 < t.1 ∨ fr c.1 c.2 = t.1 ∧ (t.2 = c ∨ ltPP t.2 c)
structure Bst (Pd : Pt × Pt → Prop) (t : T3) : Prop where
  mem : Pd t.2
  val : t.1 = fr t.2.1 t.2.2
  all : ∀ c, Pd c → ge3 t c
theorem pp_tri (x y : Pt × Pt) : x = y ∨ ltPP x y ∨ ltPP y x := by
  obtain ⟨a, b⟩ := x
  obtain ⟨c, d⟩ := y
  unfold ltPP
  rcases lx_tri a c with e | e | e
  · subst e
    rcases lx_tri b d with e | e | e
    · exact .inl (by rw [e])
    · exact .inr (.inl (.inr ⟨rfl, e⟩))
    · exact .inr (.inr (.inr ⟨rfl, e⟩))
  · exact .inr (.inl (.inl e))
  · exact .inr (.inr (.inl e))
theorem pp_trans {x y z : Pt × Pt} (h : ltPP x y) (k : ltPP y z) : ltPP x z := by
  unfold ltPP at *
  rcases h with h | ⟨h1, h2⟩ <;> rcases k with k | ⟨k1, k2⟩
  · exact .inl (lx_trans h k)
  · exact .inl (k1 ▸ h)
  · exact .inl (h1 ▸ k)
  · exact .inr ⟨h1.trans k1, lx_trans h2 k2⟩
theorem pp_irr {x : Pt × Pt} (h : ltPP x x) : False := by
  unfold ltPP at h
  rcases h with h | ⟨_, h⟩ <;> exact lx_irr h
theorem Bst.uniq {Pd : Pt × Pt → Prop} {s t : T3} (hs : Bst Pd s) (ht : Bst Pd t) : s = t := by
  have a := hs.all _ ht.mem
  have b := ht.all _ hs.mem
  unfold ge3 at a b
  rw [← ht.val] at a
  rw [← hs.val] at b
  have e1 : s.1 = t.1 := by omega
  have e2 : s.2 = t.2 := by
    rcases a with a | ⟨_, a | a⟩
    · omega
    · exact a
    · rcases b with b | ⟨_, b | b⟩
      · omega
      · exact b.symm
      · exact (pp_irr (pp_trans a b)).elim
  exact Prod.ext e1 e2
def beat (t : T3) (c : Pt × Pt) : Prop := t.1 < fr c.1 c.2 ∨ fr c.1 c.2 = t.1 ∧ ltPP c t.2
instance (t : T3) (c : Pt × Pt) : Decidable (beat t c) := by unfold beat; infer_instance
theorem Bst.step {Pd : Pt × Pt → Prop} {t : T3} (h : Bst Pd t) (c : Pt × Pt) : Bst (fun x => Pd x ∨ x = c) (if beat t c then (fr c.1 c.2, c) else t) := by
  by_cases q : beat t c
  · rw [if_pos q]
    refine ⟨.inr rfl, rfl, fun x hx => ?_⟩
    rcases hx with hx | rfl
    · have k := h.all x hx
      unfold ge3 at k ⊢
      unfold beat at q
      simp only
      rcases q with q | ⟨q1, q2⟩
      · left; omega
      · rcases k with k | ⟨k1, k2⟩
        · left; omega
        · refine .inr ⟨by omega, .inr ?_⟩
          rcases k2 with e | e
          · rw [← e]; exact q2
          · exact pp_trans q2 e
    · exact .inr ⟨rfl, .inl rfl⟩
  · rw [if_neg q]
    refine ⟨.inl h.mem, h.val, fun x hx => ?_⟩
    rcases hx with hx | rfl
    · exact h.all x hx
    · unfold beat at q
      unfold ge3
      rcases Int.lt_trichotomy (fr x.1 x.2) t.1 with e | e | e
      · exact .inl e
      · refine .inr ⟨e, ?_⟩
        rcases pp_tri t.2 x with f | f | f
        · exact .inl f
        · exact .inr f
        · exact absurd (.inr ⟨e, f⟩) q
      · exact absurd (.inl e) q
/-- the best of some pairs, or none yet -/
def BstO (Pd : Pt × Pt → Prop) : Option T3 → Prop
  | none => ∀ c, ¬ Pd c
  | some t => Bst Pd t
def stepO (o : Option T3) (c : Pt × Pt) : Option T3 := match o with
  | none => some (fr c.1 c.2, c)
  | some t => some (if beat t c then (fr c.1 c.2, c) else t)
theorem BstO.step {Pd : Pt × Pt → Prop} {o : Option T3} (h : BstO Pd o) (c : Pt × Pt) : BstO (fun x => Pd x ∨ x = c) (stepO o c) := by
  cases o with
  | none => exact ⟨.inr rfl, rfl, fun x hx => by
      rcases hx with hx | rfl
      · exact absurd hx (h x)
      · exact .inr ⟨rfl, .inl rfl⟩⟩
  | some t => exact Bst.step h c
theorem BstO.imp {Pd Pe : Pt × Pt → Prop} {o : Option T3} (h : BstO Pd o) (e : ∀ x, Pd x ↔ Pe x) : BstO Pe o := by
  cases o with
  | none => exact fun c hc => h c ((e c).mpr hc)
  | some t => exact ⟨(e _).mp h.mem, h.val, fun c hc => h.all c ((e c).mpr hc)⟩
theorem bst_fold : ∀ (cs : List (Pt × Pt)) (Pd : Pt × Pt → Prop) (o : Option T3), BstO Pd o → BstO (fun x => Pd x ∨ x ∈ cs) (cs.foldl stepO o)
  | [], Pd, o, h => h.imp fun x => by simp
  | c :: cs, Pd, o, h => (bst_fold cs _ _ (h.step c)).imp fun x => by
    rw [List.mem_cons]
    constructor
    · rintro ((h | h) | h)
      · exact .inl h
      · exact .inr (.inl h)
      · exact .inr (.inr h)
    · rintro (h | h | h)
      · exact .inl (.inl h)
      · exact .inl (.inr h)
      · exact .inr h
/-- the pairs of some rows -/
def PdR (rows : List Pt) (c : Pt × Pt) : Prop := c.1 ∈ rows ∧ c.2 ∈ rows ∧ lx c.1 c.2
theorem bst_ex (rows : List Pt) : ∃ o, BstO (PdR rows) o := by
  refine ⟨_, (bst_fold ((rows.flatMap fun a => rows.map fun b => (a, b)).filter fun c => decide (lx c.1 c.2)) (fun _ => False) none (fun _ h => h)).imp fun x => ?_⟩
  simp only [false_or, List.mem_filter, List.mem_flatMap, List.mem_map, decide_eq_true_eq]
  constructor
  · rintro ⟨⟨a, ha, b, hb, rfl⟩, h⟩
    exact ⟨ha, hb, h⟩
  · rintro ⟨h1, h2, h3⟩
    exact ⟨⟨x.1, h1, x.2, h2, rfl⟩, h3⟩
/-- the best of the ring is the best of the rows -/
theorem best_ring {rows : List Pt} (hs : rows.Pairwise lx) {o : Option T3} (h : BstO (PdR (ringOf rows)) o) : BstO (PdR rows) o := by
  have sub := ring_sub hs
  obtain ⟨o2, h2⟩ := bst_ex rows
  cases o2 with
  | none =>
    cases o with
    | none => exact h2
    | some t => exact absurd ⟨sub _ h.mem.1, sub _ h.mem.2.1, h.mem.2.2⟩ (h2 t.2)
  | some t2 =>
    have far : ∀ x ∈ rows, ∀ y ∈ rows, fr x y ≤ t2.1 := fun x mx y my => by
      rcases lx_tri x y with e | e | e
      · subst e
        rw [fr_self, h2.val]
        exact fr_nn _ _
      · have := h2.all (x, y) ⟨mx, my, e⟩
        unfold ge3 at this
        simp only at this
        omega
      · have := h2.all (y, x) ⟨my, mx, e⟩
        unfold ge3 at this
        simp only at this
        rw [fr_comm]
        omega
    have m1 : t2.2.1 ∈ ringOf rows := far_mem (bary_all hs h2.mem.1) (q := t2.2.2) fun t mt => by
      have := far t2.2.2 h2.mem.2.1 t (sub t mt)
      rw [h2.val, fr_comm t2.2.1] at this
      exact this
    have m2 : t2.2.2 ∈ ringOf rows := far_mem (bary_all hs h2.mem.2.1) (q := t2.2.1) fun t mt => by
      have := far t2.2.1 h2.mem.1 t (sub t mt)
      rw [h2.val] at this
      exact this
    have b : Bst (PdR (ringOf rows)) t2 := ⟨⟨m1, m2, h2.mem.2.2⟩, h2.val, fun c hc => h2.all c ⟨sub _ hc.1, sub _ hc.2.1, hc.2.2⟩⟩
    cases o with
    | none => exact absurd b.mem (h t2.2)
    | some t =>
      have e : t = t2 := Bst.uniq h b
      subst e
      exact h2
def t3D (t : T3) : D := .tuple [.int t.1, encP t.2.1, encP t.2.2]
theorem lt_PP (x y : Pt × Pt) : PySem.W.dataLt (.tuple [encP x.1, encP x.2]) (.tuple [encP y.1, encP y.2]) = decide (ltPP x y) := by
  rw [PySem.W.dataLt_tuple, PySem.W.dataLt_cons rfl, PySem.W.dataLt_cons rfl]
  have e : PyProof.Rows.lexLt PyProof.Rows.itemOrd (PySem.W.keyToksAll []) (PySem.W.keyToksAll []) = false := PyProof.Rows.lex_irrefl _
  rw [e, eqv_encP, eqv_encP, dataLt_P, dataLt_P, ltP_lx, ltP_lx]
  by_cases h1 : x.1 = y.1
  · rw [if_pos (decide_eq_true h1)]
    by_cases h2 : x.2 = y.2
    · rw [if_pos (decide_eq_true h2)]
      refine (decide_eq_false fun h => ?_).symm
      rw [show x = y from Prod.ext h1 h2] at h
      exact pp_irr h
    · rw [if_neg (by simpa using h2)]
      refine decide_eq_decide.mpr ⟨fun h => .inr ⟨h1, h⟩, fun h => ?_⟩
      rcases h with h | h
      · rw [h1] at h; exact (lx_irr h).elim
      · exact h.2
  · rw [if_neg (by simpa using h1)]
    exact decide_eq_decide.mpr ⟨.inl, fun h => h.resolve_right fun k => h1 k.1⟩
theorem opd_ltPP {K : PySem.W.Frag} {x y : Pt × Pt} {Q : D → Prop} (k : Q (.bool (decide (ltPP x y)))) : OpD (rLtD K) (.tuple [encP x.1, encP x.2]) (.tuple [encP y.1, encP y.2]) Q :=
  opd_ltD rfl (by intro h; cases h) (min_l (by simp [encP, PyData.depth, PyData.depthAll])) (by rw [lt_PP]; exact k)
def R_farthest : List D → (D → Prop) → Prop := fun ds Z => ∃ ps : List Pt, ds = [.list (ps.map encP)] ∧ ps ≠ [] ∧ (∀ p ∈ ps, Sm p) ∧ ps.length ≤ 20 ∧ ∀ o : Option T3, BstO (PdR (srt ps)) o → Z (t3D (o.getD (0, at' ps 0, at' ps 0)))
theorem lxs_of {xs : List Pt} (nd : xs.Nodup) : (xs.mergeSort Pu.leP).Pairwise lx := by
  have srt := List.pairwise_mergeSort (le := Pu.leP) (fun a b c h1 h2 => by unfold Pu.leP Pu.ltP at *; simp at *; omega) (fun a b => by unfold Pu.leP Pu.ltP; simp; omega) xs
  have nd2 : (xs.mergeSort Pu.leP).Nodup := (List.mergeSort_perm _ _).nodup_iff.mpr nd
  refine (srt.and nd2).imp fun {a b} h => ?_
  obtain ⟨h1, h3⟩ := h
  rcases lx_tri a b with e | e | e
  · exact absurd e h3
  · exact e
  · unfold Pu.leP at h1
    rw [ltP_lx, decide_eq_true e] at h1
    cases h1
theorem nd_at {r : List Pt} (h : ∀ i j, i < r.length → j < r.length → at' r i = at' r j → i = j) : r.Nodup := by
  refine List.pairwise_iff_getElem.mpr fun i j hi hj hij e => ?_
  have := h i j hi hj (by rw [at_of (List.getElem?_eq_getElem hi), at_of (List.getElem?_eq_getElem hj)]; exact e)
  omega
theorem ring_len {rows : List Pt} (hs : rows.Pairwise lx) : (ringOf rows).length ≤ rows.length := few_rows (nd_at (ring_nd hs)) (ring_sub hs)
theorem ring_ne {rows : List Pt} (hs : rows.Pairwise lx) (h : rows ≠ []) : ringOf rows ≠ [] := by
  rcases kinds hs with ⟨_, e⟩ | ⟨_, _, m, M, _, _, _, e⟩ | ⟨_, _, R⟩
  · rw [e]; exact h
  · rw [e]; simp
  · intro z
    have := R.n3
    rw [z] at this
    simp at this
theorem step_D {o : Option T3} {c : Pt × Pt} {s0 : Pt} (h : 0 < fr c.1 c.2) : (if beat (o.getD (0, s0, s0)) c then (fr c.1 c.2, c) else o.getD (0, s0, s0)) = (stepO o c).getD (0, s0, s0) := by
  cases o with
  | none =>
    rw [if_pos (.inl h)]
    rfl
  | some t => rfl
theorem sx_farthest (K : PySem.W.Frag) (ds : List D) (Z : D → Prop) (h : R_farthest ds Z) : SX (T_farthest K R_ring R_far) (startE N_farthest ds) { nx := fun _ => Z .none, rt := fun d _ => Z d } := by
  obtain ⟨ps, rfl, ne, sm, hl, z⟩ := h
  show SX (T_farthest K R_ring R_far) [.val (.list (ps.map encP)), .emp, .emp, .emp, .emp, .emp, .emp] _
  unfold T_farthest
  have ha := srt_asc ps
  have hl2 := few_rows (lx_nodup ha) fun k mk => srt_mem.mp mk
  have rn : srt ps ≠ [] := fun e => by
    have : at' ps 0 ∈ srt ps := srt_mem.mpr (at_mem (List.length_pos_iff.mpr ne))
    rw [e] at this
    cases this
  walk_at "es"
  refine ⟨ps, rfl, sm, hl, ?_⟩
  walk_at "es"
  refine cbd_sortP ?_
  have qs := lxs_of (nd_at (ring_nd ha))
  have qm : ∀ c, c ∈ (ringOf (srt ps)).mergeSort Pu.leP ↔ c ∈ ringOf (srt ps) := fun c => List.mem_mergeSort
  have ql : ((ringOf (srt ps)).mergeSort Pu.leP).length ≤ 20 := by rw [List.length_mergeSort]; have := ring_len ha; omega
  have qn : (ringOf (srt ps)).mergeSort Pu.leP ≠ [] := fun e => by
    have := congrArg List.length e
    rw [List.length_mergeSort] at this
    exact ring_ne ha rn (List.length_eq_zero_iff.mp this)
  generalize (ringOf (srt ps)).mergeSort Pu.leP = sr at *
  have hp := List.length_pos_iff.mpr qn
  have ssm : ∀ c ∈ sr, Sm c := fun c mc => sm c (srt_mem.mp (ring_sub ha c ((qm c).mp mc)))
  walk_at "es"
  refine opd_ixL (at_D (k := 0) hp) ?_
  walk_at "es"
  refine opd_ixL (at_D (k := 0) hp) ?_
  walk_at "es"
  refine sx_for (J := [3, 4]) (ei_enum ?_)
  walk_at "es"
  refine ⟨fun i ρ' => ∃ o, BstO (fun c => c.1 ∈ sr.take i ∧ c.2 ∈ sr.take i ∧ lx c.1 c.2) o ∧ ρ' = [.val (.list (ps.map encP)), .val (.list (sr.map encP)), .val (t3D (o.getD (0, at' sr 0, at' sr 0))), .emp, .emp, .emp, .emp], ⟨none, fun c h => by simp at h, rfl⟩, ?_, ?_⟩
  · rintro i dd ρ' hd0 ⟨o, bo, rfl⟩
    obtain ⟨c, hc, rfl⟩ := enum_at hd0
    have hi := (List.getElem?_eq_some_iff.mp hc).1
    obtain rfl := at_getD hc
    refine sg_tup rfl (sgs_cons (sg_name (by simp) (sgs_cons (sg_name (by simp) (sgs_nil ?_)))))
    walk_at "w"
    refine sx_for (J := [5]) (ei_list ?_)
    walk_at "es"
    rw [cut_n]
    refine ⟨fun m ρ' => ∃ o, BstO (fun c => (c.1 ∈ sr.take i ∧ c.2 ∈ sr.take i ∧ lx c.1 c.2) ∨ (c.2 = at' sr i ∧ c.1 ∈ (sr.take i).take m)) o ∧ ρ' = [.val (.list (ps.map encP)), .val (.list (sr.map encP)), .val (t3D (o.getD (0, at' sr 0, at' sr 0))), .val (.int (i : Int)), .val (encP (at' sr i)), .emp, .emp], ⟨o, bo.imp fun c => by simp, rfl⟩, ?_, ?_⟩
    · rintro m dd ρ' hd1 ⟨o, bo, rfl⟩
      obtain ⟨c, hc, rfl⟩ := map_at hd1
      have hm := (List.getElem?_eq_some_iff.mp hc).1
      rw [List.length_take] at hm
      have ec : c = at' sr m := by
        rw [List.getElem?_take, if_pos (by omega), at_some (by omega)] at hc
        exact (Option.some.inj hc).symm
      subst ec
      have sa := at_Sm ssm (k := m) (by omega)
      have sb := at_Sm ssm hi
      have lmi := asc_at qs (i := m) (j := i) (by omega) hi
      have fp : 0 < fr (at' sr m) (at' sr i) := fr_pos fun e => by rw [e] at lmi; exact lx_irr lmi
      have bst := bo.step (at' sr m, at' sr i)
      have sd := step_D (o := o) (c := (at' sr m, at' sr i)) (s0 := at' sr 0) fp
      have bst2 := bst.imp (Pe := fun c => (c.1 ∈ sr.take i ∧ c.2 ∈ sr.take i ∧ lx c.1 c.2) ∨ (c.2 = at' sr i ∧ c.1 ∈ (sr.take i).take (m + 1))) fun x => by
        rw [take_snoc' hc, List.mem_append, List.mem_singleton]
        constructor
        · rintro ((h | h) | h)
          · exact .inl h
          · exact .inr ⟨h.1, .inl h.2⟩
          · rw [h]; exact .inr ⟨rfl, .inr rfl⟩
        · rintro (h | ⟨h1, h | h⟩)
          · exact .inl (.inl h)
          · exact .inl (.inr ⟨h1, h⟩)
          · exact .inr (Prod.ext h h1)
      refine sg_name (by simp) ?_
      walk_at "w"
      walk_at "es"
      refine ⟨_, _, rfl, ⟨sa, sb⟩, ?_⟩
      generalize hT : o.getD (0, at' sr 0, at' sr 0) = T at *
      obtain ⟨tf, ta, tb⟩ := T
      unfold t3D
      walk_at "ei"
      refine sx_if (et_val (decide (beat (tf, ta, tb) (at' sr m, at' sr i))) ?_ ⟨fun hb => ?_, fun hb => ?_⟩)
      · walk_at "es"
        by_cases c1 : tf < fr (at' sr m) (at' sr i)
        · rw [decide_eq_true c1]
          walk_at "yes"
          exact ⟨(decide_eq_true (.inl c1)).symm, rfl⟩
        · rw [decide_eq_false c1]
          walk_at "no"
          walk_at "es"
          by_cases c2 : fr (at' sr m) (at' sr i) = tf
          · rw [decide_eq_true c2]
            walk_at "yes"
            walk_at "es"
            refine opd_ltPP (x := (at' sr m, at' sr i)) (y := (ta, tb)) ?_
            walk_at "es"
            refine ⟨decide_eq_decide.mpr ⟨fun h => .inr ⟨c2, h⟩, fun h => ?_⟩, rfl⟩
            rcases h with h | h
            · exact absurd h c1
            · exact h.2
          · rw [decide_eq_false c2]
            walk_at "no"
            refine ⟨(decide_eq_false fun h => ?_).symm, rfl⟩
            rcases h with h | h
            · exact c1 h
            · exact c2 h.1
      · have hb := of_decide_eq_true hb
        rw [if_pos hb] at sd
        walk_at "es"
        refine ⟨_, ?_, _, bst2, rfl⟩
        rw [← sd]
        walk_at "le"
      · have hb := of_decide_eq_false hb
        rw [if_neg hb] at sd
        walk_at "es"
        refine ⟨_, ?_, _, bst2, rfl⟩
        rw [← sd]
        walk_at "le"
    rintro ρ' ⟨o, bo, rfl⟩
    rw [List.length_map, List.take_length] at bo
    refine ⟨_, ?_, o, bo.imp fun c => ?_, rfl⟩
    · walk_at "le"
    · rw [take_snoc' hc, List.mem_append, List.mem_append, List.mem_singleton, List.mem_singleton]
      have below : ∀ x ∈ sr.take i, lx x (at' sr i) := fun x mx => by
        obtain ⟨k, hk, e⟩ := mem_at mx
        rw [List.length_take] at hk
        have : at' (sr.take i) k = at' sr k := at_of (by rw [List.getElem?_take, if_pos (by omega), at_some (by omega)])
        rw [← e, this]
        exact asc_at qs (by omega) hi
      constructor
      · rintro (⟨h1, h2, h3⟩ | ⟨h1, h2⟩)
        · exact ⟨.inl h1, .inl h2, h3⟩
        · exact ⟨.inl h2, .inr h1, by rw [h1]; exact below _ h2⟩
      · rintro ⟨h1 | h1, h2 | h2, h3⟩
        · exact .inl ⟨h1, h2, h3⟩
        · exact .inr ⟨h2, h1⟩
        · rw [h1] at h3
          exact (lx_irr (lx_trans h3 (below _ h2))).elim
        · rw [h1, h2] at h3
          exact (lx_irr h3).elim
  rintro ρ' ⟨o, bo, rfl⟩
  rw [enum_len, List.take_length] at bo
  have b2 : BstO (PdR (ringOf (srt ps))) o := bo.imp fun c => by unfold PdR; rw [qm, qm]
  have b3 := best_ring ha b2
  have z := z o b3
  refine nx_seq ?_
  walk_at "es"
  cases o with
  | some t => exact z
  | none =>
    have e : at' sr 0 = at' ps 0 := by
      have m1 : at' sr 0 ∈ srt ps := ring_sub ha _ ((qm _).mp (at_mem hp))
      have m2 : at' ps 0 ∈ srt ps := srt_mem.mpr (at_mem (List.length_pos_iff.mpr ne))
      rcases lx_tri (at' sr 0) (at' ps 0) with e | e | e
      · exact e
      · exact absurd ⟨m1, m2, e⟩ (b3 (_, _))
      · exact absurd ⟨m2, m1, e⟩ (b3 (_, _))
    show Z (t3D (0, at' sr 0, at' sr 0))
    rw [e]
    exact z

end R
end Law_k21
namespace Law_k21
open PySem L2 Pu
local macro_rules | `(tactic| walk_at "e") => `(tactic| first
  | ((with_reducible refine nx_seq ?_); (try dsimp only [List.set_cons_succ, List.set_cons_zero]))
  | ((with_reducible refine ex_vr ?_); dsimp only [VQ, List.set_cons_succ, List.set_cons_zero, List.getElem?_cons_zero, List.getElem?_cons_succ]; (fail_if_success (with_reducible show False)))
  | (with_reducible refine sx_seq ?_)
  | (with_reducible refine sx_if ?_)
  | (with_reducible refine sx_next ?_)
  | (with_reducible refine sx_ret ?_)
  | ((fail_if_success (with_reducible refine sx_asgO (eo_lst ?_))); (with_reducible refine sx_asg ?_))
  | (with_reducible refine ex_int ?_)
  | (with_reducible refine ex_str ?_)
  | (with_reducible refine ex_bl ?_)
  | (with_reducible refine ex_non ?_)
  | (with_reducible refine ex_op ?_)
  | (with_reducible refine ex_un ?_)
  | (with_reducible refine ex_chain ?_)
  | (with_reducible refine ex_call ?_)
  | (with_reducible refine ex_isT ?_)
  | (with_reducible refine ex_cb ?_)
  | (with_reducible refine ex_sl ?_)
  | (with_reducible refine ex_tup ?_)
  | (with_reducible refine ex_if ?_)
  | (with_reducible refine ex_of (eo_lst ?_))
  | (with_reducible refine ex_notV ?_)
  | (with_reducible refine ea_nil ?_)
  | (with_reducible refine ea_cons ?_)
  | (with_reducible refine ep_no ?_)
  | (with_reducible refine ep_some ?_)
  | (with_reducible refine et_test ?_)
  | (with_reducible refine et_B ?_)
  | (with_reducible refine et_ch3 ?_)
  | (with_reducible refine et_and ?_)
  | (with_reducible refine et_or ?_)
  | (with_reducible refine et_not ?_)
  | (with_reducible refine et_yes ?_)
  | (with_reducible refine et_truL ?_)
  | (with_reducible refine opd_plusI ?_)
  | (with_reducible refine opd_I0 ?_)
  | (with_reducible refine opd_B0 ?_)
  | (with_reducible refine opd_eqI ?_)
  | (with_reducible refine opd_neI ?_)
  | (with_reducible refine opd_eqS ?_)
  | (with_reducible refine opd_neS ?_)
  | (with_reducible refine opd_is ?_)
  | (with_reducible refine opd_isnt ?_)
  | (with_reducible refine opd_ixT rfl ?_)
  | (with_reducible refine opd_ixL rfl ?_)
  | (with_reducible refine und_neg ?_)
  | (with_reducible refine cbd_lenL ?_)
  | (with_reducible refine cbd_lenT ?_)
  | (with_reducible refine cbd_min2 ?_)
  | (with_reducible refine cbd_max2 ?_)
  | (with_reducible refine cbd_abs ?_)
  | (with_reducible refine cbd_int ?_)
  | (with_reducible refine cbd_tupL ?_)
  | (with_reducible refine cbd_listL ?_)
  | (with_reducible refine cbd_listT ?_)
  | (with_reducible refine cbd_sum ?_)
  | (with_reducible refine sld_T ?_)
  | (with_reducible refine sld_L ?_)
  | (with_reducible refine ex_revL ?_)
  | (with_reducible refine ex_bmL ?_)
  | (with_reducible refine ex_andV ?_)
  | (with_reducible refine ei_list ?_)
  | (with_reducible refine ei_rng1 ?_)
  | (with_reducible refine ei_rng2 ?_)
  | (with_reducible refine ei_enum ?_)
  | (with_reducible refine ei_enumT ?_)
  | (with_reducible refine ei_zip ?_)
  | (with_reducible refine sx_par ?_)
  | (with_reducible refine Exists.intro _ (And.intro rfl ?_))
  | (with_reducible refine Exists.intro _ (Exists.intro _ (And.intro rfl ?_)))
  | ((with_reducible show EX (tCall (spS _) [] _ (tCons (tVar _) _)) _ _); refine ex_callS rfl ?_)
  | ((with_reducible refine And.intro (show (_ : Nat) ≤ 100000 from ?_) ?_); (focus (simp; done)))
  | ((with_reducible refine opd_I ?_ ?_); focus (first | omega | (show CDiv _ _; exact ⟨by omega, by omega⟩) | (show CMul _ _; first | exact Or.inl ⟨by omega, by omega⟩ | exact Or.inr ⟨by omega, by omega⟩))))
local macro_rules | `(tactic| walk_at "es") => `(tactic| repeat walk_at "e")
local macro_rules | `(tactic| walk_at "w") => `(tactic| try dsimp only [wipeE, List.foldl_cons, List.foldl_nil, List.set_cons_succ, List.set_cons_zero])
local macro_rules | `(tactic| walk_at "le") => `(tactic| repeat' first | exact LeE.nil | (refine LeE.eq rfl ?_) | (refine LeE.emp ?_) | (refine LeE.eq ?_ ?_))
local macro_rules | `(tactic| walk_at "no") => `(tactic| ((refine And.intro (fun hb => absurd hb ?_) (fun _ => ?_)); (focus (first | (exact Bool.false_ne_true) | (simp; done) | (simp; omega) | (simp only [decide_eq_true_eq]; omega)))))
local macro_rules | `(tactic| walk_at "yes") => `(tactic| ((refine And.intro (fun _ => ?_) (fun hb => absurd hb ?_)); (rotate_left); (focus (first | (exact Bool.noConfusion) | (simp; done) | (simp; omega) | (simp only [decide_eq_false_iff_not]; omega)))))
local macro_rules | `(tactic| walk_at "ei") => `(tactic| repeat ((fail_if_success (with_reducible show SX (tSeq (tIfS _ _ _) _) _ _)); (fail_if_success (with_reducible show SX (tIfS _ _ _) _ _)); (fail_if_success (with_reducible show SX (tSeq (tAsg (tIf _ _ _) _) _) _ _)); walk_at "e"))
local macro_rules | `(tactic| walk_at "tv") => `(tactic| repeat' first | walk_at "e" | ((with_reducible show (_ = true → _) ∧ (_ = false → _)); refine And.intro (fun _ => ?_) (fun _ => ?_)))
namespace R
theorem fault_none (ps : List Pt) : faultD (srt ps) (ringOf (srt ps)) (decide (ringOf (srt ps) = ringOf (srt ps))) = .none := by
  have ha := srt_asc ps
  rw [decide_eq_true rfl]
  have kd := kinds ha
  have sub := ring_sub ha
  have nd := ring_nd ha
  generalize ringOf (srt ps) = r at *
  unfold faultD
  rw [find_no (g := gC (srt ps) r) fun k hk => ?_]
  · simp only
    by_cases q : r.length < 3
    · rw [if_pos q]; rfl
    · rw [if_neg q]
      have R : Ring (srt ps) r := by
        rcases kd with ⟨h1, e⟩ | ⟨_, _, m, M, _, _, l, e⟩ | ⟨_, _, R⟩
        · rw [e] at q; omega
        · rw [e] at q; simp at q
        · exact R
      rw [if_pos (minPs_is (at_mem (by omega)) fun y hy => by
        rcases R.first y hy with e | e
        · exact .inl e.symm
        · exact .inr (ltP_of e)).symm, find_no fun k hk => ?_]
      · rfl
      · unfold gE
        rw [if_neg (by have := R.cvx k hk; omega)]
        exact find_no fun j hj => by
          unfold gO
          rw [if_neg (by have := R.left k hk _ (at_mem hj); omega)]
  · unfold gC
    rw [if_neg]
    rintro (h | h)
    · exact h (sub _ (at_mem hk))
    · obtain ⟨j, hj, e⟩ := mem_at h
      rw [List.length_take] at hj
      have : at' (r.take k) j = at' r j := at_of (by rw [List.getElem?_take, if_pos (by omega), at_some (by omega)])
      have := nd j k (by omega) hk (by rw [← this]; exact e)
      omega
theorem rgd_of {ps : List Pt} (sm : ∀ p ∈ ps, Sm p) (hl : ps.length ≤ 20) : RgD (ringOf (srt ps)) := by
  have ha := srt_asc ps
  have hl2 := few_rows (lx_nodup ha) fun k mk => srt_mem.mp mk
  refine ⟨fun p mp => sm p (srt_mem.mp (ring_sub ha p mp)), by have := ring_len ha; omega, fun h => ?_⟩
  rcases kinds ha with ⟨h1, e⟩ | ⟨_, _, m, M, _, _, l, e⟩ | ⟨_, _, R⟩
  · rw [e] at h; omega
  · rw [e]; exact l
  · have := R.n3; omega

end R
end Law_k21
namespace Law_k21
open PySem L2 Pu
local macro_rules | `(tactic| walk_at "e") => `(tactic| first
  | ((with_reducible refine nx_seq ?_); (try dsimp only [List.set_cons_succ, List.set_cons_zero]))
  | ((with_reducible refine ex_vr ?_); dsimp only [VQ, List.set_cons_succ, List.set_cons_zero, List.getElem?_cons_zero, List.getElem?_cons_succ]; (fail_if_success (with_reducible show False)))
  | (with_reducible refine sx_seq ?_)
  | (with_reducible refine sx_if ?_)
  | (with_reducible refine sx_next ?_)
  | (with_reducible refine sx_ret ?_)
  | ((fail_if_success (with_reducible refine sx_asgO (eo_lst ?_))); (with_reducible refine sx_asg ?_))
  | (with_reducible refine ex_int ?_)
  | (with_reducible refine ex_str ?_)
  | (with_reducible refine ex_bl ?_)
  | (with_reducible refine ex_non ?_)
  | (with_reducible refine ex_op ?_)
  | (with_reducible refine ex_un ?_)
  | (with_reducible refine ex_chain ?_)
  | (with_reducible refine ex_call ?_)
  | (with_reducible refine ex_isT ?_)
  | (with_reducible refine ex_cb ?_)
  | (with_reducible refine ex_sl ?_)
  | (with_reducible refine ex_tup ?_)
  | (with_reducible refine ex_if ?_)
  | (with_reducible refine ex_of (eo_lst ?_))
  | (with_reducible refine ex_notV ?_)
  | (with_reducible refine ea_nil ?_)
  | (with_reducible refine ea_cons ?_)
  | (with_reducible refine ep_no ?_)
  | (with_reducible refine ep_some ?_)
  | (with_reducible refine et_test ?_)
  | (with_reducible refine et_B ?_)
  | (with_reducible refine et_ch3 ?_)
  | (with_reducible refine et_and ?_)
  | (with_reducible refine et_or ?_)
  | (with_reducible refine et_not ?_)
  | (with_reducible refine et_yes ?_)
  | (with_reducible refine et_truL ?_)
  | (with_reducible refine opd_plusI ?_)
  | (with_reducible refine opd_I0 ?_)
  | (with_reducible refine opd_B0 ?_)
  | (with_reducible refine opd_eqI ?_)
  | (with_reducible refine opd_neI ?_)
  | (with_reducible refine opd_eqS ?_)
  | (with_reducible refine opd_neS ?_)
  | (with_reducible refine opd_is ?_)
  | (with_reducible refine opd_isnt ?_)
  | (with_reducible refine opd_ixT rfl ?_)
  | (with_reducible refine opd_ixL rfl ?_)
  | (with_reducible refine und_neg ?_)
  | (with_reducible refine cbd_lenL ?_)
  | (with_reducible refine cbd_lenT ?_)
  | (with_reducible refine cbd_min2 ?_)
  | (with_reducible refine cbd_max2 ?_)
  | (with_reducible refine cbd_abs ?_)
  | (with_reducible refine cbd_int ?_)
  | (with_reducible refine cbd_tupL ?_)
  | (with_reducible refine cbd_listL ?_)
  | (with_reducible refine cbd_listT ?_)
  | (with_reducible refine cbd_sum ?_)
  | (with_reducible refine sld_T ?_)
  | (with_reducible refine sld_L ?_)
  | (with_reducible refine ex_revL ?_)
  | (with_reducible refine ex_bmL ?_)
  | (with_reducible refine ex_andV ?_)
  | (with_reducible refine ei_list ?_)
  | (with_reducible refine ei_rng1 ?_)
  | (with_reducible refine ei_rng2 ?_)
  | (with_reducible refine ei_enum ?_)
  | (with_reducible refine ei_enumT ?_)
  | (with_reducible refine ei_zip ?_)
  | (with_reducible refine sx_par ?_)
  | (with_reducible refine Exists.intro _ (And.intro rfl ?_))
  | (with_reducible refine Exists.intro _ (Exists.intro _ (And.intro rfl ?_)))
  | ((with_reducible show EX (tCall (spS _) [] _ (tCons (tVar _) _)) _ _); refine ex_callS rfl ?_)
  | ((with_reducible refine And.intro (show (_ : Nat) ≤ 100000 from ?_) ?_); (focus (simp; done)))
  | ((with_reducible refine opd_I ?_ ?_); focus (first | omega | (show CDiv _ _; exact ⟨by omega, by omega⟩) | (show CMul _ _; first | exact Or.inl ⟨by omega, by omega⟩ | exact Or.inr ⟨by omega, by omega⟩))))
local macro_rules | `(tactic| walk_at "es") => `(tactic| repeat walk_at "e")
local macro_rules | `(tactic| walk_at "w") => `(tactic| try dsimp only [wipeE, List.foldl_cons, List.foldl_nil, List.set_cons_succ, List.set_cons_zero])
local macro_rules | `(tactic| walk_at "le") => `(tactic| repeat' first | exact LeE.nil | (refine LeE.eq rfl ?_) | (refine LeE.emp ?_) | (refine LeE.eq ?_ ?_))
local macro_rules | `(tactic| walk_at "no") => `(tactic| ((refine And.intro (fun hb => absurd hb ?_) (fun _ => ?_)); (focus (first | (exact Bool.false_ne_true) | (simp; done) | (simp; omega) | (simp only [decide_eq_true_eq]; omega)))))
local macro_rules | `(tactic| walk_at "yes") => `(tactic| ((refine And.intro (fun _ => ?_) (fun hb => absurd hb ?_)); (rotate_left); (focus (first | (exact Bool.noConfusion) | (simp; done) | (simp; omega) | (simp only [decide_eq_false_iff_not]; omega)))))
local macro_rules | `(tactic| walk_at "ei") => `(tactic| repeat ((fail_if_success (with_reducible show SX (tSeq (tIfS _ _ _) _) _ _)); (fail_if_success (with_reducible show SX (tIfS _ _ _) _ _)); (fail_if_success (with_reducible show SX (tSeq (tAsg (tIf _ _ _) _) _) _ _)); walk_at "e"))
local macro_rules | `(tactic| walk_at "tv") => `(tactic| repeat' first | walk_at "e" | ((with_reducible show (_ = true → _) ∧ (_ = false → _)); refine And.intro (fun _ => ?_) (fun _ => ?_)))
theorem filt_all {α : Type} (xs : List α) : (xs.filter fun _ => true) = xs := List.filter_eq_self.mpr fun _ _ => rfl
abbrev encZ (z : P3) : D := encR z
def Big (x : Int) : Prop := -(2 ^ 60) ≤ x ∧ x ≤ 2 ^ 60
def R_minus : List D → (D → Prop) → Prop := fun ds Z => ∃ a b : Pt, ds = [encP a, encP b] ∧ Z (encP (a.1 - b.1, a.2 - b.2))
theorem sx_minus (K : PySem.W.Frag) (ds : List D) (Z : D → Prop) (h : R_minus ds Z) : SX (T_minus K) (startE N_minus ds) { nx := fun _ => Z .none, rt := fun d _ => Z d } := by
  obtain ⟨a, b, rfl, z⟩ := h
  show SX (T_minus K) [.val (encP a), .val (encP b)] _
  unfold T_minus
  unfold encP at *
  walk_at "es"
  exact z
def R_across : List D → (D → Prop) → Prop := fun ds Z => ∃ a b : Pt, ds = [encP a, encP b] ∧ (Big a.1 ∧ Big a.2) ∧ Z (.int (a.1 * b.2 - a.2 * b.1))
theorem sx_across (K : PySem.W.Frag) (ds : List D) (Z : D → Prop) (h : R_across ds Z) : SX (T_across K) (startE N_across ds) { nx := fun _ => Z .none, rt := fun d _ => Z d } := by
  obtain ⟨a, b, rfl, ⟨h1, h2⟩, z⟩ := h
  show SX (T_across K) [.val (encP a), .val (encP b)] _
  unfold T_across
  unfold encP at *
  unfold Big at *
  walk_at "es"
  exact z
theorem ev_lift (h a c : Pt) : ev (h, a) (lift c) = (a.1 - h.1) * (c.2 - h.2) - (a.2 - h.2) * (c.1 - h.1) := by unfold ev lift; grind
theorem nr_big {a b : Pt} (ha : Nr 100000 a) (hb : Nr 100000 b) : Big (a.1 - b.1) ∧ Big (a.2 - b.2) := by unfold Nr at *; unfold Big; omega
def R_fall : List D → (D → Prop) → Prop := fun ds Z => ∃ (s : Pt) (W : List Pt) (t : Int), ds = [encP s, .list (W.map encP), .int t] ∧ Big t ∧ W.length ≤ 1000 ∧ Z (.list ((fall s W t).map encP))
theorem sx_fallen (K : PySem.W.Frag) (ds : List D) (Z : D → Prop) (h : R_fall ds Z) : SX (T_fallen K) (startE N_fallen ds) { nx := fun _ => Z .none, rt := fun d _ => Z d } := by
  obtain ⟨s, W, t, rfl, ht, hl, z⟩ := h
  show SX (T_fallen K) [.val (encP s), .val (.list (W.map encP)), .val (.int t), .emp] _
  unfold T_fallen
  unfold Big at ht
  refine sx_ret (ex_of (eo_lcP (α := Pt) (fun _ => true) (fun w => encP (s.1 + t * w.1, s.2 + t * w.2)) (ei_list ?_)))
  walk_at "es"
  refine ⟨by omega, fun i hi => by simp at hi; subst hi; rfl, fun w hw => sg_name (by simp) ⟨rfl, ?_⟩, ?_⟩
  · unfold encP
    walk_at "w"
    refine et_yes ⟨rfl, rfl, fun _ => ?_⟩
    walk_at "es"
    exact ⟨rfl, rfl⟩
  rw [filt_all, show (W.map fun w => encP (s.1 + t * w.1, s.2 + t * w.2)) = (fall s W t).map encP by unfold fall; rw [List.map_map]; rfl]
  exact z
theorem at_D {ps : List Pt} {k : Nat} (h : k < ps.length) : atI (ps.map encP) (k : Int) = some (encP (at' ps k)) := by
  rw [atI_map (0, 0) (by omega) (by omega), Int.toNat_natCast]; rfl
theorem at_Z {V : List P3} {k : Nat} (h : k < V.length) : atI (V.map encZ) (k : Int) = some (encZ (a3 V k)) := by
  rw [atI_map (0, 0, 1) (by omega) (by omega), Int.toNat_natCast]; rfl
theorem mod_I (k n : Nat) : ((k : Int) + 1) % (n : Int) = (((k + 1) % n : Nat) : Int) := by rw [Int.natCast_emod, Int.natCast_add]; rfl
theorem op_m1 {k n : Nat} {Q : D → Prop} (h : 0 < n) (q : Q (.int (((k + 1) % n : Nat) : Int))) : OpD (rI (fun _ j => 0 < j) fun i j => .int (i % j)) (.int ((k : Int) + 1)) (.int (n : Int)) Q := opd_I (show (0 : Int) < (n : Int) by omega) (by rw [mod_I]; exact q)
theorem at_Nr {ps : List Pt} {M : Int} (h : ∀ p ∈ ps, Nr M p) {k : Nat} (hk : k < ps.length) : Nr M (at' ps k) := h _ (pt_mem hk)
def oN : Option Nat → D
  | none => .none
  | some k => .int (k : Int)
def R_part : List D → (D → Prop) → Prop := fun ds Z => ∃ one other : List Pt, ds = [.list (one.map encP), .list (other.map encP)] ∧ (∀ p ∈ one, Nr 100000 p) ∧ one.length ≤ 1000 ∧ other.length ≤ 1000 ∧ Z (oN (partE one other))
theorem find_at {P : Nat → Bool} {n k : Nat} (hk : k < n) (h : ∀ j, j < k → P j = false) (e : P k = true) : (List.range n).find? P = some k := by
  obtain ⟨m, rfl⟩ : ∃ m, n = k + 1 + m := ⟨n - (k + 1), by omega⟩
  rw [List.range_add, List.range_succ, List.append_assoc, List.find?_append, List.find?_eq_none.mpr fun x hx => by rw [h x (List.mem_range.mp hx)]; decide]
  simp [e]
theorem find_0 {P : Nat → Bool} {n : Nat} (h : ∀ j, j < n → P j = false) : (List.range n).find? P = none := List.find?_eq_none.mpr fun x hx => by rw [h x (List.mem_range.mp hx)]; decide
theorem sx_parting_edge (K : PySem.W.Frag) (ds : List D) (Z : D → Prop) (h : R_part ds Z) : SX (T_parting_edge K R_across R_minus) (startE N_parting_edge ds) { nx := fun _ => Z .none, rt := fun d _ => Z d } := by
  obtain ⟨one, other, rfl, hn, hl, hl2, z⟩ := h
  show SX (T_parting_edge K R_across R_minus) [.val (.list (one.map encP)), .val (.list (other.map encP)), .emp, .emp, .emp, .emp] _
  unfold T_parting_edge
  refine sx_seq (sx_for (J := [2]) (ei_rng1 ?_))
  walk_at "es"
  rw [List.length_map]
  refine ⟨by omega, fun i ρ' => (∀ j, j < i → allOut (edge one j) other = false) ∧ ρ' = [.val (.list (one.map encP)), .val (.list (other.map encP)), .emp, .emp, .emp, .emp], ⟨fun j hj => absurd hj (Nat.not_lt_zero _), rfl⟩, ?_, ?_⟩
  · rintro i dd ρ' hd0 ⟨ok, rfl⟩
    obtain ⟨hi, rfl⟩ := rng_at hd0
    rw [Int.zero_add]
    have hi : i < one.length := by omega
    have hp : 0 < one.length := by omega
    have m1 := Nat.mod_lt (i + 1) hp
    refine sg_name (by simp) ?_
    walk_at "w"
    refine sx_seq (sx_asgT (J := [3, 4]) ?_)
    walk_at "es"
    refine opd_ixL (at_D hi) ?_
    walk_at "es"
    rw [List.length_map]
    refine op_m1 hp ?_
    refine opd_ixL (at_D m1) ?_
    walk_at "es"
    refine sg_tup rfl (sgs_cons (sg_name (by simp) (sgs_cons (sg_name (by simp) (sgs_nil ?_)))))
    walk_at "w"
    have nb := nr_big (at_Nr hn m1) (at_Nr hn hi)
    refine nx_seq (sx_if (et_B (ex_cb (ea_cons (ex_of (eo_lcP (α := Pt) (fun _ => true) (fun c => .bool (decide (ev (edge one i) (lift c) ≤ 0))) (ei_list ?_)))))))
    walk_at "es"
    refine ⟨by omega, fun i hi => by simp at hi; subst hi; rfl, fun c hc => sg_name (by simp) ⟨rfl, ?_⟩, ?_⟩
    · walk_at "w"
      refine et_yes ⟨rfl, rfl, fun _ => ?_⟩
      walk_at "es"
      refine ⟨_, _, rfl, ?_⟩
      walk_at "es"
      refine ⟨_, _, rfl, ?_⟩
      walk_at "es"
      refine ⟨_, _, rfl, nb, ?_⟩
      walk_at "es"
      refine ⟨?_, rfl⟩
      unfold edge
      rw [ev_lift]
    rw [filt_all, show (other.map fun c => PyData.bool (decide (ev (edge one i) (lift c) ≤ 0))) = (other.map fun c => decide (ev (edge one i) (lift c) ≤ 0)).map .bool by rw [List.map_map]; rfl]
    walk_at "es"
    refine cbd_all ?_
    rw [List.all_map, show other.all (id ∘ fun c => decide (ev (edge one i) (lift c) ≤ 0)) = allOut (edge one i) other from rfl]
    refine ⟨_, rfl, fun hb => ?_, fun hb => ?_⟩
    · walk_at "es"
      rw [show partE one other = some i from find_at hi ok hb] at z
      exact z
    · refine sx_next ⟨_, ?_, fun j hj => ?_, rfl⟩
      · walk_at "le"
      · rcases Nat.lt_or_ge j i with q | q
        · exact ok j q
        · obtain rfl : j = i := by omega
          exact hb
  rintro ρ' ⟨ok, rfl⟩
  rw [List.length_map, rngI_len, Int.toNat_natCast] at ok
  refine nx_seq ?_
  walk_at "es"
  rw [show partE one other = none from find_0 ok] at z
  exact z
end Law_k21
namespace Law_k21
open PySem L2 Pu
local macro_rules | `(tactic| walk_at "e") => `(tactic| first
  | ((with_reducible refine nx_seq ?_); (try dsimp only [List.set_cons_succ, List.set_cons_zero]))
  | ((with_reducible refine ex_vr ?_); dsimp only [VQ, List.set_cons_succ, List.set_cons_zero, List.getElem?_cons_zero, List.getElem?_cons_succ]; (fail_if_success (with_reducible show False)))
  | (with_reducible refine sx_seq ?_)
  | (with_reducible refine sx_if ?_)
  | (with_reducible refine sx_next ?_)
  | (with_reducible refine sx_ret ?_)
  | ((fail_if_success (with_reducible refine sx_asgO (eo_lst ?_))); (with_reducible refine sx_asg ?_))
  | (with_reducible refine ex_int ?_)
  | (with_reducible refine ex_str ?_)
  | (with_reducible refine ex_bl ?_)
  | (with_reducible refine ex_non ?_)
  | (with_reducible refine ex_op ?_)
  | (with_reducible refine ex_un ?_)
  | (with_reducible refine ex_chain ?_)
  | (with_reducible refine ex_call ?_)
  | (with_reducible refine ex_isT ?_)
  | (with_reducible refine ex_cb ?_)
  | (with_reducible refine ex_sl ?_)
  | (with_reducible refine ex_tup ?_)
  | (with_reducible refine ex_if ?_)
  | (with_reducible refine ex_of (eo_lst ?_))
  | (with_reducible refine ex_notV ?_)
  | (with_reducible refine ea_nil ?_)
  | (with_reducible refine ea_cons ?_)
  | (with_reducible refine ep_no ?_)
  | (with_reducible refine ep_some ?_)
  | (with_reducible refine et_test ?_)
  | (with_reducible refine et_B ?_)
  | (with_reducible refine et_ch3 ?_)
  | (with_reducible refine et_and ?_)
  | (with_reducible refine et_or ?_)
  | (with_reducible refine et_not ?_)
  | (with_reducible refine et_yes ?_)
  | (with_reducible refine et_truL ?_)
  | (with_reducible refine opd_plusI ?_)
  | (with_reducible refine opd_I0 ?_)
  | (with_reducible refine opd_B0 ?_)
  | (with_reducible refine opd_eqI ?_)
  | (with_reducible refine opd_neI ?_)
  | (with_reducible refine opd_eqS ?_)
  | (with_reducible refine opd_neS ?_)
  | (with_reducible refine opd_is ?_)
  | (with_reducible refine opd_isnt ?_)
  | (with_reducible refine opd_ixT rfl ?_)
  | (with_reducible refine opd_ixL rfl ?_)
  | (with_reducible refine und_neg ?_)
  | (with_reducible refine cbd_lenL ?_)
  | (with_reducible refine cbd_lenT ?_)
  | (with_reducible refine cbd_min2 ?_)
  | (with_reducible refine cbd_max2 ?_)
  | (with_reducible refine cbd_abs ?_)
  | (with_reducible refine cbd_int ?_)
  | (with_reducible refine cbd_tupL ?_)
  | (with_reducible refine cbd_listL ?_)
  | (with_reducible refine cbd_listT ?_)
  | (with_reducible refine cbd_sum ?_)
  | (with_reducible refine sld_T ?_)
  | (with_reducible refine sld_L ?_)
  | (with_reducible refine ex_revL ?_)
  | (with_reducible refine ex_bmL ?_)
  | (with_reducible refine ex_andV ?_)
  | (with_reducible refine ei_list ?_)
  | (with_reducible refine ei_rng1 ?_)
  | (with_reducible refine ei_rng2 ?_)
  | (with_reducible refine ei_enum ?_)
  | (with_reducible refine ei_enumT ?_)
  | (with_reducible refine ei_zip ?_)
  | (with_reducible refine sx_par ?_)
  | (with_reducible refine Exists.intro _ (And.intro rfl ?_))
  | (with_reducible refine Exists.intro _ (Exists.intro _ (And.intro rfl ?_)))
  | ((with_reducible show EX (tCall (spS _) [] _ (tCons (tVar _) _)) _ _); refine ex_callS rfl ?_)
  | ((with_reducible refine And.intro (show (_ : Nat) ≤ 100000 from ?_) ?_); (focus (simp; done)))
  | ((with_reducible refine opd_I ?_ ?_); focus (first | omega | (show CDiv _ _; exact ⟨by omega, by omega⟩) | (show CMul _ _; first | exact Or.inl ⟨by omega, by omega⟩ | exact Or.inr ⟨by omega, by omega⟩))))
local macro_rules | `(tactic| walk_at "es") => `(tactic| repeat walk_at "e")
local macro_rules | `(tactic| walk_at "w") => `(tactic| try dsimp only [wipeE, List.foldl_cons, List.foldl_nil, List.set_cons_succ, List.set_cons_zero])
local macro_rules | `(tactic| walk_at "le") => `(tactic| repeat' first | exact LeE.nil | (refine LeE.eq rfl ?_) | (refine LeE.emp ?_) | (refine LeE.eq ?_ ?_))
local macro_rules | `(tactic| walk_at "no") => `(tactic| ((refine And.intro (fun hb => absurd hb ?_) (fun _ => ?_)); (focus (first | (exact Bool.false_ne_true) | (simp; done) | (simp; omega) | (simp only [decide_eq_true_eq]; omega)))))
local macro_rules | `(tactic| walk_at "yes") => `(tactic| ((refine And.intro (fun _ => ?_) (fun hb => absurd hb ?_)); (rotate_left); (focus (first | (exact Bool.noConfusion) | (simp; done) | (simp; omega) | (simp only [decide_eq_false_iff_not]; omega)))))
local macro_rules | `(tactic| walk_at "ei") => `(tactic| repeat ((fail_if_success (with_reducible show SX (tSeq (tIfS _ _ _) _) _ _)); (fail_if_success (with_reducible show SX (tIfS _ _ _) _ _)); (fail_if_success (with_reducible show SX (tSeq (tAsg (tIf _ _ _) _) _) _ _)); walk_at "e"))
local macro_rules | `(tactic| walk_at "tv") => `(tactic| repeat' first | walk_at "e" | ((with_reducible show (_ = true → _) ∧ (_ = false → _)); refine And.intro (fun _ => ?_) (fun _ => ?_)))
/-! ### lowest terms, crossings, clipping -/
def Wd (a : Nat) (x : Int) : Prop := x.natAbs < 2 ^ a
theorem opd_mulW {i j : Int} {a b : Nat} {Q : D → Prop} (ha : Wd a i) (hb : Wd b j) (h0 : 0 < a := by decide) (h1 : 0 < b := by decide) (h : a + b ≤ 1000000 := by decide) (k : Q (.int (i * j))) : OpD (rI CMulW fun i j => .int (i * j)) (.int i) (.int j) Q := opd_I (wide_mul ha hb h0 h1 h) k
theorem opd_divW {i j : Int} {b : Nat} {Q : D → Prop} (hj : 0 < j) (hb : Wd b j) (h1 : 0 < b := by decide) (h : b ≤ 9000 := by decide) (k : Q (.int (i / j))) : OpD (rI CDivW fun i j => .int (i / j)) (.int i) (.int j) Q := opd_I (wide_div hj hb h1 h) k
theorem Wd.mul {i j : Int} {a b : Nat} (ha : Wd a i) (hb : Wd b j) : Wd (a + b) (i * j) := wide_lt ha hb
theorem Wd.add {i j : Int} {a b : Nat} (ha : Wd a i) (hb : Wd b j) (c : Nat) (h1 : a < c) (h2 : b < c) : Wd c (i + j) := by
  unfold Wd at *
  have x : 2 ^ a ≤ 2 ^ (c - 1) := Nat.pow_le_pow_right (by decide) (by omega)
  have y : 2 ^ b ≤ 2 ^ (c - 1) := Nat.pow_le_pow_right (by decide) (by omega)
  have z : 2 ^ c = 2 ^ (c - 1) * 2 := by rw [← Nat.pow_succ]; congr 1; omega
  omega
theorem Wd.up {i : Int} {a b : Nat} (h : Wd a i) (k : a ≤ b) : Wd b i := Nat.lt_of_lt_of_le h (Nat.pow_le_pow_right (by decide) k)
theorem Wd.abs {i : Int} {a : Nat} (h : Wd a i) : Wd a (i.natAbs : Int) := by unfold Wd at *; omega
theorem Wd.sz {x : Int} (h1 : -16000000000000000 ≤ x) (h2 : x ≤ 16000000000000000) : Wd 60 x := by unfold Wd; omega
theorem Sz.w {v : P3} (h : Sz v) : Wd 60 v.1 ∧ Wd 60 v.2.1 ∧ Wd 60 v.2.2 := ⟨.sz h.1.1 h.1.2, .sz h.2.1.1 h.2.1.2, .sz (by have := h.2.2.1; omega) h.2.2.2⟩
def R_low : List D → (D → Prop) → Prop := fun ds Z => ∃ x y b : Int, ds = [.int x, .int y, .int b] ∧ 1 ≤ b ∧ Wd 8000 b ∧ Z (encZ (lowest x y b))
theorem gcd_mod (a b : Nat) (h : 0 < b) : Nat.gcd b (a % b) = Nat.gcd a b := by rw [Nat.gcd_comm a b, Nat.gcd_rec b a, Nat.gcd_comm]
theorem sx_lowest (K : PySem.W.Frag) (ds : List D) (Z : D → Prop) (h : R_low ds Z) : SX (T_lowest K) (startE N_lowest ds) { nx := fun _ => Z .none, rt := fun d _ => Z d } := by
  obtain ⟨x, y, b, rfl, hb, wb, z⟩ := h
  show SX (T_lowest K) [.val (.int x), .val (.int y), .val (.int b), .emp, .emp, .emp] _
  unfold T_lowest
  walk_at "es"
  refine sx_while (fun m ρ' => ∃ p q : Nat, Nat.gcd p q = Nat.gcd x.natAbs b.natAbs ∧ m = q ∧ ρ' = [.val (.int x), .val (.int y), .val (.int b), .val (.int (p : Int)), .val (.int (q : Int)), .emp]) b.natAbs ⟨x.natAbs, b.natAbs, rfl, rfl, by rw [show ((b.natAbs : Nat) : Int) = b by omega]⟩ ?_
  · rintro q ρ' ⟨p, _, e, rfl, rfl⟩
    walk_at "es"
    refine ⟨fun hq => ?_, fun hq => ?_⟩
    · have hq := of_decide_eq_true hq
      walk_at "es"
      refine ⟨_, ?_, p % q, ?_, q, p % q, by rw [gcd_mod _ _ (by omega)]; exact e, rfl, rfl⟩
      · rw [← Int.natCast_emod]
        walk_at "le"
      · exact Nat.mod_lt _ (by omega)
    · have hq := of_decide_eq_false hq
      obtain rfl : q = 0 := by omega
      rw [Nat.gcd_zero_right] at e
      subst e
      refine nx_seq ?_
      walk_at "es"
      refine sx_while (fun m ρ' => ∃ p q : Nat, Nat.gcd p q = gc x y b ∧ m = q ∧ ρ' = [.val (.int x), .val (.int y), .val (.int b), .val (.int (Nat.gcd x.natAbs b.natAbs : Nat)), .val (.int (q : Int)), .val (.int (p : Int))]) (Nat.gcd x.natAbs b.natAbs) ⟨y.natAbs, Nat.gcd x.natAbs b.natAbs, rfl, rfl, rfl⟩ ?_
      rintro q ρ' ⟨p, _, e, rfl, rfl⟩
      walk_at "es"
      refine ⟨fun hq => ?_, fun hq => ?_⟩
      · have hq := of_decide_eq_true hq
        walk_at "es"
        refine ⟨_, ?_, p % q, ?_, q, p % q, by rw [gcd_mod _ _ (by omega)]; exact e, rfl, rfl⟩
        · rw [← Int.natCast_emod]
          walk_at "le"
        · exact Nat.mod_lt _ (by omega)
      · have hq := of_decide_eq_false hq
        obtain rfl : q = 0 := by omega
        rw [Nat.gcd_zero_right] at e
        subst e
        have gp := gc_pos (x := x) (y := y) hb
        have gw : Wd 8000 (gc x y b : Int) := by
          have d : gc x y b ∣ b.natAbs := Nat.dvd_trans (Nat.gcd_dvd_right _ _) (Nat.gcd_dvd_right _ _)
          have := Nat.le_of_dvd (by omega) d
          unfold Wd at *
          omega
        refine nx_seq ?_
        walk_at "es"
        refine opd_divW (by omega) gw (k := ?_)
        walk_at "es"
        refine opd_divW (by omega) gw (k := ?_)
        walk_at "es"
        refine opd_divW (by omega) gw (k := ?_)
        walk_at "es"
        exact z
def R_cross : List D → (D → Prop) → Prop := fun ds Z => ∃ (one two : P3) (l r : Int), ds = [encZ one, encZ two, .int l, .int r] ∧ Sz one ∧ Sz two ∧ Wd 200 l ∧ Wd 200 r ∧ opp l r = true ∧ Z (encZ (crossing one two l r))
theorem sx_crossing (K : PySem.W.Frag) (ds : List D) (Z : D → Prop) (h : R_cross ds Z) : SX (T_crossing K R_low) (startE N_crossing ds) { nx := fun _ => Z .none, rt := fun d _ => Z d } := by
  obtain ⟨one, two, l, r, rfl, s1, s2, wl, wr, o, z⟩ := h
  show SX (T_crossing K R_low) [.val (encZ one), .val (encZ two), .val (.int l), .val (.int r), .emp, .emp, .emp, .emp, .emp] _
  unfold T_crossing
  have o := of_decide_eq_true o
  obtain ⟨a1, a2, a3⟩ := s1.w
  obtain ⟨b1, b2, b3⟩ := s2.w
  have p1 := s1.2.2.1
  have p2 := s2.2.2.1
  obtain ⟨x1, y1, z1⟩ := one
  obtain ⟨x2, y2, z2⟩ := two
  simp only at a1 a2 a3 b1 b2 b3 p1 p2
  unfold encZ encR
  have lA := wl.abs
  have rA := wr.abs
  have e1 := lA.mul b3
  have e2 := rA.mul a3
  have hb : 1 ≤ z1 * z2 * ((l.natAbs : Int) * z2 + (r.natAbs : Int) * z1) := by
    have := Int.mul_pos (Int.mul_pos (show 0 < z1 by omega) (show 0 < z2 by omega)) (Int.add_pos (Int.mul_pos (show 0 < (l.natAbs : Int) by omega) (show 0 < z2 by omega)) (Int.mul_pos (show 0 < (r.natAbs : Int) by omega) (show 0 < z1 by omega)))
    omega
  walk_at "es"
  refine opd_mulW lA b3 (k := ?_)
  walk_at "es"
  refine opd_mulW rA a3 (k := ?_)
  walk_at "es"
  refine opd_mulW a3 b3 (k := ?_)
  walk_at "es"
  refine opd_mulW lA b3 (k := ?_)
  walk_at "es"
  refine opd_mulW rA a3 (k := ?_)
  walk_at "es"
  refine opd_mulW (a3.mul b3) (e1.add e2 300 (by decide) (by decide)) (k := ?_)
  walk_at "es"
  refine opd_mulW b1 a3 (k := ?_)
  walk_at "es"
  refine opd_mulW (b1.mul a3) e1 (k := ?_)
  walk_at "es"
  refine opd_mulW a1 b3 (k := ?_)
  walk_at "es"
  refine opd_mulW (a1.mul b3) e2 (k := ?_)
  walk_at "es"
  refine opd_mulW b2 a3 (k := ?_)
  walk_at "es"
  refine opd_mulW (b2.mul a3) e1 (k := ?_)
  walk_at "es"
  refine opd_mulW a2 b3 (k := ?_)
  walk_at "es"
  refine opd_mulW (a2.mul b3) e2 (k := ?_)
  walk_at "es"
  refine ⟨_, _, _, rfl, hb, ((a3.mul b3).mul (e1.add e2 300 (by decide) (by decide))).up (by decide), ?_⟩
  walk_at "es"
  exact z
end Law_k21
namespace Law_k21
open PySem L2 Pu
local macro_rules | `(tactic| walk_at "e") => `(tactic| first
  | ((with_reducible refine nx_seq ?_); (try dsimp only [List.set_cons_succ, List.set_cons_zero]))
  | ((with_reducible refine ex_vr ?_); dsimp only [VQ, List.set_cons_succ, List.set_cons_zero, List.getElem?_cons_zero, List.getElem?_cons_succ]; (fail_if_success (with_reducible show False)))
  | (with_reducible refine sx_seq ?_)
  | (with_reducible refine sx_if ?_)
  | (with_reducible refine sx_next ?_)
  | (with_reducible refine sx_ret ?_)
  | ((fail_if_success (with_reducible refine sx_asgO (eo_lst ?_))); (with_reducible refine sx_asg ?_))
  | (with_reducible refine ex_int ?_)
  | (with_reducible refine ex_str ?_)
  | (with_reducible refine ex_bl ?_)
  | (with_reducible refine ex_non ?_)
  | (with_reducible refine ex_op ?_)
  | (with_reducible refine ex_un ?_)
  | (with_reducible refine ex_chain ?_)
  | (with_reducible refine ex_call ?_)
  | (with_reducible refine ex_isT ?_)
  | (with_reducible refine ex_cb ?_)
  | (with_reducible refine ex_sl ?_)
  | (with_reducible refine ex_tup ?_)
  | (with_reducible refine ex_if ?_)
  | (with_reducible refine ex_of (eo_lst ?_))
  | (with_reducible refine ex_notV ?_)
  | (with_reducible refine ea_nil ?_)
  | (with_reducible refine ea_cons ?_)
  | (with_reducible refine ep_no ?_)
  | (with_reducible refine ep_some ?_)
  | (with_reducible refine et_test ?_)
  | (with_reducible refine et_B ?_)
  | (with_reducible refine et_ch3 ?_)
  | (with_reducible refine et_and ?_)
  | (with_reducible refine et_or ?_)
  | (with_reducible refine et_not ?_)
  | (with_reducible refine et_yes ?_)
  | (with_reducible refine et_truL ?_)
  | (with_reducible refine opd_plusI ?_)
  | (with_reducible refine opd_I0 ?_)
  | (with_reducible refine opd_B0 ?_)
  | (with_reducible refine opd_eqI ?_)
  | (with_reducible refine opd_neI ?_)
  | (with_reducible refine opd_eqS ?_)
  | (with_reducible refine opd_neS ?_)
  | (with_reducible refine opd_is ?_)
  | (with_reducible refine opd_isnt ?_)
  | (with_reducible refine opd_ixT rfl ?_)
  | (with_reducible refine opd_ixL rfl ?_)
  | (with_reducible refine und_neg ?_)
  | (with_reducible refine cbd_lenL ?_)
  | (with_reducible refine cbd_lenT ?_)
  | (with_reducible refine cbd_min2 ?_)
  | (with_reducible refine cbd_max2 ?_)
  | (with_reducible refine cbd_abs ?_)
  | (with_reducible refine cbd_int ?_)
  | (with_reducible refine cbd_tupL ?_)
  | (with_reducible refine cbd_listL ?_)
  | (with_reducible refine cbd_listT ?_)
  | (with_reducible refine cbd_sum ?_)
  | (with_reducible refine sld_T ?_)
  | (with_reducible refine sld_L ?_)
  | (with_reducible refine ex_revL ?_)
  | (with_reducible refine ex_bmL ?_)
  | (with_reducible refine ex_andV ?_)
  | (with_reducible refine ei_list ?_)
  | (with_reducible refine ei_rng1 ?_)
  | (with_reducible refine ei_rng2 ?_)
  | (with_reducible refine ei_enum ?_)
  | (with_reducible refine ei_enumT ?_)
  | (with_reducible refine ei_zip ?_)
  | (with_reducible refine sx_par ?_)
  | (with_reducible refine Exists.intro _ (And.intro rfl ?_))
  | (with_reducible refine Exists.intro _ (Exists.intro _ (And.intro rfl ?_)))
  | ((with_reducible show EX (tCall (spS _) [] _ (tCons (tVar _) _)) _ _); refine ex_callS rfl ?_)
  | ((with_reducible refine And.intro (show (_ : Nat) ≤ 100000 from ?_) ?_); (focus (simp; done)))
  | ((with_reducible refine opd_I ?_ ?_); focus (first | omega | (show CDiv _ _; exact ⟨by omega, by omega⟩) | (show CMul _ _; first | exact Or.inl ⟨by omega, by omega⟩ | exact Or.inr ⟨by omega, by omega⟩))))
local macro_rules | `(tactic| walk_at "es") => `(tactic| repeat walk_at "e")
local macro_rules | `(tactic| walk_at "w") => `(tactic| try dsimp only [wipeE, List.foldl_cons, List.foldl_nil, List.set_cons_succ, List.set_cons_zero])
local macro_rules | `(tactic| walk_at "le") => `(tactic| repeat' first | exact LeE.nil | (refine LeE.eq rfl ?_) | (refine LeE.emp ?_) | (refine LeE.eq ?_ ?_))
local macro_rules | `(tactic| walk_at "no") => `(tactic| ((refine And.intro (fun hb => absurd hb ?_) (fun _ => ?_)); (focus (first | (exact Bool.false_ne_true) | (simp; done) | (simp; omega) | (simp only [decide_eq_true_eq]; omega)))))
local macro_rules | `(tactic| walk_at "yes") => `(tactic| ((refine And.intro (fun _ => ?_) (fun hb => absurd hb ?_)); (rotate_left); (focus (first | (exact Bool.noConfusion) | (simp; done) | (simp; omega) | (simp only [decide_eq_false_iff_not]; omega)))))
local macro_rules | `(tactic| walk_at "ei") => `(tactic| repeat ((fail_if_success (with_reducible show SX (tSeq (tIfS _ _ _) _) _ _)); (fail_if_success (with_reducible show SX (tIfS _ _ _) _ _)); (fail_if_success (with_reducible show SX (tSeq (tAsg (tIf _ _ _) _) _) _ _)); walk_at "e"))
local macro_rules | `(tactic| walk_at "tv") => `(tactic| repeat' first | walk_at "e" | ((with_reducible show (_ = true → _) ∧ (_ = false → _)); refine And.intro (fun _ => ?_) (fun _ => ?_)))
def R_clip : List D → (D → Prop) → Prop := fun ds Z => ∃ (V : List P3) (h a : Pt), ds = [.list (V.map encZ), encP h, encP a] ∧ (∀ v ∈ V, Sz v) ∧ V.length ≤ 100 ∧ (Nr 100000 h ∧ Nr 100000 a) ∧ Z (.list ((clip (h, a) V).map encZ))
theorem take_snoc' {α : Type} {xs : List α} {k : Nat} {x : α} (h : xs[k]? = some x) : xs.take (k + 1) = xs.take k ++ [x] := by
  rw [List.take_succ, h]; rfl
theorem z_at {V : List P3} {k : Nat} {c : P3} (h : V[k]? = some c) : c = a3 V k := by
  unfold a3; rw [List.getD_eq_getElem?_getD, h]; rfl
theorem ev_wd {h a : Pt} {v : P3} (nh : Nr 100000 h) (na : Nr 100000 a) (s : Sz v) : Wd 200 (ev (h, a) v) := by
  obtain ⟨s1, s2, s3⟩ := s
  unfold Nr at *
  have m1 := mul_bd (x := h.2) (y := v.2.2) (A := 100000) (B := 16000000000000000) (by omega) (by omega) (by omega) (by omega)
  have m2 := mul_bd (x := h.1) (y := v.2.2) (A := 100000) (B := 16000000000000000) (by omega) (by omega) (by omega) (by omega)
  have m3 := mul_bd (x := a.1 - h.1) (y := v.2.1 - h.2 * v.2.2) (A := 200000) (B := 2000000000000000000000) (by omega) (by omega) (by omega) (by omega)
  have m4 := mul_bd (x := a.2 - h.2) (y := v.1 - h.1 * v.2.2) (A := 200000) (B := 2000000000000000000000) (by omega) (by omega) (by omega) (by omega)
  unfold ev Wd
  simp only
  omega
theorem kept_two (f : Ln) (V : List P3) (i : Nat) : (List.range (2 * (i + 1))).filter (kept f V) = (List.range (2 * i)).filter (kept f V) ++ ([2 * i, 2 * i + 1].filter (kept f V)) := by
  rw [show 2 * (i + 1) = 2 * i + 1 + 1 by omega, List.range_succ, List.range_succ, List.append_assoc, List.filter_append]
  rfl
theorem sx_clipped (K : PySem.W.Frag) (ds : List D) (Z : D → Prop) (h : R_clip ds Z) : SX (T_clipped K R_across R_minus R_cross) (startE N_clipped ds) { nx := fun _ => Z .none, rt := fun d _ => Z d } := by
  obtain ⟨V, h, a, rfl, sz, hl, ⟨nh, na⟩, z⟩ := h
  show SX (T_clipped K R_across R_minus R_cross) [.val (.list (V.map encZ)), .val (encP h), .val (encP a), .emp, .emp, .emp, .emp, .emp, .emp, .emp, .emp, .emp, .emp] _
  unfold T_clipped
  have nb := nr_big na nh
  refine sx_seq (sx_asgO (eo_lst ?_))
  walk_at "es"
  refine sx_asgO (eo_lst ?_)
  walk_at "es"
  refine sx_for (J := [5, 6, 7]) (ei_list ?_)
  walk_at "es"
  refine ⟨fun i ρ' => ρ' = [.val (.list (V.map encZ)), .val (encP h), .val (encP a), .own [], .own ((V.take i).map fun v => .int (ev (h, a) v)), .emp, .emp, .emp, .emp, .emp, .emp, .emp, .emp], rfl, ?_, ?_⟩
  · rintro i dd ρ' hd0 rfl
    obtain ⟨v, hv, rfl⟩ := map_at hd0
    have hi := (List.getElem?_eq_some_iff.mp hv).1
    have s := sz v (List.mem_of_getElem? hv)
    unfold encZ encR
    refine sg_tup rfl (sgs_cons (sg_name (by simp) (sgs_cons (sg_name (by simp) (sgs_cons (sg_name (by simp) (sgs_nil ?_)))))))
    walk_at "w"
    refine sx_app rfl ?_
    walk_at "es"
    refine ⟨a, h, rfl, ?_⟩
    have nh' := nh
    unfold Nr at nh'
    rw [show encP h = .tuple [.int h.1, .int h.2] from rfl]
    walk_at "es"
    refine ⟨(a.1 - h.1, a.2 - h.2), (v.1 - h.1 * v.2.2, v.2.1 - h.2 * v.2.2), rfl, nb, ?_⟩
    refine ⟨_, rfl, by rw [List.length_map, List.length_take]; omega, ?_⟩
    walk_at "w"
    refine ⟨_, ?_, rfl⟩
    rw [take_snoc' hv, List.map_append]
    walk_at "le"
  rintro ρ' rfl
  rw [List.length_map, List.take_length]
  refine nx_seq (sx_seq (sx_freeze 4 rfl ?_))
  walk_at "w"
  have atS : ∀ k, k < V.length → atI (V.map fun v => PyData.int (ev (h, a) v)) (k : Int) = some (.int (ev (h, a) (a3 V k))) := fun k hk => by
    rw [atI_map (0, 0, 1) (by omega) (by omega), Int.toNat_natCast]; rfl
  refine sx_for (J := [8]) (ei_rng1 ?_)
  walk_at "es"
  rw [List.length_map]
  refine ⟨by omega, fun i ρ' => ρ' = [.val (.list (V.map encZ)), .val (encP h), .val (encP a), .own ((((List.range (2 * i)).filter (kept (h, a) V)).map (val (h, a) V)).map encZ), .val (.list (V.map fun v => .int (ev (h, a) v))), .emp, .emp, .emp, .emp, .emp, .emp, .emp, .emp], rfl, ?_, ?_⟩
  · rintro i dd ρ' hd0 rfl
    obtain ⟨hi, rfl⟩ := rng_at hd0
    rw [Int.zero_add]
    have hi : i < V.length := by omega
    have hp : 0 < V.length := by omega
    have m1 := Nat.mod_lt (i + 1) hp
    have fl := List.length_filter_le (kept (h, a) V) (List.range (2 * i))
    rw [List.length_range] at fl
    have szi := sz _ (a3_mem hi)
    have szj := sz _ (a3_mem m1)
    have si : sg (h, a) V i = ev (h, a) (a3 V i) := by unfold sg; rw [Nat.mod_eq_of_lt hi]
    have sj : sg (h, a) V (i + 1) = ev (h, a) (a3 V ((i + 1) % V.length)) := rfl
    have k0 : kept (h, a) V (2 * i) = decide (0 ≤ ev (h, a) (a3 V i)) := by
      unfold kept
      rw [if_pos (by omega), show 2 * i / 2 = i by omega, si]
    have k1 : kept (h, a) V (2 * i + 1) = opp (ev (h, a) (a3 V i)) (ev (h, a) (a3 V ((i + 1) % V.length))) := by
      unfold kept
      rw [if_neg (by omega), show (2 * i + 1) / 2 = i by omega, si, sj]
    have v0 : val (h, a) V (2 * i) = a3 V i := by
      unfold val
      rw [if_pos (by omega), show 2 * i / 2 = i by omega, Nat.mod_eq_of_lt hi]
    have v1 : val (h, a) V (2 * i + 1) = crossing (a3 V i) (a3 V ((i + 1) % V.length)) (ev (h, a) (a3 V i)) (ev (h, a) (a3 V ((i + 1) % V.length))) := by
      unfold val
      rw [if_neg (by omega), show (2 * i + 1) / 2 = i by omega, si, sj, Nat.mod_eq_of_lt hi]
    have nxt : ((((List.range (2 * (i + 1))).filter (kept (h, a) V)).map (val (h, a) V)).map encZ) = ((((List.range (2 * i)).filter (kept (h, a) V)).map (val (h, a) V)).map encZ) ++ (if kept (h, a) V (2 * i) = true then [encZ (a3 V i)] else []) ++ (if kept (h, a) V (2 * i + 1) = true then [encZ (crossing (a3 V i) (a3 V ((i + 1) % V.length)) (ev (h, a) (a3 V i)) (ev (h, a) (a3 V ((i + 1) % V.length))))] else []) := by
      rw [kept_two, List.map_append, List.map_append, List.append_assoc]
      congr 1
      cases e0 : kept (h, a) V (2 * i) <;> cases e1 : kept (h, a) V (2 * i + 1) <;> simp [e0, e1, v0, v1]
    have ln : ((((List.range (2 * i)).filter (kept (h, a) V)).map (val (h, a) V)).map encZ).length ≤ 200 := by
      rw [List.length_map, List.length_map]; omega
    generalize ((((List.range (2 * i)).filter (kept (h, a) V)).map (val (h, a) V)).map encZ) = acc at *
    refine sg_name (by simp) ?_
    walk_at "w"
    walk_at "es"
    refine opd_ixL (at_Z hi) ?_
    walk_at "es"
    rw [List.length_map]
    refine op_m1 hp ?_
    refine opd_ixL (at_Z m1) ?_
    walk_at "es"
    refine opd_ixL (atS i hi) ?_
    walk_at "es"
    rw [List.length_map]
    refine op_m1 hp ?_
    refine opd_ixL (atS _ m1) ?_
    refine ea_nil ⟨_, _, rfl, nx_seq ?_⟩
    walk_at "w"
    have w1 := ev_wd nh na szi
    have w2 := ev_wd nh na szj
    generalize ev (h, a) (a3 V i) = l at *
    generalize ev (h, a) (a3 V ((i + 1) % V.length)) = r at *
    generalize a3 V i = one at *
    generalize a3 V ((i + 1) % V.length) = two at *
    refine sx_mid ([.val (.list (V.map encZ)), .val (encP h), .val (encP a), .own (acc ++ (if kept (h, a) V (2 * i) = true then [encZ one] else [])), .val (.list (V.map fun v => .int (ev (h, a) v))), .emp, .emp, .emp, .val (.int (i : Int)), .val (encZ one), .val (encZ two), .val (.int l), .val (.int r)]) ?_ ?_
    · walk_at "es"
      rw [k0]
      refine ⟨fun hb => ?_, fun hb => ?_⟩
      · rw [if_pos hb]
        refine sx_app rfl ?_
        walk_at "es"
        refine ⟨by omega, ?_⟩
        refine ⟨_, ?_, rfl⟩
        walk_at "w"
        walk_at "le"
      · rw [if_neg (by rw [hb]; decide), List.append_nil]
        exact sx_next ⟨_, by walk_at "le", rfl⟩
    have la : (acc ++ (if kept (h, a) V (2 * i) = true then [encZ one] else [])).length ≤ 201 := by
      rw [List.length_append]
      split
      · simp; omega
      · simp; omega
    generalize (acc ++ (if kept (h, a) V (2 * i) = true then [encZ one] else [])) = ac2 at *
    rw [nxt]
    refine sx_if (et_val (opp l r) ?_ ⟨fun hb => ?_, fun hb => ?_⟩)
    · walk_at "tv"
      all_goals (first | contradiction | skip)
      all_goals (refine ⟨?_, rfl⟩; unfold opp; simp only [decide_eq_true_eq, decide_eq_false_iff_not] at *; first | exact (decide_eq_true (by omega)).symm | exact (decide_eq_false (by omega)).symm | (rw [decide_eq_decide]; omega))
    · refine sx_app rfl ?_
      walk_at "es"
      refine ⟨one, two, l, r, rfl, szi, szj, w1, w2, hb, ?_⟩
      refine ⟨_, rfl, by omega, ?_⟩
      rw [k1, if_pos hb]
      refine ⟨_, ?_, rfl⟩
      walk_at "w"
      walk_at "le"
    · rw [k1, if_neg (by rw [hb]; decide), List.append_nil]
      refine sx_next ⟨_, ?_, rfl⟩
      walk_at "le"
  rintro ρ' rfl
  rw [List.length_map, rngI_len, Int.toNat_natCast]
  refine nx_seq (sx_freeze 3 rfl ?_)
  walk_at "w"
  walk_at "es"
  exact z
end Law_k21
namespace Law_k21
open PySem L2 Pu
local macro_rules | `(tactic| walk_at "e") => `(tactic| first
  | ((with_reducible refine nx_seq ?_); (try dsimp only [List.set_cons_succ, List.set_cons_zero]))
  | ((with_reducible refine ex_vr ?_); dsimp only [VQ, List.set_cons_succ, List.set_cons_zero, List.getElem?_cons_zero, List.getElem?_cons_succ]; (fail_if_success (with_reducible show False)))
  | (with_reducible refine sx_seq ?_)
  | (with_reducible refine sx_if ?_)
  | (with_reducible refine sx_next ?_)
  | (with_reducible refine sx_ret ?_)
  | ((fail_if_success (with_reducible refine sx_asgO (eo_lst ?_))); (with_reducible refine sx_asg ?_))
  | (with_reducible refine ex_int ?_)
  | (with_reducible refine ex_str ?_)
  | (with_reducible refine ex_bl ?_)
  | (with_reducible refine ex_non ?_)
  | (with_reducible refine ex_op ?_)
  | (with_reducible refine ex_un ?_)
  | (with_reducible refine ex_chain ?_)
  | (with_reducible refine ex_call ?_)
  | (with_reducible refine ex_isT ?_)
  | (with_reducible refine ex_cb ?_)
  | (with_reducible refine ex_sl ?_)
  | (with_reducible refine ex_tup ?_)
  | (with_reducible refine ex_if ?_)
  | (with_reducible refine ex_of (eo_lst ?_))
  | (with_reducible refine ex_notV ?_)
  | (with_reducible refine ea_nil ?_)
  | (with_reducible refine ea_cons ?_)
  | (with_reducible refine ep_no ?_)
  | (with_reducible refine ep_some ?_)
  | (with_reducible refine et_test ?_)
  | (with_reducible refine et_B ?_)
  | (with_reducible refine et_ch3 ?_)
  | (with_reducible refine et_and ?_)
  | (with_reducible refine et_or ?_)
  | (with_reducible refine et_not ?_)
  | (with_reducible refine et_yes ?_)
  | (with_reducible refine et_truL ?_)
  | (with_reducible refine opd_plusI ?_)
  | (with_reducible refine opd_I0 ?_)
  | (with_reducible refine opd_B0 ?_)
  | (with_reducible refine opd_eqI ?_)
  | (with_reducible refine opd_neI ?_)
  | (with_reducible refine opd_eqS ?_)
  | (with_reducible refine opd_neS ?_)
  | (with_reducible refine opd_is ?_)
  | (with_reducible refine opd_isnt ?_)
  | (with_reducible refine opd_ixT rfl ?_)
  | (with_reducible refine opd_ixL rfl ?_)
  | (with_reducible refine und_neg ?_)
  | (with_reducible refine cbd_lenL ?_)
  | (with_reducible refine cbd_lenT ?_)
  | (with_reducible refine cbd_min2 ?_)
  | (with_reducible refine cbd_max2 ?_)
  | (with_reducible refine cbd_abs ?_)
  | (with_reducible refine cbd_int ?_)
  | (with_reducible refine cbd_tupL ?_)
  | (with_reducible refine cbd_listL ?_)
  | (with_reducible refine cbd_listT ?_)
  | (with_reducible refine cbd_sum ?_)
  | (with_reducible refine sld_T ?_)
  | (with_reducible refine sld_L ?_)
  | (with_reducible refine ex_revL ?_)
  | (with_reducible refine ex_bmL ?_)
  | (with_reducible refine ex_andV ?_)
  | (with_reducible refine ei_list ?_)
  | (with_reducible refine ei_rng1 ?_)
  | (with_reducible refine ei_rng2 ?_)
  | (with_reducible refine ei_enum ?_)
  | (with_reducible refine ei_enumT ?_)
  | (with_reducible refine ei_zip ?_)
  | (with_reducible refine sx_par ?_)
  | (with_reducible refine Exists.intro _ (And.intro rfl ?_))
  | (with_reducible refine Exists.intro _ (Exists.intro _ (And.intro rfl ?_)))
  | ((with_reducible show EX (tCall (spS _) [] _ (tCons (tVar _) _)) _ _); refine ex_callS rfl ?_)
  | ((with_reducible refine And.intro (show (_ : Nat) ≤ 100000 from ?_) ?_); (focus (simp; done)))
  | ((with_reducible refine opd_I ?_ ?_); focus (first | omega | (show CDiv _ _; exact ⟨by omega, by omega⟩) | (show CMul _ _; first | exact Or.inl ⟨by omega, by omega⟩ | exact Or.inr ⟨by omega, by omega⟩))))
local macro_rules | `(tactic| walk_at "es") => `(tactic| repeat walk_at "e")
local macro_rules | `(tactic| walk_at "w") => `(tactic| try dsimp only [wipeE, List.foldl_cons, List.foldl_nil, List.set_cons_succ, List.set_cons_zero])
local macro_rules | `(tactic| walk_at "le") => `(tactic| repeat' first | exact LeE.nil | (refine LeE.eq rfl ?_) | (refine LeE.emp ?_) | (refine LeE.eq ?_ ?_))
local macro_rules | `(tactic| walk_at "no") => `(tactic| ((refine And.intro (fun hb => absurd hb ?_) (fun _ => ?_)); (focus (first | (exact Bool.false_ne_true) | (simp; done) | (simp; omega) | (simp only [decide_eq_true_eq]; omega)))))
local macro_rules | `(tactic| walk_at "yes") => `(tactic| ((refine And.intro (fun _ => ?_) (fun hb => absurd hb ?_)); (rotate_left); (focus (first | (exact Bool.noConfusion) | (simp; done) | (simp; omega) | (simp only [decide_eq_false_iff_not]; omega)))))
local macro_rules | `(tactic| walk_at "ei") => `(tactic| repeat ((fail_if_success (with_reducible show SX (tSeq (tIfS _ _ _) _) _ _)); (fail_if_success (with_reducible show SX (tIfS _ _ _) _ _)); (fail_if_success (with_reducible show SX (tSeq (tAsg (tIf _ _ _) _) _) _ _)); walk_at "e"))
local macro_rules | `(tactic| walk_at "tv") => `(tactic| repeat' first | walk_at "e" | ((with_reducible show (_ = true → _) ∧ (_ = false → _)); refine And.intro (fun _ => ?_) (fun _ => ?_)))
/-! ### meeting, middle, may_hit -/
def R_meet : List D → (D → Prop) → Prop := fun ds Z => ∃ P Q : List Pt, ds = [.list (P.map encP), .list (Q.map encP)] ∧ Conv P ∧ Conv Q ∧ NoPart P Q ∧ (∀ p ∈ P, Nr 100000 p) ∧ (∀ p ∈ Q, Nr 100000 p) ∧ P.length + Q.length ≤ 24 ∧ Z (.list ((meetN P Q Q.length).map encZ))
theorem meet_sz {P Q : List Pt} (CP : Conv P) (CQ : Conv Q) (N : NoPart P Q) (nP : ∀ p ∈ P, Nr 100000 p) (nQ : ∀ p ∈ Q, Nr 100000 p) {m : Nat} (hm : m ≤ Q.length) : (∀ v ∈ meetN P Q m, Sz v) ∧ (meetN P Q m).length ≤ P.length + m ∧ 3 ≤ (meetN P Q m).length := by
  obtain ⟨G, I, sub, hp, hq, hl⟩ := (meet_ok CP CQ N m hm).ex
  refine ⟨fun v mv => I.size (fun g mg => ?_) mv, by rw [← hl]; exact I.len_le, I.n3⟩
  rcases sub g mg with h | h
  · exact edge_bd nP h
  · exact edge_bd nQ h
theorem sx_meeting (K : PySem.W.Frag) (ds : List D) (Z : D → Prop) (h : R_meet ds Z) : SX (T_meeting K R_clip) (startE N_meeting ds) { nx := fun _ => Z .none, rt := fun d _ => Z d } := by
  obtain ⟨P, Q, rfl, CP, CQ, N, nP, nQ, hl, z⟩ := h
  show SX (T_meeting K R_clip) [.val (.list (P.map encP)), .val (.list (Q.map encP)), .emp, .emp, .emp, .emp] _
  unfold T_meeting
  refine sx_seq (sx_asg (ex_of (eo_lcP (α := Pt) (fun _ => true) (fun p => encZ (lift p)) (ei_list ?_))))
  walk_at "es"
  refine ⟨by omega, fun i hi => by simp at hi; rcases hi with rfl | rfl <;> rfl, fun w hw => sg_tup rfl (sgs_cons (sg_name (by simp) (sgs_cons (sg_name (by simp) (sgs_nil ⟨rfl, ?_⟩))))), ?_⟩
  · unfold encZ encR lift
    walk_at "w"
    refine et_yes ⟨rfl, rfl, fun _ => ?_⟩
    walk_at "es"
    exact ⟨rfl, rfl⟩
  rw [filt_all, show (P.map fun p => encZ (lift p)) = (meetN P Q 0).map encZ by show _ = (P.map lift).map encZ; rw [List.map_map]; rfl]
  refine nx_seq (sx_seq (sx_for (J := [5]) (ei_rng1 ?_)))
  walk_at "es"
  rw [List.length_map]
  refine ⟨by omega, fun i ρ' => ρ' = [.val (.list (P.map encP)), .val (.list (Q.map encP)), .val (.list ((meetN P Q i).map encZ)), .emp, .emp, .emp], rfl, ?_, ?_⟩
  · rintro i dd ρ' hd0 rfl
    obtain ⟨hi, rfl⟩ := rng_at hd0
    rw [Int.zero_add]
    have hi : i < Q.length := by omega
    have hp : 0 < Q.length := by omega
    have m1 := Nat.mod_lt (i + 1) hp
    refine sg_name (by simp) ?_
    walk_at "w"
    walk_at "es"
    refine opd_ixL (at_D hi) ?_
    walk_at "es"
    rw [List.length_map]
    refine op_m1 hp ?_
    refine opd_ixL (at_D m1) ?_
    walk_at "es"
    obtain ⟨s1, s2, _⟩ := meet_sz CP CQ N nP nQ (m := i) (by omega)
    refine ⟨meetN P Q i, at' Q i, at' Q ((i + 1) % Q.length), rfl, s1, by omega, ⟨at_Nr nQ hi, at_Nr nQ m1⟩, ?_⟩
    refine ⟨_, ?_, rfl⟩
    walk_at "w"
    walk_at "le"
  rintro ρ' rfl
  rw [List.length_map, rngI_len, Int.toNat_natCast]
  refine nx_seq ?_
  walk_at "es"
  exact z
def R_mid : List D → (D → Prop) → Prop := fun ds Z => ∃ V : List P3, ds = [.list (V.map encZ)] ∧ (∀ v ∈ V, Sz v) ∧ 1 ≤ V.length ∧ V.length ≤ 24 ∧ Z (encZ (mid V))
theorem prod_wd : ∀ {V : List P3}, (∀ v ∈ V, Sz v) → Wd (60 * V.length + 1) (prodB V)
  | [], _ => by show (1 : Int).natAbs < _; decide
  | v :: V, h => by
    have a := (h v (by simp)).w.2.2
    have b := prod_wd (V := V) fun x hx => h x (by simp [hx])
    have := a.mul b
    rw [List.length_cons]
    exact this.up (by omega)
theorem prod_snoc : ∀ (V : List P3) (v : P3), prodB (V ++ [v]) = prodB V * v.2.2
  | [], v => by show v.2.2 * 1 = 1 * v.2.2; omega
  | u :: V, v => by show u.2.2 * prodB (V ++ [v]) = u.2.2 * prodB V * v.2.2; rw [prod_snoc V v]; grind
theorem wd_div {a b : Int} {n : Nat} (ha : 1 ≤ a) (wa : Wd n a) (hb : 1 ≤ b) : Wd n (a / b) := by
  have h1 : 0 ≤ a / b := Int.ediv_nonneg (by omega) (by omega)
  have h2 : a / b ≤ a := Int.ediv_le_self _ (by omega)
  unfold Wd at *
  omega
theorem sx_middle (K : PySem.W.Frag) (ds : List D) (Z : D → Prop) (h : R_mid ds Z) : SX (T_middle K R_low) (startE N_middle ds) { nx := fun _ => Z .none, rt := fun d _ => Z d } := by
  obtain ⟨V, rfl, sz, h1, hl, z⟩ := h
  show SX (T_middle K R_low) [.val (.list (V.map encZ)), .emp, .emp, .emp, .emp] _
  unfold T_middle
  have w0 : Wd 1500 (prodB V) := (prod_wd sz).up (by omega)
  have pb := prod_pos (V := V) fun v mv => (sz v mv).2.2.1
  walk_at "es"
  refine sx_for (J := [2]) (ei_list ?_)
  walk_at "es"
  refine ⟨fun i ρ' => ρ' = [.val (.list (V.map encZ)), .val (.int (prodB (V.take i))), .emp, .emp, .emp], rfl, ?_, ?_⟩
  · rintro i dd ρ' hd0 rfl
    obtain ⟨v, hv, rfl⟩ := map_at hd0
    have s := sz v (List.mem_of_getElem? hv)
    have w : Wd 1500 (prodB (V.take i)) := (prod_wd fun v mv => sz v (List.mem_of_mem_take mv)).up (by rw [List.length_take]; omega)
    refine sg_name (by simp) ?_
    unfold encZ encR
    walk_at "w"
    walk_at "es"
    refine opd_mulW w s.w.2.2 (k := ?_)
    refine ⟨_, ?_, rfl⟩
    rw [take_snoc' hv, prod_snoc]
    walk_at "w"
    walk_at "le"
  rintro ρ' rfl
  rw [List.length_map, List.take_length]
  refine nx_seq ?_
  refine sx_seq (sx_asg (ex_cb (ea_cons (ex_of (eo_lcP (α := P3) (fun _ => true) (fun v => .int (v.1 * (prodB V / v.2.2))) (ei_list ?_))))))
  walk_at "es"
  refine ⟨by omega, fun i hi => by simp at hi; subst hi; rfl, fun v hv => sg_name (by simp) ⟨rfl, ?_⟩, ?_⟩
  · have s := sz v hv
    have w := s.w
    unfold encZ encR
    walk_at "w"
    refine et_yes ⟨rfl, rfl, fun _ => ?_⟩
    walk_at "es"
    refine opd_divW (by have := s.2.2.1; omega) w.2.2 (k := ?_)
    refine opd_mulW w.1 (wd_div pb w0 s.2.2.1) (k := ?_)
    exact ⟨rfl, rfl⟩
  rw [filt_all, show (V.map fun v => PyData.int (v.1 * (prodB V / v.2.2))) = (V.map fun v => v.1 * (prodB V / v.2.2)).map .int by rw [List.map_map]; rfl]
  walk_at "es"
  refine ex_of (eo_lcP (α := P3) (fun _ => true) (fun v => .int (v.2.1 * (prodB V / v.2.2))) (ei_list ?_))
  walk_at "es"
  refine ⟨by omega, fun i hi => by simp at hi; subst hi; rfl, fun v hv => sg_name (by simp) ⟨rfl, ?_⟩, ?_⟩
  · have s := sz v hv
    have w := s.w
    unfold encZ encR
    walk_at "w"
    refine et_yes ⟨rfl, rfl, fun _ => ?_⟩
    walk_at "es"
    refine opd_divW (by have := s.2.2.1; omega) w.2.2 (k := ?_)
    refine opd_mulW w.2.1 (wd_div pb w0 s.2.2.1) (k := ?_)
    exact ⟨rfl, rfl⟩
  rw [filt_all, show (V.map fun v => PyData.int (v.2.1 * (prodB V / v.2.2))) = (V.map fun v => v.2.1 * (prodB V / v.2.2)).map .int by rw [List.map_map]; rfl]
  walk_at "es"
  rw [List.length_map]
  have wl : Wd 60 (V.length : Int) := .sz (by omega) (by omega)
  refine opd_mulW w0 wl (k := ?_)
  refine ea_nil ⟨_, _, _, rfl, mid_pre (fun v mv => (sz v mv).2.2.1) h1, (w0.mul wl).up (by decide), ?_⟩
  exact z
end Law_k21
namespace Law_k21
open PySem L2 Pu
local macro_rules | `(tactic| walk_at "e") => `(tactic| first
  | ((with_reducible refine nx_seq ?_); (try dsimp only [List.set_cons_succ, List.set_cons_zero]))
  | ((with_reducible refine ex_vr ?_); dsimp only [VQ, List.set_cons_succ, List.set_cons_zero, List.getElem?_cons_zero, List.getElem?_cons_succ]; (fail_if_success (with_reducible show False)))
  | (with_reducible refine sx_seq ?_)
  | (with_reducible refine sx_if ?_)
  | (with_reducible refine sx_next ?_)
  | (with_reducible refine sx_ret ?_)
  | ((fail_if_success (with_reducible refine sx_asgO (eo_lst ?_))); (with_reducible refine sx_asg ?_))
  | (with_reducible refine ex_int ?_)
  | (with_reducible refine ex_str ?_)
  | (with_reducible refine ex_bl ?_)
  | (with_reducible refine ex_non ?_)
  | (with_reducible refine ex_op ?_)
  | (with_reducible refine ex_un ?_)
  | (with_reducible refine ex_chain ?_)
  | (with_reducible refine ex_call ?_)
  | (with_reducible refine ex_isT ?_)
  | (with_reducible refine ex_cb ?_)
  | (with_reducible refine ex_sl ?_)
  | (with_reducible refine ex_tup ?_)
  | (with_reducible refine ex_if ?_)
  | (with_reducible refine ex_of (eo_lst ?_))
  | (with_reducible refine ex_notV ?_)
  | (with_reducible refine ea_nil ?_)
  | (with_reducible refine ea_cons ?_)
  | (with_reducible refine ep_no ?_)
  | (with_reducible refine ep_some ?_)
  | (with_reducible refine et_test ?_)
  | (with_reducible refine et_B ?_)
  | (with_reducible refine et_ch3 ?_)
  | (with_reducible refine et_and ?_)
  | (with_reducible refine et_or ?_)
  | (with_reducible refine et_not ?_)
  | (with_reducible refine et_yes ?_)
  | (with_reducible refine et_truL ?_)
  | (with_reducible refine opd_plusI ?_)
  | (with_reducible refine opd_I0 ?_)
  | (with_reducible refine opd_B0 ?_)
  | (with_reducible refine opd_eqI ?_)
  | (with_reducible refine opd_neI ?_)
  | (with_reducible refine opd_eqS ?_)
  | (with_reducible refine opd_neS ?_)
  | (with_reducible refine opd_is ?_)
  | (with_reducible refine opd_isnt ?_)
  | (with_reducible refine opd_ixT rfl ?_)
  | (with_reducible refine opd_ixL rfl ?_)
  | (with_reducible refine und_neg ?_)
  | (with_reducible refine cbd_lenL ?_)
  | (with_reducible refine cbd_lenT ?_)
  | (with_reducible refine cbd_min2 ?_)
  | (with_reducible refine cbd_max2 ?_)
  | (with_reducible refine cbd_abs ?_)
  | (with_reducible refine cbd_int ?_)
  | (with_reducible refine cbd_tupL ?_)
  | (with_reducible refine cbd_listL ?_)
  | (with_reducible refine cbd_listT ?_)
  | (with_reducible refine cbd_sum ?_)
  | (with_reducible refine sld_T ?_)
  | (with_reducible refine sld_L ?_)
  | (with_reducible refine ex_revL ?_)
  | (with_reducible refine ex_bmL ?_)
  | (with_reducible refine ex_andV ?_)
  | (with_reducible refine ei_list ?_)
  | (with_reducible refine ei_rng1 ?_)
  | (with_reducible refine ei_rng2 ?_)
  | (with_reducible refine ei_enum ?_)
  | (with_reducible refine ei_enumT ?_)
  | (with_reducible refine ei_zip ?_)
  | (with_reducible refine sx_par ?_)
  | (with_reducible refine Exists.intro _ (And.intro rfl ?_))
  | (with_reducible refine Exists.intro _ (Exists.intro _ (And.intro rfl ?_)))
  | ((with_reducible show EX (tCall (spS _) [] _ (tCons (tVar _) _)) _ _); refine ex_callS rfl ?_)
  | ((with_reducible refine And.intro (show (_ : Nat) ≤ 100000 from ?_) ?_); (focus (simp; done)))
  | ((with_reducible refine opd_I ?_ ?_); focus (first | omega | (show CDiv _ _; exact ⟨by omega, by omega⟩) | (show CMul _ _; first | exact Or.inl ⟨by omega, by omega⟩ | exact Or.inr ⟨by omega, by omega⟩))))
local macro_rules | `(tactic| walk_at "es") => `(tactic| repeat walk_at "e")
local macro_rules | `(tactic| walk_at "w") => `(tactic| try dsimp only [wipeE, List.foldl_cons, List.foldl_nil, List.set_cons_succ, List.set_cons_zero])
local macro_rules | `(tactic| walk_at "le") => `(tactic| repeat' first | exact LeE.nil | (refine LeE.eq rfl ?_) | (refine LeE.emp ?_) | (refine LeE.eq ?_ ?_))
local macro_rules | `(tactic| walk_at "no") => `(tactic| ((refine And.intro (fun hb => absurd hb ?_) (fun _ => ?_)); (focus (first | (exact Bool.false_ne_true) | (simp; done) | (simp; omega) | (simp only [decide_eq_true_eq]; omega)))))
local macro_rules | `(tactic| walk_at "yes") => `(tactic| ((refine And.intro (fun _ => ?_) (fun hb => absurd hb ?_)); (rotate_left); (focus (first | (exact Bool.noConfusion) | (simp; done) | (simp; omega) | (simp only [decide_eq_false_iff_not]; omega)))))
local macro_rules | `(tactic| walk_at "ei") => `(tactic| repeat ((fail_if_success (with_reducible show SX (tSeq (tIfS _ _ _) _) _ _)); (fail_if_success (with_reducible show SX (tIfS _ _ _) _ _)); (fail_if_success (with_reducible show SX (tSeq (tAsg (tIf _ _ _) _) _) _ _)); walk_at "e"))
local macro_rules | `(tactic| walk_at "tv") => `(tactic| repeat' first | walk_at "e" | ((with_reducible show (_ = true → _) ∧ (_ = false → _)); refine And.intro (fun _ => ?_) (fun _ => ?_)))
/-! ### inside, convex -/
def R_inside : List D → (D → Prop) → Prop := fun ds Z => ∃ (c : List Pt) (z : P3), ds = [.list (c.map encP), encZ z] ∧ (∀ p ∈ c, Nr 100000 p) ∧ c.length ≤ 1000 ∧ Z (.bool (insideB c z))
theorem all_yes {P : Nat → Bool} {n : Nat} (h : ∀ j, j < n → P j = true) : (List.range n).all P = true := List.all_eq_true.mpr fun x hx => h x (List.mem_range.mp hx)
theorem all_no {P : Nat → Bool} {n k : Nat} (hk : k < n) (h : P k = false) : (List.range n).all P = false := by
  cases e : (List.range n).all P with
  | false => rfl
  | true => rw [List.all_eq_true.mp e k (List.mem_range.mpr hk)] at h; cases h
def R_turn : List D → (D → Prop) → Prop := fun ds Z => ∃ (h a : Pt) (v : P3), ds = [encP h, encP a, encZ v] ∧ (Nr 100000 h ∧ Nr 100000 a) ∧ Z (.int (ev (h, a) v))
/-! convex -/
def cvP (c : List Pt) (k : Nat) (p : Pt) : Bool := decide (p ∈ [at' c k, at' c ((k + 1) % c.length)] ∨ 0 < ev (edge c k) (lift p))
def cvK (c : List Pt) (k : Nat) : Bool := c.all (cvP c k) && !decide (at' c k = at' c ((k + 1) % c.length))
def convB (c : List Pt) : Bool := !decide (c.length < 3) && (List.range c.length).all (cvK c)
def R_conv : List D → (D → Prop) → Prop := fun ds Z => ∃ c : List Pt, ds = [.list (c.map encP)] ∧ (∀ p ∈ c, Nr 100000 p) ∧ c.length ≤ 1000 ∧ Z (.bool (convB c))
theorem pt_at {ps : List Pt} {k : Nat} {p : Pt} (h : ps[k]? = some p) : p = at' ps k := by
  unfold at'; rw [List.getD_eq_getElem?_getD, h]; rfl
theorem nin_2 {K : PySem.W.Frag} {a b p : Pt} {Q : D → Prop} (k : Q (.bool (!decide (p ∈ [a, b])))) : OpD (rNinP K) (encP p) (.tuple [encP a, encP b]) Q := opd_ninT (es := [a, b].map encP) (Nat.le_trans (Nat.min_le_left _ _) (deep_P [a, b])) (by rw [any_encP]; exact k)
theorem depth_1 (p q : Pt) : min (encP p).depth (encP q).depth ≤ 60 := Nat.le_trans (Nat.min_le_left _ _) (by simp [encP, PyData.depth, PyData.depthAll])
theorem sx_is_convex (K : PySem.W.Frag) (ds : List D) (Z : D → Prop) (h : R_conv ds Z) : SX (T_is_convex K R_across R_minus) (startE N_is_convex ds) { nx := fun _ => Z .none, rt := fun d _ => Z d } := by
  obtain ⟨c, rfl, hc, hl, z⟩ := h
  show SX (T_is_convex K R_across R_minus) [.val (.list (c.map encP)), .emp, .emp, .emp, .emp, .emp] _
  unfold T_is_convex
  walk_at "es"
  rw [List.length_map]
  by_cases q3 : c.length < 3
  · walk_at "yes"
    walk_at "es"
    unfold convB at z
    rw [decide_eq_true q3] at z
    exact z
  walk_at "no"
  have zz : convB c = (List.range c.length).all (cvK c) := by unfold convB; rw [decide_eq_false q3]; rfl
  rw [zz] at z
  refine sx_next (nx_seq (sx_seq (sx_for (J := [2]) (ei_rng1 ?_))))
  walk_at "es"
  refine ⟨by omega, fun i ρ' => (∀ j, j < i → cvK c j = true) ∧ ρ' = [.val (.list (c.map encP)), .val (.int (c.length : Int)), .emp, .emp, .emp, .emp], ⟨fun j hj => absurd hj (Nat.not_lt_zero _), rfl⟩, ?_, ?_⟩
  · rintro i dd ρ' hd0 ⟨ok, rfl⟩
    obtain ⟨hi, rfl⟩ := rng_at hd0
    rw [Int.zero_add]
    have hi : i < c.length := by omega
    have hp : 0 < c.length := by omega
    have m1 := Nat.mod_lt (i + 1) hp
    have n1 := at_Nr hc hi
    have n2 := at_Nr hc m1
    have nb := nr_big n2 n1
    refine sg_name (by simp) ?_
    walk_at "w"
    walk_at "es"
    refine opd_ixL (at_D hi) ?_
    walk_at "es"
    rw [mod_I]
    refine opd_ixL (at_D m1) ?_
    walk_at "es"
    refine sx_for (J := [5]) (ei_list ?_)
    walk_at "es"
    refine ⟨fun m ρ' => (∀ j, j < m → cvP c i (at' c j) = true) ∧ ρ' = [.val (.list (c.map encP)), .val (.int (c.length : Int)), .val (.int (i : Int)), .val (encP (at' c i)), .val (encP (at' c ((i + 1) % c.length))), .emp], ⟨fun j hj => absurd hj (Nat.not_lt_zero _), rfl⟩, ?_, ?_⟩
    · rintro m dd ρ' hd1 ⟨ok2, rfl⟩
      obtain ⟨p, hp1, rfl⟩ := map_at hd1
      have hm := (List.getElem?_eq_some_iff.mp hp1).1
      obtain rfl := pt_at hp1
      refine sg_name (by simp) ?_
      walk_at "w"
      refine sx_if (et_val (!cvP c i (at' c m)) ?_ ⟨fun hb => ?_, fun hb => ?_⟩)
      · walk_at "es"
        refine nin_2 ?_
        walk_at "es"
        refine ⟨fun hb => ?_, fun hb => ?_⟩
        · have hb : at' c m ∉ [at' c i, at' c ((i + 1) % c.length)] := fun h => by rw [decide_eq_true h] at hb; cases hb
          walk_at "es"
          refine ⟨_, _, rfl, ?_⟩
          walk_at "es"
          refine ⟨_, _, rfl, ?_⟩
          walk_at "es"
          refine ⟨_, _, rfl, nb, ?_⟩
          walk_at "es"
          refine ⟨?_, rfl⟩
          have ee : ev (edge c i) (lift (at' c m)) = ((at' c ((i + 1) % c.length)).1 - (at' c i).1) * ((at' c m).2 - (at' c i).2) - ((at' c ((i + 1) % c.length)).2 - (at' c i).2) * ((at' c m).1 - (at' c i).1) := by unfold edge; rw [ev_lift]
          dsimp only
          rw [← ee]
          unfold cvP
          by_cases x : 0 < ev (edge c i) (lift (at' c m))
          · rw [decide_eq_true (show at' c m ∈ [at' c i, at' c ((i + 1) % c.length)] ∨ 0 < ev (edge c i) (lift (at' c m)) from .inr x), decide_eq_false (by omega)]
            rfl
          · rw [decide_eq_false (show ¬ (at' c m ∈ [at' c i, at' c ((i + 1) % c.length)] ∨ 0 < ev (edge c i) (lift (at' c m))) from fun h => h.elim hb x), decide_eq_true (by omega)]
            rfl
        · have hb : at' c m ∈ [at' c i, at' c ((i + 1) % c.length)] := Classical.byContradiction fun h => by rw [decide_eq_false h] at hb; cases hb
          refine ⟨?_, rfl⟩
          unfold cvP
          rw [decide_eq_true (show at' c m ∈ [at' c i, at' c ((i + 1) % c.length)] ∨ 0 < ev (edge c i) (lift (at' c m)) from .inl hb)]
          rfl
      · walk_at "es"
        have e : cvK c i = false := by
          unfold cvK
          cases e : c.all (cvP c i) with
          | false => rfl
          | true =>
            rw [List.all_eq_true.mp e _ (pt_mem hm)] at hb
            cases hb
        rw [all_no hi e] at z
        exact z
      · refine sx_next ⟨_, ?_, fun j hj => ?_, rfl⟩
        · walk_at "le"
        · rcases Nat.lt_or_ge j m with r | r
          · exact ok2 j r
          · obtain rfl : j = m := by omega
            simpa using hb
    rintro ρ' ⟨ok2, rfl⟩
    rw [List.length_map] at ok2
    refine nx_seq ?_
    walk_at "es"
    refine opd_eqP (depth_1 _ _) ?_
    rw [eqv_encP]
    walk_at "es"
    have al : c.all (cvP c i) = true := List.all_eq_true.mpr fun p mp => by
      obtain ⟨k, hk, rfl⟩ := mem_pt mp
      exact ok2 k hk
    by_cases e : at' c i = at' c ((i + 1) % c.length)
    · rw [decide_eq_true e]
      walk_at "yes"
      walk_at "es"
      have e : cvK c i = false := by unfold cvK; rw [decide_eq_true e, al]; rfl
      rw [all_no hi e] at z
      exact z
    · rw [decide_eq_false e]
      walk_at "no"
      refine sx_next ⟨_, ?_, fun j hj => ?_, rfl⟩
      · walk_at "le"
      · rcases Nat.lt_or_ge j i with r | r
        · exact ok j r
        · obtain rfl : j = i := by omega
          unfold cvK
          rw [decide_eq_false e, al]
          rfl
  rintro ρ' ⟨ok, rfl⟩
  rw [List.length_map, rngI_len, Int.toNat_natCast] at ok
  refine nx_seq ?_
  walk_at "es"
  rw [all_yes ok] at z
  exact z
end Law_k21
namespace Law_k21
open PySem L2 Pu
local macro_rules | `(tactic| walk_at "e") => `(tactic| first
  | ((with_reducible refine nx_seq ?_); (try dsimp only [List.set_cons_succ, List.set_cons_zero]))
  | ((with_reducible refine ex_vr ?_); dsimp only [VQ, List.set_cons_succ, List.set_cons_zero, List.getElem?_cons_zero, List.getElem?_cons_succ]; (fail_if_success (with_reducible show False)))
  | (with_reducible refine sx_seq ?_)
  | (with_reducible refine sx_if ?_)
  | (with_reducible refine sx_next ?_)
  | (with_reducible refine sx_ret ?_)
  | ((fail_if_success (with_reducible refine sx_asgO (eo_lst ?_))); (with_reducible refine sx_asg ?_))
  | (with_reducible refine ex_int ?_)
  | (with_reducible refine ex_str ?_)
  | (with_reducible refine ex_bl ?_)
  | (with_reducible refine ex_non ?_)
  | (with_reducible refine ex_op ?_)
  | (with_reducible refine ex_un ?_)
  | (with_reducible refine ex_chain ?_)
  | (with_reducible refine ex_call ?_)
  | (with_reducible refine ex_isT ?_)
  | (with_reducible refine ex_cb ?_)
  | (with_reducible refine ex_sl ?_)
  | (with_reducible refine ex_tup ?_)
  | (with_reducible refine ex_if ?_)
  | (with_reducible refine ex_of (eo_lst ?_))
  | (with_reducible refine ex_notV ?_)
  | (with_reducible refine ea_nil ?_)
  | (with_reducible refine ea_cons ?_)
  | (with_reducible refine ep_no ?_)
  | (with_reducible refine ep_some ?_)
  | (with_reducible refine et_test ?_)
  | (with_reducible refine et_B ?_)
  | (with_reducible refine et_ch3 ?_)
  | (with_reducible refine et_and ?_)
  | (with_reducible refine et_or ?_)
  | (with_reducible refine et_not ?_)
  | (with_reducible refine et_yes ?_)
  | (with_reducible refine et_truL ?_)
  | (with_reducible refine opd_plusI ?_)
  | (with_reducible refine opd_I0 ?_)
  | (with_reducible refine opd_B0 ?_)
  | (with_reducible refine opd_eqI ?_)
  | (with_reducible refine opd_neI ?_)
  | (with_reducible refine opd_eqS ?_)
  | (with_reducible refine opd_neS ?_)
  | (with_reducible refine opd_is ?_)
  | (with_reducible refine opd_isnt ?_)
  | (with_reducible refine opd_ixT rfl ?_)
  | (with_reducible refine opd_ixL rfl ?_)
  | (with_reducible refine und_neg ?_)
  | (with_reducible refine cbd_lenL ?_)
  | (with_reducible refine cbd_lenT ?_)
  | (with_reducible refine cbd_min2 ?_)
  | (with_reducible refine cbd_max2 ?_)
  | (with_reducible refine cbd_abs ?_)
  | (with_reducible refine cbd_int ?_)
  | (with_reducible refine cbd_tupL ?_)
  | (with_reducible refine cbd_listL ?_)
  | (with_reducible refine cbd_listT ?_)
  | (with_reducible refine cbd_sum ?_)
  | (with_reducible refine sld_T ?_)
  | (with_reducible refine sld_L ?_)
  | (with_reducible refine ex_revL ?_)
  | (with_reducible refine ex_bmL ?_)
  | (with_reducible refine ex_andV ?_)
  | (with_reducible refine ei_list ?_)
  | (with_reducible refine ei_rng1 ?_)
  | (with_reducible refine ei_rng2 ?_)
  | (with_reducible refine ei_enum ?_)
  | (with_reducible refine ei_enumT ?_)
  | (with_reducible refine ei_zip ?_)
  | (with_reducible refine sx_par ?_)
  | (with_reducible refine Exists.intro _ (And.intro rfl ?_))
  | (with_reducible refine Exists.intro _ (Exists.intro _ (And.intro rfl ?_)))
  | ((with_reducible show EX (tCall (spS _) [] _ (tCons (tVar _) _)) _ _); refine ex_callS rfl ?_)
  | ((with_reducible refine And.intro (show (_ : Nat) ≤ 100000 from ?_) ?_); (focus (simp; done)))
  | ((with_reducible refine opd_I ?_ ?_); focus (first | omega | (show CDiv _ _; exact ⟨by omega, by omega⟩) | (show CMul _ _; first | exact Or.inl ⟨by omega, by omega⟩ | exact Or.inr ⟨by omega, by omega⟩))))
local macro_rules | `(tactic| walk_at "es") => `(tactic| repeat walk_at "e")
local macro_rules | `(tactic| walk_at "w") => `(tactic| try dsimp only [wipeE, List.foldl_cons, List.foldl_nil, List.set_cons_succ, List.set_cons_zero])
local macro_rules | `(tactic| walk_at "le") => `(tactic| repeat' first | exact LeE.nil | (refine LeE.eq rfl ?_) | (refine LeE.emp ?_) | (refine LeE.eq ?_ ?_))
local macro_rules | `(tactic| walk_at "no") => `(tactic| ((refine And.intro (fun hb => absurd hb ?_) (fun _ => ?_)); (focus (first | (exact Bool.false_ne_true) | (simp; done) | (simp; omega) | (simp only [decide_eq_true_eq]; omega)))))
local macro_rules | `(tactic| walk_at "yes") => `(tactic| ((refine And.intro (fun _ => ?_) (fun hb => absurd hb ?_)); (rotate_left); (focus (first | (exact Bool.noConfusion) | (simp; done) | (simp; omega) | (simp only [decide_eq_false_iff_not]; omega)))))
local macro_rules | `(tactic| walk_at "ei") => `(tactic| repeat ((fail_if_success (with_reducible show SX (tSeq (tIfS _ _ _) _) _ _)); (fail_if_success (with_reducible show SX (tIfS _ _ _) _ _)); (fail_if_success (with_reducible show SX (tSeq (tAsg (tIf _ _ _) _) _) _ _)); walk_at "e"))
local macro_rules | `(tactic| walk_at "tv") => `(tactic| repeat' first | walk_at "e" | ((with_reducible show (_ = true → _) ∧ (_ = false → _)); refine And.intro (fun _ => ?_) (fun _ => ?_)))
/-! ### may_hit and its judges -/
inductive Hit where
  | apart (side edge : Int)
  | wind (z : P3)
def hitD : Hit → D
  | .apart s e => .tuple [.str (Str.ofString "apart"), .int s, .int e]
  | .wind z => .tuple [.str (Str.ofString "wind"), encZ z]
def hitF (s : Pt) (W : List Pt) (t : Int) (Q : List Pt) : Hit :=
  match partE (fall s W t) Q with
  | some k => .apart 0 (k : Int)
  | none => match partE Q (fall s W t) with
    | some k => .apart 1 (k : Int)
    | none => .wind (windTo s t (mid (meetN (fall s W t) Q Q.length)))
structure HC (s : Pt) (W : List Pt) (t : Int) (Q : List Pt) : Prop where
  cw : Conv W
  cq : Conv Q
  t1 : 1 ≤ t
  t2 : t ≤ 100000
  ns : Nr 100000 s
  nw : ∀ p ∈ W, Nr 100000 p
  nr : ∀ p ∈ fall s W t, Nr 100000 p
  nq : ∀ p ∈ Q, Nr 100000 p
  lw : W.length ≤ 12
  lq : Q.length ≤ 12
def R_hit : List D → (D → Prop) → Prop := fun ds Z => ∃ (s : Pt) (W : List Pt) (t : Int) (Q : List Pt), ds = [encP s, .list (W.map encP), .int t, .list (Q.map encP)] ∧ HC s W t Q ∧ Z (hitD (hitF s W t Q))
theorem low_wd {x y b : Int} {n : Nat} (h : 1 ≤ b) (w : Wd n b) : Wd n (lowest x y b).2.2 := by
  have g := gc_pos (x := x) (y := y) h
  exact wd_div h w (by omega)
theorem sx_may_hit (K : PySem.W.Frag) (ds : List D) (Z : D → Prop) (h : R_hit ds Z) : SX (T_may_hit K R_fall R_mid R_part R_meet R_low) (startE N_may_hit ds) { nx := fun _ => Z .none, rt := fun d _ => Z d } := by
  obtain ⟨s, W, t, Q, rfl, H, z⟩ := h
  show SX (T_may_hit K R_fall R_mid R_part R_meet R_low) [.val (encP s), .val (.list (W.map encP)), .val (.int t), .val (.list (Q.map encP)), .emp, .emp, .emp, .emp, .emp, .emp, .emp, .emp] _
  unfold T_may_hit
  have h1 := H.t1
  have h2 := H.t2
  have hs := H.ns
  have hlw := H.lw
  have hlq := H.lq
  have fl := fall_len s W t
  have C1 := fall_conv (s := s) H.cw H.t1
  walk_at "es"
  refine ⟨s, W, t, rfl, by unfold Big; omega, by omega, ?_⟩
  unfold hitF at z
  have nr := H.nr
  generalize fall s W t = R at *
  walk_at "es"
  refine sx_for (J := [5, 6, 7]) (ei_enumT ?_)
  walk_at "es"
  refine ⟨fun i ρ' => (1 ≤ i → partE R Q = none) ∧ (2 ≤ i → partE Q R = none) ∧ ρ' = [.val (encP s), .val (.list (W.map encP)), .val (.int t), .val (.list (Q.map encP)), .val (.list (R.map encP)), .emp, .emp, .emp, .emp, .emp, .emp, .emp], ⟨by omega, by omega, rfl⟩, ?_, ?_⟩
  · rintro i dd ρ' hd0 ⟨ok1, ok2, rfl⟩
    match i, hd0 with
    | 0, hd0 =>
      cases hd0
      refine sg_tup rfl (sgs_cons (sg_name (by simp) (sgs_cons (sg_tup rfl (sgs_cons (sg_name (by simp) (sgs_cons (sg_name (by simp) (sgs_nil (sgs_nil ?_))))))))))
      walk_at "w"
      walk_at "es"
      refine ⟨R, Q, rfl, nr, by omega, by omega, ?_⟩
      cases e : partE R Q with
      | some k =>
        rw [e] at z
        walk_at "es"
        refine ⟨fun _ => ?_, (fun h => by cases h)⟩
        walk_at "es"
        exact z
      | none =>
        walk_at "es"
        refine ⟨(fun h => by cases h), fun _ => ?_⟩
        refine sx_next ⟨_, ?_, fun _ => rfl, by omega, rfl⟩
        walk_at "w"
        walk_at "le"
    | 1, hd0 =>
      cases hd0
      have e1 := ok1 (by omega)
      rw [e1] at z
      refine sg_tup rfl (sgs_cons (sg_name (by simp) (sgs_cons (sg_tup rfl (sgs_cons (sg_name (by simp) (sgs_cons (sg_name (by simp) (sgs_nil (sgs_nil ?_))))))))))
      walk_at "w"
      walk_at "es"
      refine ⟨Q, R, rfl, H.nq, by omega, by omega, ?_⟩
      cases e : partE Q R with
      | some k =>
        rw [e] at z
        walk_at "es"
        refine ⟨fun _ => ?_, (fun h => by cases h)⟩
        walk_at "es"
        exact z
      | none =>
        walk_at "es"
        refine ⟨(fun h => by cases h), fun _ => ?_⟩
        refine sx_next ⟨_, ?_, fun _ => e1, fun _ => rfl, rfl⟩
        walk_at "w"
        walk_at "le"
    | i + 2, hd0 => cases hd0
  rintro ρ' ⟨ok1, ok2, rfl⟩
  have e1 := ok1 (by show 1 ≤ 2; omega)
  have e2 := ok2 (by show 2 ≤ 2; omega)
  rw [e1, e2] at z
  simp only at z
  have N := noPart_of e1 e2
  obtain ⟨m1, m2, m3⟩ := meet_sz C1 H.cq N nr H.nq (m := Q.length) (Nat.le_refl _)
  refine nx_seq (sx_seq (sx_asgT (J := [9, 10, 11]) ?_))
  walk_at "es"
  refine ⟨R, Q, rfl, C1, H.cq, N, nr, H.nq, by omega, ?_⟩
  walk_at "es"
  refine ⟨_, rfl, m1, by omega, by omega, ?_⟩
  have h1s : ∀ v ∈ meetN R Q Q.length, 1 ≤ v.2.2 := fun v mv => (m1 v mv).2.2.1
  have mb := (lowest_spec (x := sumX (prodB (meetN R Q Q.length)) (meetN R Q Q.length)) (y := sumY (prodB (meetN R Q Q.length)) (meetN R Q Q.length)) (mid_pre h1s (by omega))).2.2.2
  have mw : Wd 1561 (mid (meetN R Q Q.length)).2.2 := low_wd (mid_pre h1s (by omega)) ((((prod_wd m1).up (show _ ≤ 1500 by omega)).mul (Wd.sz (x := ((meetN R Q Q.length).length : Int)) (by omega) (by omega))).up (by decide))
  have mb : 1 ≤ (mid (meetN R Q Q.length)).2.2 := mb
  generalize mid (meetN R Q Q.length) = v at *
  rw [show encZ v = .tuple [.int v.1, .int v.2.1, .int v.2.2] from rfl]
  refine sg_tup rfl (sgs_cons (sg_name (by simp) (sgs_cons (sg_name (by simp) (sgs_cons (sg_name (by simp) (sgs_nil ?_)))))))
  walk_at "w"
  have hs' := hs
  unfold Nr at hs'
  rw [show encP s = .tuple [.int s.1, .int s.2] from rfl]
  walk_at "es"
  refine ⟨_, _, _, rfl, ?_, (mw.mul (Wd.sz (x := t) (by omega) (by omega))).up (by decide), ?_⟩
  · have := Int.mul_pos (show 0 < v.2.2 by omega) (show 0 < t by omega)
    omega
  walk_at "es"
  exact z
end Law_k21
namespace Law_k21
open PySem L2 Pu
local macro_rules | `(tactic| walk_at "e") => `(tactic| first
  | ((with_reducible refine nx_seq ?_); (try dsimp only [List.set_cons_succ, List.set_cons_zero]))
  | ((with_reducible refine ex_vr ?_); dsimp only [VQ, List.set_cons_succ, List.set_cons_zero, List.getElem?_cons_zero, List.getElem?_cons_succ]; (fail_if_success (with_reducible show False)))
  | (with_reducible refine sx_seq ?_)
  | (with_reducible refine sx_if ?_)
  | (with_reducible refine sx_next ?_)
  | (with_reducible refine sx_ret ?_)
  | ((fail_if_success (with_reducible refine sx_asgO (eo_lst ?_))); (with_reducible refine sx_asg ?_))
  | (with_reducible refine ex_int ?_)
  | (with_reducible refine ex_str ?_)
  | (with_reducible refine ex_bl ?_)
  | (with_reducible refine ex_non ?_)
  | (with_reducible refine ex_op ?_)
  | (with_reducible refine ex_un ?_)
  | (with_reducible refine ex_chain ?_)
  | (with_reducible refine ex_call ?_)
  | (with_reducible refine ex_isT ?_)
  | (with_reducible refine ex_cb ?_)
  | (with_reducible refine ex_sl ?_)
  | (with_reducible refine ex_tup ?_)
  | (with_reducible refine ex_if ?_)
  | (with_reducible refine ex_of (eo_lst ?_))
  | (with_reducible refine ex_notV ?_)
  | (with_reducible refine ea_nil ?_)
  | (with_reducible refine ea_cons ?_)
  | (with_reducible refine ep_no ?_)
  | (with_reducible refine ep_some ?_)
  | (with_reducible refine et_test ?_)
  | (with_reducible refine et_B ?_)
  | (with_reducible refine et_ch3 ?_)
  | (with_reducible refine et_and ?_)
  | (with_reducible refine et_or ?_)
  | (with_reducible refine et_not ?_)
  | (with_reducible refine et_yes ?_)
  | (with_reducible refine et_truL ?_)
  | (with_reducible refine opd_plusI ?_)
  | (with_reducible refine opd_I0 ?_)
  | (with_reducible refine opd_B0 ?_)
  | (with_reducible refine opd_eqI ?_)
  | (with_reducible refine opd_neI ?_)
  | (with_reducible refine opd_eqS ?_)
  | (with_reducible refine opd_neS ?_)
  | (with_reducible refine opd_is ?_)
  | (with_reducible refine opd_isnt ?_)
  | (with_reducible refine opd_ixT rfl ?_)
  | (with_reducible refine opd_ixL rfl ?_)
  | (with_reducible refine und_neg ?_)
  | (with_reducible refine cbd_lenL ?_)
  | (with_reducible refine cbd_lenT ?_)
  | (with_reducible refine cbd_min2 ?_)
  | (with_reducible refine cbd_max2 ?_)
  | (with_reducible refine cbd_abs ?_)
  | (with_reducible refine cbd_int ?_)
  | (with_reducible refine cbd_tupL ?_)
  | (with_reducible refine cbd_listL ?_)
  | (with_reducible refine cbd_listT ?_)
  | (with_reducible refine cbd_sum ?_)
  | (with_reducible refine sld_T ?_)
  | (with_reducible refine sld_L ?_)
  | (with_reducible refine ex_revL ?_)
  | (with_reducible refine ex_bmL ?_)
  | (with_reducible refine ex_andV ?_)
  | (with_reducible refine ei_list ?_)
  | (with_reducible refine ei_rng1 ?_)
  | (with_reducible refine ei_rng2 ?_)
  | (with_reducible refine ei_enum ?_)
  | (with_reducible refine ei_enumT ?_)
  | (with_reducible refine ei_zip ?_)
  | (with_reducible refine sx_par ?_)
  | (with_reducible refine Exists.intro _ (And.intro rfl ?_))
  | (with_reducible refine Exists.intro _ (Exists.intro _ (And.intro rfl ?_)))
  | ((with_reducible show EX (tCall (spS _) [] _ (tCons (tVar _) _)) _ _); refine ex_callS rfl ?_)
  | ((with_reducible refine And.intro (show (_ : Nat) ≤ 100000 from ?_) ?_); (focus (simp; done)))
  | ((with_reducible refine opd_I ?_ ?_); focus (first | omega | (show CDiv _ _; exact ⟨by omega, by omega⟩) | (show CMul _ _; first | exact Or.inl ⟨by omega, by omega⟩ | exact Or.inr ⟨by omega, by omega⟩))))
local macro_rules | `(tactic| walk_at "es") => `(tactic| repeat walk_at "e")
local macro_rules | `(tactic| walk_at "w") => `(tactic| try dsimp only [wipeE, List.foldl_cons, List.foldl_nil, List.set_cons_succ, List.set_cons_zero])
local macro_rules | `(tactic| walk_at "le") => `(tactic| repeat' first | exact LeE.nil | (refine LeE.eq rfl ?_) | (refine LeE.emp ?_) | (refine LeE.eq ?_ ?_))
local macro_rules | `(tactic| walk_at "no") => `(tactic| ((refine And.intro (fun hb => absurd hb ?_) (fun _ => ?_)); (focus (first | (exact Bool.false_ne_true) | (simp; done) | (simp; omega) | (simp only [decide_eq_true_eq]; omega)))))
local macro_rules | `(tactic| walk_at "yes") => `(tactic| ((refine And.intro (fun _ => ?_) (fun hb => absurd hb ?_)); (rotate_left); (focus (first | (exact Bool.noConfusion) | (simp; done) | (simp; omega) | (simp only [decide_eq_false_iff_not]; omega)))))
local macro_rules | `(tactic| walk_at "ei") => `(tactic| repeat ((fail_if_success (with_reducible show SX (tSeq (tIfS _ _ _) _) _ _)); (fail_if_success (with_reducible show SX (tIfS _ _ _) _ _)); (fail_if_success (with_reducible show SX (tSeq (tAsg (tIf _ _ _) _) _) _ _)); walk_at "e"))
local macro_rules | `(tactic| walk_at "tv") => `(tactic| repeat' first | walk_at "e" | ((with_reducible show (_ = true → _) ∧ (_ = false → _)); refine And.intro (fun _ => ?_) (fun _ => ?_)))
/-! ### safe places -/
abbrev Pc := Pt × Int
def encC (p : Pc) : D := .tuple [encP p.1, .int p.2]
def encL (Q : List Pt) : D := .list (Q.map encP)
def Hit.isW : Hit → Bool
  | .wind _ => true
  | _ => false
def Hit.wd : Hit → Str
  | .wind _ => Str.ofString "wind"
  | _ => Str.ofString "apart"
theorem wd_eq (h : Hit) : decide (h.wd = Str.ofString "wind") = h.isW := by
  cases h with
  | apart a b => exact (by decide : decide (Str.ofString "apart" = Str.ofString "wind") = false)
  | wind z => exact decide_eq_true rfl
theorem hit_0 (h : Hit) : ∃ ds, hitD h = .tuple ds ∧ atI ds 0 = some (.str h.wd) := by
  cases h with
  | apart a b => exact ⟨_, rfl, rfl⟩
  | wind z => exact ⟨_, rfl, rfl⟩
def isHit (W Q : List Pt) (p : Pc) : Bool := (hitF p.1 W p.2 Q).isW
def pc0 : Pc := ((0, 0), 0)
def rowsI (pcs : List Pc) (W Q : List Pt) : List Int := (rngI 0 pcs.length).filter fun k => isHit W Q (pcs.getD k.toNat pc0)
def safeN (pcs : List Pc) (W : List Pt) (Qs : List (List Pt)) (i : Nat) : List Int := (rngI 0 i).filter fun k => (rowsI pcs W (Qs.getD k.toNat [])).isEmpty
def hitN (pcs : List Pc) (W : List Pt) (Qs : List (List Pt)) (i : Nat) : List (Int × Int) := ((rngI 0 i).filter fun k => !(rowsI pcs W (Qs.getD k.toNat [])).isEmpty).map fun k => (k, (rowsI pcs W (Qs.getD k.toNat [])).headD 0)
theorem rngI_snoc (i : Nat) : rngI 0 (i + 1) = rngI 0 i ++ [(i : Int)] := by
  unfold rngI
  rw [List.range_succ, List.map_append]
  simp
theorem safe_snoc (pcs : List Pc) (W : List Pt) (Qs : List (List Pt)) (i : Nat) : safeN pcs W Qs (i + 1) = safeN pcs W Qs i ++ (if (rowsI pcs W (Qs.getD i [])).isEmpty = true then [(i : Int)] else []) := by
  unfold safeN
  rw [rngI_snoc, List.filter_append]
  congr 1
  rw [List.filter_cons, List.filter_nil]
  show (if (rowsI pcs W (Qs.getD ((i : Int)).toNat [])).isEmpty = true then _ else _) = _
  rw [Int.toNat_natCast]
theorem hit_snoc (pcs : List Pc) (W : List Pt) (Qs : List (List Pt)) (i : Nat) : hitN pcs W Qs (i + 1) = hitN pcs W Qs i ++ (if (rowsI pcs W (Qs.getD i [])).isEmpty = true then [] else [((i : Int), (rowsI pcs W (Qs.getD i [])).headD 0)]) := by
  unfold hitN
  rw [rngI_snoc, List.filter_append, List.map_append]
  congr 1
  rw [List.filter_cons, List.filter_nil]
  show List.map _ (if (!(rowsI pcs W (Qs.getD ((i : Int)).toNat [])).isEmpty) = true then _ else _) = _
  rw [Int.toNat_natCast]
  cases e : (rowsI pcs W (Qs.getD i [])).isEmpty with
  | true => rfl
  | false =>
    show [((i : Int), (rowsI pcs W (Qs.getD ((i : Int)).toNat [])).headD 0)] = _
    rw [Int.toNat_natCast]
    rfl
def HCs (pcs : List Pc) (W : List Pt) (Qs : List (List Pt)) : Prop := ∀ p ∈ pcs, ∀ Q ∈ Qs, HC p.1 W p.2 Q
def R_safe : List D → (D → Prop) → Prop := fun ds Z => ∃ (pcs : List Pc) (W : List Pt) (Qs : List (List Pt)), ds = [.list (pcs.map encC), .list (W.map encP), .list (Qs.map encL)] ∧ HCs pcs W Qs ∧ pcs.length ≤ 100 ∧ Qs.length ≤ 100 ∧ Z (.tuple [.list ((safeN pcs W Qs Qs.length).map .int), .list ((hitN pcs W Qs Qs.length).map encP)])
theorem safe_len (pcs : List Pc) (W : List Pt) (Qs : List (List Pt)) (i : Nat) : (safeN pcs W Qs i).length ≤ i ∧ (hitN pcs W Qs i).length ≤ i := by
  unfold safeN hitN
  rw [List.length_map]
  have a := List.length_filter_le (fun k => (rowsI pcs W (Qs.getD k.toNat [])).isEmpty) (rngI 0 i)
  have b := List.length_filter_le (fun k => !(rowsI pcs W (Qs.getD k.toNat [])).isEmpty) (rngI 0 i)
  rw [rngI_len] at a b
  exact ⟨a, b⟩
theorem qs_at {α : Type} {Qs : List α} {k : Nat} {Q a : α} (h : Qs[k]? = some Q) : Qs.getD k a = Q := by rw [List.getD_eq_getElem?_getD, h]; rfl
theorem sx_safe_of (K : PySem.W.Frag) (ds : List D) (Z : D → Prop) (h : R_safe ds Z) : SX (T_safe_of K R_hit) (startE N_safe_of ds) { nx := fun _ => Z .none, rt := fun d _ => Z d } := by
  obtain ⟨pcs, W, Qs, rfl, H, hl, hl2, z⟩ := h
  show SX (T_safe_of K R_hit) [.val (.list (pcs.map encC)), .val (.list (W.map encP)), .val (.list (Qs.map encL)), .emp, .emp, .emp, .emp, .emp, .emp, .emp, .emp, .emp, .emp] _
  unfold T_safe_of
  refine sx_seq (sx_asgO (eo_lst ?_))
  walk_at "es"
  refine sx_asgO (eo_lst ?_)
  walk_at "es"
  refine sx_for (J := [5, 6]) (ei_enum ?_)
  walk_at "es"
  refine ⟨fun i ρ' => ρ' = [.val (.list (pcs.map encC)), .val (.list (W.map encP)), .val (.list (Qs.map encL)), .own ((safeN pcs W Qs i).map .int), .own ((hitN pcs W Qs i).map encP), .emp, .emp, .emp, .emp, .emp, .emp, .emp, .emp], rfl, ?_, ?_⟩
  · rintro i dd ρ' hd0 rfl
    obtain ⟨Q, hQ, rfl⟩ := enum_at hd0
    have hi := (List.getElem?_eq_some_iff.mp hQ).1
    have mQ := List.mem_of_getElem? hQ
    have eQ : Qs.getD i [] = Q := qs_at hQ
    have sl := safe_len pcs W Qs i
    have s1 := safe_snoc pcs W Qs i
    have s2 := hit_snoc pcs W Qs i
    rw [eQ] at s1 s2
    refine sg_tup rfl (sgs_cons (sg_name (by simp) (sgs_cons (sg_name (by simp) (sgs_nil ?_)))))
    walk_at "w"
    refine sx_seq (sx_asg (ex_of (eo_lcP (α := Pc) (fun _ => true) (fun p => .str (hitF p.1 W p.2 Q).wd) (ei_list ?_))))
    walk_at "es"
    refine ⟨by omega, fun i hi => by simp at hi; rcases hi with rfl | rfl <;> rfl, fun p hp => sg_tup rfl (sgs_cons (sg_name (by simp) (sgs_cons (sg_name (by simp) (sgs_nil ⟨rfl, ?_⟩))))), ?_⟩
    · walk_at "w"
      refine et_yes ⟨rfl, rfl, fun _ => ?_⟩
      walk_at "es"
      refine ⟨p.1, W, p.2, Q, rfl, H p hp Q mQ, ?_⟩
      obtain ⟨dd, e1, e2⟩ := hit_0 (hitF p.1 W p.2 Q)
      rw [e1]
      walk_at "es"
      refine opd_ixT e2 ?_
      exact ⟨rfl, rfl⟩
    rw [filt_all]
    refine nx_seq (sx_seq (sx_asg (ex_of (eo_lcP (α := Int) (fun k => isHit W Q (pcs.getD k.toNat pc0)) (fun k => .int k) (ei_enum ?_)))))
    walk_at "w"
    walk_at "es"
    refine ⟨rngI 0 pcs.length, fun k => .tuple [.int k, .str (hitF (pcs.getD k.toNat pc0).1 W (pcs.getD k.toNat pc0).2 Q).wd], enum_rng (f := fun p : Pc => PyData.str (hitF p.1 W p.2 Q).wd) pc0 pcs, by rw [rngI_len]; omega, fun i hi => by simp at hi; rcases hi with rfl | rfl <;> rfl, fun k hk => sg_tup rfl (sgs_cons (sg_name (by simp) (sgs_cons (sg_name (by simp) (sgs_nil ⟨rfl, ?_⟩))))), ?_⟩
    · walk_at "w"
      walk_at "es"
      rw [wd_eq]
      refine ⟨rfl, rfl, fun _ => ?_⟩
      walk_at "es"
      exact ⟨rfl, rfl⟩
    rw [show (((rngI 0 pcs.length).filter fun k => isHit W Q (pcs.getD k.toNat pc0)).map fun k => PyData.int k) = (rowsI pcs W Q).map .int from rfl]
    have rl : (rowsI pcs W Q).length ≤ 100 := by
      unfold rowsI
      have := List.length_filter_le (fun k => isHit W Q (pcs.getD k.toNat pc0)) (rngI 0 pcs.length)
      rw [rngI_len] at this
      omega
    generalize rowsI pcs W Q = rs at *
    refine nx_seq ?_
    walk_at "w"
    walk_at "es"
    rw [List.length_map]
    cases rs with
    | nil =>
      refine ⟨fun _ => ?_, (fun h => by simp at h)⟩
      refine sx_app rfl ?_
      walk_at "es"
      refine ⟨by rw [List.length_map]; omega, ?_⟩
      refine ⟨_, ?_, rfl⟩
      rw [s1, s2, if_pos (show ([] : List Int).isEmpty = true from rfl), if_pos (show ([] : List Int).isEmpty = true from rfl), List.append_nil, List.map_append]
      walk_at "w"
      walk_at "le"
    | cons a rs =>
      refine ⟨(fun h => by simp at h; omega), fun _ => ?_⟩
      refine sx_app rfl ?_
      walk_at "es"
      refine opd_ixL (d := .int a) (by rw [List.map_cons]; unfold atI ixN; simp) ?_
      walk_at "es"
      refine ⟨by rw [List.length_map]; omega, ?_⟩
      refine ⟨_, ?_, rfl⟩
      rw [s1, s2, if_neg (by simp), if_neg (by simp), List.append_nil, List.map_append]
      walk_at "w"
      walk_at "le"
  rintro ρ' rfl
  rw [enum_len]
  refine nx_seq (sx_freeze 3 rfl (sx_freeze 4 rfl ?_))
  walk_at "w"
  walk_at "es"
  exact z
end Law_k21
namespace Law_k21
open PySem L2 Pu
local macro_rules | `(tactic| walk_at "e") => `(tactic| first
  | ((with_reducible refine nx_seq ?_); (try dsimp only [List.set_cons_succ, List.set_cons_zero]))
  | ((with_reducible refine ex_vr ?_); dsimp only [VQ, List.set_cons_succ, List.set_cons_zero, List.getElem?_cons_zero, List.getElem?_cons_succ]; (fail_if_success (with_reducible show False)))
  | (with_reducible refine sx_seq ?_)
  | (with_reducible refine sx_if ?_)
  | (with_reducible refine sx_next ?_)
  | (with_reducible refine sx_ret ?_)
  | ((fail_if_success (with_reducible refine sx_asgO (eo_lst ?_))); (with_reducible refine sx_asg ?_))
  | (with_reducible refine ex_int ?_)
  | (with_reducible refine ex_str ?_)
  | (with_reducible refine ex_bl ?_)
  | (with_reducible refine ex_non ?_)
  | (with_reducible refine ex_op ?_)
  | (with_reducible refine ex_un ?_)
  | (with_reducible refine ex_chain ?_)
  | (with_reducible refine ex_call ?_)
  | (with_reducible refine ex_isT ?_)
  | (with_reducible refine ex_cb ?_)
  | (with_reducible refine ex_sl ?_)
  | (with_reducible refine ex_tup ?_)
  | (with_reducible refine ex_if ?_)
  | (with_reducible refine ex_of (eo_lst ?_))
  | (with_reducible refine ex_notV ?_)
  | (with_reducible refine ea_nil ?_)
  | (with_reducible refine ea_cons ?_)
  | (with_reducible refine ep_no ?_)
  | (with_reducible refine ep_some ?_)
  | (with_reducible refine et_test ?_)
  | (with_reducible refine et_B ?_)
  | (with_reducible refine et_ch3 ?_)
  | (with_reducible refine et_and ?_)
  | (with_reducible refine et_or ?_)
  | (with_reducible refine et_not ?_)
  | (with_reducible refine et_yes ?_)
  | (with_reducible refine et_truL ?_)
  | (with_reducible refine opd_plusI ?_)
  | (with_reducible refine opd_I0 ?_)
  | (with_reducible refine opd_B0 ?_)
  | (with_reducible refine opd_eqI ?_)
  | (with_reducible refine opd_neI ?_)
  | (with_reducible refine opd_eqS ?_)
  | (with_reducible refine opd_neS ?_)
  | (with_reducible refine opd_is ?_)
  | (with_reducible refine opd_isnt ?_)
  | (with_reducible refine opd_ixT rfl ?_)
  | (with_reducible refine opd_ixL rfl ?_)
  | (with_reducible refine und_neg ?_)
  | (with_reducible refine cbd_lenL ?_)
  | (with_reducible refine cbd_lenT ?_)
  | (with_reducible refine cbd_min2 ?_)
  | (with_reducible refine cbd_max2 ?_)
  | (with_reducible refine cbd_abs ?_)
  | (with_reducible refine cbd_int ?_)
  | (with_reducible refine cbd_tupL ?_)
  | (with_reducible refine cbd_listL ?_)
  | (with_reducible refine cbd_listT ?_)
  | (with_reducible refine cbd_sum ?_)
  | (with_reducible refine sld_T ?_)
  | (with_reducible refine sld_L ?_)
  | (with_reducible refine ex_revL ?_)
  | (with_reducible refine ex_bmL ?_)
  | (with_reducible refine ex_andV ?_)
  | (with_reducible refine ei_list ?_)
  | (with_reducible refine ei_rng1 ?_)
  | (with_reducible refine ei_rng2 ?_)
  | (with_reducible refine ei_enum ?_)
  | (with_reducible refine ei_enumT ?_)
  | (with_reducible refine ei_zip ?_)
  | (with_reducible refine sx_par ?_)
  | (with_reducible refine Exists.intro _ (And.intro rfl ?_))
  | (with_reducible refine Exists.intro _ (Exists.intro _ (And.intro rfl ?_)))
  | ((with_reducible show EX (tCall (spS _) [] _ (tCons (tVar _) _)) _ _); refine ex_callS rfl ?_)
  | ((with_reducible refine And.intro (show (_ : Nat) ≤ 100000 from ?_) ?_); (focus (simp; done)))
  | ((with_reducible refine opd_I ?_ ?_); focus (first | omega | (show CDiv _ _; exact ⟨by omega, by omega⟩) | (show CMul _ _; first | exact Or.inl ⟨by omega, by omega⟩ | exact Or.inr ⟨by omega, by omega⟩))))
local macro_rules | `(tactic| walk_at "es") => `(tactic| repeat walk_at "e")
local macro_rules | `(tactic| walk_at "w") => `(tactic| try dsimp only [wipeE, List.foldl_cons, List.foldl_nil, List.set_cons_succ, List.set_cons_zero])
local macro_rules | `(tactic| walk_at "le") => `(tactic| repeat' first | exact LeE.nil | (refine LeE.eq rfl ?_) | (refine LeE.emp ?_) | (refine LeE.eq ?_ ?_))
local macro_rules | `(tactic| walk_at "no") => `(tactic| ((refine And.intro (fun hb => absurd hb ?_) (fun _ => ?_)); (focus (first | (exact Bool.false_ne_true) | (simp; done) | (simp; omega) | (simp only [decide_eq_true_eq]; omega)))))
local macro_rules | `(tactic| walk_at "yes") => `(tactic| ((refine And.intro (fun _ => ?_) (fun hb => absurd hb ?_)); (rotate_left); (focus (first | (exact Bool.noConfusion) | (simp; done) | (simp; omega) | (simp only [decide_eq_false_iff_not]; omega)))))
local macro_rules | `(tactic| walk_at "ei") => `(tactic| repeat ((fail_if_success (with_reducible show SX (tSeq (tIfS _ _ _) _) _ _)); (fail_if_success (with_reducible show SX (tIfS _ _ _) _ _)); (fail_if_success (with_reducible show SX (tSeq (tAsg (tIf _ _ _) _) _) _ _)); walk_at "e"))
local macro_rules | `(tactic| walk_at "tv") => `(tactic| repeat' first | walk_at "e" | ((with_reducible show (_ = true → _) ∧ (_ = false → _)); refine And.intro (fun _ => ?_) (fun _ => ?_)))
/-! ### rings and winds -/
def R_pick : Stt → List D → (D → Stt → Prop) → Prop := fun S ds Z => ∃ (ns : List Int) (items : List D), ds = [.list (ns.map .int), .list items] ∧ (0 < items.length ∧ items.length < 1000000) ∧ Ok2 S ∧ ∀ d ∈ items, ∀ S', Ok2 S' → Z d S'
theorem sx_l_pick (K : PySem.W.Frag) (S : Stt) (ds : List D) (Z : D → Stt → Prop) (h : R_pick S ds Z) :
    SX (T_l_pick K R_draw) (.st S :: (ds.map .val ++ List.replicate (N_l_pick.length - (ds.length + 1)) .emp)) { nx := fun ρ' => ∃ S', ρ'[0]? = some (.st S') ∧ Z .none S', rt := fun d ρ' => ∃ S', ρ'[0]? = some (.st S') ∧ Z d S' } := by
  obtain ⟨ns, items, rfl, ⟨l1, l2⟩, ok, z⟩ := h
  show SX (T_l_pick K R_draw) [.st S, .val (.list (ns.map .int)), .val (.list items)] _
  unfold T_l_pick
  walk_at "es"
  refine ⟨ns, (items.length : Int), rfl, by omega, ok, fun r S' r0 r1 ok' => ?_⟩
  refine opd_ixL (atI_in r0 r1) ?_
  exact ⟨S', rfl, z _ (List.getElem_mem _) S' ok'⟩
theorem nr_up {M : Int} {p : Pt} (h : Nr M p) (k : M ≤ 100000) : Nr 100000 p := by unfold Nr at *; omega
theorem isHit_iff {W Q : List Pt} {p : Pc} : isHit W Q p = true ↔ partE (fall p.1 W p.2) Q = none ∧ partE Q (fall p.1 W p.2) = none := by
  unfold isHit hitF
  cases e1 : partE (fall p.1 W p.2) Q with
  | some k => exact ⟨(fun h => by cases h), fun h => by cases h.1⟩
  | none =>
    cases e2 : partE Q (fall p.1 W p.2) with
    | some k => exact ⟨(fun h => by cases h), fun h => by cases h.2⟩
    | none => exact ⟨fun _ => ⟨rfl, rfl⟩, fun _ => rfl⟩
theorem rows_nil {pcs : List Pc} {W Q : List Pt} : rowsI pcs W Q = [] ↔ ∀ p ∈ pcs, isHit W Q p = false := by
  unfold rowsI
  rw [List.filter_eq_nil_iff]
  constructor
  · intro h p hp
    obtain ⟨k, hk, e⟩ := List.getElem_of_mem hp
    have := h (k : Int) (rngI_mem.mpr ⟨by omega, by omega⟩)
    rw [Int.toNat_natCast, List.getD_eq_getElem?_getD, List.getElem?_eq_getElem hk, Option.getD_some, e] at this
    simpa using this
  · intro h k hk
    have hk := rngI_mem.mp hk
    have hk2 : k.toNat < pcs.length := by omega
    rw [List.getD_eq_getElem?_getD, List.getElem?_eq_getElem hk2, Option.getD_some, h _ (List.getElem_mem hk2)]
    decide

theorem ev_R (a b c : Pt) : ev (a, b) (lift c) = R.tn a b c := by unfold ev lift R.tn; grind
theorem srt_nd {c : List Pt} : (R.srt c).Nodup := R.lx_nodup (R.srt_asc c)
theorem Conv.nodup {c : List Pt} (C : Conv c) : c.Nodup := by
  refine List.pairwise_iff_getElem.mpr fun i j hi hj hij e => ?_
  have x : at' c i = c[i] := R.at_of (r := c) (List.getElem?_eq_getElem hi)
  have y : at' c j = c[j] := R.at_of (r := c) (List.getElem?_eq_getElem hj)
  have e : at' c i = at' c j := by rw [x, y]; exact e
  have n3 := C.n3
  by_cases q : j = (i + 1) % c.length
  · exact C.edge_ne hi (by unfold edge; rw [← q]; exact e)
  · have := (C.edge_nn hi hj).2 (by omega) q
    unfold edge at this
    rw [ev_R, ← e] at this
    have z : R.tn (at' c i) (at' c ((i + 1) % c.length)) (at' c i) = 0 := R.tn_aa _ _
    omega
theorem Conv.tn_nn {c : List Pt} (C : Conv c) {k : Nat} (hk : k < c.length) {t : Pt} (mt : t ∈ c) : 0 ≤ R.tn (at' c k) (at' c ((k + 1) % c.length)) t ∧ (R.tn (at' c k) (at' c ((k + 1) % c.length)) t = 0 → t = at' c k ∨ t = at' c ((k + 1) % c.length)) := by
  obtain ⟨j, hj, rfl⟩ := mem_pt mt
  have h := C.edge_nn hk hj
  unfold edge at h
  rw [ev_R] at h
  refine ⟨h.1, fun z => ?_⟩
  by_cases a : j = k
  · exact .inl (by rw [a])
  · by_cases b : j = (k + 1) % c.length
    · exact .inr (by rw [b])
    · have := h.2 a b
      omega
theorem dt_aa (p q : Pt) : R.dt p p q = 0 := by unfold R.dt; grind
theorem dt_qq (p q : Pt) : R.dt p q q = R.fr p q := by unfold R.dt R.fr; grind
theorem conv_LE {c : List Pt} (C : Conv c) {k : Nat} (hk : k < c.length) : R.LE (R.srt c) (at' c k) (at' c ((k + 1) % c.length)) := by
  have nn := fun t (mt : t ∈ R.srt c) => C.tn_nn hk (R.srt_mem.mp mt)
  refine ⟨fun e => C.edge_ne hk e.symm, fun t mt => (nn t mt).1, ?_, fun t mt z => ?_, fun t mt z => ?_⟩
  · obtain ⟨j, hj, p⟩ := C.edge_pos hk
    unfold edge at p
    rw [ev_R] at p
    exact ⟨_, R.srt_mem.mpr (pt_mem hj), p⟩
  · rcases (nn t mt).2 z with rfl | rfl
    · rw [R.fr_self]; exact R.fr_nn _ _
    · exact Int.le_refl _
  · rcases (nn t mt).2 z with rfl | rfl
    · rw [dt_aa]; exact Int.le_refl _
    · rw [dt_qq]; exact R.fr_nn _ _
theorem big_Ring {rows : List Pt} (hs : rows.Pairwise R.lx) {a b t : Pt} (ha : a ∈ rows) (hb : b ∈ rows) (ht : t ∈ rows) (h : 0 < R.tn a b t) : R.Ring rows (R.ringOf rows) := by
  rcases R.kinds hs with ⟨q, _⟩ | ⟨_, f, _⟩ | ⟨_, _, r⟩
  · have := R.two_flat (rows := rows) (by omega) a ha b hb t ht; omega
  · have := f a ha b hb t ht; omega
  · exact r
theorem conv_tn {c : List Pt} (C : Conv c) : ∃ a ∈ c, ∃ b ∈ c, ∃ t ∈ c, 0 < R.tn a b t := by
  have n3 := C.n3
  refine ⟨_, pt_mem (k := 0) (by omega), _, pt_mem (k := 1) (by omega), _, pt_mem (k := 2) (by omega), ?_⟩
  have := C.tri 0 1 2 (by omega) (by omega) (by omega)
  rw [← ev_det, ev_R] at this
  exact this
theorem conv_Ring {c : List Pt} (C : Conv c) : R.Ring (R.srt c) (R.ringOf (R.srt c)) := by
  obtain ⟨a, ha, b, hb, t, ht, p⟩ := conv_tn C
  exact big_Ring (R.srt_asc c) (R.srt_mem.mpr ha) (R.srt_mem.mpr hb) (R.srt_mem.mpr ht) p
theorem conv_mem {c : List Pt} (C : Conv c) (p : Pt) : p ∈ R.ringOf (R.srt c) ↔ p ∈ c := by
  constructor
  · intro h
    exact R.srt_mem.mp (R.ring_sub (R.srt_asc c) p h)
  · intro h
    obtain ⟨k, hk, rfl⟩ := mem_pt h
    obtain ⟨j, hj, e, _⟩ := (conv_Ring C).of_le (R.srt_mem.mpr (pt_mem hk)) (R.srt_mem.mpr (pt_mem (Nat.mod_lt _ (by omega)))) (conv_LE C hk)
    rw [← e]
    exact R.at_mem hj
/-! sums over edges -/
theorem perm_sum {xs ys : List Int} (h : xs.Perm ys) : xs.sum = ys.sum := by
  induction h with
  | nil => rfl
  | cons x _ ih => rw [List.sum_cons, List.sum_cons, ih]
  | swap x y l => simp only [List.sum_cons]; omega
  | trans _ _ a b => exact a.trans b
def eL (r : List Pt) : List (Pt × Pt) := (List.range r.length).map fun k => (at' r k, at' r ((k + 1) % r.length))
def crE (e : Pt × Pt) : Int := R.cr e.1 e.2
theorem sum_eL (r : List Pt) : R.sumI r r.length = ((eL r).map crE).sum := by
  unfold eL
  rw [List.map_map, ← R.sum_cr]
  rfl
theorem nodup_at {r : List Pt} (h : r.Nodup) {i j : Nat} (hi : i < r.length) (hj : j < r.length) (e : at' r i = at' r j) : i = j := by
  have a : r[i] = r[j] := by
    have x := R.at_of (r := r) (List.getElem?_eq_getElem hi)
    have y := R.at_of (r := r) (List.getElem?_eq_getElem hj)
    rw [← x, ← y]; exact e
  exact (List.getElem_inj h).mp a
theorem eL_nodup {r : List Pt} (h : r.Nodup) : (eL r).Nodup := by
  unfold eL List.Nodup
  rw [List.pairwise_map]
  refine List.Pairwise.imp_of_mem (fun {a b} ma mb n e => ?_) (List.nodup_range (n := r.length))
  exact n (nodup_at h (List.mem_range.mp ma) (List.mem_range.mp mb) (congrArg Prod.fst e))
theorem mem_eL {r : List Pt} {e : Pt × Pt} : e ∈ eL r ↔ ∃ k, k < r.length ∧ e = (at' r k, at' r ((k + 1) % r.length)) := by
  unfold eL
  rw [List.mem_map]
  exact ⟨fun ⟨k, hk, h⟩ => ⟨k, List.mem_range.mp hk, h.symm⟩, fun ⟨k, hk, h⟩ => ⟨k, List.mem_range.mpr hk, h.symm⟩⟩
theorem ring_area {rows r : List Pt} (hs : rows.Pairwise R.lx) (G : R.Ring rows r) : R.sumI r r.length = ((R.lawC rows).map crE).sum := by
  rw [sum_eL]
  refine perm_sum (List.Perm.map _ ((List.perm_ext_iff_of_nodup (eL_nodup (R.nd_at G.inj)) (R.lawC_nodup hs)).mpr fun e => ?_))
  rw [mem_eL, G.mem_C]
  rfl
theorem conv_area {c : List Pt} (C : Conv c) : R.sumI c c.length = ((R.lawC (R.srt c)).map crE).sum := by
  rw [sum_eL]
  refine perm_sum (List.Perm.map _ ((List.perm_ext_iff_of_nodup (eL_nodup C.nodup) (R.lawC_nodup (R.srt_asc c))).mpr fun e => ?_))
  rw [mem_eL, R.mem_lawC]
  have G := conv_Ring C
  constructor
  · rintro ⟨k, hk, rfl⟩
    exact ⟨R.srt_mem.mpr (pt_mem hk), R.srt_mem.mpr (pt_mem (Nat.mod_lt _ (by omega))), conv_LE C hk⟩
  · rintro ⟨h1, h2, h3⟩
    obtain ⟨k, hk, e1⟩ := mem_pt (R.srt_mem.mp h1)
    obtain ⟨i, hi, a1, a2⟩ := G.of_le h1 h2 h3
    obtain ⟨j, hj, b1, b2⟩ := G.of_le (R.srt_mem.mpr (pt_mem hk)) (R.srt_mem.mpr (pt_mem (Nat.mod_lt _ (by omega)))) (conv_LE C hk)
    have : i = j := G.inj i j hi hj (by rw [a1, b1, e1])
    subst this
    exact ⟨k, hk, Prod.ext e1.symm (by rw [← a2]; exact b2)⟩
theorem fan_fall (s : Pt) (W : List Pt) (t : Int) : ∀ k, k + 2 ≤ W.length → R.fanI (fall s W t) k = t * t * R.fanI W k
  | 0, _ => by simp [R.fanI]
  | k + 1, h => by
    have ih := fan_fall s W t k (by omega)
    show R.fanI (fall s W t) k + R.tn (at' (fall s W t) 0) (at' (fall s W t) (k + 1)) (at' (fall s W t) (k + 2)) = t * t * (R.fanI W k + R.tn (at' W 0) (at' W (k + 1)) (at' W (k + 2)))
    rw [ih, fall_at (by omega), fall_at (by omega), fall_at (by omega)]
    unfold R.tn
    grind
theorem area_fall {s : Pt} {W : List Pt} {t : Int} (h : 3 ≤ W.length) : R.sumI (fall s W t) (fall s W t).length = t * t * R.sumI W W.length := by
  rw [R.area_fan (by rw [fall_len]; exact h), R.area_fan h, fall_len, fan_fall _ _ _ _ (by omega)]
/-! corners of a ring are strict -/
theorem idn1 (p q t s : Pt) : (R.fr p q - R.dt p q t) * R.tn t s p + R.dt p q t * R.tn t s q = R.tn p q t * (R.dt p q t - R.dt p q s) := by unfold R.fr R.dt R.tn; grind
theorem idn2 (p q t w : Pt) : (R.fr p q - R.dt p q t) * R.tn w t p + R.dt p q t * R.tn w t q = R.tn p q t * (R.dt p q w - R.dt p q t) := by unfold R.fr R.dt R.tn; grind
theorem idn3 (t p w s : Pt) : R.fr t p * R.tn w t s = R.dt t p w * R.tn t s p + R.dt t p s * R.tn w t p := by unfold R.fr R.dt R.tn; grind
theorem idn4 (p q t : Pt) : R.fr p q * R.fr p t = R.dt p q t * R.dt p q t + R.tn p q t * R.tn p q t := by unfold R.fr R.dt R.tn; grind
theorem ring_strict {rows r : List Pt} (G : R.Ring rows r) {k j : Nat} (hk : k < r.length) (hj : j < r.length) (n1 : j ≠ k) (n2 : j ≠ (k + 1) % r.length) : 0 < R.tn (at' r k) (at' r ((k + 1) % r.length)) (at' r j) := by
  have n3 := G.n3
  have hn : 0 < r.length := by omega
  have mk := Nat.mod_lt (k + 1) hn
  have l0 : 0 ≤ R.tn (at' r k) (at' r ((k + 1) % r.length)) (at' r j) := G.left k hk _ (G.sub _ (pt_mem hj))
  rcases Int.lt_or_le 0 (R.tn (at' r k) (at' r ((k + 1) % r.length)) (at' r j)) with q | q
  · exact q
  exfalso
  have z0 : R.tn (at' r k) (at' r ((k + 1) % r.length)) (at' r j) = 0 := by omega
  have ti := G.toRing0.tight hk (G.sub _ (pt_mem hj)) z0
  have ne1 : at' r j ≠ at' r k := fun e => n1 (G.inj j k hj hk e)
  have ne2 : at' r j ≠ at' r ((k + 1) % r.length) := fun e => n2 (G.inj j _ hj mk e)
  obtain ⟨y, hy, y1, y2⟩ := G.toRing0.pre hj
  have cv := G.cvx y hy
  have a1 := G.left y hy _ (G.sub _ (pt_mem hk))
  have a2 := G.left y hy _ (G.sub _ (pt_mem mk))
  have b1 := G.left j hj _ (G.sub _ (pt_mem hk))
  have b2 := G.left j hj _ (G.sub _ (pt_mem mk))
  rw [y1] at a1 a2 cv
  rw [y2] at cv
  have ti : 0 ≤ R.dt (at' r k) (at' r ((k + 1) % r.length)) (at' r j) ∧ R.fr (at' r k) (at' r j) ≤ R.fr (at' r k) (at' r ((k + 1) % r.length)) := ti
  have cv : 0 < R.tn (at' r y) (at' r j) (at' r ((j + 1) % r.length)) := cv
  have a1 : 0 ≤ R.tn (at' r y) (at' r j) (at' r k) := a1
  have a2 : 0 ≤ R.tn (at' r y) (at' r j) (at' r ((k + 1) % r.length)) := a2
  have b1 : 0 ≤ R.tn (at' r j) (at' r ((j + 1) % r.length)) (at' r k) := b1
  have b2 : 0 ≤ R.tn (at' r j) (at' r ((j + 1) % r.length)) (at' r ((k + 1) % r.length)) := b2
  have pq : at' r k ≠ at' r ((k + 1) % r.length) := fun e => by
    have := G.inj k _ hk mk e
    rcases Nat.lt_or_ge (k + 1) r.length with w | w
    · rw [Nat.mod_eq_of_lt w] at this; omega
    · rw [show k + 1 = r.length by omega, Nat.mod_self] at this; omega
  generalize at' r k = p at *
  generalize at' r ((k + 1) % r.length) = q' at *
  generalize at' r j = t at *
  generalize at' r y = w at *
  generalize at' r ((j + 1) % r.length) = s at *
  have D : 0 < R.fr p q' := R.fr_pos pq
  have lag := idn4 p q' t
  rw [z0] at lag
  have d1 : 0 < R.dt p q' t := by
    rcases Int.lt_or_le 0 (R.dt p q' t) with h | h
    · exact h
    · exact absurd (R.at_pt (Ne.symm pq) z0 (by omega)) ne1
  have d2 : R.dt p q' t < R.fr p q' := by
    rcases Int.lt_or_le (R.dt p q' t) (R.fr p q') with h | h
    · exact h
    · have m1 : R.fr p q' * R.fr p q' ≤ R.dt p q' t * R.dt p q' t := Int.mul_le_mul h h (by omega) (by omega)
      have m2 : 0 ≤ R.fr p q' * (R.fr p t - R.fr p q') := by rw [Int.mul_sub]; omega
      have m3 := nn_of_mul D m2
      refine absurd (R.same_dir (a := p) (b := t) (c := q') ?_ ?_ ?_) ne2
      · have := R.tn_swap p q' t; omega
      · have : R.dt p t q' = R.dt p q' t := R.dt_comm _ _ _
        omega
      · omega
  have i1 := idn1 p q' t s
  have i2 := idn2 p q' t w
  rw [z0, Int.zero_mul] at i1 i2
  have k1 := mul_nn (show 0 ≤ R.fr p q' - R.dt p q' t by omega) b1
  have k2 := mul_nn (show 0 ≤ R.dt p q' t by omega) b2
  have k3 := mul_nn (show 0 ≤ R.fr p q' - R.dt p q' t by omega) a1
  have k4 := mul_nn (show 0 ≤ R.dt p q' t by omega) a2
  have e1 := zero_of_mul (show 0 < R.fr p q' - R.dt p q' t by omega) (show (R.fr p q' - R.dt p q' t) * R.tn t s p = 0 by omega)
  have e2 := zero_of_mul (show 0 < R.fr p q' - R.dt p q' t by omega) (show (R.fr p q' - R.dt p q' t) * R.tn w t p = 0 by omega)
  have u : 0 < R.fr t p := R.fr_pos ne1
  have id := idn3 t p w s
  rw [e1, e2, Int.mul_zero, Int.mul_zero] at id
  have := mul_pp u cv
  omega
theorem ring_convB {rows r : List Pt} (G : R.Ring rows r) : convB r = true := by
  have n3 := G.n3
  have hn : 0 < r.length := by omega
  unfold convB
  rw [decide_eq_false (by omega)]
  refine all_yes fun k hk => ?_
  have mk := Nat.mod_lt (k + 1) hn
  unfold cvK
  rw [Bool.and_eq_true]
  constructor
  · rw [List.all_eq_true]
    intro p hp
    obtain ⟨j, hj, rfl⟩ := mem_pt hp
    unfold cvP
    refine decide_eq_true ?_
    by_cases a : j = k
    · exact .inl (by rw [a]; simp)
    · by_cases b : j = (k + 1) % r.length
      · exact .inl (by rw [b]; simp)
      · refine .inr ?_
        unfold edge
        rw [ev_R]
        exact ring_strict G hk hj a b
  · rw [Bool.not_eq_true', decide_eq_false_iff_not]
    intro e
    have := G.inj k _ hk mk e
    rcases Nat.lt_or_ge (k + 1) r.length with w | w
    · rw [Nat.mod_eq_of_lt w] at this; omega
    · rw [show k + 1 = r.length by omega, Nat.mod_self] at this; omega
end Law_k21
namespace Law_k21
open PySem L2 Pu
local macro_rules | `(tactic| walk_at "e") => `(tactic| first
  | ((with_reducible refine nx_seq ?_); (try dsimp only [List.set_cons_succ, List.set_cons_zero]))
  | ((with_reducible refine ex_vr ?_); dsimp only [VQ, List.set_cons_succ, List.set_cons_zero, List.getElem?_cons_zero, List.getElem?_cons_succ]; (fail_if_success (with_reducible show False)))
  | (with_reducible refine sx_seq ?_)
  | (with_reducible refine sx_if ?_)
  | (with_reducible refine sx_next ?_)
  | (with_reducible refine sx_ret ?_)
  | ((fail_if_success (with_reducible refine sx_asgO (eo_lst ?_))); (with_reducible refine sx_asg ?_))
  | (with_reducible refine ex_int ?_)
  | (with_reducible refine ex_str ?_)
  | (with_reducible refine ex_bl ?_)
  | (with_reducible refine ex_non ?_)
  | (with_reducible refine ex_op ?_)
  | (with_reducible refine ex_un ?_)
  | (with_reducible refine ex_chain ?_)
  | (with_reducible refine ex_call ?_)
  | (with_reducible refine ex_isT ?_)
  | (with_reducible refine ex_cb ?_)
  | (with_reducible refine ex_sl ?_)
  | (with_reducible refine ex_tup ?_)
  | (with_reducible refine ex_if ?_)
  | (with_reducible refine ex_of (eo_lst ?_))
  | (with_reducible refine ex_notV ?_)
  | (with_reducible refine ea_nil ?_)
  | (with_reducible refine ea_cons ?_)
  | (with_reducible refine ep_no ?_)
  | (with_reducible refine ep_some ?_)
  | (with_reducible refine et_test ?_)
  | (with_reducible refine et_B ?_)
  | (with_reducible refine et_ch3 ?_)
  | (with_reducible refine et_and ?_)
  | (with_reducible refine et_or ?_)
  | (with_reducible refine et_not ?_)
  | (with_reducible refine et_yes ?_)
  | (with_reducible refine et_truL ?_)
  | (with_reducible refine opd_plusI ?_)
  | (with_reducible refine opd_I0 ?_)
  | (with_reducible refine opd_B0 ?_)
  | (with_reducible refine opd_eqI ?_)
  | (with_reducible refine opd_neI ?_)
  | (with_reducible refine opd_eqS ?_)
  | (with_reducible refine opd_neS ?_)
  | (with_reducible refine opd_is ?_)
  | (with_reducible refine opd_isnt ?_)
  | (with_reducible refine opd_ixT rfl ?_)
  | (with_reducible refine opd_ixL rfl ?_)
  | (with_reducible refine und_neg ?_)
  | (with_reducible refine cbd_lenL ?_)
  | (with_reducible refine cbd_lenT ?_)
  | (with_reducible refine cbd_min2 ?_)
  | (with_reducible refine cbd_max2 ?_)
  | (with_reducible refine cbd_abs ?_)
  | (with_reducible refine cbd_int ?_)
  | (with_reducible refine cbd_tupL ?_)
  | (with_reducible refine cbd_listL ?_)
  | (with_reducible refine cbd_listT ?_)
  | (with_reducible refine cbd_sum ?_)
  | (with_reducible refine sld_T ?_)
  | (with_reducible refine sld_L ?_)
  | (with_reducible refine ex_revL ?_)
  | (with_reducible refine ex_bmL ?_)
  | (with_reducible refine ex_andV ?_)
  | (with_reducible refine ei_list ?_)
  | (with_reducible refine ei_rng1 ?_)
  | (with_reducible refine ei_rng2 ?_)
  | (with_reducible refine ei_enum ?_)
  | (with_reducible refine ei_enumT ?_)
  | (with_reducible refine ei_zip ?_)
  | (with_reducible refine sx_par ?_)
  | (with_reducible refine Exists.intro _ (And.intro rfl ?_))
  | (with_reducible refine Exists.intro _ (Exists.intro _ (And.intro rfl ?_)))
  | ((with_reducible show EX (tCall (spS _) [] _ (tCons (tVar _) _)) _ _); refine ex_callS rfl ?_)
  | ((with_reducible refine And.intro (show (_ : Nat) ≤ 100000 from ?_) ?_); (focus (simp; done)))
  | ((with_reducible refine opd_I ?_ ?_); focus (first | omega | (show CDiv _ _; exact ⟨by omega, by omega⟩) | (show CMul _ _; first | exact Or.inl ⟨by omega, by omega⟩ | exact Or.inr ⟨by omega, by omega⟩))))
local macro_rules | `(tactic| walk_at "es") => `(tactic| repeat walk_at "e")
local macro_rules | `(tactic| walk_at "w") => `(tactic| try dsimp only [wipeE, List.foldl_cons, List.foldl_nil, List.set_cons_succ, List.set_cons_zero])
local macro_rules | `(tactic| walk_at "le") => `(tactic| repeat' first | exact LeE.nil | (refine LeE.eq rfl ?_) | (refine LeE.emp ?_) | (refine LeE.eq ?_ ?_))
local macro_rules | `(tactic| walk_at "no") => `(tactic| ((refine And.intro (fun hb => absurd hb ?_) (fun _ => ?_)); (focus (first | (exact Bool.false_ne_true) | (simp; done) | (simp; omega) | (simp only [decide_eq_true_eq]; omega)))))
local macro_rules | `(tactic| walk_at "yes") => `(tactic| ((refine And.intro (fun _ => ?_) (fun hb => absurd hb ?_)); (rotate_left); (focus (first | (exact Bool.noConfusion) | (simp; done) | (simp; omega) | (simp only [decide_eq_false_iff_not]; omega)))))
local macro_rules | `(tactic| walk_at "ei") => `(tactic| repeat ((fail_if_success (with_reducible show SX (tSeq (tIfS _ _ _) _) _ _)); (fail_if_success (with_reducible show SX (tIfS _ _ _) _ _)); (fail_if_success (with_reducible show SX (tSeq (tAsg (tIf _ _ _) _) _) _ _)); walk_at "e"))
local macro_rules | `(tactic| walk_at "tv") => `(tactic| repeat' first | walk_at "e" | ((with_reducible show (_ = true → _) ∧ (_ = false → _)); refine And.intro (fun _ => ?_) (fun _ => ?_)))
/-! ### moved, mirrored, farthest, apart -/
def mv (d p : Pt) : Pt := (p.1 + d.1, p.2 + d.2)
def mi (p : Pt) : Pt := (0 - p.1, p.2)
theorem tn_mv (d a b c : Pt) : R.tn (mv d a) (mv d b) (mv d c) = R.tn a b c := by unfold R.tn mv; grind
theorem lx_mv (d a b : Pt) : R.lx (mv d a) (mv d b) ↔ R.lx a b := by unfold R.lx mv; simp only; omega
theorem at_map (f : Pt → Pt) {c : List Pt} {k : Nat} (h : k < c.length) : at' (c.map f) k = f (at' c k) := by
  show (c.map f).getD k (0, 0) = _
  rw [List.getD_eq_getElem?_getD, List.getElem?_map, at_some h]; rfl
theorem ring_mv (d : Pt) {ps : List Pt} (G : R.Ring (R.srt ps) (R.ringOf (R.srt ps))) : R.ringOf (R.srt (ps.map (mv d))) = (R.ringOf (R.srt ps)).map (mv d) := by
  generalize hr : R.ringOf (R.srt ps) = r at G
  have n3 := G.n3
  have hn : 0 < r.length := by omega
  have mm := fun k => Nat.mod_lt k hn
  have mem : ∀ t, t ∈ R.srt (ps.map (mv d)) ↔ ∃ s ∈ R.srt ps, t = mv d s := fun t => by
    rw [R.srt_mem, List.mem_map]
    exact ⟨fun ⟨s, h, e⟩ => ⟨s, R.srt_mem.mpr h, e.symm⟩, fun ⟨s, h, e⟩ => ⟨s, R.srt_mem.mp h, e.symm⟩⟩
  have A : ∀ k, k < r.length → R.at' (r.map (mv d)) k = mv d (R.at' r k) := fun k hk => at_map (mv d) hk
  have S : R.Ring (R.srt (ps.map (mv d))) (r.map (mv d)) := by
    refine ⟨⟨by rw [List.length_map]; exact n3, fun c hc => ?_, fun k hk t ht => ?_, fun k hk => ?_, fun c hc => ?_⟩, fun i j hi hj e => ?_⟩
    · obtain ⟨s, hs, rfl⟩ := List.mem_map.mp hc
      exact (mem _).mpr ⟨s, G.sub s hs, rfl⟩
    · rw [List.length_map] at hk ⊢
      obtain ⟨s, hs, rfl⟩ := (mem t).mp ht
      rw [A k hk, A _ (mm _), tn_mv]
      exact G.left k hk s hs
    · rw [List.length_map] at hk ⊢
      rw [A k hk, A _ (mm _), A _ (mm _), tn_mv]
      exact G.cvx k hk
    · obtain ⟨s, hs, rfl⟩ := List.mem_map.mp hc
      rw [A 0 hn, lx_mv]
      rcases G.first s hs with h | h
      · exact .inl (by rw [h])
      · exact .inr h
    · rw [List.length_map] at hi hj
      rw [A i hi, A j hj] at e
      refine G.inj i j hi hj ?_
      unfold mv at e
      have e1 := congrArg Prod.fst e
      have e2 := congrArg Prod.snd e
      simp only at e1 e2
      exact Prod.ext (by omega) (by omega)
  have pos := G.cvx 0 hn
  have T := big_Ring (R.srt_asc (ps.map (mv d))) ((mem _).mpr ⟨_, G.sub _ (R.at_mem hn), rfl⟩) ((mem _).mpr ⟨_, G.sub _ (R.at_mem (mm 1)), rfl⟩) ((mem _).mpr ⟨_, G.sub _ (R.at_mem (mm 2)), rfl⟩) (by rw [tn_mv]; exact pos)
  exact T.uniq (R.srt_asc _) S
theorem mi_mi (p : Pt) : mi (mi p) = p := by unfold mi; refine Prod.ext ?_ ?_ <;> simp only <;> omega
theorem tn_mi (p q t : Pt) : R.tn (mi q) (mi p) (mi t) = R.tn p q t := by unfold R.tn mi; grind
theorem fr_mi (p q : Pt) : R.fr (mi p) (mi q) = R.fr p q := by unfold R.fr mi; grind
theorem dt_mi (a b c : Pt) : R.dt (mi a) (mi b) (mi c) = R.dt a b c := by unfold R.dt mi; grind
theorem dt_rev (p q t : Pt) : R.dt q t p = R.fr p q - R.dt p t q := by unfold R.dt R.fr; grind
theorem fr_rev (p q t : Pt) : R.fr q t = R.fr p q + R.fr p t - 2 * R.dt p t q := by unfold R.dt R.fr; grind
theorem idn5 (p q t : Pt) : R.fr p q * R.fr p t = R.dt p t q * R.dt p t q + R.tn p q t * R.tn p q t := by unfold R.fr R.dt R.tn; grind
theorem LE_mi {rows rows' : List Pt} (hm : ∀ t, t ∈ rows' ↔ ∃ s ∈ rows, t = mi s) {p q : Pt} (h : R.LE rows p q) : R.LE rows' (mi q) (mi p) := by
  have key : ∀ s ∈ rows, R.tn p q s = 0 → 0 ≤ R.dt p s q ∧ R.dt p s q ≤ R.fr p q ∧ R.fr p s ≤ 2 * R.dt p s q := fun s hs z => by
    have a := h.ahead s hs z
    have b := h.behind s hs z
    have l := idn5 p q s
    rw [z] at l
    have n1 := R.fr_nn p q
    have n2 := R.fr_nn p s
    refine ⟨b, ?_, ?_⟩
    · rcases Int.lt_or_le (R.fr p q) (R.dt p s q) with c | c
      · have m1 : R.fr p q * R.fr p s ≤ R.fr p q * R.fr p q := Int.mul_le_mul (Int.le_refl _) a n2 n1
        have m2 : R.fr p q * R.fr p q < R.dt p s q * R.dt p s q := R.sq_lt n1 c
        omega
      · exact c
    · rcases Int.lt_or_le (2 * R.dt p s q) (R.fr p s) with c | c
      · have c2 : R.dt p s q < R.fr p s := by omega
        have m2 : R.dt p s q * R.dt p s q < R.fr p s * R.fr p s := R.sq_lt b c2
        have m1 : R.fr p s * R.fr p s ≤ R.fr p q * R.fr p s := Int.mul_le_mul a (Int.le_refl _) n2 n1
        omega
      · exact c
  refine ⟨fun e => h.ne ?_, fun t ht => ?_, ?_, fun t ht z => ?_, fun t ht z => ?_⟩
  · have := congrArg mi e
    rw [mi_mi, mi_mi] at this
    exact this.symm
  · obtain ⟨s, hs, rfl⟩ := (hm t).mp ht
    rw [tn_mi]; exact h.nn s hs
  · obtain ⟨s, hs, e⟩ := h.some
    exact ⟨mi s, (hm _).mpr ⟨s, hs, rfl⟩, by rw [tn_mi]; exact e⟩
  · obtain ⟨s, hs, rfl⟩ := (hm t).mp ht
    rw [tn_mi] at z
    have k := key s hs z
    rw [fr_mi, fr_mi, R.fr_comm q p, fr_rev p q s]
    omega
  · obtain ⟨s, hs, rfl⟩ := (hm t).mp ht
    rw [tn_mi] at z
    have k := key s hs z
    rw [dt_mi, dt_rev p q s]
    omega
section
variable {ps : List Pt} (G : R.Ring (R.srt ps) (R.ringOf (R.srt ps)))
include G
theorem mi_mem (t : Pt) : t ∈ R.srt (ps.map mi) ↔ ∃ s ∈ R.srt ps, t = mi s := by
  rw [R.srt_mem, List.mem_map]
  exact ⟨fun ⟨s, h, e⟩ => ⟨s, R.srt_mem.mpr h, e.symm⟩, fun ⟨s, h, e⟩ => ⟨s, R.srt_mem.mp h, e.symm⟩⟩
theorem mi_Ring : R.Ring (R.srt (ps.map mi)) (R.ringOf (R.srt (ps.map mi))) := by
  have n3 := G.n3
  have hn : 0 < (R.ringOf (R.srt ps)).length := by omega
  have mm := fun k => Nat.mod_lt k hn
  have mem := mi_mem G
  exact big_Ring (R.srt_asc _) ((mem _).mpr ⟨_, G.sub _ (R.at_mem (mm 1)), rfl⟩) ((mem _).mpr ⟨_, G.sub _ (R.at_mem hn), rfl⟩) ((mem _).mpr ⟨_, G.sub _ (R.at_mem (mm 2)), rfl⟩) (by rw [tn_mi]; exact G.cvx 0 hn)
theorem mi_C (e : Pt × Pt) : e ∈ R.lawC (R.srt (ps.map mi)) ↔ (mi e.2, mi e.1) ∈ R.lawC (R.srt ps) := by
  have mem := mi_mem G
  have mem2 : ∀ t, t ∈ R.srt ps ↔ ∃ s ∈ R.srt (ps.map mi), t = mi s := fun t => by
    constructor
    · intro h
      exact ⟨mi t, (mem _).mpr ⟨t, h, rfl⟩, (mi_mi t).symm⟩
    · rintro ⟨s, hs, rfl⟩
      obtain ⟨u, hu, rfl⟩ := (mem s).mp hs
      rw [mi_mi]; exact hu
  rw [R.mem_lawC, R.mem_lawC]
  constructor
  · rintro ⟨h1, h2, h3⟩
    exact ⟨(mem2 _).mpr ⟨_, h2, rfl⟩, (mem2 _).mpr ⟨_, h1, rfl⟩, LE_mi mem2 h3⟩
  · rintro ⟨h1, h2, h3⟩
    have a := LE_mi mem h3
    simp only [mi_mi] at a
    exact ⟨(mem _).mpr ⟨_, h2, (mi_mi _).symm⟩, (mem _).mpr ⟨_, h1, (mi_mi _).symm⟩, a⟩
theorem mi_ring_mem (p : Pt) : p ∈ R.ringOf (R.srt (ps.map mi)) ↔ ∃ q ∈ R.ringOf (R.srt ps), p = mi q := by
  have H := mi_Ring G
  have n3 := G.n3
  have m3 := H.n3
  constructor
  · intro h
    obtain ⟨k, hk, rfl⟩ := R.mem_at h
    have c := (mi_C G _).mp (H.mem_C.mpr ⟨k, hk, rfl⟩)
    obtain ⟨j, hj, e⟩ := G.mem_C.mp c
    refine ⟨_, R.at_mem (Nat.mod_lt (j + 1) (show 0 < (R.ringOf (R.srt ps)).length by omega)), ?_⟩
    have := congrArg Prod.snd e
    simp only at this
    rw [← this, mi_mi]
  · rintro ⟨q, hq, rfl⟩
    obtain ⟨k, hk, rfl⟩ := R.mem_at hq
    obtain ⟨z, hz, z1, _⟩ := G.toRing0.pre hk
    have c : (R.at' (R.ringOf (R.srt ps)) z, R.at' (R.ringOf (R.srt ps)) k) ∈ R.lawC (R.srt ps) := G.mem_C.mpr ⟨z, hz, by rw [z1]⟩
    have c2 : (mi (R.at' (R.ringOf (R.srt ps)) k), mi (R.at' (R.ringOf (R.srt ps)) z)) ∈ R.lawC (R.srt (ps.map mi)) := (mi_C G _).mpr (by simp only [mi_mi]; exact c)
    obtain ⟨j, hj, e⟩ := H.mem_C.mp c2
    rw [show mi (R.at' (R.ringOf (R.srt ps)) k) = _ from congrArg Prod.fst e]
    exact R.at_mem hj
theorem cr_mi (p q : Pt) : R.cr (mi q) (mi p) = R.cr p q := by unfold R.cr mi; grind
theorem mi_area : R.sumI (R.ringOf (R.srt (ps.map mi))) (R.ringOf (R.srt (ps.map mi))).length = R.sumI (R.ringOf (R.srt ps)) (R.ringOf (R.srt ps)).length := by
  rw [ring_area (R.srt_asc _) (mi_Ring G), ring_area (R.srt_asc _) G]
  have nd : ((R.lawC (R.srt ps)).map fun e => (mi e.2, mi e.1)).Nodup := by
    unfold List.Nodup
    rw [List.pairwise_map]
    refine (R.lawC_nodup (R.srt_asc ps)).imp fun {a b} h e => h ?_
    have e1 := congrArg (fun x : Pt × Pt => mi x.1) e
    have e2 := congrArg (fun x : Pt × Pt => mi x.2) e
    simp only [mi_mi] at e1 e2
    exact Prod.ext e2 e1
  have pm : (R.lawC (R.srt (ps.map mi))).Perm ((R.lawC (R.srt ps)).map fun e => (mi e.2, mi e.1)) := (List.perm_ext_iff_of_nodup (R.lawC_nodup (R.srt_asc _)) nd).mpr fun e => by
    rw [mi_C G, List.mem_map]
    constructor
    · intro h
      exact ⟨_, h, by simp only [mi_mi]⟩
    · rintro ⟨u, hu, rfl⟩
      simp only [mi_mi]
      exact hu
  rw [perm_sum (pm.map crE), List.map_map]
  congr 1
  refine List.map_congr_left fun e _ => ?_
  show R.cr (mi e.2) (mi e.1) = R.cr e.1 e.2
  exact cr_mi G _ _
end
theorem sort_same {a b : List Pt} (ha : a.Nodup) (hb : b.Nodup) (h : ∀ x, x ∈ a ↔ x ∈ b) : a.mergeSort Pu.leP = b.mergeSort Pu.leP :=
  R.ris_eq (R.lxs_of ha) (R.lxs_of hb) fun k => by rw [List.mem_mergeSort, List.mem_mergeSort, h]
/-! the farthest two -/
theorem bst_uniq {Pd : Pt × Pt → Prop} {o o2 : Option R.T3} (h : R.BstO Pd o) (k : R.BstO Pd o2) : o = o2 := by
  cases o with
  | none => cases o2 with
    | none => rfl
    | some t => exact absurd k.mem (h t.2)
  | some t => cases o2 with
    | none => exact absurd h.mem (k t.2)
    | some s => rw [R.Bst.uniq h k]
theorem far_ring {ps : List Pt} {o : Option R.T3} (h : R.BstO (R.PdR (R.srt ps)) o) : R.BstO (R.PdR (R.ringOf (R.srt ps))) o := by
  obtain ⟨o2, h2⟩ := R.bst_ex (R.ringOf (R.srt ps))
  rw [bst_uniq h (R.best_ring (R.srt_asc ps) h2)]
  exact h2
theorem far_some {ps : List Pt} (G : R.Ring (R.srt ps) (R.ringOf (R.srt ps))) {o : Option R.T3} (h : R.BstO (R.PdR (R.srt ps)) o) : ∃ t, o = some t ∧ t.2.1 ∈ R.ringOf (R.srt ps) ∧ t.2.2 ∈ R.ringOf (R.srt ps) := by
  have n3 := G.n3
  have k := far_ring h
  cases o with
  | none =>
    have a := G.first _ (R.at_mem (show 1 < (R.ringOf (R.srt ps)).length by omega))
    rcases a with e | e
    · have := G.inj 0 1 (by omega) (by omega) e; omega
    · exact absurd ⟨R.at_mem (by omega), R.at_mem (by omega), e⟩ (k (_, _))
  | some t => exact ⟨t, rfl, k.mem.1, k.mem.2.1⟩
theorem far_again {ps : List Pt} {o o2 : Option R.T3} (h : R.BstO (R.PdR (R.srt ps)) o) (k : R.BstO (R.PdR (R.srt (R.ringOf (R.srt ps)))) o2) : o2 = o := by
  refine bst_uniq (k.imp (Pe := R.PdR (R.ringOf (R.srt ps))) fun x => ?_) (far_ring h)
  unfold R.PdR
  rw [R.srt_mem, R.srt_mem]
/-! parted by an edge of the ring -/
theorem ev_swap (a b : Pt) (z : P3) : ev (b, a) z = - ev (a, b) z := by unfold ev; grind
theorem ev_ge {c : List Pt} (C : Conv c) {z : P3} (h : ∀ k, k < c.length → 0 ≤ ev (edge c k) z) {g : Ln} (hg : ∀ j, j < c.length → 0 ≤ ev g (lift (at' c j))) : 0 ≤ ev g z := by
  have := ev_le C h (g := (g.2, g.1)) fun j hj => by
    have := hg j hj
    rw [ev_swap g.1 g.2]
    show - ev g _ ≤ 0
    omega
  rw [ev_swap g.1 g.2] at this
  have : - ev g z ≤ 0 := this
  omega
theorem apart_no {own place : List Pt} (C : Conv own) (CQ : Conv place) {g : Ln} (nn : ∀ j, j < own.length → 0 ≤ ev g (lift (at' own j))) (ne : g.1 ≠ g.2) (out : ∀ j, j < place.length → ev g (lift (at' place j)) ≤ 0) {z : P3} (b1 : 1 ≤ z.2.2) (i1 : insideB own z = true) (i2 : insideB place z = true) : False := by
  have a := ev_ge C (fun k hk => Int.le_of_lt (inside_iff.mp i1 k hk)) nn
  have b := ev_le CQ (fun k hk => Int.le_of_lt (inside_iff.mp i2 k hk)) out
  have n3 := C.n3
  -- a corner that is strictly ahead
  obtain ⟨j, hj, pj⟩ : ∃ j, j < own.length ∧ 0 < ev g (lift (at' own j)) := by
    refine Classical.byContradiction fun no => ne ?_
    have z0 : ∀ j, j < own.length → ev g (lift (at' own j)) = 0 := fun j hj => by
      have := nn j hj
      rcases Int.lt_or_le 0 (ev g (lift (at' own j))) with q | q
      · exact absurd ⟨j, hj, q⟩ no
      · omega
    exact line_zero (by have := C.tri 0 1 2 (by omega) (by omega) (by omega); omega) (z0 0 (by omega)) (z0 1 (by omega)) (z0 2 (by omega))
  -- a step away from it, so small that it stays within
  have big : ∀ n, ∃ N : Int, 1 ≤ N ∧ ∀ k, k < n → k < own.length → ev (edge own k) (lift (at' own j)) < N := fun n => by
    induction n with
    | zero => exact ⟨1, by omega, fun k hk => absurd hk (Nat.not_lt_zero _)⟩
    | succ n ih =>
      obtain ⟨N, h1, h2⟩ := ih
      by_cases q : ev (edge own n) (lift (at' own j)) < N
      · exact ⟨N, h1, fun k hk ho => by
          rcases Nat.lt_or_ge k n with r | r
          · exact h2 k r ho
          · obtain rfl : k = n := by omega
            exact q⟩
      · exact ⟨ev (edge own n) (lift (at' own j)) + 1, by omega, fun k hk ho => by
          rcases Nat.lt_or_ge k n with r | r
          · have := h2 k r ho; omega
          · obtain rfl : k = n := by omega
            omega⟩
  obtain ⟨N, N1, hN⟩ := big own.length
  have st : ∀ k, k < own.length → 0 ≤ ev (edge own k) (cmb N z (-1) (lift (at' own j))) := fun k hk => by
    rw [ev_c]
    have p := inside_iff.mp i1 k hk
    have q := hN k hk hk
    have := mul_nn (show 0 ≤ N by omega) (show 0 ≤ ev (edge own k) z - 1 by omega)
    rw [Int.mul_sub] at this
    omega
  have c := ev_ge C st nn
  rw [ev_c] at c
  have ez : ev g z = 0 := by omega
  rw [ez] at c
  omega
end Law_k21
namespace Law_k21
open PySem L2 Pu
local macro_rules | `(tactic| walk_at "e") => `(tactic| first
  | ((with_reducible refine nx_seq ?_); (try dsimp only [List.set_cons_succ, List.set_cons_zero]))
  | ((with_reducible refine ex_vr ?_); dsimp only [VQ, List.set_cons_succ, List.set_cons_zero, List.getElem?_cons_zero, List.getElem?_cons_succ]; (fail_if_success (with_reducible show False)))
  | (with_reducible refine sx_seq ?_)
  | (with_reducible refine sx_if ?_)
  | (with_reducible refine sx_next ?_)
  | (with_reducible refine sx_ret ?_)
  | ((fail_if_success (with_reducible refine sx_asgO (eo_lst ?_))); (with_reducible refine sx_asg ?_))
  | (with_reducible refine ex_int ?_)
  | (with_reducible refine ex_str ?_)
  | (with_reducible refine ex_bl ?_)
  | (with_reducible refine ex_non ?_)
  | (with_reducible refine ex_op ?_)
  | (with_reducible refine ex_un ?_)
  | (with_reducible refine ex_chain ?_)
  | (with_reducible refine ex_call ?_)
  | (with_reducible refine ex_isT ?_)
  | (with_reducible refine ex_cb ?_)
  | (with_reducible refine ex_sl ?_)
  | (with_reducible refine ex_tup ?_)
  | (with_reducible refine ex_if ?_)
  | (with_reducible refine ex_of (eo_lst ?_))
  | (with_reducible refine ex_notV ?_)
  | (with_reducible refine ea_nil ?_)
  | (with_reducible refine ea_cons ?_)
  | (with_reducible refine ep_no ?_)
  | (with_reducible refine ep_some ?_)
  | (with_reducible refine et_test ?_)
  | (with_reducible refine et_B ?_)
  | (with_reducible refine et_ch3 ?_)
  | (with_reducible refine et_and ?_)
  | (with_reducible refine et_or ?_)
  | (with_reducible refine et_not ?_)
  | (with_reducible refine et_yes ?_)
  | (with_reducible refine et_truL ?_)
  | (with_reducible refine opd_plusI ?_)
  | (with_reducible refine opd_I0 ?_)
  | (with_reducible refine opd_B0 ?_)
  | (with_reducible refine opd_eqI ?_)
  | (with_reducible refine opd_neI ?_)
  | (with_reducible refine opd_eqS ?_)
  | (with_reducible refine opd_neS ?_)
  | (with_reducible refine opd_is ?_)
  | (with_reducible refine opd_isnt ?_)
  | (with_reducible refine opd_ixT rfl ?_)
  | (with_reducible refine opd_ixL rfl ?_)
  | (with_reducible refine und_neg ?_)
  | (with_reducible refine cbd_lenL ?_)
  | (with_reducible refine cbd_lenT ?_)
  | (with_reducible refine cbd_min2 ?_)
  | (with_reducible refine cbd_max2 ?_)
  | (with_reducible refine cbd_abs ?_)
  | (with_reducible refine cbd_int ?_)
  | (with_reducible refine cbd_tupL ?_)
  | (with_reducible refine cbd_listL ?_)
  | (with_reducible refine cbd_listT ?_)
  | (with_reducible refine cbd_sum ?_)
  | (with_reducible refine sld_T ?_)
  | (with_reducible refine sld_L ?_)
  | (with_reducible refine ex_revL ?_)
  | (with_reducible refine ex_bmL ?_)
  | (with_reducible refine ex_andV ?_)
  | (with_reducible refine ei_list ?_)
  | (with_reducible refine ei_rng1 ?_)
  | (with_reducible refine ei_rng2 ?_)
  | (with_reducible refine ei_enum ?_)
  | (with_reducible refine ei_enumT ?_)
  | (with_reducible refine ei_zip ?_)
  | (with_reducible refine sx_par ?_)
  | (with_reducible refine Exists.intro _ (And.intro rfl ?_))
  | (with_reducible refine Exists.intro _ (Exists.intro _ (And.intro rfl ?_)))
  | ((with_reducible show EX (tCall (spS _) [] _ (tCons (tVar _) _)) _ _); refine ex_callS rfl ?_)
  | ((with_reducible refine And.intro (show (_ : Nat) ≤ 100000 from ?_) ?_); (focus (simp; done)))
  | ((with_reducible refine opd_I ?_ ?_); focus (first | omega | (show CDiv _ _; exact ⟨by omega, by omega⟩) | (show CMul _ _; first | exact Or.inl ⟨by omega, by omega⟩ | exact Or.inr ⟨by omega, by omega⟩))))
local macro_rules | `(tactic| walk_at "es") => `(tactic| repeat walk_at "e")
local macro_rules | `(tactic| walk_at "w") => `(tactic| try dsimp only [wipeE, List.foldl_cons, List.foldl_nil, List.set_cons_succ, List.set_cons_zero])
local macro_rules | `(tactic| walk_at "le") => `(tactic| repeat' first | exact LeE.nil | (refine LeE.eq rfl ?_) | (refine LeE.emp ?_) | (refine LeE.eq ?_ ?_))
local macro_rules | `(tactic| walk_at "no") => `(tactic| ((refine And.intro (fun hb => absurd hb ?_) (fun _ => ?_)); (focus (first | (exact Bool.false_ne_true) | (simp; done) | (simp; omega) | (simp only [decide_eq_true_eq]; omega)))))
local macro_rules | `(tactic| walk_at "yes") => `(tactic| ((refine And.intro (fun _ => ?_) (fun hb => absurd hb ?_)); (rotate_left); (focus (first | (exact Bool.noConfusion) | (simp; done) | (simp; omega) | (simp only [decide_eq_false_iff_not]; omega)))))
local macro_rules | `(tactic| walk_at "ei") => `(tactic| repeat ((fail_if_success (with_reducible show SX (tSeq (tIfS _ _ _) _) _ _)); (fail_if_success (with_reducible show SX (tIfS _ _ _) _ _)); (fail_if_success (with_reducible show SX (tSeq (tAsg (tIf _ _ _) _) _) _ _)); walk_at "e"))
local macro_rules | `(tactic| walk_at "tv") => `(tactic| repeat' first | walk_at "e" | ((with_reducible show (_ = true → _) ∧ (_ = false → _)); refine And.intro (fun _ => ?_) (fun _ => ?_)))
/-! ### the law: parted places, the farthest -/
def T_tF (K : PySem.W.Frag) : TS :=
    (tSeq (tFor (iRng1 (tCons (tC (.int 3)) tNil)) (gName 5)
      (tSeq (tAsg (tOp (rI0 fun i j => .int (i - j)) (tCall (spS R_draw) [] E0 (tCons (tVar 1) (tCons (tVar 0) (tCons (tC (.int 70)) tNil)))) (tC (.int 35))) (gName 11))
    (tSeq (tAsg (tOp (rI0 fun i j => .int (i - j)) (tCall (spS R_draw) [] E0 (tCons (tVar 1) (tCons (tVar 0) (tCons (tC (.int 70)) tNil)))) (tC (.int 35))) (gName 12))
    (tSeq (tAsg (tLst (tCons (tTup (tCons (tVar 11) (tCons (tVar 12) tNil))) (tCons (tTup (tCons (tOp (rPlus K) (tVar 11) (tC (.int 2))) (tCons (tVar 12) tNil))) (tCons (tTup (tCons (tOp (rPlus K) (tVar 11) (tC (.int 2))) (tCons (tOp (rPlus K) (tVar 12) (tC (.int 3))) tNil))) (tCons (tTup (tCons (tVar 11) (tCons (tOp (rPlus K) (tVar 12) (tC (.int 3))) tNil))) tNil))))) (gName 18))
    (tSeq (tAsg (tC (.bl false)) (gName 19))
    (tSeq (tFor (iRng1 (tCons (tCB (Pu.rLen K) (tCons (tVar 10) tNil)) tNil)) (gName 20)
      (tSeq (tAsg (tOp (rIxA K) (tVar 10) (tVar 20)) (gName 21))
    (tSeq (tAsg (tOp (rIxA K) (tVar 10) (tOp (rI (fun _ j => 0 < j) fun i j => .int (i % j)) (tOp (rPlus K) (tVar 20) (tC (.int 1))) (tCB (Pu.rLen K) (tCons (tVar 10) tNil)))) (gName 22))
    (tSeq (tAsg (tLc (iList K (tVar 18)) (gName 24) (tTest (tOp (rI0 fun i j => .bl (decide (j < i))) (tOp (rI0 fun i j => .int (i - j)) (tOp (rI CMul fun i j => .int (i * j)) (tOp (rI0 fun i j => .int (i - j)) (tOp (rIxA K) (tVar 22) (tC (.int 0))) (tOp (rIxA K) (tVar 21) (tC (.int 0)))) (tOp (rI0 fun i j => .int (i - j)) (tOp (rIxA K) (tVar 24) (tC (.int 1))) (tOp (rIxA K) (tVar 21) (tC (.int 1))))) (tOp (rI CMul fun i j => .int (i * j)) (tOp (rI0 fun i j => .int (i - j)) (tOp (rIxA K) (tVar 22) (tC (.int 1))) (tOp (rIxA K) (tVar 21) (tC (.int 1)))) (tOp (rI0 fun i j => .int (i - j)) (tOp (rIxA K) (tVar 24) (tC (.int 0))) (tOp (rIxA K) (tVar 21) (tC (.int 0)))))) (tC (.int 0)))) (tVar 24) [24]) (gName 23))
    (tAsg (tOrV (tVar 19) (tOp (rEqP K) (tVar 23) (tLst tNil))) (gName 19))))))
    (tSeq (tAsg (tLc (iList K (tVar 4)) (gTup K 2 (gCons (gName 7) (gCons (gName 8) gNil))) tYes (tOp (rIxA K) (tCall (spP R_hit) [] E0 (tCons (tVar 7) (tCons (tVar 3) (tCons (tVar 8) (tCons (tVar 18) tNil))))) (tC (.int 0))) [7, 8]) (gName 25))
    (tIfS (tOr (tAnd (tB (tVar 19)) (tTest (tOp (rInP K) (tC (.str "wind")) (tVar 25)))) (tTest (tOp (rNeP K) (tOp (rEqP K) (tOp (rIxA K) (tCall (spP R_safe) [] E0 (tCons (tVar 4) (tCons (tVar 3) (tCons (tLst (tCons (tVar 18) tNil)) tNil)))) (tC (.int 0))) (tLst (tCons (tC (.int 0)) tNil))) (tOp (rNinP K) (tC (.str "wind")) (tVar 25)))))
      (tRet (tC (.bl false)))
      tNext))))))))
    (tRet (tC (.bl true))))
def T_tE (K : PySem.W.Frag) : TS :=
    (tSeq (tAsg (tCall (spP R.R_farthest) [] E0 (tCons (tVar 6) tNil)) (gTup K 3 (gCons (gName 15) (gCons (gName 16) (gCons (gName 17) gNil)))))
    (tSeq (tIfS (tOr (tTest (tOp (rNinP K) (tVar 16) (tVar 10))) (tOr (tTest (tOp (rNinP K) (tVar 17) (tVar 10))) (tTest (tOp (rNeP K) (tCall (spP R.R_farthest) [] E0 (tCons (tVar 10) tNil)) (tTup (tCons (tVar 15) (tCons (tVar 16) (tCons (tVar 17) tNil))))))))
      (tRet (tC (.bl false)))
      tNext)
    (tSeq (tFor (iRng1 (tCons (tC (.int 3)) tNil)) (gName 5)
      (tSeq (tAsg (tOp (rI0 fun i j => .int (i - j)) (tCall (spS R_draw) [] E0 (tCons (tVar 1) (tCons (tVar 0) (tCons (tC (.int 70)) tNil)))) (tC (.int 35))) (gName 11))
    (tSeq (tAsg (tOp (rI0 fun i j => .int (i - j)) (tCall (spS R_draw) [] E0 (tCons (tVar 1) (tCons (tVar 0) (tCons (tC (.int 70)) tNil)))) (tC (.int 35))) (gName 12))
    (tSeq (tAsg (tLst (tCons (tTup (tCons (tVar 11) (tCons (tVar 12) tNil))) (tCons (tTup (tCons (tOp (rPlus K) (tVar 11) (tC (.int 2))) (tCons (tVar 12) tNil))) (tCons (tTup (tCons (tOp (rPlus K) (tVar 11) (tC (.int 2))) (tCons (tOp (rPlus K) (tVar 12) (tC (.int 3))) tNil))) (tCons (tTup (tCons (tVar 11) (tCons (tOp (rPlus K) (tVar 12) (tC (.int 3))) tNil))) tNil))))) (gName 18))
    (tSeq (tAsg (tC (.bl false)) (gName 19))
    (tSeq (tFor (iRng1 (tCons (tCB (Pu.rLen K) (tCons (tVar 10) tNil)) tNil)) (gName 20)
      (tSeq (tAsg (tOp (rIxA K) (tVar 10) (tVar 20)) (gName 21))
    (tSeq (tAsg (tOp (rIxA K) (tVar 10) (tOp (rI (fun _ j => 0 < j) fun i j => .int (i % j)) (tOp (rPlus K) (tVar 20) (tC (.int 1))) (tCB (Pu.rLen K) (tCons (tVar 10) tNil)))) (gName 22))
    (tSeq (tAsg (tLc (iList K (tVar 18)) (gName 24) (tTest (tOp (rI0 fun i j => .bl (decide (j < i))) (tOp (rI0 fun i j => .int (i - j)) (tOp (rI CMul fun i j => .int (i * j)) (tOp (rI0 fun i j => .int (i - j)) (tOp (rIxA K) (tVar 22) (tC (.int 0))) (tOp (rIxA K) (tVar 21) (tC (.int 0)))) (tOp (rI0 fun i j => .int (i - j)) (tOp (rIxA K) (tVar 24) (tC (.int 1))) (tOp (rIxA K) (tVar 21) (tC (.int 1))))) (tOp (rI CMul fun i j => .int (i * j)) (tOp (rI0 fun i j => .int (i - j)) (tOp (rIxA K) (tVar 22) (tC (.int 1))) (tOp (rIxA K) (tVar 21) (tC (.int 1)))) (tOp (rI0 fun i j => .int (i - j)) (tOp (rIxA K) (tVar 24) (tC (.int 0))) (tOp (rIxA K) (tVar 21) (tC (.int 0)))))) (tC (.int 0)))) (tVar 24) [24]) (gName 23))
    (tAsg (tOrV (tVar 19) (tOp (rEqP K) (tVar 23) (tLst tNil))) (gName 19))))))
    (tSeq (tAsg (tLc (iList K (tVar 4)) (gTup K 2 (gCons (gName 7) (gCons (gName 8) gNil))) tYes (tOp (rIxA K) (tCall (spP R_hit) [] E0 (tCons (tVar 7) (tCons (tVar 3) (tCons (tVar 8) (tCons (tVar 18) tNil))))) (tC (.int 0))) [7, 8]) (gName 25))
    (tIfS (tOr (tAnd (tB (tVar 19)) (tTest (tOp (rInP K) (tC (.str "wind")) (tVar 25)))) (tTest (tOp (rNeP K) (tOp (rEqP K) (tOp (rIxA K) (tCall (spP R_safe) [] E0 (tCons (tVar 4) (tCons (tVar 3) (tCons (tLst (tCons (tVar 18) tNil)) tNil)))) (tC (.int 0))) (tLst (tCons (tC (.int 0)) tNil))) (tOp (rNinP K) (tC (.str "wind")) (tVar 25)))))
      (tRet (tC (.bl false)))
      tNext))))))))
    (tRet (tC (.bl true))))))
structure Pce (p : Pc) : Prop where
  nr : Nr 10 p.1
  t1 : 1 ≤ p.2
  t2 : p.2 ≤ 6
structure Wnd (n : Int) (W : List Pt) : Prop where
  cv : Conv W
  nr : ∀ p ∈ W, Nr 6 p
  ln : W.length ≤ 4
  ins : ∀ x ∈ [((0, 0) : Pt), at' W 0, at' W 1, (0, n - 1)], ∀ k, k < W.length → 0 ≤ ev (edge W k) (lift x)
def fallP (W : List Pt) (p : Pc) : List Pt := fall p.1 W p.2
structure Scn (n : Int) (W : List Pt) (pcs : List Pc) : Prop where
  hn : 1 ≤ n ∧ n ≤ 3
  w : Wnd n W
  p : ∀ p ∈ pcs, Pce p
  l1 : 1 ≤ pcs.length
  l4 : pcs.length ≤ 4
def csF (W : List Pt) (pcs : List Pc) : List Pt := pcs.flatMap (fallP W)
theorem own_nr {n : Int} {W : List Pt} (w : Wnd n W) {p : Pc} (c : Pce p) : ∀ x ∈ fallP W p, Nr 46 x := fun x hx => by
  unfold fallP fall at hx
  obtain ⟨y, hy, rfl⟩ := List.mem_map.mp hx
  have a := w.nr y hy
  have b := c.nr
  have t1 := c.t1
  have t2 := c.t2
  unfold Nr at *
  have m1 := mul_bd (x := p.2) (y := y.1) (A := 6) (B := 6) (by omega) (by omega) (by omega) (by omega)
  have m2 := mul_bd (x := p.2) (y := y.2) (A := 6) (B := 6) (by omega) (by omega) (by omega) (by omega)
  simp only
  omega
section
variable {n : Int} {W : List Pt} {pcs : List Pc} (S : Scn n W pcs)
include S
theorem cs_nr : ∀ x ∈ csF W pcs, Nr 46 x := fun x hx => by
  obtain ⟨p, hp, hx⟩ := List.mem_flatMap.mp hx
  exact own_nr S.w (S.p p hp) x hx
theorem cs_sm : ∀ x ∈ csF W pcs, R.Sm x := fun x hx => by
  have := cs_nr S x hx
  unfold Nr at this
  unfold R.Sm
  omega
theorem cs_len : (csF W pcs).length ≤ 16 := by
  have h := S.l4
  have w := S.w.ln
  have : (csF W pcs).length = pcs.length * W.length := by
    unfold csF fallP
    clear S h
    induction pcs with
    | nil => simp
    | cons p pcs ih =>
      rw [List.flatMap_cons, List.length_append, ih, fall_len, List.length_cons]
      rw [Nat.succ_mul]
      omega
  rw [this]
  exact Nat.mul_le_mul h w
theorem cs_own {p : Pc} (hp : p ∈ pcs) {x : Pt} (hx : x ∈ fallP W p) : x ∈ csF W pcs := List.mem_flatMap.mpr ⟨p, hp, hx⟩
theorem cs_Ring : R.Ring (R.srt (csF W pcs)) (R.ringOf (R.srt (csF W pcs))) := by
  have l1 := S.l1
  obtain ⟨p, hp⟩ : ∃ p, p ∈ pcs := ⟨_, List.getElem_mem (show 0 < pcs.length by omega)⟩
  obtain ⟨a, ha, b, hb, t, ht, pos⟩ := conv_tn (fall_conv (s := p.1) S.w.cv (S.p p hp).t1)
  exact big_Ring (R.srt_asc _) (R.srt_mem.mpr (cs_own S hp ha)) (R.srt_mem.mpr (cs_own S hp hb)) (R.srt_mem.mpr (cs_own S hp ht)) pos
theorem cs_rgd : R.RgD (R.ringOf (R.srt (csF W pcs))) := R.rgd_of (cs_sm S) (by have := cs_len S; omega)
theorem rg_nr : ∀ x ∈ R.ringOf (R.srt (csF W pcs)), Nr 46 x := fun x hx => cs_nr S x (R.srt_mem.mp (R.ring_sub (R.srt_asc _) x hx))
end
structure Plc (Q : List Pt) : Prop where
  cv : Conv Q
  nr : ∀ p ∈ Q, Nr 100 p
  ln : Q.length ≤ 6
theorem hc_of {n : Int} {W Q : List Pt} {p : Pc} (w : Wnd n W) (q : Plc Q) (c : Pce p) : HC p.1 W p.2 Q :=
  ⟨w.cv, q.cv, c.t1, by have := c.t2; omega, nr_up c.nr (by omega), fun x hx => nr_up (w.nr x hx) (by omega), fun x hx => nr_up (own_nr w c x hx) (by omega), fun x hx => nr_up (q.nr x hx) (by omega), by have := w.ln; omega, by have := q.ln; omega⟩
def outB (r Q : List Pt) (k : Nat) : Bool := allOut (edge r k) Q
theorem hit_in {n : Int} {W Q : List Pt} {p : Pc} (w : Wnd n W) (q : Plc Q) (c : Pce p) (h : isHit W Q p = true) : ∃ z : P3, 1 ≤ z.2.2 ∧ insideB (fallP W p) z = true ∧ insideB Q z = true := by
  obtain ⟨e1, e2⟩ := isHit_iff.mp h
  have wi := wind_ok w.cv q.cv c.t1 e1 e2
  generalize windTo p.1 p.2 (mid (meetN (fall p.1 W p.2) Q Q.length)) = z at wi
  refine ⟨whereOf p.1 p.2 z, wi.b1, inside_iff.mpr fun k hk => ?_, wi.place⟩
  unfold fallP at hk ⊢
  rw [fall_len] at hk
  rw [ev_where hk]
  have t1 := c.t1
  exact mul_pp (mul_pp (by omega) (by omega)) (inside_iff.mp wi.winds k hk)
/-- beyond an edge of the ring nothing is hit -/
theorem ring_out {n : Int} {W Q : List Pt} {pcs : List Pc} (S : Scn n W pcs) (q : Plc Q) {k : Nat} (hk : k < (R.ringOf (R.srt (csF W pcs))).length) (o : outB (R.ringOf (R.srt (csF W pcs))) Q k = true) : pcs.any (isHit W Q) = false := by
  have G := cs_Ring S
  cases e : pcs.any (isHit W Q) with
  | false => rfl
  | true =>
    exfalso
    obtain ⟨p, hp, h⟩ := List.any_eq_true.mp e
    obtain ⟨z, b1, i1, i2⟩ := hit_in S.w q (S.p p hp) h
    have CO : Conv (fallP W p) := fall_conv (s := p.1) S.w.cv (S.p p hp).t1
    have o := allOut_iff.mp o
    refine apart_no (own := fallP W p) CO q.cv (g := edge (R.ringOf (R.srt (csF W pcs))) k) (fun j hj => ?_) ?_ o b1 i1 i2
    · have := G.left k hk _ (R.srt_mem.mpr (cs_own S hp (pt_mem hj)))
      unfold edge
      rw [ev_R]
      exact this
    · intro e
      exact R.ne_of_tn (G.cvx k hk) e
theorem any_wd (W Q : List Pt) (pcs : List Pc) : ((pcs.map fun p => PyData.str (hitF p.1 W p.2 Q).wd).any fun y => PyData.eqv y (.str (Str.ofString "wind"))) = pcs.any (isHit W Q) := by
  induction pcs with
  | nil => rfl
  | cons p pcs ih =>
    rw [List.map_cons, List.any_cons, List.any_cons, ih]
    congr 1
    have := wd_eq (hitF p.1 W p.2 Q)
    show PyData.eqv (.str _) (.str _) = _
    simp only [PyData.eqv]
    rw [show isHit W Q p = (hitF p.1 W p.2 Q).isW from rfl, ← this]
    rw [Bool.eq_iff_iff, decide_eq_true_eq, beq_iff_eq]
theorem safe_one (W Q : List Pt) (pcs : List Pc) : safeN pcs W [Q] 1 = if pcs.any (isHit W Q) = true then [] else [0] := by
  have e : safeN pcs W [Q] 1 = if (rowsI pcs W Q).isEmpty = true then [0] else [] := by
    have := safe_snoc pcs W [Q] 0
    rw [show (0 : Nat) + 1 = 1 from rfl] at this
    rw [this]
    rfl
  rw [e]
  by_cases q : pcs.any (isHit W Q) = true
  · rw [if_pos q, if_neg]
    intro h
    have := rows_nil.mp (List.isEmpty_iff.mp h)
    obtain ⟨p, hp, h2⟩ := List.any_eq_true.mp q
    rw [this p hp] at h2
    cases h2
  · rw [if_neg q, if_pos]
    refine List.isEmpty_iff.mpr (rows_nil.mpr fun p hp => ?_)
    cases h2 : isHit W Q p with
    | false => rfl
    | true => exact absurd (List.any_eq_true.mpr ⟨p, hp, h2⟩) q
theorem eqv_intsL : ∀ xs ys : List Int, PyData.eqv (.list (xs.map .int)) (.list (ys.map .int)) = decide (xs = ys) := by
  have h : ∀ xs ys : List Int, PyData.eqvAll (xs.map .int) (ys.map .int) = decide (xs = ys) := fun xs => by
    induction xs with
    | nil => intro ys; cases ys <;> simp [PyData.eqvAll]
    | cons x xs ih =>
      intro ys
      cases ys with
      | nil => simp [PyData.eqvAll]
      | cons y ys =>
        simp only [List.map_cons, PyData.eqvAll, ih, PyData.eqv]
        rw [Bool.eq_iff_iff]
        simp
  exact h
def rect : List Pt := [(0, 0), (2, 0), (2, 3), (0, 3)]
def triB (c : List Pt) : Bool := (List.range c.length).all fun i => (List.range c.length).all fun j => (List.range c.length).all fun k => decide (i < j → j < k → 0 < det3 (lift (at' c i)) (lift (at' c j)) (lift (at' c k)))
theorem conv_of {c : List Pt} (h : (decide (3 ≤ c.length) && triB c) = true) : Conv c := by
  simp only [Bool.and_eq_true, decide_eq_true_eq] at h
  refine ⟨h.1, fun i j k hij hjk hk => ?_⟩
  have h3 := h.2
  unfold triB at h3
  have a := List.all_eq_true.mp h3 i (List.mem_range.mpr (by omega))
  have b := List.all_eq_true.mp a j (List.mem_range.mpr (by omega))
  have c := of_decide_eq_true (List.all_eq_true.mp b k (List.mem_range.mpr hk))
  exact c hij hjk
theorem rect_plc {x y : Int} (hx : -40 ≤ x ∧ x ≤ 40) (hy : -40 ≤ y ∧ y ≤ 40) : Plc [(x, y), (x + 2, y), (x + 2, y + 3), (x, y + 3)] := by
  have e : ([(x, y), (x + 2, y), (x + 2, y + 3), (x, y + 3)] : List Pt) = fall (x, y) rect 1 := by simp [fall, rect]
  refine ⟨by rw [e]; exact fall_conv (conv_of (by decide +kernel)) (by omega), fun p hp => ?_, by simp⟩
  simp only [List.mem_cons, List.not_mem_nil, or_false] at hp
  rcases hp with rfl | rfl | rfl | rfl <;> (unfold Nr; simp only; omega)
theorem depth_L (ps : List Pt) (d : D) : min (PyData.list (ps.map encP)).depth d.depth ≤ 60 := R.depth_L ps d
theorem sx_tF (K : PySem.W.Frag) (Z : D → Prop) (z : Z (.bool true)) {ns : List Int} {S0 : Stt} (ok0 : Ok2 S0) {n : Int} {W : List Pt} {pcs : List Pc} (S : Scn n W pcs) :
    SX (T_tF K) [.val (.list (ns.map .int)), .st S0, .emp, .val (.list (W.map encP)), .val (.list (pcs.map encC)), .emp, .emp, .emp, .emp, .emp, .val (.list ((R.ringOf (R.srt (csF W pcs))).map encP)), .emp, .emp, .emp, .emp, .emp, .emp, .emp, .emp, .emp, .emp, .emp, .emp, .emp, .emp, .emp] { nx := fun _ => Z .none, rt := fun d _ => Z d } := by
  have ro := fun Q (q : Plc Q) k => @ring_out n W Q pcs S q k
  have rn := rg_nr S
  have rl : (R.ringOf (R.srt (csF W pcs))).length ≤ 20 := (cs_rgd S).2.1
  generalize R.ringOf (R.srt (csF W pcs)) = r at *
  have l4 := S.l4
  have lw := S.w.ln
  unfold T_tF
  refine sx_seq (sx_for (J := [5]) (ei_rng1 ?_))
  walk_at "es"
  refine ⟨by omega, fun m ρ' => ∃ S1, Ok2 S1 ∧ ρ' = [.val (.list (ns.map .int)), .st S1, .emp, .val (.list (W.map encP)), .val (.list (pcs.map encC)), .emp, .emp, .emp, .emp, .emp, .val (.list (r.map encP)), .emp, .emp, .emp, .emp, .emp, .emp, .emp, .emp, .emp, .emp, .emp, .emp, .emp, .emp, .emp], ⟨S0, ok0, rfl⟩, ?_, ?_⟩
  · rintro m dd ρ' hd0 ⟨S1, ok1, rfl⟩
    obtain ⟨hm, rfl⟩ := rng_at hd0
    refine sg_name (by simp) ?_
    walk_at "w"
    walk_at "es"
    refine ⟨ns, 70, rfl, by omega, ok1, fun x S2 x0 x1 ok2 => ?_⟩
    walk_at "es"
    refine ⟨ns, 70, rfl, by omega, ok2, fun y S3 y0 y1 ok3 => ?_⟩
    refine ex_int ?_
    refine opd_I0 ?_
    refine nx_seq ?_
    walk_at "w"
    have q := rect_plc (x := x - 35) (y := y - 35) (by omega) (by omega)
    generalize x - 35 = X at *
    generalize y - 35 = Y at *
    refine sx_seq (sx_asg (ex_of (eo_lst ?_)))
    walk_at "es"
    have eQ : (.list [.tuple [.int X, .int Y], .tuple [.int (X + 2), .int Y], .tuple [.int (X + 2), .int (Y + 3)], .tuple [.int X, .int (Y + 3)]] : D) = encL [(X, Y), (X + 2, Y), (X + 2, Y + 3), (X, Y + 3)] := rfl
    rw [eQ]
    generalize ([(X, Y), (X + 2, Y), (X + 2, Y + 3), (X, Y + 3)] : List Pt) = Q at *
    have ro := ro Q q
    have lq := q.ln
    have nq : ∀ p ∈ Q, Nr 100000 p := fun p hp => nr_up (q.nr p hp) (by omega)
    refine sx_weak (ρ' := [.val (.list (ns.map .int)), .st S3, .emp, .val (.list (W.map encP)), .val (.list (pcs.map encC)), .emp, .emp, .emp, .emp, .emp, .val (.list (r.map encP)), .emp, .emp, .emp, .emp, .emp, .emp, .emp, .val (encL Q), .val (.bool false), .emp, .emp, .emp, .emp, .emp, .emp]) (by walk_at "le") ?_
    refine sx_for (J := [20]) (ei_rng1 ?_)
    walk_at "es"
    rw [List.length_map]
    refine ⟨by omega, fun k ρ' => ρ' = [.val (.list (ns.map .int)), .st S3, .emp, .val (.list (W.map encP)), .val (.list (pcs.map encC)), .emp, .emp, .emp, .emp, .emp, .val (.list (r.map encP)), .emp, .emp, .emp, .emp, .emp, .emp, .emp, .val (encL Q), .val (.bool ((List.range k).any (outB r Q))), .emp, .emp, .emp, .emp, .emp, .emp], rfl, ?_, ?_⟩
    · rintro k dd ρ' hd1 rfl
      obtain ⟨hk, rfl⟩ := rng_at hd1
      rw [Int.zero_add]
      have hk : k < r.length := by omega
      have hp : 0 < r.length := by omega
      have m1 := Nat.mod_lt (k + 1) hp
      have n1 := rn _ (pt_mem hk)
      have n2 := rn _ (pt_mem m1)
      have ee : ∀ c : Pt, ev (edge r k) (lift c) = ((at' r ((k + 1) % r.length)).1 - (at' r k).1) * (c.2 - (at' r k).2) - ((at' r ((k + 1) % r.length)).2 - (at' r k).2) * (c.1 - (at' r k).1) := fun c => by unfold edge; rw [ev_lift]
      refine sg_name (by simp) ?_
      walk_at "w"
      walk_at "es"
      refine opd_ixL (at_D hk) ?_
      walk_at "es"
      rw [List.length_map]
      refine op_m1 hp ?_
      refine opd_ixL (at_D m1) ?_
      unfold Nr at n1 n2
      generalize hh : at' r k = h at *
      generalize ha : at' r ((k + 1) % r.length) = a at *
      rw [show encP h = .tuple [.int h.1, .int h.2] from rfl, show encP a = .tuple [.int a.1, .int a.2] from rfl]
      refine nx_seq ?_
      walk_at "w"
      refine sx_seq (sx_asg (ex_of (eo_lcP (α := Pt) (fun c => decide (0 < ev (edge r k) (lift c))) (fun c => encP c) (ei_list ?_))))
      unfold encL
      walk_at "es"
      refine ⟨by omega, fun i hi => by simp at hi; subst hi; rfl, fun c hc => sg_name (by simp) ⟨rfl, ?_⟩, ?_⟩
      · rw [show encP c = .tuple [.int c.1, .int c.2] from rfl]
        walk_at "w"
        walk_at "es"
        rw [← ee]
        refine ⟨rfl, rfl, fun _ => ?_⟩
        walk_at "es"
        exact ⟨rfl, rfl⟩
      refine nx_seq ?_
      walk_at "w"
      have eo : decide ((Q.filter fun c => decide (0 < ev (edge r k) (lift c))) = []) = outB r Q k := by
        unfold outB
        rw [Bool.eq_iff_iff, decide_eq_true_eq, List.filter_eq_nil_iff]
        unfold allOut
        rw [List.all_eq_true]
        constructor
        · intro h c hc
          have := h c hc
          simp only [decide_eq_true_eq] at this ⊢
          omega
        · intro h c hc
          have := h c hc
          simp only [decide_eq_true_eq] at this ⊢
          omega
      have en : (List.range (k + 1)).any (outB r Q) = ((List.range k).any (outB r Q) || outB r Q k) := by
        rw [List.range_succ, List.any_append]
        simp
      rw [en]
      refine sx_asg (ex_orV ?_)
      walk_at "es"
      refine ⟨fun hb => ?_, fun hb => ?_⟩
      · rw [hb]
        refine ⟨_, ?_, rfl⟩
        rw [Bool.true_or]
        walk_at "w"
        walk_at "le"
      · rw [hb]
        walk_at "es"
        refine opd_eqP (depth_L _ _) ?_
        rw [show PyData.list [] = PyData.list (([] : List Pt).map encP) from rfl, eqv_LP, eo]
        refine ⟨_, ?_, rfl⟩
        rw [Bool.false_or]
        walk_at "w"
        walk_at "le"
    rintro ρ' rfl
    rw [List.length_map, rngI_len, Int.toNat_natCast]
    refine nx_seq ?_
    refine sx_seq (sx_asg (ex_of (eo_lcP (α := Pc) (fun _ => true) (fun p => .str (hitF p.1 W p.2 Q).wd) (ei_list ?_))))
    walk_at "es"
    refine ⟨by omega, fun i hi => by simp at hi; rcases hi with rfl | rfl <;> rfl, fun p hp => sg_tup rfl (sgs_cons (sg_name (by simp) (sgs_cons (sg_name (by simp) (sgs_nil ⟨rfl, ?_⟩))))), ?_⟩
    · walk_at "w"
      refine et_yes ⟨rfl, rfl, fun _ => ?_⟩
      walk_at "es"
      refine ⟨p.1, W, p.2, Q, rfl, hc_of S.w q (S.p p hp), ?_⟩
      obtain ⟨dd, e1, e2⟩ := hit_0 (hitF p.1 W p.2 Q)
      rw [e1]
      walk_at "es"
      refine opd_ixT e2 ?_
      exact ⟨rfl, rfl⟩
    rw [filt_all]
    refine nx_seq ?_
    walk_at "w"
    refine sx_if (et_val false ?_ ⟨(fun h => by cases h), fun _ => ?_⟩)
    · walk_at "es"
      refine ⟨fun hb => ?_, fun hb => ?_⟩
      · walk_at "es"
        refine opd_inL (Nat.le_trans (Nat.min_le_right _ _) (by simp [PyData.depth])) ?_
        obtain ⟨k, hk, o⟩ := List.any_eq_true.mp hb
        rw [any_wd, ro k (List.mem_range.mp hk) o]
        refine ⟨_, rfl, (fun h => by cases h), fun _ => ?_⟩
        walk_at "es"
        refine ⟨pcs, W, [Q], rfl, fun p hp Q' hQ' => ?_, by omega, by simp, ?_⟩
        · obtain rfl := List.mem_singleton.mp hQ'
          exact hc_of S.w q (S.p p hp)
        walk_at "es"
        rw [show [Q].length = 1 from rfl, safe_one]
        refine opd_eqP (min_l (DpN.up (n := 1) (m := 60) (dpn_list (n := 0) (dpn_map fun i _ => dpn_int)) (by decide))) ?_
        rw [show PyData.list [.int 0] = .list (([0] : List Int).map .int) from rfl, eqv_intsL]
        walk_at "es"
        refine opd_ninL (Nat.le_trans (Nat.min_le_right _ _) (by simp [PyData.depth])) ?_
        rw [any_wd]
        refine opd_neB ?_
        refine ⟨_, rfl, ?_, rfl⟩
        cases pcs.any (isHit W Q) <;> simp
      · refine ⟨(fun h => by cases h), fun _ => ?_⟩
        walk_at "es"
        refine ⟨pcs, W, [Q], rfl, fun p hp Q' hQ' => ?_, by omega, by simp, ?_⟩
        · obtain rfl := List.mem_singleton.mp hQ'
          exact hc_of S.w q (S.p p hp)
        walk_at "es"
        rw [show [Q].length = 1 from rfl, safe_one]
        refine opd_eqP (min_l (DpN.up (n := 1) (m := 60) (dpn_list (n := 0) (dpn_map fun i _ => dpn_int)) (by decide))) ?_
        rw [show PyData.list [.int 0] = .list (([0] : List Int).map .int) from rfl, eqv_intsL]
        walk_at "es"
        refine opd_ninL (Nat.le_trans (Nat.min_le_right _ _) (by simp [PyData.depth])) ?_
        rw [any_wd]
        refine opd_neB ?_
        refine ⟨_, rfl, ?_, rfl⟩
        cases pcs.any (isHit W Q) <;> simp
    refine sx_next ⟨_, ?_, S3, ok3, rfl⟩
    walk_at "le"
  rintro ρ' ⟨S1, ok1, rfl⟩
  refine nx_seq ?_
  walk_at "es"
  exact z
end Law_k21
namespace Law_k21
open PySem L2 Pu
local macro_rules | `(tactic| walk_at "e") => `(tactic| first
  | ((with_reducible refine nx_seq ?_); (try dsimp only [List.set_cons_succ, List.set_cons_zero]))
  | ((with_reducible refine ex_vr ?_); dsimp only [VQ, List.set_cons_succ, List.set_cons_zero, List.getElem?_cons_zero, List.getElem?_cons_succ]; (fail_if_success (with_reducible show False)))
  | (with_reducible refine sx_seq ?_)
  | (with_reducible refine sx_if ?_)
  | (with_reducible refine sx_next ?_)
  | (with_reducible refine sx_ret ?_)
  | ((fail_if_success (with_reducible refine sx_asgO (eo_lst ?_))); (with_reducible refine sx_asg ?_))
  | (with_reducible refine ex_int ?_)
  | (with_reducible refine ex_str ?_)
  | (with_reducible refine ex_bl ?_)
  | (with_reducible refine ex_non ?_)
  | (with_reducible refine ex_op ?_)
  | (with_reducible refine ex_un ?_)
  | (with_reducible refine ex_chain ?_)
  | (with_reducible refine ex_call ?_)
  | (with_reducible refine ex_isT ?_)
  | (with_reducible refine ex_cb ?_)
  | (with_reducible refine ex_sl ?_)
  | (with_reducible refine ex_tup ?_)
  | (with_reducible refine ex_if ?_)
  | (with_reducible refine ex_of (eo_lst ?_))
  | (with_reducible refine ex_notV ?_)
  | (with_reducible refine ea_nil ?_)
  | (with_reducible refine ea_cons ?_)
  | (with_reducible refine ep_no ?_)
  | (with_reducible refine ep_some ?_)
  | (with_reducible refine et_test ?_)
  | (with_reducible refine et_B ?_)
  | (with_reducible refine et_ch3 ?_)
  | (with_reducible refine et_and ?_)
  | (with_reducible refine et_or ?_)
  | (with_reducible refine et_not ?_)
  | (with_reducible refine et_yes ?_)
  | (with_reducible refine et_truL ?_)
  | (with_reducible refine opd_plusI ?_)
  | (with_reducible refine opd_I0 ?_)
  | (with_reducible refine opd_B0 ?_)
  | (with_reducible refine opd_eqI ?_)
  | (with_reducible refine opd_neI ?_)
  | (with_reducible refine opd_eqS ?_)
  | (with_reducible refine opd_neS ?_)
  | (with_reducible refine opd_is ?_)
  | (with_reducible refine opd_isnt ?_)
  | (with_reducible refine opd_ixT rfl ?_)
  | (with_reducible refine opd_ixL rfl ?_)
  | (with_reducible refine und_neg ?_)
  | (with_reducible refine cbd_lenL ?_)
  | (with_reducible refine cbd_lenT ?_)
  | (with_reducible refine cbd_min2 ?_)
  | (with_reducible refine cbd_max2 ?_)
  | (with_reducible refine cbd_abs ?_)
  | (with_reducible refine cbd_int ?_)
  | (with_reducible refine cbd_tupL ?_)
  | (with_reducible refine cbd_listL ?_)
  | (with_reducible refine cbd_listT ?_)
  | (with_reducible refine cbd_sum ?_)
  | (with_reducible refine sld_T ?_)
  | (with_reducible refine sld_L ?_)
  | (with_reducible refine ex_revL ?_)
  | (with_reducible refine ex_bmL ?_)
  | (with_reducible refine ex_andV ?_)
  | (with_reducible refine ei_list ?_)
  | (with_reducible refine ei_rng1 ?_)
  | (with_reducible refine ei_rng2 ?_)
  | (with_reducible refine ei_enum ?_)
  | (with_reducible refine ei_enumT ?_)
  | (with_reducible refine ei_zip ?_)
  | (with_reducible refine sx_par ?_)
  | (with_reducible refine Exists.intro _ (And.intro rfl ?_))
  | (with_reducible refine Exists.intro _ (Exists.intro _ (And.intro rfl ?_)))
  | ((with_reducible show EX (tCall (spS _) [] _ (tCons (tVar _) _)) _ _); refine ex_callS rfl ?_)
  | ((with_reducible refine And.intro (show (_ : Nat) ≤ 100000 from ?_) ?_); (focus (simp; done)))
  | ((with_reducible refine opd_I ?_ ?_); focus (first | omega | (show CDiv _ _; exact ⟨by omega, by omega⟩) | (show CMul _ _; first | exact Or.inl ⟨by omega, by omega⟩ | exact Or.inr ⟨by omega, by omega⟩))))
local macro_rules | `(tactic| walk_at "es") => `(tactic| repeat walk_at "e")
local macro_rules | `(tactic| walk_at "w") => `(tactic| try dsimp only [wipeE, List.foldl_cons, List.foldl_nil, List.set_cons_succ, List.set_cons_zero])
local macro_rules | `(tactic| walk_at "le") => `(tactic| repeat' first | exact LeE.nil | (refine LeE.eq rfl ?_) | (refine LeE.emp ?_) | (refine LeE.eq ?_ ?_))
local macro_rules | `(tactic| walk_at "no") => `(tactic| ((refine And.intro (fun hb => absurd hb ?_) (fun _ => ?_)); (focus (first | (exact Bool.false_ne_true) | (simp; done) | (simp; omega) | (simp only [decide_eq_true_eq]; omega)))))
local macro_rules | `(tactic| walk_at "yes") => `(tactic| ((refine And.intro (fun _ => ?_) (fun hb => absurd hb ?_)); (rotate_left); (focus (first | (exact Bool.noConfusion) | (simp; done) | (simp; omega) | (simp only [decide_eq_false_iff_not]; omega)))))
local macro_rules | `(tactic| walk_at "ei") => `(tactic| repeat ((fail_if_success (with_reducible show SX (tSeq (tIfS _ _ _) _) _ _)); (fail_if_success (with_reducible show SX (tIfS _ _ _) _ _)); (fail_if_success (with_reducible show SX (tSeq (tAsg (tIf _ _ _) _) _) _ _)); walk_at "e"))
local macro_rules | `(tactic| walk_at "tv") => `(tactic| repeat' first | walk_at "e" | ((with_reducible show (_ = true → _) ∧ (_ = false → _)); refine And.intro (fun _ => ?_) (fun _ => ?_)))
/-! ### the law: the rest -/
def T_tD (K : PySem.W.Frag) : TS :=
    (tSeq (tAsg (tTup (tCons (tOp (rI0 fun i j => .int (i - j)) (tCall (spS R_draw) [] E0 (tCons (tVar 1) (tCons (tVar 0) (tCons (tC (.int 9)) tNil)))) (tC (.int 4))) (tCons (tOp (rI0 fun i j => .int (i - j)) (tCall (spS R_draw) [] E0 (tCons (tVar 1) (tCons (tVar 0) (tCons (tC (.int 9)) tNil)))) (tC (.int 4))) tNil))) (gName 13))
    (tSeq (tIfS (tTest (tOp (rNeP K) (tCall (spP R.R_ring) [] E0 (tCons (tLc (iList K (tVar 6)) (gTup K 2 (gCons (gName 11) (gCons (gName 12) gNil))) tYes (tTup (tCons (tOp (rPlus K) (tVar 11) (tOp (rIxA K) (tVar 13) (tC (.int 0)))) (tCons (tOp (rPlus K) (tVar 12) (tOp (rIxA K) (tVar 13) (tC (.int 1)))) tNil))) [11, 12]) tNil)) (tLc (iList K (tVar 10)) (gTup K 2 (gCons (gName 11) (gCons (gName 12) gNil))) tYes (tTup (tCons (tOp (rPlus K) (tVar 11) (tOp (rIxA K) (tVar 13) (tC (.int 0)))) (tCons (tOp (rPlus K) (tVar 12) (tOp (rIxA K) (tVar 13) (tC (.int 1)))) tNil))) [11, 12])))
      (tRet (tC (.bl false)))
      tNext)
    (tSeq (tAsg (tCall (spP R.R_ring) [] E0 (tCons (tLc (iList K (tVar 6)) (gTup K 2 (gCons (gName 11) (gCons (gName 12) gNil))) tYes (tTup (tCons (tOp (rI0 fun i j => .int (i - j)) (tC (.int 0)) (tVar 11)) (tCons (tVar 12) tNil))) [11, 12]) tNil)) (gName 14))
    (tSeq (tIfS (tOr (tTest (tOp (rNeP K) (tCB (rSrD K) (tCons (tVar 14) tNil)) (tCB (rSrD K) (tCons (tLc (iList K (tVar 10)) (gTup K 2 (gCons (gName 11) (gCons (gName 12) gNil))) tYes (tTup (tCons (tOp (rI0 fun i j => .int (i - j)) (tC (.int 0)) (tVar 11)) (tCons (tVar 12) tNil))) [11, 12]) tNil)))) (tTest (tOp (rNeP K) (tCall (spP R.R_area) [] E0 (tCons (tVar 14) tNil)) (tCall (spP R.R_area) [] E0 (tCons (tVar 10) tNil)))))
      (tRet (tC (.bl false)))
      tNext)
    (tSeq (tAsg (tCall (spP R.R_farthest) [] E0 (tCons (tVar 6) tNil)) (gTup K 3 (gCons (gName 15) (gCons (gName 16) (gCons (gName 17) gNil)))))
    (tSeq (tIfS (tOr (tTest (tOp (rNinP K) (tVar 16) (tVar 10))) (tOr (tTest (tOp (rNinP K) (tVar 17) (tVar 10))) (tTest (tOp (rNeP K) (tCall (spP R.R_farthest) [] E0 (tCons (tVar 10) tNil)) (tTup (tCons (tVar 15) (tCons (tVar 16) (tCons (tVar 17) tNil))))))))
      (tRet (tC (.bl false)))
      tNext)
    (tSeq (tFor (iRng1 (tCons (tC (.int 3)) tNil)) (gName 5)
      (tSeq (tAsg (tOp (rI0 fun i j => .int (i - j)) (tCall (spS R_draw) [] E0 (tCons (tVar 1) (tCons (tVar 0) (tCons (tC (.int 70)) tNil)))) (tC (.int 35))) (gName 11))
    (tSeq (tAsg (tOp (rI0 fun i j => .int (i - j)) (tCall (spS R_draw) [] E0 (tCons (tVar 1) (tCons (tVar 0) (tCons (tC (.int 70)) tNil)))) (tC (.int 35))) (gName 12))
    (tSeq (tAsg (tLst (tCons (tTup (tCons (tVar 11) (tCons (tVar 12) tNil))) (tCons (tTup (tCons (tOp (rPlus K) (tVar 11) (tC (.int 2))) (tCons (tVar 12) tNil))) (tCons (tTup (tCons (tOp (rPlus K) (tVar 11) (tC (.int 2))) (tCons (tOp (rPlus K) (tVar 12) (tC (.int 3))) tNil))) (tCons (tTup (tCons (tVar 11) (tCons (tOp (rPlus K) (tVar 12) (tC (.int 3))) tNil))) tNil))))) (gName 18))
    (tSeq (tAsg (tC (.bl false)) (gName 19))
    (tSeq (tFor (iRng1 (tCons (tCB (Pu.rLen K) (tCons (tVar 10) tNil)) tNil)) (gName 20)
      (tSeq (tAsg (tOp (rIxA K) (tVar 10) (tVar 20)) (gName 21))
    (tSeq (tAsg (tOp (rIxA K) (tVar 10) (tOp (rI (fun _ j => 0 < j) fun i j => .int (i % j)) (tOp (rPlus K) (tVar 20) (tC (.int 1))) (tCB (Pu.rLen K) (tCons (tVar 10) tNil)))) (gName 22))
    (tSeq (tAsg (tLc (iList K (tVar 18)) (gName 24) (tTest (tOp (rI0 fun i j => .bl (decide (j < i))) (tOp (rI0 fun i j => .int (i - j)) (tOp (rI CMul fun i j => .int (i * j)) (tOp (rI0 fun i j => .int (i - j)) (tOp (rIxA K) (tVar 22) (tC (.int 0))) (tOp (rIxA K) (tVar 21) (tC (.int 0)))) (tOp (rI0 fun i j => .int (i - j)) (tOp (rIxA K) (tVar 24) (tC (.int 1))) (tOp (rIxA K) (tVar 21) (tC (.int 1))))) (tOp (rI CMul fun i j => .int (i * j)) (tOp (rI0 fun i j => .int (i - j)) (tOp (rIxA K) (tVar 22) (tC (.int 1))) (tOp (rIxA K) (tVar 21) (tC (.int 1)))) (tOp (rI0 fun i j => .int (i - j)) (tOp (rIxA K) (tVar 24) (tC (.int 0))) (tOp (rIxA K) (tVar 21) (tC (.int 0)))))) (tC (.int 0)))) (tVar 24) [24]) (gName 23))
    (tAsg (tOrV (tVar 19) (tOp (rEqP K) (tVar 23) (tLst tNil))) (gName 19))))))
    (tSeq (tAsg (tLc (iList K (tVar 4)) (gTup K 2 (gCons (gName 7) (gCons (gName 8) gNil))) tYes (tOp (rIxA K) (tCall (spP R_hit) [] E0 (tCons (tVar 7) (tCons (tVar 3) (tCons (tVar 8) (tCons (tVar 18) tNil))))) (tC (.int 0))) [7, 8]) (gName 25))
    (tIfS (tOr (tAnd (tB (tVar 19)) (tTest (tOp (rInP K) (tC (.str "wind")) (tVar 25)))) (tTest (tOp (rNeP K) (tOp (rEqP K) (tOp (rIxA K) (tCall (spP R_safe) [] E0 (tCons (tVar 4) (tCons (tVar 3) (tCons (tLst (tCons (tVar 18) tNil)) tNil)))) (tC (.int 0))) (tLst (tCons (tC (.int 0)) tNil))) (tOp (rNinP K) (tC (.str "wind")) (tVar 25)))))
      (tRet (tC (.bl false)))
      tNext))))))))
    (tRet (tC (.bl true))))))))))
def T_tC (K : PySem.W.Frag) : TS :=
    (tSeq (tAsg (tCall (spP R.R_ring) [] E0 (tCons (tVar 6) tNil)) (gName 10))
    (tSeq (tIfS (tOr (tTest (tOp (rIsnt) (tCall (spP R.R_fault) [] E0 (tCons (tVar 6) (tCons (tVar 10) tNil))) (tC .non))) (tTest (tOp (rNotB) (tCall (spP R_conv) [] E0 (tCons (tVar 10) tNil)) (tC (.bl true)))))
      (tRet (tC (.bl false)))
      tNext)
    (tSeq (tFor (iList K (tVar 4)) (gTup K 2 (gCons (gName 7) (gCons (gName 8) gNil)))
      (tFor (iList K (tLst (tCons (tTup (tCons (tC (.int 0)) (tCons (tC (.int 0)) tNil))) (tCons (tOp (rIxA K) (tVar 3) (tC (.int 0))) (tCons (tOp (rIxA K) (tVar 3) (tC (.int 1))) (tCons (tTup (tCons (tC (.int 0)) (tCons (tOp (rI0 fun i j => .int (i - j)) (tVar 2) (tC (.int 1))) tNil))) tNil)))))) (gTup K 2 (gCons (gName 11) (gCons (gName 12) gNil)))
      (tIfS (tNot (tB (tCall (spP R.R_within) [] E0 (tCons (tVar 10) (tCons (tTup (tCons (tOp (rPlus K) (tOp (rIxA K) (tVar 7) (tC (.int 0))) (tOp (rI CMul fun i j => .int (i * j)) (tVar 8) (tVar 11))) (tCons (tOp (rPlus K) (tOp (rIxA K) (tVar 7) (tC (.int 1))) (tOp (rI CMul fun i j => .int (i * j)) (tVar 8) (tVar 12))) tNil))) tNil)))))
      (tRet (tC (.bl false)))
      tNext)))
    (tSeq (tAsg (tTup (tCons (tOp (rI0 fun i j => .int (i - j)) (tCall (spS R_draw) [] E0 (tCons (tVar 1) (tCons (tVar 0) (tCons (tC (.int 9)) tNil)))) (tC (.int 4))) (tCons (tOp (rI0 fun i j => .int (i - j)) (tCall (spS R_draw) [] E0 (tCons (tVar 1) (tCons (tVar 0) (tCons (tC (.int 9)) tNil)))) (tC (.int 4))) tNil))) (gName 13))
    (tSeq (tIfS (tTest (tOp (rNeP K) (tCall (spP R.R_ring) [] E0 (tCons (tLc (iList K (tVar 6)) (gTup K 2 (gCons (gName 11) (gCons (gName 12) gNil))) tYes (tTup (tCons (tOp (rPlus K) (tVar 11) (tOp (rIxA K) (tVar 13) (tC (.int 0)))) (tCons (tOp (rPlus K) (tVar 12) (tOp (rIxA K) (tVar 13) (tC (.int 1)))) tNil))) [11, 12]) tNil)) (tLc (iList K (tVar 10)) (gTup K 2 (gCons (gName 11) (gCons (gName 12) gNil))) tYes (tTup (tCons (tOp (rPlus K) (tVar 11) (tOp (rIxA K) (tVar 13) (tC (.int 0)))) (tCons (tOp (rPlus K) (tVar 12) (tOp (rIxA K) (tVar 13) (tC (.int 1)))) tNil))) [11, 12])))
      (tRet (tC (.bl false)))
      tNext)
    (tSeq (tAsg (tCall (spP R.R_ring) [] E0 (tCons (tLc (iList K (tVar 6)) (gTup K 2 (gCons (gName 11) (gCons (gName 12) gNil))) tYes (tTup (tCons (tOp (rI0 fun i j => .int (i - j)) (tC (.int 0)) (tVar 11)) (tCons (tVar 12) tNil))) [11, 12]) tNil)) (gName 14))
    (tSeq (tIfS (tOr (tTest (tOp (rNeP K) (tCB (rSrD K) (tCons (tVar 14) tNil)) (tCB (rSrD K) (tCons (tLc (iList K (tVar 10)) (gTup K 2 (gCons (gName 11) (gCons (gName 12) gNil))) tYes (tTup (tCons (tOp (rI0 fun i j => .int (i - j)) (tC (.int 0)) (tVar 11)) (tCons (tVar 12) tNil))) [11, 12]) tNil)))) (tTest (tOp (rNeP K) (tCall (spP R.R_area) [] E0 (tCons (tVar 14) tNil)) (tCall (spP R.R_area) [] E0 (tCons (tVar 10) tNil)))))
      (tRet (tC (.bl false)))
      tNext)
    (tSeq (tAsg (tCall (spP R.R_farthest) [] E0 (tCons (tVar 6) tNil)) (gTup K 3 (gCons (gName 15) (gCons (gName 16) (gCons (gName 17) gNil)))))
    (tSeq (tIfS (tOr (tTest (tOp (rNinP K) (tVar 16) (tVar 10))) (tOr (tTest (tOp (rNinP K) (tVar 17) (tVar 10))) (tTest (tOp (rNeP K) (tCall (spP R.R_farthest) [] E0 (tCons (tVar 10) tNil)) (tTup (tCons (tVar 15) (tCons (tVar 16) (tCons (tVar 17) tNil))))))))
      (tRet (tC (.bl false)))
      tNext)
    (tSeq (tFor (iRng1 (tCons (tC (.int 3)) tNil)) (gName 5)
      (tSeq (tAsg (tOp (rI0 fun i j => .int (i - j)) (tCall (spS R_draw) [] E0 (tCons (tVar 1) (tCons (tVar 0) (tCons (tC (.int 70)) tNil)))) (tC (.int 35))) (gName 11))
    (tSeq (tAsg (tOp (rI0 fun i j => .int (i - j)) (tCall (spS R_draw) [] E0 (tCons (tVar 1) (tCons (tVar 0) (tCons (tC (.int 70)) tNil)))) (tC (.int 35))) (gName 12))
    (tSeq (tAsg (tLst (tCons (tTup (tCons (tVar 11) (tCons (tVar 12) tNil))) (tCons (tTup (tCons (tOp (rPlus K) (tVar 11) (tC (.int 2))) (tCons (tVar 12) tNil))) (tCons (tTup (tCons (tOp (rPlus K) (tVar 11) (tC (.int 2))) (tCons (tOp (rPlus K) (tVar 12) (tC (.int 3))) tNil))) (tCons (tTup (tCons (tVar 11) (tCons (tOp (rPlus K) (tVar 12) (tC (.int 3))) tNil))) tNil))))) (gName 18))
    (tSeq (tAsg (tC (.bl false)) (gName 19))
    (tSeq (tFor (iRng1 (tCons (tCB (Pu.rLen K) (tCons (tVar 10) tNil)) tNil)) (gName 20)
      (tSeq (tAsg (tOp (rIxA K) (tVar 10) (tVar 20)) (gName 21))
    (tSeq (tAsg (tOp (rIxA K) (tVar 10) (tOp (rI (fun _ j => 0 < j) fun i j => .int (i % j)) (tOp (rPlus K) (tVar 20) (tC (.int 1))) (tCB (Pu.rLen K) (tCons (tVar 10) tNil)))) (gName 22))
    (tSeq (tAsg (tLc (iList K (tVar 18)) (gName 24) (tTest (tOp (rI0 fun i j => .bl (decide (j < i))) (tOp (rI0 fun i j => .int (i - j)) (tOp (rI CMul fun i j => .int (i * j)) (tOp (rI0 fun i j => .int (i - j)) (tOp (rIxA K) (tVar 22) (tC (.int 0))) (tOp (rIxA K) (tVar 21) (tC (.int 0)))) (tOp (rI0 fun i j => .int (i - j)) (tOp (rIxA K) (tVar 24) (tC (.int 1))) (tOp (rIxA K) (tVar 21) (tC (.int 1))))) (tOp (rI CMul fun i j => .int (i * j)) (tOp (rI0 fun i j => .int (i - j)) (tOp (rIxA K) (tVar 22) (tC (.int 1))) (tOp (rIxA K) (tVar 21) (tC (.int 1)))) (tOp (rI0 fun i j => .int (i - j)) (tOp (rIxA K) (tVar 24) (tC (.int 0))) (tOp (rIxA K) (tVar 21) (tC (.int 0)))))) (tC (.int 0)))) (tVar 24) [24]) (gName 23))
    (tAsg (tOrV (tVar 19) (tOp (rEqP K) (tVar 23) (tLst tNil))) (gName 19))))))
    (tSeq (tAsg (tLc (iList K (tVar 4)) (gTup K 2 (gCons (gName 7) (gCons (gName 8) gNil))) tYes (tOp (rIxA K) (tCall (spP R_hit) [] E0 (tCons (tVar 7) (tCons (tVar 3) (tCons (tVar 8) (tCons (tVar 18) tNil))))) (tC (.int 0))) [7, 8]) (gName 25))
    (tIfS (tOr (tAnd (tB (tVar 19)) (tTest (tOp (rInP K) (tC (.str "wind")) (tVar 25)))) (tTest (tOp (rNeP K) (tOp (rEqP K) (tOp (rIxA K) (tCall (spP R_safe) [] E0 (tCons (tVar 4) (tCons (tVar 3) (tCons (tLst (tCons (tVar 18) tNil)) tNil)))) (tC (.int 0))) (tLst (tCons (tC (.int 0)) tNil))) (tOp (rNinP K) (tC (.str "wind")) (tVar 25)))))
      (tRet (tC (.bl false)))
      tNext))))))))
    (tRet (tC (.bl true)))))))))))))
def T_tB (K : PySem.W.Frag) : TS :=
    (tSeq (tAsg (tLst tNil) (gName 6))
    (tSeq (tFor (iList K (tVar 4)) (gTup K 2 (gCons (gName 7) (gCons (gName 8) gNil)))
      (tSeq (tAsg (tCall (spP R_fall) [] E0 (tCons (tVar 7) (tCons (tVar 3) (tCons (tVar 8) tNil)))) (gName 9))
    (tSeq (tAsg (tCall (spP R.R_ring) [] E0 (tCons (tVar 9) tNil)) (gName 10))
    (tSeq (tIfS (tOr (tTest (tOp (rNeP K) (tCB (rSrD K) (tCons (tVar 10) tNil)) (tCB (rSrD K) (tCons (tVar 9) tNil)))) (tOr (tTest (tOp (rNotB) (tCall (spP R_conv) [] E0 (tCons (tVar 10) tNil)) (tC (.bl true)))) (tTest (tOp (rNeP K) (tCall (spP R.R_area) [] E0 (tCons (tVar 10) tNil)) (tOp (rI CMul fun i j => .int (i * j)) (tOp (rI CMul fun i j => .int (i * j)) (tVar 8) (tVar 8)) (tCall (spP R.R_area) [] E0 (tCons (tVar 3) tNil)))))))
      (tRet (tC (.bl false)))
      tNext)
    (tAsg (tOp (rPlus K) (tVar 6) (tVar 9)) (gName 6))))))
    (tSeq (tAsg (tCall (spP R.R_ring) [] E0 (tCons (tVar 6) tNil)) (gName 10))
    (tSeq (tIfS (tOr (tTest (tOp (rIsnt) (tCall (spP R.R_fault) [] E0 (tCons (tVar 6) (tCons (tVar 10) tNil))) (tC .non))) (tTest (tOp (rNotB) (tCall (spP R_conv) [] E0 (tCons (tVar 10) tNil)) (tC (.bl true)))))
      (tRet (tC (.bl false)))
      tNext)
    (tSeq (tFor (iList K (tVar 4)) (gTup K 2 (gCons (gName 7) (gCons (gName 8) gNil)))
      (tFor (iList K (tLst (tCons (tTup (tCons (tC (.int 0)) (tCons (tC (.int 0)) tNil))) (tCons (tOp (rIxA K) (tVar 3) (tC (.int 0))) (tCons (tOp (rIxA K) (tVar 3) (tC (.int 1))) (tCons (tTup (tCons (tC (.int 0)) (tCons (tOp (rI0 fun i j => .int (i - j)) (tVar 2) (tC (.int 1))) tNil))) tNil)))))) (gTup K 2 (gCons (gName 11) (gCons (gName 12) gNil)))
      (tIfS (tNot (tB (tCall (spP R.R_within) [] E0 (tCons (tVar 10) (tCons (tTup (tCons (tOp (rPlus K) (tOp (rIxA K) (tVar 7) (tC (.int 0))) (tOp (rI CMul fun i j => .int (i * j)) (tVar 8) (tVar 11))) (tCons (tOp (rPlus K) (tOp (rIxA K) (tVar 7) (tC (.int 1))) (tOp (rI CMul fun i j => .int (i * j)) (tVar 8) (tVar 12))) tNil))) tNil)))))
      (tRet (tC (.bl false)))
      tNext)))
    (tSeq (tAsg (tTup (tCons (tOp (rI0 fun i j => .int (i - j)) (tCall (spS R_draw) [] E0 (tCons (tVar 1) (tCons (tVar 0) (tCons (tC (.int 9)) tNil)))) (tC (.int 4))) (tCons (tOp (rI0 fun i j => .int (i - j)) (tCall (spS R_draw) [] E0 (tCons (tVar 1) (tCons (tVar 0) (tCons (tC (.int 9)) tNil)))) (tC (.int 4))) tNil))) (gName 13))
    (tSeq (tIfS (tTest (tOp (rNeP K) (tCall (spP R.R_ring) [] E0 (tCons (tLc (iList K (tVar 6)) (gTup K 2 (gCons (gName 11) (gCons (gName 12) gNil))) tYes (tTup (tCons (tOp (rPlus K) (tVar 11) (tOp (rIxA K) (tVar 13) (tC (.int 0)))) (tCons (tOp (rPlus K) (tVar 12) (tOp (rIxA K) (tVar 13) (tC (.int 1)))) tNil))) [11, 12]) tNil)) (tLc (iList K (tVar 10)) (gTup K 2 (gCons (gName 11) (gCons (gName 12) gNil))) tYes (tTup (tCons (tOp (rPlus K) (tVar 11) (tOp (rIxA K) (tVar 13) (tC (.int 0)))) (tCons (tOp (rPlus K) (tVar 12) (tOp (rIxA K) (tVar 13) (tC (.int 1)))) tNil))) [11, 12])))
      (tRet (tC (.bl false)))
      tNext)
    (tSeq (tAsg (tCall (spP R.R_ring) [] E0 (tCons (tLc (iList K (tVar 6)) (gTup K 2 (gCons (gName 11) (gCons (gName 12) gNil))) tYes (tTup (tCons (tOp (rI0 fun i j => .int (i - j)) (tC (.int 0)) (tVar 11)) (tCons (tVar 12) tNil))) [11, 12]) tNil)) (gName 14))
    (tSeq (tIfS (tOr (tTest (tOp (rNeP K) (tCB (rSrD K) (tCons (tVar 14) tNil)) (tCB (rSrD K) (tCons (tLc (iList K (tVar 10)) (gTup K 2 (gCons (gName 11) (gCons (gName 12) gNil))) tYes (tTup (tCons (tOp (rI0 fun i j => .int (i - j)) (tC (.int 0)) (tVar 11)) (tCons (tVar 12) tNil))) [11, 12]) tNil)))) (tTest (tOp (rNeP K) (tCall (spP R.R_area) [] E0 (tCons (tVar 14) tNil)) (tCall (spP R.R_area) [] E0 (tCons (tVar 10) tNil)))))
      (tRet (tC (.bl false)))
      tNext)
    (tSeq (tAsg (tCall (spP R.R_farthest) [] E0 (tCons (tVar 6) tNil)) (gTup K 3 (gCons (gName 15) (gCons (gName 16) (gCons (gName 17) gNil)))))
    (tSeq (tIfS (tOr (tTest (tOp (rNinP K) (tVar 16) (tVar 10))) (tOr (tTest (tOp (rNinP K) (tVar 17) (tVar 10))) (tTest (tOp (rNeP K) (tCall (spP R.R_farthest) [] E0 (tCons (tVar 10) tNil)) (tTup (tCons (tVar 15) (tCons (tVar 16) (tCons (tVar 17) tNil))))))))
      (tRet (tC (.bl false)))
      tNext)
    (tSeq (tFor (iRng1 (tCons (tC (.int 3)) tNil)) (gName 5)
      (tSeq (tAsg (tOp (rI0 fun i j => .int (i - j)) (tCall (spS R_draw) [] E0 (tCons (tVar 1) (tCons (tVar 0) (tCons (tC (.int 70)) tNil)))) (tC (.int 35))) (gName 11))
    (tSeq (tAsg (tOp (rI0 fun i j => .int (i - j)) (tCall (spS R_draw) [] E0 (tCons (tVar 1) (tCons (tVar 0) (tCons (tC (.int 70)) tNil)))) (tC (.int 35))) (gName 12))
    (tSeq (tAsg (tLst (tCons (tTup (tCons (tVar 11) (tCons (tVar 12) tNil))) (tCons (tTup (tCons (tOp (rPlus K) (tVar 11) (tC (.int 2))) (tCons (tVar 12) tNil))) (tCons (tTup (tCons (tOp (rPlus K) (tVar 11) (tC (.int 2))) (tCons (tOp (rPlus K) (tVar 12) (tC (.int 3))) tNil))) (tCons (tTup (tCons (tVar 11) (tCons (tOp (rPlus K) (tVar 12) (tC (.int 3))) tNil))) tNil))))) (gName 18))
    (tSeq (tAsg (tC (.bl false)) (gName 19))
    (tSeq (tFor (iRng1 (tCons (tCB (Pu.rLen K) (tCons (tVar 10) tNil)) tNil)) (gName 20)
      (tSeq (tAsg (tOp (rIxA K) (tVar 10) (tVar 20)) (gName 21))
    (tSeq (tAsg (tOp (rIxA K) (tVar 10) (tOp (rI (fun _ j => 0 < j) fun i j => .int (i % j)) (tOp (rPlus K) (tVar 20) (tC (.int 1))) (tCB (Pu.rLen K) (tCons (tVar 10) tNil)))) (gName 22))
    (tSeq (tAsg (tLc (iList K (tVar 18)) (gName 24) (tTest (tOp (rI0 fun i j => .bl (decide (j < i))) (tOp (rI0 fun i j => .int (i - j)) (tOp (rI CMul fun i j => .int (i * j)) (tOp (rI0 fun i j => .int (i - j)) (tOp (rIxA K) (tVar 22) (tC (.int 0))) (tOp (rIxA K) (tVar 21) (tC (.int 0)))) (tOp (rI0 fun i j => .int (i - j)) (tOp (rIxA K) (tVar 24) (tC (.int 1))) (tOp (rIxA K) (tVar 21) (tC (.int 1))))) (tOp (rI CMul fun i j => .int (i * j)) (tOp (rI0 fun i j => .int (i - j)) (tOp (rIxA K) (tVar 22) (tC (.int 1))) (tOp (rIxA K) (tVar 21) (tC (.int 1)))) (tOp (rI0 fun i j => .int (i - j)) (tOp (rIxA K) (tVar 24) (tC (.int 0))) (tOp (rIxA K) (tVar 21) (tC (.int 0)))))) (tC (.int 0)))) (tVar 24) [24]) (gName 23))
    (tAsg (tOrV (tVar 19) (tOp (rEqP K) (tVar 23) (tLst tNil))) (gName 19))))))
    (tSeq (tAsg (tLc (iList K (tVar 4)) (gTup K 2 (gCons (gName 7) (gCons (gName 8) gNil))) tYes (tOp (rIxA K) (tCall (spP R_hit) [] E0 (tCons (tVar 7) (tCons (tVar 3) (tCons (tVar 8) (tCons (tVar 18) tNil))))) (tC (.int 0))) [7, 8]) (gName 25))
    (tIfS (tOr (tAnd (tB (tVar 19)) (tTest (tOp (rInP K) (tC (.str "wind")) (tVar 25)))) (tTest (tOp (rNeP K) (tOp (rEqP K) (tOp (rIxA K) (tCall (spP R_safe) [] E0 (tCons (tVar 4) (tCons (tVar 3) (tCons (tLst (tCons (tVar 18) tNil)) tNil)))) (tC (.int 0))) (tLst (tCons (tC (.int 0)) tNil))) (tOp (rNinP K) (tC (.str "wind")) (tVar 25)))))
      (tRet (tC (.bl false)))
      tNext))))))))
    (tRet (tC (.bl true)))))))))))))))
def T_tA (K : PySem.W.Frag) : TS :=
    (tSeq (tAsg (tLc (iRng1 (tCons (tOp (rPlus K) (tC (.int 1)) (tCall (spS R_draw) [] E0 (tCons (tVar 1) (tCons (tVar 0) (tCons (tC (.int 4)) tNil))))) tNil)) (gName 5) tYes (tTup (tCons (tTup (tCons (tOp (rI0 fun i j => .int (i - j)) (tCall (spS R_draw) [] E0 (tCons (tVar 1) (tCons (tVar 0) (tCons (tC (.int 20)) tNil)))) (tC (.int 10))) (tCons (tOp (rI0 fun i j => .int (i - j)) (tCall (spS R_draw) [] E0 (tCons (tVar 1) (tCons (tVar 0) (tCons (tC (.int 20)) tNil)))) (tC (.int 10))) tNil))) (tCons (tOp (rPlus K) (tC (.int 1)) (tCall (spS R_draw) [] E0 (tCons (tVar 1) (tCons (tVar 0) (tCons (tC (.int 6)) tNil))))) tNil))) [5]) (gName 4))
    (tSeq (tAsg (tLst tNil) (gName 6))
    (tSeq (tFor (iList K (tVar 4)) (gTup K 2 (gCons (gName 7) (gCons (gName 8) gNil)))
      (tSeq (tAsg (tCall (spP R_fall) [] E0 (tCons (tVar 7) (tCons (tVar 3) (tCons (tVar 8) tNil)))) (gName 9))
    (tSeq (tAsg (tCall (spP R.R_ring) [] E0 (tCons (tVar 9) tNil)) (gName 10))
    (tSeq (tIfS (tOr (tTest (tOp (rNeP K) (tCB (rSrD K) (tCons (tVar 10) tNil)) (tCB (rSrD K) (tCons (tVar 9) tNil)))) (tOr (tTest (tOp (rNotB) (tCall (spP R_conv) [] E0 (tCons (tVar 10) tNil)) (tC (.bl true)))) (tTest (tOp (rNeP K) (tCall (spP R.R_area) [] E0 (tCons (tVar 10) tNil)) (tOp (rI CMul fun i j => .int (i * j)) (tOp (rI CMul fun i j => .int (i * j)) (tVar 8) (tVar 8)) (tCall (spP R.R_area) [] E0 (tCons (tVar 3) tNil)))))))
      (tRet (tC (.bl false)))
      tNext)
    (tAsg (tOp (rPlus K) (tVar 6) (tVar 9)) (gName 6))))))
    (tSeq (tAsg (tCall (spP R.R_ring) [] E0 (tCons (tVar 6) tNil)) (gName 10))
    (tSeq (tIfS (tOr (tTest (tOp (rIsnt) (tCall (spP R.R_fault) [] E0 (tCons (tVar 6) (tCons (tVar 10) tNil))) (tC .non))) (tTest (tOp (rNotB) (tCall (spP R_conv) [] E0 (tCons (tVar 10) tNil)) (tC (.bl true)))))
      (tRet (tC (.bl false)))
      tNext)
    (tSeq (tFor (iList K (tVar 4)) (gTup K 2 (gCons (gName 7) (gCons (gName 8) gNil)))
      (tFor (iList K (tLst (tCons (tTup (tCons (tC (.int 0)) (tCons (tC (.int 0)) tNil))) (tCons (tOp (rIxA K) (tVar 3) (tC (.int 0))) (tCons (tOp (rIxA K) (tVar 3) (tC (.int 1))) (tCons (tTup (tCons (tC (.int 0)) (tCons (tOp (rI0 fun i j => .int (i - j)) (tVar 2) (tC (.int 1))) tNil))) tNil)))))) (gTup K 2 (gCons (gName 11) (gCons (gName 12) gNil)))
      (tIfS (tNot (tB (tCall (spP R.R_within) [] E0 (tCons (tVar 10) (tCons (tTup (tCons (tOp (rPlus K) (tOp (rIxA K) (tVar 7) (tC (.int 0))) (tOp (rI CMul fun i j => .int (i * j)) (tVar 8) (tVar 11))) (tCons (tOp (rPlus K) (tOp (rIxA K) (tVar 7) (tC (.int 1))) (tOp (rI CMul fun i j => .int (i * j)) (tVar 8) (tVar 12))) tNil))) tNil)))))
      (tRet (tC (.bl false)))
      tNext)))
    (tSeq (tAsg (tTup (tCons (tOp (rI0 fun i j => .int (i - j)) (tCall (spS R_draw) [] E0 (tCons (tVar 1) (tCons (tVar 0) (tCons (tC (.int 9)) tNil)))) (tC (.int 4))) (tCons (tOp (rI0 fun i j => .int (i - j)) (tCall (spS R_draw) [] E0 (tCons (tVar 1) (tCons (tVar 0) (tCons (tC (.int 9)) tNil)))) (tC (.int 4))) tNil))) (gName 13))
    (tSeq (tIfS (tTest (tOp (rNeP K) (tCall (spP R.R_ring) [] E0 (tCons (tLc (iList K (tVar 6)) (gTup K 2 (gCons (gName 11) (gCons (gName 12) gNil))) tYes (tTup (tCons (tOp (rPlus K) (tVar 11) (tOp (rIxA K) (tVar 13) (tC (.int 0)))) (tCons (tOp (rPlus K) (tVar 12) (tOp (rIxA K) (tVar 13) (tC (.int 1)))) tNil))) [11, 12]) tNil)) (tLc (iList K (tVar 10)) (gTup K 2 (gCons (gName 11) (gCons (gName 12) gNil))) tYes (tTup (tCons (tOp (rPlus K) (tVar 11) (tOp (rIxA K) (tVar 13) (tC (.int 0)))) (tCons (tOp (rPlus K) (tVar 12) (tOp (rIxA K) (tVar 13) (tC (.int 1)))) tNil))) [11, 12])))
      (tRet (tC (.bl false)))
      tNext)
    (tSeq (tAsg (tCall (spP R.R_ring) [] E0 (tCons (tLc (iList K (tVar 6)) (gTup K 2 (gCons (gName 11) (gCons (gName 12) gNil))) tYes (tTup (tCons (tOp (rI0 fun i j => .int (i - j)) (tC (.int 0)) (tVar 11)) (tCons (tVar 12) tNil))) [11, 12]) tNil)) (gName 14))
    (tSeq (tIfS (tOr (tTest (tOp (rNeP K) (tCB (rSrD K) (tCons (tVar 14) tNil)) (tCB (rSrD K) (tCons (tLc (iList K (tVar 10)) (gTup K 2 (gCons (gName 11) (gCons (gName 12) gNil))) tYes (tTup (tCons (tOp (rI0 fun i j => .int (i - j)) (tC (.int 0)) (tVar 11)) (tCons (tVar 12) tNil))) [11, 12]) tNil)))) (tTest (tOp (rNeP K) (tCall (spP R.R_area) [] E0 (tCons (tVar 14) tNil)) (tCall (spP R.R_area) [] E0 (tCons (tVar 10) tNil)))))
      (tRet (tC (.bl false)))
      tNext)
    (tSeq (tAsg (tCall (spP R.R_farthest) [] E0 (tCons (tVar 6) tNil)) (gTup K 3 (gCons (gName 15) (gCons (gName 16) (gCons (gName 17) gNil)))))
    (tSeq (tIfS (tOr (tTest (tOp (rNinP K) (tVar 16) (tVar 10))) (tOr (tTest (tOp (rNinP K) (tVar 17) (tVar 10))) (tTest (tOp (rNeP K) (tCall (spP R.R_farthest) [] E0 (tCons (tVar 10) tNil)) (tTup (tCons (tVar 15) (tCons (tVar 16) (tCons (tVar 17) tNil))))))))
      (tRet (tC (.bl false)))
      tNext)
    (tSeq (tFor (iRng1 (tCons (tC (.int 3)) tNil)) (gName 5)
      (tSeq (tAsg (tOp (rI0 fun i j => .int (i - j)) (tCall (spS R_draw) [] E0 (tCons (tVar 1) (tCons (tVar 0) (tCons (tC (.int 70)) tNil)))) (tC (.int 35))) (gName 11))
    (tSeq (tAsg (tOp (rI0 fun i j => .int (i - j)) (tCall (spS R_draw) [] E0 (tCons (tVar 1) (tCons (tVar 0) (tCons (tC (.int 70)) tNil)))) (tC (.int 35))) (gName 12))
    (tSeq (tAsg (tLst (tCons (tTup (tCons (tVar 11) (tCons (tVar 12) tNil))) (tCons (tTup (tCons (tOp (rPlus K) (tVar 11) (tC (.int 2))) (tCons (tVar 12) tNil))) (tCons (tTup (tCons (tOp (rPlus K) (tVar 11) (tC (.int 2))) (tCons (tOp (rPlus K) (tVar 12) (tC (.int 3))) tNil))) (tCons (tTup (tCons (tVar 11) (tCons (tOp (rPlus K) (tVar 12) (tC (.int 3))) tNil))) tNil))))) (gName 18))
    (tSeq (tAsg (tC (.bl false)) (gName 19))
    (tSeq (tFor (iRng1 (tCons (tCB (Pu.rLen K) (tCons (tVar 10) tNil)) tNil)) (gName 20)
      (tSeq (tAsg (tOp (rIxA K) (tVar 10) (tVar 20)) (gName 21))
    (tSeq (tAsg (tOp (rIxA K) (tVar 10) (tOp (rI (fun _ j => 0 < j) fun i j => .int (i % j)) (tOp (rPlus K) (tVar 20) (tC (.int 1))) (tCB (Pu.rLen K) (tCons (tVar 10) tNil)))) (gName 22))
    (tSeq (tAsg (tLc (iList K (tVar 18)) (gName 24) (tTest (tOp (rI0 fun i j => .bl (decide (j < i))) (tOp (rI0 fun i j => .int (i - j)) (tOp (rI CMul fun i j => .int (i * j)) (tOp (rI0 fun i j => .int (i - j)) (tOp (rIxA K) (tVar 22) (tC (.int 0))) (tOp (rIxA K) (tVar 21) (tC (.int 0)))) (tOp (rI0 fun i j => .int (i - j)) (tOp (rIxA K) (tVar 24) (tC (.int 1))) (tOp (rIxA K) (tVar 21) (tC (.int 1))))) (tOp (rI CMul fun i j => .int (i * j)) (tOp (rI0 fun i j => .int (i - j)) (tOp (rIxA K) (tVar 22) (tC (.int 1))) (tOp (rIxA K) (tVar 21) (tC (.int 1)))) (tOp (rI0 fun i j => .int (i - j)) (tOp (rIxA K) (tVar 24) (tC (.int 0))) (tOp (rIxA K) (tVar 21) (tC (.int 0)))))) (tC (.int 0)))) (tVar 24) [24]) (gName 23))
    (tAsg (tOrV (tVar 19) (tOp (rEqP K) (tVar 23) (tLst tNil))) (gName 19))))))
    (tSeq (tAsg (tLc (iList K (tVar 4)) (gTup K 2 (gCons (gName 7) (gCons (gName 8) gNil))) tYes (tOp (rIxA K) (tCall (spP R_hit) [] E0 (tCons (tVar 7) (tCons (tVar 3) (tCons (tVar 8) (tCons (tVar 18) tNil))))) (tC (.int 0))) [7, 8]) (gName 25))
    (tIfS (tOr (tAnd (tB (tVar 19)) (tTest (tOp (rInP K) (tC (.str "wind")) (tVar 25)))) (tTest (tOp (rNeP K) (tOp (rEqP K) (tOp (rIxA K) (tCall (spP R_safe) [] E0 (tCons (tVar 4) (tCons (tVar 3) (tCons (tLst (tCons (tVar 18) tNil)) tNil)))) (tC (.int 0))) (tLst (tCons (tC (.int 0)) tNil))) (tOp (rNinP K) (tC (.str "wind")) (tVar 25)))))
      (tRet (tC (.bl false)))
      tNext))))))))
    (tRet (tC (.bl true))))))))))))))))
theorem depth_1' (p q : Pt) : min (encP p).depth (encP q).depth ≤ 60 := Nat.le_trans (Nat.min_le_left _ _) (by simp [encP, PyData.depth, PyData.depthAll])
theorem t3_dep (t : R.T3) : (R.t3D t).depth ≤ 60 := DpN.up (n := 2) (m := 60) (dpn_tup (n := 1) (dpn_cons dpn_int (dpn_cons (dpn_tup (n := 0) (dpn_cons dpn_int (dpn_cons dpn_int dpn_nil))) (dpn_cons (dpn_tup (n := 0) (dpn_cons dpn_int (dpn_cons dpn_int dpn_nil))) dpn_nil)))) (by decide)
theorem sx_tE (K : PySem.W.Frag) (Z : D → Prop) (z : Z (.bool true)) {ns : List Int} {S0 : Stt} (ok0 : Ok2 S0) {n : Int} {W : List Pt} {pcs : List Pc} (S : Scn n W pcs) :
    SX (T_tE K) [.val (.list (ns.map .int)), .st S0, .emp, .val (.list (W.map encP)), .val (.list (pcs.map encC)), .emp, .val (.list ((csF W pcs).map encP)), .emp, .emp, .emp, .val (.list ((R.ringOf (R.srt (csF W pcs))).map encP)), .emp, .emp, .emp, .emp, .emp, .emp, .emp, .emp, .emp, .emp, .emp, .emp, .emp, .emp, .emp] { nx := fun _ => Z .none, rt := fun d _ => Z d } := by
  have tF := @sx_tF K Z z ns S0 ok0 n W pcs S
  have G := cs_Ring S
  have sm := cs_sm S
  have cl := cs_len S
  have rg := cs_rgd S
  have ne : csF W pcs ≠ [] := fun e => by
    have h3 := G.n3
    rw [e] at h3
    have : (R.ringOf (R.srt ([] : List Pt))).length = 0 := rfl
    omega
  have ne2 : R.ringOf (R.srt (csF W pcs)) ≠ [] := fun e => by
    have := G.n3
    rw [e] at this
    simp at this
  unfold T_tE
  change SX (tSeq _ (tSeq _ (T_tF K))) _ _
  generalize T_tF K = T at tF ⊢
  refine sx_seq (sx_asgT (J := [15, 16, 17]) ?_)
  walk_at "es"
  refine ⟨csF W pcs, rfl, ne, sm, by omega, fun o ho => ?_⟩
  obtain ⟨t, rfl, t1, t2⟩ := far_some G ho
  obtain ⟨tf, ta, tb⟩ := t
  simp only at t1 t2
  rw [Option.getD_some]
  refine sg_tup rfl (sgs_cons (sg_name (by simp) (sgs_cons (sg_name (by simp) (sgs_cons (sg_name (by simp) (sgs_nil ?_)))))))
  refine nx_seq ?_
  walk_at "w"
  refine sx_seq (sx_if (et_val false ?_ ⟨(fun h => by cases h), fun _ => ?_⟩))
  · walk_at "es"
    refine R.nin_P ?_
    rw [decide_eq_true t1]
    refine ⟨_, rfl, (fun h => by cases h), fun _ => ?_⟩
    walk_at "es"
    refine R.nin_P ?_
    rw [decide_eq_true t2]
    refine ⟨_, rfl, (fun h => by cases h), fun _ => ?_⟩
    walk_at "es"
    refine ⟨_, rfl, ne2, rg.1, rg.2.1, fun o2 h2 => ?_⟩
    rw [far_again ho h2, Option.getD_some]
    refine ex_val (R.t3D (tf, ta, tb)) ?_ ?_
    · walk_at "es"
      exact ⟨rfl, rfl⟩
    · refine opd_neSelf (t3_dep _) ?_
      exact ⟨_, rfl, rfl, rfl⟩
  refine sx_next (nx_seq ?_)
  refine sx_weak ?_ tF
  walk_at "le"
theorem mi_sm {x : Pt} (h : R.Sm x) : R.Sm (mi x) := by unfold R.Sm mi at *; simp only; omega
theorem sx_tD (K : PySem.W.Frag) (Z : D → Prop) (z : Z (.bool true)) {ns : List Int} {S0 : Stt} (ok0 : Ok2 S0) {n : Int} {W : List Pt} {pcs : List Pc} (S : Scn n W pcs) :
    SX (T_tD K) [.val (.list (ns.map .int)), .st S0, .emp, .val (.list (W.map encP)), .val (.list (pcs.map encC)), .emp, .val (.list ((csF W pcs).map encP)), .emp, .emp, .emp, .val (.list ((R.ringOf (R.srt (csF W pcs))).map encP)), .emp, .emp, .emp, .emp, .emp, .emp, .emp, .emp, .emp, .emp, .emp, .emp, .emp, .emp, .emp] { nx := fun _ => Z .none, rt := fun d _ => Z d } := by
  have tE := fun {S0} ok0 => @sx_tE K Z z ns S0 ok0 n W pcs S
  have G := cs_Ring S
  have csn := cs_nr S
  have sm := cs_sm S
  have cl := cs_len S
  have rg := cs_rgd S
  have rl := rg.2.1
  unfold T_tD
  change SX (tSeq _ (tSeq _ (tSeq _ (tSeq _ (T_tE K))))) _ _
  generalize T_tE K = T at tE ⊢
  walk_at "es"
  refine ⟨ns, 9, rfl, by omega, ok0, fun x S1 x0 x1 ok1 => ?_⟩
  walk_at "es"
  refine ⟨ns, 9, rfl, by omega, ok1, fun y S2 y0 y1 ok2 => ?_⟩
  walk_at "ei"
  have tE := tE ok2
  have gm := ring_mv (x - 4, y - 4) G
  have g1 := mi_Ring G
  have g2 := mi_ring_mem G
  have g3 := mi_area G
  generalize hr : R.ringOf (R.srt (csF W pcs)) = r at *
  generalize hc : csF W pcs = cs at *
  refine sx_seq (sx_if (et_val false ?_ ⟨(fun h => by cases h), fun _ => ?_⟩))
  · refine et_test (ex_op (ex_call (ea_cons (ex_of (eo_lcP (α := Pt) (fun _ => true) (fun p => encP (mv (x - 4, y - 4) p)) (ei_list ?_))))))
    walk_at "es"
    refine ⟨by omega, fun i hi => by simp at hi; rcases hi with rfl | rfl <;> rfl, fun p hp => sg_tup rfl (sgs_cons (sg_name (by simp) (sgs_cons (sg_name (by simp) (sgs_nil ⟨rfl, ?_⟩))))), ?_⟩
    · unfold encP mv
      walk_at "w"
      refine et_yes ⟨rfl, rfl, fun _ => ?_⟩
      walk_at "es"
      exact ⟨rfl, rfl⟩
    rw [filt_all, show (cs.map fun p => encP (mv (x - 4, y - 4) p)) = (cs.map (mv (x - 4, y - 4))).map encP by rw [List.map_map]; rfl]
    refine ea_nil ⟨_, rfl, fun p hp => ?_, by rw [List.length_map]; omega, ?_⟩
    · obtain ⟨q, hq, rfl⟩ := List.mem_map.mp hp
      have := csn q hq
      unfold Nr at this
      unfold R.Sm mv
      simp only
      omega
    rw [gm]
    refine ex_of (eo_lcP (α := Pt) (fun _ => true) (fun p => encP (mv (x - 4, y - 4) p)) (ei_list ?_))
    walk_at "es"
    refine ⟨by omega, fun i hi => by simp at hi; rcases hi with rfl | rfl <;> rfl, fun p hp => sg_tup rfl (sgs_cons (sg_name (by simp) (sgs_cons (sg_name (by simp) (sgs_nil ⟨rfl, ?_⟩))))), ?_⟩
    · unfold encP mv
      walk_at "w"
      refine et_yes ⟨rfl, rfl, fun _ => ?_⟩
      walk_at "es"
      exact ⟨rfl, rfl⟩
    rw [filt_all, show (r.map fun p => encP (mv (x - 4, y - 4) p)) = (r.map (mv (x - 4, y - 4))).map encP by rw [List.map_map]; rfl]
    refine opd_neP (depth_L _ _) ?_
    rw [eqv_LP, decide_eq_true rfl]
    exact ⟨_, rfl, rfl, rfl⟩
  refine sx_next (nx_seq ?_)
  refine sx_seq (sx_asg (ex_call (ea_cons (ex_of (eo_lcP (α := Pt) (fun _ => true) (fun p => encP (mi p)) (ei_list ?_))))))
  walk_at "es"
  refine ⟨by omega, fun i hi => by simp at hi; rcases hi with rfl | rfl <;> rfl, fun p hp => sg_tup rfl (sgs_cons (sg_name (by simp) (sgs_cons (sg_name (by simp) (sgs_nil ⟨rfl, ?_⟩))))), ?_⟩
  · unfold encP mi
    walk_at "w"
    refine et_yes ⟨rfl, rfl, fun _ => ?_⟩
    walk_at "es"
    exact ⟨rfl, rfl⟩
  rw [filt_all, show (cs.map fun p => encP (mi p)) = (cs.map mi).map encP by rw [List.map_map]; rfl]
  refine ea_nil ⟨_, rfl, fun p hp => ?_, by rw [List.length_map]; omega, ?_⟩
  · obtain ⟨q, hq, rfl⟩ := List.mem_map.mp hp
    exact mi_sm (sm q hq)
  refine nx_seq ?_
  walk_at "w"
  have rg2 : R.RgD (R.ringOf (R.srt (cs.map mi))) := R.rgd_of (fun p hp => by
    obtain ⟨q, hq, rfl⟩ := List.mem_map.mp hp
    exact mi_sm (sm q hq)) (by rw [List.length_map]; omega)
  generalize R.ringOf (R.srt (cs.map mi)) = r2 at *
  refine sx_seq (sx_if (et_val false ?_ ⟨(fun h => by cases h), fun _ => ?_⟩))
  · walk_at "es"
    refine cbd_sortP ?_
    walk_at "es"
    refine ex_of (eo_lcP (α := Pt) (fun _ => true) (fun p => encP (mi p)) (ei_list ?_))
    walk_at "es"
    refine ⟨by omega, fun i hi => by simp at hi; rcases hi with rfl | rfl <;> rfl, fun p hp => sg_tup rfl (sgs_cons (sg_name (by simp) (sgs_cons (sg_name (by simp) (sgs_nil ⟨rfl, ?_⟩))))), ?_⟩
    · unfold encP mi
      walk_at "w"
      refine et_yes ⟨rfl, rfl, fun _ => ?_⟩
      walk_at "es"
      exact ⟨rfl, rfl⟩
    rw [filt_all, show (r.map fun p => encP (mi p)) = (r.map mi).map encP by rw [List.map_map]; rfl]
    refine ea_nil (cbd_sortP ?_)
    have nd2 : (r.map mi).Nodup := by
      unfold List.Nodup
      rw [List.pairwise_map]
      refine (R.nd_at G.inj).imp fun {a b} h e => h ?_
      have := congrArg mi e
      rwa [mi_mi, mi_mi] at this
    rw [sort_same (R.nd_at g1.inj) nd2 fun p => by
      rw [g2 p, List.mem_map]
      exact ⟨fun ⟨q, hq, e⟩ => ⟨q, hq, e.symm⟩, fun ⟨q, hq, e⟩ => ⟨q, hq, e.symm⟩⟩]
    refine opd_neP (depth_L _ _) ?_
    rw [eqv_LP, decide_eq_true rfl]
    refine ⟨_, rfl, (fun h => by cases h), fun _ => ?_⟩
    walk_at "es"
    refine ⟨r2, rfl, rg2, ?_⟩
    walk_at "es"
    refine ⟨r, rfl, rg, ?_⟩
    rw [g3]
    walk_at "es"
    exact ⟨by simp, rfl⟩
  refine sx_next (nx_seq ?_)
  refine sx_weak ?_ tE
  walk_at "le"
end Law_k21
namespace Law_k21
open PySem L2 Pu
local macro_rules | `(tactic| walk_at "e") => `(tactic| first
  | ((with_reducible refine nx_seq ?_); (try dsimp only [List.set_cons_succ, List.set_cons_zero]))
  | ((with_reducible refine ex_vr ?_); dsimp only [VQ, List.set_cons_succ, List.set_cons_zero, List.getElem?_cons_zero, List.getElem?_cons_succ]; (fail_if_success (with_reducible show False)))
  | (with_reducible refine sx_seq ?_)
  | (with_reducible refine sx_if ?_)
  | (with_reducible refine sx_next ?_)
  | (with_reducible refine sx_ret ?_)
  | ((fail_if_success (with_reducible refine sx_asgO (eo_lst ?_))); (with_reducible refine sx_asg ?_))
  | (with_reducible refine ex_int ?_)
  | (with_reducible refine ex_str ?_)
  | (with_reducible refine ex_bl ?_)
  | (with_reducible refine ex_non ?_)
  | (with_reducible refine ex_op ?_)
  | (with_reducible refine ex_un ?_)
  | (with_reducible refine ex_chain ?_)
  | (with_reducible refine ex_call ?_)
  | (with_reducible refine ex_isT ?_)
  | (with_reducible refine ex_cb ?_)
  | (with_reducible refine ex_sl ?_)
  | (with_reducible refine ex_tup ?_)
  | (with_reducible refine ex_if ?_)
  | (with_reducible refine ex_of (eo_lst ?_))
  | (with_reducible refine ex_notV ?_)
  | (with_reducible refine ea_nil ?_)
  | (with_reducible refine ea_cons ?_)
  | (with_reducible refine ep_no ?_)
  | (with_reducible refine ep_some ?_)
  | (with_reducible refine et_test ?_)
  | (with_reducible refine et_B ?_)
  | (with_reducible refine et_ch3 ?_)
  | (with_reducible refine et_and ?_)
  | (with_reducible refine et_or ?_)
  | (with_reducible refine et_not ?_)
  | (with_reducible refine et_yes ?_)
  | (with_reducible refine et_truL ?_)
  | (with_reducible refine opd_plusI ?_)
  | (with_reducible refine opd_I0 ?_)
  | (with_reducible refine opd_B0 ?_)
  | (with_reducible refine opd_eqI ?_)
  | (with_reducible refine opd_neI ?_)
  | (with_reducible refine opd_eqS ?_)
  | (with_reducible refine opd_neS ?_)
  | (with_reducible refine opd_is ?_)
  | (with_reducible refine opd_isnt ?_)
  | (with_reducible refine opd_ixT rfl ?_)
  | (with_reducible refine opd_ixL rfl ?_)
  | (with_reducible refine und_neg ?_)
  | (with_reducible refine cbd_lenL ?_)
  | (with_reducible refine cbd_lenT ?_)
  | (with_reducible refine cbd_min2 ?_)
  | (with_reducible refine cbd_max2 ?_)
  | (with_reducible refine cbd_abs ?_)
  | (with_reducible refine cbd_int ?_)
  | (with_reducible refine cbd_tupL ?_)
  | (with_reducible refine cbd_listL ?_)
  | (with_reducible refine cbd_listT ?_)
  | (with_reducible refine cbd_sum ?_)
  | (with_reducible refine sld_T ?_)
  | (with_reducible refine sld_L ?_)
  | (with_reducible refine ex_revL ?_)
  | (with_reducible refine ex_bmL ?_)
  | (with_reducible refine ex_andV ?_)
  | (with_reducible refine ei_list ?_)
  | (with_reducible refine ei_rng1 ?_)
  | (with_reducible refine ei_rng2 ?_)
  | (with_reducible refine ei_enum ?_)
  | (with_reducible refine ei_enumT ?_)
  | (with_reducible refine ei_zip ?_)
  | (with_reducible refine sx_par ?_)
  | (with_reducible refine Exists.intro _ (And.intro rfl ?_))
  | (with_reducible refine Exists.intro _ (Exists.intro _ (And.intro rfl ?_)))
  | ((with_reducible show EX (tCall (spS _) [] _ (tCons (tVar _) _)) _ _); refine ex_callS rfl ?_)
  | ((with_reducible refine And.intro (show (_ : Nat) ≤ 100000 from ?_) ?_); (focus (simp; done)))
  | ((with_reducible refine opd_I ?_ ?_); focus (first | omega | (show CDiv _ _; exact ⟨by omega, by omega⟩) | (show CMul _ _; first | exact Or.inl ⟨by omega, by omega⟩ | exact Or.inr ⟨by omega, by omega⟩))))
local macro_rules | `(tactic| walk_at "es") => `(tactic| repeat walk_at "e")
local macro_rules | `(tactic| walk_at "w") => `(tactic| try dsimp only [wipeE, List.foldl_cons, List.foldl_nil, List.set_cons_succ, List.set_cons_zero])
local macro_rules | `(tactic| walk_at "le") => `(tactic| repeat' first | exact LeE.nil | (refine LeE.eq rfl ?_) | (refine LeE.emp ?_) | (refine LeE.eq ?_ ?_))
local macro_rules | `(tactic| walk_at "no") => `(tactic| ((refine And.intro (fun hb => absurd hb ?_) (fun _ => ?_)); (focus (first | (exact Bool.false_ne_true) | (simp; done) | (simp; omega) | (simp only [decide_eq_true_eq]; omega)))))
local macro_rules | `(tactic| walk_at "yes") => `(tactic| ((refine And.intro (fun _ => ?_) (fun hb => absurd hb ?_)); (rotate_left); (focus (first | (exact Bool.noConfusion) | (simp; done) | (simp; omega) | (simp only [decide_eq_false_iff_not]; omega)))))
local macro_rules | `(tactic| walk_at "ei") => `(tactic| repeat ((fail_if_success (with_reducible show SX (tSeq (tIfS _ _ _) _) _ _)); (fail_if_success (with_reducible show SX (tIfS _ _ _) _ _)); (fail_if_success (with_reducible show SX (tSeq (tAsg (tIf _ _ _) _) _) _ _)); walk_at "e"))
local macro_rules | `(tactic| walk_at "tv") => `(tactic| repeat' first | walk_at "e" | ((with_reducible show (_ = true → _) ∧ (_ = false → _)); refine And.intro (fun _ => ?_) (fun _ => ?_)))
theorem opd_notB {a b : Bool} {Q : D → Prop} (k : Q (.bool (!decide (a = b)))) : OpD rNotB (.bool a) (.bool b) Q := fun F H x y e rx ry Z z => ⟨a, b, rx.bl_inv, ry.bl_inv, z _ _ F H k (Gr.refl e) (.bl _)⟩
theorem where_eq {p : Pc} {w : Pt} : whereOf p.1 p.2 (lift w) = lift (p.1.1 + p.2 * w.1, p.1.2 + p.2 * w.2) := by unfold whereOf lift; simp
theorem pos_in {n : Int} {W : List Pt} {pcs : List Pc} (S : Scn n W pcs) {p : Pc} (hp : p ∈ pcs) {x : Pt} (hx : ∀ k, k < W.length → 0 ≤ ev (edge W k) (lift x)) : R.inC (R.ringOf (R.srt (csF W pcs))) (p.1.1 + p.2 * x.1, p.1.2 + p.2 * x.2) := by
  have G := cs_Ring S
  have n3 := G.n3
  have t1 := (S.p p hp).t1
  have CO : Conv (fallP W p) := fall_conv (s := p.1) S.w.cv t1
  unfold R.inC
  rw [if_neg (by omega)]
  intro k hk
  have := ev_ge CO (g := edge (R.ringOf (R.srt (csF W pcs))) k) (z := lift (p.1.1 + p.2 * x.1, p.1.2 + p.2 * x.2)) (fun j hj => ?_) fun j hj => ?_
  · unfold edge at this
    rw [ev_R] at this
    exact this
  · unfold fallP at hj ⊢
    rw [fall_len] at hj
    rw [← where_eq, ev_where hj]
    exact mul_nn (mul_nn (by omega) (by omega)) (hx j hj)
  · have := G.left k hk _ (R.srt_mem.mpr (cs_own S hp (pt_mem hj)))
    unfold edge
    rw [ev_R]
    exact this
theorem sx_tC (K : PySem.W.Frag) (Z : D → Prop) (z : Z (.bool true)) {ns : List Int} {S0 : Stt} (ok0 : Ok2 S0) {n : Int} {W : List Pt} {pcs : List Pc} (S : Scn n W pcs) :
    SX (T_tC K) [.val (.list (ns.map .int)), .st S0, .val (.int n), .val (.list (W.map encP)), .val (.list (pcs.map encC)), .emp, .val (.list ((csF W pcs).map encP)), .emp, .emp, .emp, .emp, .emp, .emp, .emp, .emp, .emp, .emp, .emp, .emp, .emp, .emp, .emp, .emp, .emp, .emp, .emp] { nx := fun _ => Z .none, rt := fun d _ => Z d } := by
  have tD := @sx_tD K Z z ns S0 ok0 n W pcs S
  have G := cs_Ring S
  have sm := cs_sm S
  have cl := cs_len S
  have rg := cs_rgd S
  have rn := rg_nr S
  have fn := R.fault_none (csF W pcs)
  have pin := fun {p} hp {x} hx => @pos_in n W pcs S p hp x hx
  have W3 := S.w.cv.n3
  have nW := S.w.nr
  have hn := S.hn
  unfold T_tC
  change SX (tSeq _ (tSeq _ (tSeq _ (T_tD K)))) _ _
  generalize T_tD K = T at tD ⊢
  walk_at "es"
  refine ⟨_, rfl, sm, by omega, ?_⟩
  refine nx_seq ?_
  walk_at "w"
  refine sx_seq (sx_if (et_val false ?_ ⟨(fun h => by cases h), fun _ => ?_⟩))
  · walk_at "es"
    refine ⟨csF W pcs, _, rfl, sm, by omega, rg.1, by have := rg.2.1; omega, ?_⟩
    rw [fn]
    walk_at "es"
    refine ⟨(fun h => by cases h), fun _ => ?_⟩
    walk_at "es"
    refine ⟨_, rfl, fun x hx => nr_up (rn x hx) (by omega), by have := rg.2.1; omega, ?_⟩
    rw [ring_convB G]
    walk_at "es"
    refine opd_notB ?_
    exact ⟨false, rfl, rfl, rfl⟩
  refine sx_next (nx_seq ?_)
  generalize R.ringOf (R.srt (csF W pcs)) = r at *
  refine sx_seq (sx_for (J := [7, 8]) (ei_list ?_))
  walk_at "es"
  refine ⟨fun m ρ' => ρ' = [.val (.list (ns.map .int)), .st S0, .val (.int n), .val (.list (W.map encP)), .val (.list (pcs.map encC)), .emp, .val (.list ((csF W pcs).map encP)), .emp, .emp, .emp, .val (.list (r.map encP)), .emp, .emp, .emp, .emp, .emp, .emp, .emp, .emp, .emp, .emp, .emp, .emp, .emp, .emp, .emp], rfl, ?_, ?_⟩
  · rintro m dd ρ' hd0 rfl
    obtain ⟨p, hp, rfl⟩ := map_at hd0
    have mp := List.mem_of_getElem? hp
    have np := (S.p p mp).nr
    have t1 := (S.p p mp).t1
    have t2 := (S.p p mp).t2
    refine sg_tup rfl (sgs_cons (sg_name (by simp) (sgs_cons (sg_name (by simp) (sgs_nil ?_)))))
    rw [show encP p.1 = .tuple [.int p.1.1, .int p.1.2] from rfl]
    walk_at "w"
    refine sx_for (J := [11, 12]) (ei_list (ex_of (eo_lst ?_)))
    walk_at "es"
    refine opd_ixL (at_D (k := 0) (by omega)) ?_
    walk_at "es"
    refine opd_ixL (at_D (k := 1) (by omega)) ?_
    walk_at "es"
    rw [show ([.tuple [.int 0, .int 0], encP (at' W 0), encP (at' W 1), .tuple [.int 0, .int (n - 1)]] : List D) = [((0, 0) : Pt), at' W 0, at' W 1, (0, n - 1)].map encP from rfl]
    have nx4 : ∀ x ∈ [((0, 0) : Pt), at' W 0, at' W 1, (0, n - 1)], Nr 6 x := fun x hx => by
      simp only [List.mem_cons, List.not_mem_nil, or_false] at hx
      rcases hx with rfl | rfl | rfl | rfl
      · exact ⟨by decide, by decide⟩
      · exact nW _ (pt_mem (by omega))
      · exact nW _ (pt_mem (by omega))
      · unfold Nr; simp only; omega
    have ins := S.w.ins
    generalize [((0, 0) : Pt), at' W 0, at' W 1, (0, n - 1)] = xs at *
    refine ⟨fun m ρ' => ρ' = [.val (.list (ns.map .int)), .st S0, .val (.int n), .val (.list (W.map encP)), .val (.list (pcs.map encC)), .emp, .val (.list ((csF W pcs).map encP)), .val (.tuple [.int p.1.1, .int p.1.2]), .val (.int p.2), .emp, .val (.list (r.map encP)), .emp, .emp, .emp, .emp, .emp, .emp, .emp, .emp, .emp, .emp, .emp, .emp, .emp, .emp, .emp], rfl, ?_, ?_⟩
    · rintro i dd ρ' hd1 rfl
      obtain ⟨x, hx, rfl⟩ := map_at hd1
      have mx := List.mem_of_getElem? hx
      have n6 := nx4 x mx
      have m1 := mul_bd (x := p.2) (y := x.1) (A := 6) (B := 6) (by omega) (by omega) n6.1.1 n6.1.2
      have m2 := mul_bd (x := p.2) (y := x.2) (A := 6) (B := 6) (by omega) (by omega) n6.2.1 n6.2.2
      unfold Nr at np
      rw [show encP x = .tuple [.int x.1, .int x.2] from rfl]
      refine sg_tup rfl (sgs_cons (sg_name (by simp) (sgs_cons (sg_name (by simp) (sgs_nil ?_)))))
      walk_at "w"
      refine sx_if (et_val false ?_ ⟨(fun h => by cases h), fun _ => ?_⟩)
      · walk_at "es"
        refine ⟨r, (p.1.1 + p.2 * x.1, p.1.2 + p.2 * x.2), rfl, rg, by unfold R.Sm; simp only; omega, ?_⟩
        rw [decide_eq_true (pin mp (ins x mx))]
        exact ⟨_, rfl, rfl, rfl⟩
      exact sx_next ⟨_, by walk_at "le", rfl⟩
    rintro ρ' rfl
    exact ⟨_, by walk_at "le", rfl⟩
  rintro ρ' rfl
  refine nx_seq ?_
  refine sx_weak ?_ tD
  walk_at "le"
theorem sx_tB (K : PySem.W.Frag) (Z : D → Prop) (z : Z (.bool true)) {ns : List Int} {S0 : Stt} (ok0 : Ok2 S0) {n : Int} {W : List Pt} {pcs : List Pc} (S : Scn n W pcs) :
    SX (T_tB K) [.val (.list (ns.map .int)), .st S0, .val (.int n), .val (.list (W.map encP)), .val (.list (pcs.map encC)), .emp, .emp, .emp, .emp, .emp, .emp, .emp, .emp, .emp, .emp, .emp, .emp, .emp, .emp, .emp, .emp, .emp, .emp, .emp, .emp, .emp] { nx := fun _ => Z .none, rt := fun d _ => Z d } := by
  have tC := @sx_tC K Z z ns S0 ok0 n W pcs S
  have W3 := S.w.cv.n3
  have lw := S.w.ln
  have l4 := S.l4
  have smW : ∀ x ∈ W, R.Sm x := fun x hx => by
    have := S.w.nr x hx
    unfold Nr at this
    unfold R.Sm
    omega
  have rgW : R.RgD W := ⟨smW, by omega, fun h => by omega⟩
  unfold T_tB
  change SX (tSeq _ (tSeq _ (T_tC K))) _ _
  generalize T_tC K = T at tC ⊢
  refine sx_seq (sx_asg (ex_of (eo_lst ?_)))
  walk_at "es"
  refine sx_for (J := [7, 8]) (ei_list ?_)
  walk_at "es"
  refine ⟨fun m ρ' => ρ' = [.val (.list (ns.map .int)), .st S0, .val (.int n), .val (.list (W.map encP)), .val (.list (pcs.map encC)), .emp, .val (.list ((csF W (pcs.take m)).map encP)), .emp, .emp, .emp, .emp, .emp, .emp, .emp, .emp, .emp, .emp, .emp, .emp, .emp, .emp, .emp, .emp, .emp, .emp, .emp], rfl, ?_, ?_⟩
  · rintro m dd ρ' hd0 rfl
    obtain ⟨p, hp, rfl⟩ := map_at hd0
    have mp := List.mem_of_getElem? hp
    have hm := (List.getElem?_eq_some_iff.mp hp).1
    have c := S.p p mp
    have t1 := c.t1
    have t2 := c.t2
    have C : Conv (fallP W p) := fall_conv (s := p.1) S.w.cv t1
    have on := own_nr S.w c
    have osm : ∀ x ∈ fallP W p, R.Sm x := fun x hx => by
      have := on x hx
      unfold Nr at this
      unfold R.Sm
      omega
    have ol : (fallP W p).length = W.length := fall_len _ _ _
    have af : R.sumI (fallP W p) (fallP W p).length = p.2 * p.2 * R.sumI W W.length := area_fall W3
    have G := conv_Ring C
    have rg := R.rgd_of osm (by omega)
    have ra : R.sumI (R.ringOf (R.srt (fallP W p))) (R.ringOf (R.srt (fallP W p))).length = p.2 * p.2 * R.sumI W W.length := by rw [ring_area (R.srt_asc _) G, ← conv_area C, af]
    have tk : csF W (pcs.take (m + 1)) = csF W (pcs.take m) ++ fallP W p := by
      unfold csF
      rw [take_snoc' hp, List.flatMap_append]
      simp
    have lc : (csF W (pcs.take m)).length ≤ 16 := by
      have e : (csF W (pcs.take m)).length = (pcs.take m).length * W.length := by
        unfold csF fallP
        generalize pcs.take m = qs
        induction qs with
        | nil => simp
        | cons p qs ih =>
          rw [List.flatMap_cons, List.length_append, ih, fall_len, List.length_cons]
          rw [Nat.succ_mul]
          omega
      rw [e]
      have a4 : (pcs.take m).length ≤ 4 := by rw [List.length_take]; omega
      exact Nat.mul_le_mul a4 lw
    refine sg_tup rfl (sgs_cons (sg_name (by simp) (sgs_cons (sg_name (by simp) (sgs_nil ?_)))))
    walk_at "w"
    walk_at "es"
    refine ⟨p.1, W, p.2, rfl, by unfold Big; omega, by omega, ?_⟩
    rw [show fall p.1 W p.2 = fallP W p from rfl]
    walk_at "es"
    refine ⟨_, rfl, osm, by omega, ?_⟩
    refine nx_seq ?_
    walk_at "w"
    refine sx_seq (sx_if (et_val false ?_ ⟨(fun h => by cases h), fun _ => ?_⟩))
    · walk_at "es"
      refine cbd_sortP ?_
      walk_at "es"
      refine cbd_sortP ?_
      rw [sort_same (R.nd_at G.inj) C.nodup (conv_mem C)]
      refine opd_neP (depth_L _ _) ?_
      rw [eqv_LP, decide_eq_true rfl]
      refine ⟨_, rfl, (fun h => by cases h), fun _ => ?_⟩
      walk_at "es"
      refine ⟨_, rfl, fun x hx => nr_up (on x ((conv_mem C x).mp hx)) (by omega), by have := rg.2.1; omega, ?_⟩
      rw [ring_convB G]
      walk_at "es"
      refine opd_notB ?_
      refine ⟨false, rfl, (fun h => by cases h), fun _ => ?_⟩
      walk_at "es"
      refine ⟨_, rfl, rg, ?_⟩
      rw [ra]
      have tt := mul_bd (x := p.2) (y := p.2) (A := 6) (B := 6) (by omega) (by omega) (by omega) (by omega)
      walk_at "es"
      refine ⟨W, rfl, rgW, ?_⟩
      walk_at "es"
      exact ⟨by simp, rfl⟩
    refine sx_next (nx_seq ?_)
    walk_at "es"
    refine opd_plusL (by rw [List.length_map, List.length_map]; omega) ?_
    refine ⟨_, ?_, rfl⟩
    rw [tk, List.map_append]
    walk_at "w"
    walk_at "le"
  rintro ρ' rfl
  rw [List.length_map, List.take_length]
  refine nx_seq ?_
  exact tC
theorem all_snoc {α : Type} {P : α → Prop} {xs : List α} {x : α} (h : ∀ y ∈ xs, P y) (hx : P x) : ∀ y ∈ xs ++ [x], P y := fun y hy => by
  rcases List.mem_append.mp hy with q | q
  · exact h y q
  · rw [List.mem_singleton.mp q]; exact hx
theorem sx_tA (K : PySem.W.Frag) (Z : D → Prop) (z : Z (.bool true)) {ns : List Int} {S0 : Stt} (ok0 : Ok2 S0) {n : Int} (hn : 1 ≤ n ∧ n ≤ 3) {W : List Pt} (w : Wnd n W) :
    SX (T_tA K) [.val (.list (ns.map .int)), .st S0, .val (.int n), .val (.list (W.map encP)), .emp, .emp, .emp, .emp, .emp, .emp, .emp, .emp, .emp, .emp, .emp, .emp, .emp, .emp, .emp, .emp, .emp, .emp, .emp, .emp, .emp, .emp] { nx := fun _ => Z .none, rt := fun d _ => Z d } := by
  have tB := fun {S0} ok0 {pcs} S => @sx_tB K Z z ns S0 ok0 n W pcs S
  unfold T_tA
  change SX (tSeq _ (T_tB K)) _ _
  generalize T_tB K = T at tB ⊢
  refine sx_seq (sx_asg (ex_of (eo_lc (ei_rng1 ?_))))
  walk_at "es"
  refine ⟨ns, 4, rfl, by omega, ok0, fun m S1 m0 m1 ok1 => ?_⟩
  walk_at "es"
  refine ⟨by omega, fun k acc ρ' => ∃ (ps : List Pc) (S : Stt), ps.length = k ∧ (∀ p ∈ ps, Pce p) ∧ Ok2 S ∧ acc = ps.map encC ∧ ρ' = [.val (.list (ns.map .int)), .st S, .val (.int n), .val (.list (W.map encP)), .emp, .emp, .emp, .emp, .emp, .emp, .emp, .emp, .emp, .emp, .emp, .emp, .emp, .emp, .emp, .emp, .emp, .emp, .emp, .emp, .emp, .emp], ⟨[], S1, rfl, (fun x hx => by cases hx), ok1, rfl, rfl⟩, ?_, ?_⟩
  · rintro k dd acc ρ' hd0 ⟨ps, S, hl, hg, ok, rfl, rfl⟩
    obtain ⟨hk, rfl⟩ := rng_at hd0
    refine ⟨(fun i hi => by simp at hi; subst hi; rfl), by rw [List.length_map]; omega, sg_name (by simp) ?_⟩
    walk_at "w"
    refine et_yes ⟨fun _ => ?_, (fun q => by cases q)⟩
    walk_at "es"
    refine ⟨ns, _, rfl, by omega, ok, fun x S2 x0 x1 ok2 => ?_⟩
    walk_at "es"
    refine ⟨ns, _, rfl, by omega, ok2, fun y S3 y0 y1 ok3 => ?_⟩
    walk_at "es"
    refine ⟨ns, _, rfl, by omega, ok3, fun t S4 t0 t1 ok4 => ?_⟩
    walk_at "es"
    exact ⟨ps ++ [((x - 10, y - 10), 1 + t)], S4, by simp [hl], all_snoc hg ⟨by unfold Nr; simp only; omega, by simp only; omega, by simp only; omega⟩, ok4, by rw [List.map_append]; rfl, rfl⟩
  rintro acc ρ' ⟨pcs, S2, pl, pg, ok2, rfl, rfl⟩
  rw [rng_size] at pl
  refine nx_seq ?_
  walk_at "w"
  exact tB ok2 ⟨hn, w, pg, by omega, by omega⟩
def sqW (n : Int) : List Pt := [(0 - n, 0 - n), (n, 0 - n), (n, n), (0 - n, n)]
def trW (n : Int) : List Pt := [(0 - n, 0 - n), (2 * n, 0), (0, 2 * n)]
def chkW (n : Int) (W : List Pt) : Bool := (decide (3 ≤ W.length) && triB W) && (W.all fun p => decide ((-6 ≤ p.1 ∧ p.1 ≤ 6) ∧ -6 ≤ p.2 ∧ p.2 ≤ 6)) && decide (W.length ≤ 4) && ([((0, 0) : Pt), at' W 0, at' W 1, (0, n - 1)].all fun x => (List.range W.length).all fun k => decide (0 ≤ ev (edge W k) (lift x)))
theorem chkW_ok {n : Int} {W : List Pt} (h : chkW n W = true) : Wnd n W := by
  unfold chkW at h
  rw [Bool.and_eq_true, Bool.and_eq_true, Bool.and_eq_true] at h
  obtain ⟨⟨⟨h1, h2⟩, h3⟩, h4⟩ := h
  exact ⟨conv_of h1, fun p hp => by have k := of_decide_eq_true (List.all_eq_true.mp h2 p hp); unfold Nr; exact k, of_decide_eq_true h3, fun x hx k hk => of_decide_eq_true (List.all_eq_true.mp (List.all_eq_true.mp h4 x hx) k (List.mem_range.mpr hk))⟩
theorem wnd_W {n : Int} (hn : 1 ≤ n ∧ n ≤ 3) : Wnd n (sqW n) ∧ Wnd n (trW n) := by
  have : n = 1 ∨ n = 2 ∨ n = 3 := by omega
  rcases this with rfl | rfl | rfl
  · exact ⟨chkW_ok (by decide +kernel), chkW_ok (by decide +kernel)⟩
  · exact ⟨chkW_ok (by decide +kernel), chkW_ok (by decide +kernel)⟩
  · exact ⟨chkW_ok (by decide +kernel), chkW_ok (by decide +kernel)⟩
def R_law : List D → (D → Prop) → Prop := fun ds Z => ∃ ns : List Int, ds = [.list (ns.map .int)] ∧ Z (.bool true)
theorem sx_law (K : PySem.W.Frag) (vs : List D) (Z : D → Prop) (h : R_law vs Z) : SX (T_law K R_pick R.R_ring R.R_farthest R_draw R_fall R.R_fault R_conv R.R_area R.R_within R_hit R_safe) (startE N_law vs) { nx := fun _ => Z .none, rt := fun d _ => Z d } := by
  obtain ⟨ns, rfl, z⟩ := h
  show SX (T_law K R_pick R.R_ring R.R_farthest R_draw R_fall R.R_fault R_conv R.R_area R.R_within R_hit R_safe) [.val (.list (ns.map .int)), .emp, .emp, .emp, .emp, .emp, .emp, .emp, .emp, .emp, .emp, .emp, .emp, .emp, .emp, .emp, .emp, .emp, .emp, .emp, .emp, .emp, .emp, .emp, .emp, .emp] _
  unfold T_law
  have tA := fun {S0} ok0 {n} hn {W} => @sx_tA K Z z ns S0 ok0 n hn W
  change SX (tSeq _ (tSeq _ (tSeq _ (T_tA K)))) _ _
  generalize T_tA K = T at tA ⊢
  refine sx_seq (sx_asgO (eo_lst (ea_cons (ex_int (ea_cons (ex_int (ea_nil ⟨by simp, ?_⟩)))))))
  refine nx_seq ?_
  refine sx_toTwo (i := 1) (a := 0) (b := 0) (by decide) (by rfl) ?_
  walk_at "w"
  walk_at "es"
  refine ⟨ns, 3, rfl, by omega, ⟨by omega, by omega⟩, fun m S1 m0 m1 ok1 => ?_⟩
  walk_at "es"
  have hn : 1 ≤ 1 + m ∧ 1 + m ≤ 3 := by omega
  generalize 1 + m = n at *
  refine ⟨ns, [encL (sqW n), encL (trW n)], rfl, ⟨by simp, by simp⟩, ok1, fun d hd S2 ok2 => ?_⟩
  refine nx_seq ?_
  walk_at "w"
  have wn := wnd_W hn
  simp only [List.mem_cons, List.not_mem_nil, or_false] at hd
  rcases hd with rfl | rfl
  · exact tA ok2 hn wn.1
  · exact tA ok2 hn wn.2
end Law_k21
namespace Law_k21
open PySem L2 Pu

def topS (i : Nat) : Stmt := PySem.Challenge.pw_firescore_k21_whole_rings_and_winds.main.body.getD i (.Pass ⟨0, 0, 0, 0⟩)
abbrev s_turn : Stmt := topS 1
abbrev s_half_ring : Stmt := topS 2
abbrev s_ring_around : Stmt := topS 3
abbrev s_ring_fault : Stmt := topS 4
abbrev s_area_twice : Stmt := topS 5
abbrev s_square_far : Stmt := topS 6
abbrev s_farthest : Stmt := topS 7
abbrev s_is_within : Stmt := topS 8
abbrev s_minus : Stmt := topS 10
abbrev s_across : Stmt := topS 11
abbrev s_is_convex : Stmt := topS 12
abbrev s_fallen : Stmt := topS 13
abbrev s_parting_edge : Stmt := topS 14
abbrev s_clipped : Stmt := topS 15
abbrev s_crossing : Stmt := topS 16
abbrev s_lowest : Stmt := topS 17
abbrev s_meeting : Stmt := topS 18
abbrev s_middle : Stmt := topS 19
abbrev s_may_hit : Stmt := topS 20
abbrev s_safe_of : Stmt := topS 21
abbrev s_l_draw : Stmt := topS 23
abbrev s_l_pick : Stmt := topS 24
abbrev s_law : Stmt := topS 25
theorem sc_turn : FnScope N_turn ["one", "other", "third"] (defScope s_turn) := ⟨rfl, rfl, rfl, by decide +kernel, rfl, by decide +kernel, by decide +kernel⟩
theorem sc_half_ring : FnScope N_half_ring ["places"] (defScope s_half_ring) := ⟨rfl, rfl, rfl, by decide +kernel, rfl, by decide +kernel, by decide +kernel⟩
theorem sc_ring_around : FnScope N_ring_around ["places"] (defScope s_ring_around) := ⟨rfl, rfl, rfl, by decide +kernel, rfl, by decide +kernel, by decide +kernel⟩
theorem sc_ring_fault : FnScope N_ring_fault ["places", "ring"] (defScope s_ring_fault) := ⟨rfl, rfl, rfl, by decide +kernel, rfl, by decide +kernel, by decide +kernel⟩
theorem sc_area_twice : FnScope N_area_twice ["ring"] (defScope s_area_twice) := ⟨rfl, rfl, rfl, by decide +kernel, rfl, by decide +kernel, by decide +kernel⟩
theorem sc_square_far : FnScope N_square_far ["one", "other"] (defScope s_square_far) := ⟨rfl, rfl, rfl, by decide +kernel, rfl, by decide +kernel, by decide +kernel⟩
theorem sc_farthest : FnScope N_farthest ["places"] (defScope s_farthest) := ⟨rfl, rfl, rfl, by decide +kernel, rfl, by decide +kernel, by decide +kernel⟩
theorem sc_is_within : FnScope N_is_within ["ring", "place"] (defScope s_is_within) := ⟨rfl, rfl, rfl, by decide +kernel, rfl, by decide +kernel, by decide +kernel⟩
theorem sc_minus : FnScope N_minus ["one", "other"] (defScope s_minus) := ⟨rfl, rfl, rfl, by decide +kernel, rfl, by decide +kernel, by decide +kernel⟩
theorem sc_across : FnScope N_across ["one", "other"] (defScope s_across) := ⟨rfl, rfl, rfl, by decide +kernel, rfl, by decide +kernel, by decide +kernel⟩
theorem sc_is_convex : FnScope N_is_convex ["corners"] (defScope s_is_convex) := ⟨rfl, rfl, rfl, by decide +kernel, rfl, by decide +kernel, by decide +kernel⟩
theorem sc_fallen : FnScope N_fallen ["start", "winds", "ticks"] (defScope s_fallen) := ⟨rfl, rfl, rfl, by decide +kernel, rfl, by decide +kernel, by decide +kernel⟩
theorem sc_parting_edge : FnScope N_parting_edge ["one", "other"] (defScope s_parting_edge) := ⟨rfl, rfl, rfl, by decide +kernel, rfl, by decide +kernel, by decide +kernel⟩
theorem sc_clipped : FnScope N_clipped ["corners", "here", "after"] (defScope s_clipped) := ⟨rfl, rfl, rfl, by decide +kernel, rfl, by decide +kernel, by decide +kernel⟩
theorem sc_crossing : FnScope N_crossing ["one", "two", "left", "right"] (defScope s_crossing) := ⟨rfl, rfl, rfl, by decide +kernel, rfl, by decide +kernel, by decide +kernel⟩
theorem sc_lowest : FnScope N_lowest ["x", "y", "by"] (defScope s_lowest) := ⟨rfl, rfl, rfl, by decide +kernel, rfl, by decide +kernel, by decide +kernel⟩
theorem sc_meeting : FnScope N_meeting ["one", "other"] (defScope s_meeting) := ⟨rfl, rfl, rfl, by decide +kernel, rfl, by decide +kernel, by decide +kernel⟩
theorem sc_middle : FnScope N_middle ["corners"] (defScope s_middle) := ⟨rfl, rfl, rfl, by decide +kernel, rfl, by decide +kernel, by decide +kernel⟩
theorem sc_may_hit : FnScope N_may_hit ["start", "winds", "ticks", "place"] (defScope s_may_hit) := ⟨rfl, rfl, rfl, by decide +kernel, rfl, by decide +kernel, by decide +kernel⟩
theorem sc_safe_of : FnScope N_safe_of ["pieces", "winds", "places"] (defScope s_safe_of) := ⟨rfl, rfl, rfl, by decide +kernel, rfl, by decide +kernel, by decide +kernel⟩
theorem sc_l_draw : FnScope N_l_draw ["state", "script", "size"] (defScope s_l_draw) := ⟨rfl, rfl, rfl, by decide +kernel, rfl, by decide +kernel, by decide +kernel⟩
theorem sc_l_pick : FnScope N_l_pick ["state", "script", "items"] (defScope s_l_pick) := ⟨rfl, rfl, rfl, by decide +kernel, rfl, by decide +kernel, by decide +kernel⟩
theorem sc_law : FnScope N_law ["script"] (defScope s_law) := ⟨rfl, rfl, rfl, by decide +kernel, rfl, by decide +kernel, by decide +kernel⟩
section
variable {P : Program} {w : World} {K : PySem.W.Frag} {mg : Str → Option Value} {base : Heap} {f : Addr} {fd : FuncData} {k : Nat}
theorem ps_turn {cdv : Value} {A : Around} {outer : List PySem.Env} {s : Shared} {H : Hp} {E : XK} (bn : Bn mg) (hr : Room k (A.deeper (PyProof.Rows.envOfC "turn" (defScope s_turn) s.heap.objs.size f cdv))) :
    PSs (cxOf CX0 P w K mg base N_turn "turn" (defScope s_turn) f cdv A outer s H E).nox (defBody s_turn) (T_turn K) :=
  have nd := sc_turn.nd
  (pss_one (ps_ret (pe_op op_sub (pe_op op_mul (pe_op op_sub (pe_ix ix_any (pv 1) pe_int (fun _ _ => rfl)) (pe_ix ix_any (pv 0) pe_int (fun _ _ => rfl))) (pe_op op_sub (pe_ix ix_any (pv 2) pe_int (fun _ _ => rfl)) (pe_ix ix_any (pv 0) pe_int (fun _ _ => rfl)))) (pe_op op_mul (pe_op op_sub (pe_ix ix_any (pv 1) pe_int (fun _ _ => rfl)) (pe_ix ix_any (pv 0) pe_int (fun _ _ => rfl))) (pe_op op_sub (pe_ix ix_any (pv 2) pe_int (fun _ _ => rfl)) (pe_ix ix_any (pv 0) pe_int (fun _ _ => rfl)))))))
theorem ok_turn {R : List D → (D → Prop) → Prop} (F : Fun K "turn" "turn" s_turn f fd) (bn : Bn mg) (len : ∀ ds Z, R ds Z → ds.length = 3) (sx : ∀ ds Z, R ds Z → SX (T_turn K) (startE N_turn ds) { nx := fun _ => Z .none, rt := fun d _ => Z d }) :
    FnOk P w K mg base CX0 (k + 1) f fd ["one", "other", "third"] (spP R) := fn_pure F sc_turn len fun cdv A outer s H E hr => ⟨_, ps_turn bn hr, sx⟩
theorem ps_half_ring {cdv : Value} {A : Around} {outer : List PySem.Env} {s : Shared} {H : Hp} {E : XK} (bn : Bn mg) (hr : Room k (A.deeper (PyProof.Rows.envOfC "half_ring" (defScope s_half_ring) s.heap.objs.size f cdv))) {R_turn : List D → (D → Prop) → Prop} {k_turn : Nat} (C_turn : Cal P w K mg base "turn" ["one", "other", "third"] (spP R_turn) k_turn) (h_turn : k_turn ≤ k) :
    PSs (cxOf CX0 P w K mg base N_half_ring "half_ring" (defScope s_half_ring) f cdv A outer s H E).nox (defBody s_half_ring) (T_half_ring K R_turn) :=
  have nd := sc_half_ring.nd
  (pss_cons (ps_set (i := 1) nd rfl (by first | exact Or.inl rfl | exact Or.inr rfl) (pe_lst pa_nil))
    (pss_cons (ps_for PassesOwn.never rfl (pi_list (pv 0)) (pg_name (i := 2) nd rfl (by first | exact Or.inl rfl | exact Or.inr rfl))
      (pss_cons (ps_while PassesOwn.never (PW.pt (pw_and (pt_cmpR op_gt (pe_callB Pu.cb_len (by rfl) bn.len_ (by decide +kernel) (pa_cons (pv 1) pa_nil)) pe_int (nomark _)) (pw_and1 (pt_cmpR op_le (pe_cal C_turn (hr.mono h_turn) (by rfl) (pa_cons (pe_ix ix_any (pv 1) (pe_un un_neg pe_int) (fun _ _ => rfl)) (pa_cons (pe_ix ix_any (pv 1) (pe_un un_neg pe_int) (fun _ _ => rfl)) (pa_cons (pv 2) pa_nil)))) pe_int (nomark _)))))
      (pss_one (ps_expr (pe_bm0 PySem.F.plainAttrs_list PySem.F.slot_list_pop PySem.F.type_list_pop mt_pop (pv 1)))))
    (pss_one (ps_expr (pe_bm PySem.F.plainAttrs_list PySem.F.slot_list_append PySem.F.type_list_append mt_append (pv 1) (pa_cons (pv 2) pa_nil))))))
    (pss_one (ps_ret (pv 1)))))
theorem ok_half_ring {R : List D → (D → Prop) → Prop} (F : Fun K "half_ring" "half_ring" s_half_ring f fd) (bn : Bn mg) {R_turn : List D → (D → Prop) → Prop} {k_turn : Nat} (C_turn : Cal P w K mg base "turn" ["one", "other", "third"] (spP R_turn) k_turn) (h_turn : k_turn ≤ k) (len : ∀ ds Z, R ds Z → ds.length = 1) (sx : ∀ ds Z, R ds Z → SX (T_half_ring K R_turn) (startE N_half_ring ds) { nx := fun _ => Z .none, rt := fun d _ => Z d }) :
    FnOk P w K mg base CX0 (k + 1) f fd ["places"] (spP R) := fn_pure F sc_half_ring len fun cdv A outer s H E hr => ⟨_, ps_half_ring bn hr C_turn h_turn, sx⟩
theorem ps_ring_around {cdv : Value} {A : Around} {outer : List PySem.Env} {s : Shared} {H : Hp} {E : XK} (bn : Bn mg) (hr : Room k (A.deeper (PyProof.Rows.envOfC "ring_around" (defScope s_ring_around) s.heap.objs.size f cdv))) {R_half_ring : List D → (D → Prop) → Prop} {k_half_ring : Nat} (C_half_ring : Cal P w K mg base "half_ring" ["places"] (spP R_half_ring) k_half_ring) (h_half_ring : k_half_ring ≤ k) :
    PSs (cxOf CX0 P w K mg base N_ring_around "ring_around" (defScope s_ring_around) f cdv A outer s H E).nox (defBody s_ring_around) (T_ring_around K R_half_ring) :=
  have nd := sc_ring_around.nd
  (pss_cons (ps_set (i := 1) nd rfl (by first | exact Or.inl rfl | exact Or.inr rfl) (pe_sortSetP rfl hr.units (by rfl) bn.sorted_ (by rfl) bn.set_ (pv 0)))
    (pss_cons (ps_if (pt_cmpR op_lt (pe_callB Pu.cb_len (by rfl) bn.len_ (by decide +kernel) (pa_cons (pv 1) pa_nil)) pe_int (nomark _))
      (pss_one (ps_ret (pv 1)))
      pss_nil)
    (pss_cons (ps_par (i := 2) (j := 3) rfl nd rfl rfl (by decide) rfl rfl (pa_cons (pe_cal C_half_ring (hr.mono h_half_ring) (by rfl) (pa_cons (pv 1) pa_nil)) (pa_cons (pe_cal C_half_ring (hr.mono h_half_ring) (by rfl) (pa_cons (pe_revL (pv 1)) pa_nil)) pa_nil)) (by rfl))
    (pss_one (ps_ret (pe_op op_plus (pe_slice sl_any (pv 2) po_none (po_some (pe_un un_neg pe_int))) (pe_slice sl_any (pv 3) po_none (po_some (pe_un un_neg pe_int)))))))))
theorem ok_ring_around {R : List D → (D → Prop) → Prop} (F : Fun K "ring_around" "ring_around" s_ring_around f fd) (bn : Bn mg) {R_half_ring : List D → (D → Prop) → Prop} {k_half_ring : Nat} (C_half_ring : Cal P w K mg base "half_ring" ["places"] (spP R_half_ring) k_half_ring) (h_half_ring : k_half_ring ≤ k) (len : ∀ ds Z, R ds Z → ds.length = 1) (sx : ∀ ds Z, R ds Z → SX (T_ring_around K R_half_ring) (startE N_ring_around ds) { nx := fun _ => Z .none, rt := fun d _ => Z d }) :
    FnOk P w K mg base CX0 (k + 1) f fd ["places"] (spP R) := fn_pure F sc_ring_around len fun cdv A outer s H E hr => ⟨_, ps_ring_around bn hr C_half_ring h_half_ring, sx⟩
theorem ps_ring_fault {cdv : Value} {A : Around} {outer : List PySem.Env} {s : Shared} {H : Hp} {E : XK} (bn : Bn mg) (hr : Room k (A.deeper (PyProof.Rows.envOfC "ring_fault" (defScope s_ring_fault) s.heap.objs.size f cdv))) {R_turn : List D → (D → Prop) → Prop} {k_turn : Nat} (C_turn : Cal P w K mg base "turn" ["one", "other", "third"] (spP R_turn) k_turn) (h_turn : k_turn ≤ k) :
    PSs (cxOf CX0 P w K mg base N_ring_fault "ring_fault" (defScope s_ring_fault) f cdv A outer s H E).nox (defBody s_ring_fault) (T_ring_fault K R_turn) :=
  have nd := sc_ring_fault.nd
  (pss_cons (ps_set (i := 2) nd rfl (by first | exact Or.inl rfl | exact Or.inr rfl) (pe_sortSetP rfl hr.units (by rfl) bn.sorted_ (by rfl) bn.set_ (pv 0)))
    (pss_cons (ps_for PassesOwn.never rfl (pi_enum (by rfl) bn.enumerate_ (pa_cons (pv 1) pa_nil)) (pg_tup (n := 2) rfl (pgs_cons (pg_name (i := 3) nd rfl (by first | exact Or.inl rfl | exact Or.inr rfl)) (pgs_cons (pg_name (i := 4) nd rfl (by first | exact Or.inl rfl | exact Or.inr rfl)) pgs_nil)))
      (pss_one (ps_if (PW.pt (pw_or (pt_cmpR (op_ninP hr.units) (pv 4) (pv 2) (by rfl)) (pw_or1 (pt_cmpR (op_inP hr.units) (pv 4) (pe_slice sl_any (pv 1) po_none (po_some (pv 3))) (by rfl)))))
      (pss_one (ps_ret (pe_tup (pa_cons pe_str (pa_cons (pv 3) pa_nil)))))
      pss_nil)))
    (pss_cons (ps_if (pt_cmpR op_lt (pe_callB Pu.cb_len (by rfl) bn.len_ (by decide +kernel) (pa_cons (pv 1) pa_nil)) pe_int (nomark _))
      (pss_cons (ps_asg (pe_ifExp (pt_cmpR op_gt (pe_callB Pu.cb_len (by rfl) bn.len_ (by decide +kernel) (pa_cons (pv 2) pa_nil)) pe_int (nomark _)) (pe_tup (pa_cons (pe_ix ix_any (pv 2) pe_int (fun _ _ => rfl)) (pa_cons (pe_ix ix_any (pv 2) (pe_un un_neg pe_int) (fun _ _ => rfl)) pa_nil))) (pe_tup (pa_cons pe_non (pa_cons pe_non pa_nil)))) (pg_tup (n := 2) rfl (pgs_cons (pg_name (i := 5) nd rfl (by first | exact Or.inl rfl | exact Or.inr rfl)) (pgs_cons (pg_name (i := 6) nd rfl (by first | exact Or.inl rfl | exact Or.inr rfl)) pgs_nil))))
    (pss_cons (ps_set (i := 7) nd rfl (by first | exact Or.inl rfl | exact Or.inr rfl) (pe_callB (cb_all rfl) (by rfl) bn.all_ (by decide +kernel) (pa_cons (pe_lc (own := [("place", 8)]) (g := (gName 8)) (tt := tYes) rfl nd (pi_list (pv 2)) (blkOk_by (N := N_ring_fault) (sc := defScope s_ring_fault) (by decide +kernel)) (fun _ _ _ _ _ => (pg_name (i := 8) nd rfl (by first | exact Or.inl rfl | exact Or.inr rfl))) (fun _ _ _ _ _ => pts_nil) (fun _ _ _ _ _ => (pe_cmpR (op_eqP hr.units) (pe_cal C_turn (hr.mono h_turn) (by rfl) (pa_cons (pv 5) (pa_cons (pv 6) (pa_cons (pv 8) pa_nil)))) pe_int (nomark _)))) pa_nil)))
    (pss_cons (ps_set (i := 9) nd rfl (by first | exact Or.inl rfl | exact Or.inr rfl) (pe_ifExp (pt_cmpR op_lt (pe_callB Pu.cb_len (by rfl) bn.len_ (by decide +kernel) (pa_cons (pv 2) pa_nil)) pe_int (nomark _)) (pv 2) (pe_lst (pa_cons (pv 5) (pa_cons (pv 6) pa_nil)))))
    (pss_one (ps_ret (pe_ifExp (PW.pt (pw_and (pt_val (pv 7)) (pw_and1 (pt_cmpR (op_eqP hr.units) (pv 1) (pv 9) (nomark _))))) pe_non (pe_tup (pa_cons pe_str pa_nil))))))))
      pss_nil)
    (pss_cons (ps_if (pt_cmpR (op_neP hr.units) (pe_ix ix_any (pv 1) pe_int (fun _ _ => rfl)) (pe_callB (cb_minD rfl hr.units) (by rfl) bn.min_ (by decide +kernel) (pa_cons (pv 1) pa_nil)) (nomark _))
      (pss_one (ps_ret (pe_tup (pa_cons pe_str pa_nil))))
      pss_nil)
    (pss_cons (ps_for PassesOwn.never rfl (pi_range1 (by rfl) bn.range_ (pa_cons (pe_callB Pu.cb_len (by rfl) bn.len_ (by decide +kernel) (pa_cons (pv 1) pa_nil)) pa_nil)) (pg_name (i := 3) nd rfl (by first | exact Or.inl rfl | exact Or.inr rfl))
      (pss_cons (ps_par (i := 10) (j := 11) rfl nd rfl rfl (by decide) rfl rfl (pa_cons (pe_ix ix_any (pv 1) (pv 3) (fun _ _ => rfl)) (pa_cons (pe_ix ix_any (pv 1) (pe_op op_mod (pe_op op_plus (pv 3) pe_int) (pe_callB Pu.cb_len (by rfl) bn.len_ (by decide +kernel) (pa_cons (pv 1) pa_nil))) (fun _ _ => rfl)) pa_nil)) (by rfl))
    (pss_cons (ps_if (pt_cmpR op_le (pe_cal C_turn (hr.mono h_turn) (by rfl) (pa_cons (pv 10) (pa_cons (pv 11) (pa_cons (pe_ix ix_any (pv 1) (pe_op op_mod (pe_op op_plus (pv 3) pe_int) (pe_callB Pu.cb_len (by rfl) bn.len_ (by decide +kernel) (pa_cons (pv 1) pa_nil))) (fun _ _ => rfl)) pa_nil)))) pe_int (nomark _))
      (pss_one (ps_ret (pe_tup (pa_cons pe_str (pa_cons (pv 3) pa_nil)))))
      pss_nil)
    (pss_one (ps_for PassesOwn.never rfl (pi_list (pv 2)) (pg_name (i := 8) nd rfl (by first | exact Or.inl rfl | exact Or.inr rfl))
      (pss_one (ps_if (pt_cmpR op_lt (pe_cal C_turn (hr.mono h_turn) (by rfl) (pa_cons (pv 10) (pa_cons (pv 11) (pa_cons (pv 8) pa_nil)))) pe_int (nomark _))
      (pss_one (ps_ret (pe_tup (pa_cons pe_str (pa_cons (pv 8) pa_nil)))))
      pss_nil)))))))
    (pss_one (ps_ret pe_non)))))))
theorem ok_ring_fault {R : List D → (D → Prop) → Prop} (F : Fun K "ring_fault" "ring_fault" s_ring_fault f fd) (bn : Bn mg) {R_turn : List D → (D → Prop) → Prop} {k_turn : Nat} (C_turn : Cal P w K mg base "turn" ["one", "other", "third"] (spP R_turn) k_turn) (h_turn : k_turn ≤ k) (len : ∀ ds Z, R ds Z → ds.length = 2) (sx : ∀ ds Z, R ds Z → SX (T_ring_fault K R_turn) (startE N_ring_fault ds) { nx := fun _ => Z .none, rt := fun d _ => Z d }) :
    FnOk P w K mg base CX0 (k + 1) f fd ["places", "ring"] (spP R) := fn_pure F sc_ring_fault len fun cdv A outer s H E hr => ⟨_, ps_ring_fault bn hr C_turn h_turn, sx⟩
theorem ps_area_twice {cdv : Value} {A : Around} {outer : List PySem.Env} {s : Shared} {H : Hp} {E : XK} (bn : Bn mg) (hr : Room k (A.deeper (PyProof.Rows.envOfC "area_twice" (defScope s_area_twice) s.heap.objs.size f cdv))) :
    PSs (cxOf CX0 P w K mg base N_area_twice "area_twice" (defScope s_area_twice) f cdv A outer s H E).nox (defBody s_area_twice) (T_area_twice K) :=
  have nd := sc_area_twice.nd
  (pss_cons (ps_set (i := 1) nd rfl (by first | exact Or.inl rfl | exact Or.inr rfl) (pe_op op_plus (pe_slice sl_any (pv 0) (po_some pe_int) po_none) (pe_slice sl_any (pv 0) po_none (po_some pe_int))))
    (pss_one (ps_ret (pe_callB (cr_sum rfl) (by rfl) bn.sum_ (by decide +kernel) (pa_cons (pe_lc (own := [("one", 2), ("other", 3)]) (g := (gTup K 2 (gCons (gName 2) (gCons (gName 3) gNil)))) (tt := tYes) rfl nd (pi_zip (by rfl) bn.zip_ (pa_cons (pv 0) (pa_cons (pv 1) pa_nil))) (blkOk_by (N := N_area_twice) (sc := defScope s_area_twice) (by decide +kernel)) (fun _ _ _ _ _ => (pg_tup (n := 2) rfl (pgs_cons (pg_name (i := 2) nd rfl (by first | exact Or.inl rfl | exact Or.inr rfl)) (pgs_cons (pg_name (i := 3) nd rfl (by first | exact Or.inl rfl | exact Or.inr rfl)) pgs_nil)))) (fun _ _ _ _ _ => pts_nil) (fun _ _ _ _ _ => (pe_op op_sub (pe_op op_mul (pe_ix ix_any (pv 2) pe_int (fun _ _ => rfl)) (pe_ix ix_any (pv 3) pe_int (fun _ _ => rfl))) (pe_op op_mul (pe_ix ix_any (pv 2) pe_int (fun _ _ => rfl)) (pe_ix ix_any (pv 3) pe_int (fun _ _ => rfl)))))) pa_nil)))))
theorem ok_area_twice {R : List D → (D → Prop) → Prop} (F : Fun K "area_twice" "area_twice" s_area_twice f fd) (bn : Bn mg) (len : ∀ ds Z, R ds Z → ds.length = 1) (sx : ∀ ds Z, R ds Z → SX (T_area_twice K) (startE N_area_twice ds) { nx := fun _ => Z .none, rt := fun d _ => Z d }) :
    FnOk P w K mg base CX0 (k + 1) f fd ["ring"] (spP R) := fn_pure F sc_area_twice len fun cdv A outer s H E hr => ⟨_, ps_area_twice bn hr, sx⟩
theorem ps_square_far {cdv : Value} {A : Around} {outer : List PySem.Env} {s : Shared} {H : Hp} {E : XK} (bn : Bn mg) (hr : Room k (A.deeper (PyProof.Rows.envOfC "square_far" (defScope s_square_far) s.heap.objs.size f cdv))) :
    PSs (cxOf CX0 P w K mg base N_square_far "square_far" (defScope s_square_far) f cdv A outer s H E).nox (defBody s_square_far) (T_square_far K) :=
  have nd := sc_square_far.nd
  (pss_one (ps_ret (pe_op op_plus (pe_op op_mul (pe_op op_sub (pe_ix ix_any (pv 0) pe_int (fun _ _ => rfl)) (pe_ix ix_any (pv 1) pe_int (fun _ _ => rfl))) (pe_op op_sub (pe_ix ix_any (pv 0) pe_int (fun _ _ => rfl)) (pe_ix ix_any (pv 1) pe_int (fun _ _ => rfl)))) (pe_op op_mul (pe_op op_sub (pe_ix ix_any (pv 0) pe_int (fun _ _ => rfl)) (pe_ix ix_any (pv 1) pe_int (fun _ _ => rfl))) (pe_op op_sub (pe_ix ix_any (pv 0) pe_int (fun _ _ => rfl)) (pe_ix ix_any (pv 1) pe_int (fun _ _ => rfl)))))))
theorem ok_square_far {R : List D → (D → Prop) → Prop} (F : Fun K "square_far" "square_far" s_square_far f fd) (bn : Bn mg) (len : ∀ ds Z, R ds Z → ds.length = 2) (sx : ∀ ds Z, R ds Z → SX (T_square_far K) (startE N_square_far ds) { nx := fun _ => Z .none, rt := fun d _ => Z d }) :
    FnOk P w K mg base CX0 (k + 1) f fd ["one", "other"] (spP R) := fn_pure F sc_square_far len fun cdv A outer s H E hr => ⟨_, ps_square_far bn hr, sx⟩
theorem ps_farthest {cdv : Value} {A : Around} {outer : List PySem.Env} {s : Shared} {H : Hp} {E : XK} (bn : Bn mg) (hr : Room k (A.deeper (PyProof.Rows.envOfC "farthest" (defScope s_farthest) s.heap.objs.size f cdv))) {R_ring_around : List D → (D → Prop) → Prop} {k_ring_around : Nat} (C_ring_around : Cal P w K mg base "ring_around" ["places"] (spP R_ring_around) k_ring_around) (h_ring_around : k_ring_around ≤ k) {R_square_far : List D → (D → Prop) → Prop} {k_square_far : Nat} (C_square_far : Cal P w K mg base "square_far" ["one", "other"] (spP R_square_far) k_square_far) (h_square_far : k_square_far ≤ k) :
    PSs (cxOf CX0 P w K mg base N_farthest "farthest" (defScope s_farthest) f cdv A outer s H E).nox (defBody s_farthest) (T_farthest K R_ring_around R_square_far) :=
  have nd := sc_farthest.nd
  (pss_cons (ps_set (i := 1) nd rfl (by first | exact Or.inl rfl | exact Or.inr rfl) (pe_callB (cb_sortD hr.units) (by rfl) bn.sorted_ (by decide +kernel) (pa_cons (pe_cal C_ring_around (hr.mono h_ring_around) (by rfl) (pa_cons (pv 0) pa_nil)) pa_nil)))
    (pss_cons (ps_set (i := 2) nd rfl (by first | exact Or.inl rfl | exact Or.inr rfl) (pe_tup (pa_cons pe_int (pa_cons (pe_ix ix_any (pv 1) pe_int (fun _ _ => rfl)) (pa_cons (pe_ix ix_any (pv 1) pe_int (fun _ _ => rfl)) pa_nil)))))
    (pss_cons (ps_for PassesOwn.never rfl (pi_enum (by rfl) bn.enumerate_ (pa_cons (pv 1) pa_nil)) (pg_tup (n := 2) rfl (pgs_cons (pg_name (i := 3) nd rfl (by first | exact Or.inl rfl | exact Or.inr rfl)) (pgs_cons (pg_name (i := 4) nd rfl (by first | exact Or.inl rfl | exact Or.inr rfl)) pgs_nil)))
      (pss_one (ps_for PassesOwn.never rfl (pi_list (pe_slice sl_any (pv 1) po_none (po_some (pv 3)))) (pg_name (i := 5) nd rfl (by first | exact Or.inl rfl | exact Or.inr rfl))
      (pss_cons (ps_set (i := 6) nd rfl (by first | exact Or.inl rfl | exact Or.inr rfl) (pe_cal C_square_far (hr.mono h_square_far) (by rfl) (pa_cons (pv 5) (pa_cons (pv 4) pa_nil))))
    (pss_one (ps_if (PW.pt (pw_or (pt_cmpR op_gt (pv 6) (pe_ix ix_any (pv 2) pe_int (fun _ _ => rfl)) (nomark _)) (pw_or1 (PW.pt (pw_and (pt_cmpR (op_eqP hr.units) (pv 6) (pe_ix ix_any (pv 2) pe_int (fun _ _ => rfl)) (nomark _)) (pw_and1 (pt_cmpR (op_ltD hr.units) (pe_tup (pa_cons (pv 5) (pa_cons (pv 4) pa_nil))) (pe_slice sl_any (pv 2) (po_some pe_int) po_none) (nomark _))))))))
      (pss_one (ps_set (i := 2) nd rfl (by first | exact Or.inl rfl | exact Or.inr rfl) (pe_tup (pa_cons (pv 6) (pa_cons (pv 5) (pa_cons (pv 4) pa_nil))))))
      pss_nil))))))
    (pss_one (ps_ret (pv 2))))))
theorem ok_farthest {R : List D → (D → Prop) → Prop} (F : Fun K "farthest" "farthest" s_farthest f fd) (bn : Bn mg) {R_ring_around : List D → (D → Prop) → Prop} {k_ring_around : Nat} (C_ring_around : Cal P w K mg base "ring_around" ["places"] (spP R_ring_around) k_ring_around) (h_ring_around : k_ring_around ≤ k) {R_square_far : List D → (D → Prop) → Prop} {k_square_far : Nat} (C_square_far : Cal P w K mg base "square_far" ["one", "other"] (spP R_square_far) k_square_far) (h_square_far : k_square_far ≤ k) (len : ∀ ds Z, R ds Z → ds.length = 1) (sx : ∀ ds Z, R ds Z → SX (T_farthest K R_ring_around R_square_far) (startE N_farthest ds) { nx := fun _ => Z .none, rt := fun d _ => Z d }) :
    FnOk P w K mg base CX0 (k + 1) f fd ["places"] (spP R) := fn_pure F sc_farthest len fun cdv A outer s H E hr => ⟨_, ps_farthest bn hr C_ring_around h_ring_around C_square_far h_square_far, sx⟩
theorem ps_is_within {cdv : Value} {A : Around} {outer : List PySem.Env} {s : Shared} {H : Hp} {E : XK} (bn : Bn mg) (hr : Room k (A.deeper (PyProof.Rows.envOfC "is_within" (defScope s_is_within) s.heap.objs.size f cdv))) {R_turn : List D → (D → Prop) → Prop} {k_turn : Nat} (C_turn : Cal P w K mg base "turn" ["one", "other", "third"] (spP R_turn) k_turn) (h_turn : k_turn ≤ k) :
    PSs (cxOf CX0 P w K mg base N_is_within "is_within" (defScope s_is_within) f cdv A outer s H E).nox (defBody s_is_within) (T_is_within K R_turn) :=
  have nd := sc_is_within.nd
  (pss_cons (ps_if (pt_cmpR op_lt (pe_callB Pu.cb_len (by rfl) bn.len_ (by decide +kernel) (pa_cons (pv 0) pa_nil)) pe_int (nomark _))
      (pss_cons (ps_if (pt_cmpR op_lt (pe_callB Pu.cb_len (by rfl) bn.len_ (by decide +kernel) (pa_cons (pv 0) pa_nil)) pe_int (nomark _))
      (pss_one (ps_ret (pe_cmpR (op_inP hr.units) (pv 1) (pv 0) (by rfl))))
      pss_nil)
    (pss_one (ps_ret (pe_and (pe_cmpR (op_eqP hr.units) (pe_cal C_turn (hr.mono h_turn) (by rfl) (pa_cons (pe_ix ix_any (pv 0) pe_int (fun _ _ => rfl)) (pa_cons (pe_ix ix_any (pv 0) pe_int (fun _ _ => rfl)) (pa_cons (pv 1) pa_nil)))) pe_int (nomark _)) (pe_one (pe_chain (op_leD hr.units) (op_leD hr.units) (pe_callB (cb_minD rfl hr.units) (by rfl) bn.min_ (by decide +kernel) (pa_cons (pv 0) pa_nil)) (pv 1) (pe_callB (cb_maxD rfl hr.units) (by rfl) bn.max_ (by decide +kernel) (pa_cons (pv 0) pa_nil))))))))
      pss_nil)
    (pss_one (ps_ret (pe_callB (cb_all rfl) (by rfl) bn.all_ (by decide +kernel) (pa_cons (pe_lc (own := [("at", 2)]) (g := (gName 2)) (tt := tYes) rfl nd (pi_range1 (by rfl) bn.range_ (pa_cons (pe_callB Pu.cb_len (by rfl) bn.len_ (by decide +kernel) (pa_cons (pv 0) pa_nil)) pa_nil)) (blkOk_by (N := N_is_within) (sc := defScope s_is_within) (by decide +kernel)) (fun _ _ _ _ _ => (pg_name (i := 2) nd rfl (by first | exact Or.inl rfl | exact Or.inr rfl))) (fun _ _ _ _ _ => pts_nil) (fun _ _ _ _ _ => (pe_cmpR op_ge (pe_cal C_turn (hr.mono h_turn) (by rfl) (pa_cons (pe_ix ix_any (pv 0) (pv 2) (fun _ _ => rfl)) (pa_cons (pe_ix ix_any (pv 0) (pe_op op_mod (pe_op op_plus (pv 2) pe_int) (pe_callB Pu.cb_len (by rfl) bn.len_ (by decide +kernel) (pa_cons (pv 0) pa_nil))) (fun _ _ => rfl)) (pa_cons (pv 1) pa_nil)))) pe_int (nomark _)))) pa_nil)))))
theorem ok_is_within {R : List D → (D → Prop) → Prop} (F : Fun K "is_within" "is_within" s_is_within f fd) (bn : Bn mg) {R_turn : List D → (D → Prop) → Prop} {k_turn : Nat} (C_turn : Cal P w K mg base "turn" ["one", "other", "third"] (spP R_turn) k_turn) (h_turn : k_turn ≤ k) (len : ∀ ds Z, R ds Z → ds.length = 2) (sx : ∀ ds Z, R ds Z → SX (T_is_within K R_turn) (startE N_is_within ds) { nx := fun _ => Z .none, rt := fun d _ => Z d }) :
    FnOk P w K mg base CX0 (k + 1) f fd ["ring", "place"] (spP R) := fn_pure F sc_is_within len fun cdv A outer s H E hr => ⟨_, ps_is_within bn hr C_turn h_turn, sx⟩
theorem ps_minus {cdv : Value} {A : Around} {outer : List PySem.Env} {s : Shared} {H : Hp} {E : XK} (bn : Bn mg) (hr : Room k (A.deeper (PyProof.Rows.envOfC "minus" (defScope s_minus) s.heap.objs.size f cdv))) :
    PSs (cxOf CX0 P w K mg base N_minus "minus" (defScope s_minus) f cdv A outer s H E).nox (defBody s_minus) (T_minus K) :=
  have nd := sc_minus.nd
  (pss_one (ps_ret (pe_tup (pa_cons (pe_op op_sub (pe_ix ix_any (pv 0) pe_int (fun _ _ => rfl)) (pe_ix ix_any (pv 1) pe_int (fun _ _ => rfl))) (pa_cons (pe_op op_sub (pe_ix ix_any (pv 0) pe_int (fun _ _ => rfl)) (pe_ix ix_any (pv 1) pe_int (fun _ _ => rfl))) pa_nil)))))
theorem ok_minus {R : List D → (D → Prop) → Prop} (F : Fun K "minus" "minus" s_minus f fd) (bn : Bn mg) (len : ∀ ds Z, R ds Z → ds.length = 2) (sx : ∀ ds Z, R ds Z → SX (T_minus K) (startE N_minus ds) { nx := fun _ => Z .none, rt := fun d _ => Z d }) :
    FnOk P w K mg base CX0 (k + 1) f fd ["one", "other"] (spP R) := fn_pure F sc_minus len fun cdv A outer s H E hr => ⟨_, ps_minus bn hr, sx⟩
theorem ps_across {cdv : Value} {A : Around} {outer : List PySem.Env} {s : Shared} {H : Hp} {E : XK} (bn : Bn mg) (hr : Room k (A.deeper (PyProof.Rows.envOfC "across" (defScope s_across) s.heap.objs.size f cdv))) :
    PSs (cxOf CX0 P w K mg base N_across "across" (defScope s_across) f cdv A outer s H E).nox (defBody s_across) (T_across K) :=
  have nd := sc_across.nd
  (pss_one (ps_ret (pe_op op_sub (pe_op op_mul (pe_ix ix_any (pv 0) pe_int (fun _ _ => rfl)) (pe_ix ix_any (pv 1) pe_int (fun _ _ => rfl))) (pe_op op_mul (pe_ix ix_any (pv 0) pe_int (fun _ _ => rfl)) (pe_ix ix_any (pv 1) pe_int (fun _ _ => rfl))))))
theorem ok_across {R : List D → (D → Prop) → Prop} (F : Fun K "across" "across" s_across f fd) (bn : Bn mg) (len : ∀ ds Z, R ds Z → ds.length = 2) (sx : ∀ ds Z, R ds Z → SX (T_across K) (startE N_across ds) { nx := fun _ => Z .none, rt := fun d _ => Z d }) :
    FnOk P w K mg base CX0 (k + 1) f fd ["one", "other"] (spP R) := fn_pure F sc_across len fun cdv A outer s H E hr => ⟨_, ps_across bn hr, sx⟩
theorem ps_is_convex {cdv : Value} {A : Around} {outer : List PySem.Env} {s : Shared} {H : Hp} {E : XK} (bn : Bn mg) (hr : Room k (A.deeper (PyProof.Rows.envOfC "is_convex" (defScope s_is_convex) s.heap.objs.size f cdv))) {R_across : List D → (D → Prop) → Prop} {k_across : Nat} (C_across : Cal P w K mg base "across" ["one", "other"] (spP R_across) k_across) (h_across : k_across ≤ k) {R_minus : List D → (D → Prop) → Prop} {k_minus : Nat} (C_minus : Cal P w K mg base "minus" ["one", "other"] (spP R_minus) k_minus) (h_minus : k_minus ≤ k) :
    PSs (cxOf CX0 P w K mg base N_is_convex "is_convex" (defScope s_is_convex) f cdv A outer s H E).nox (defBody s_is_convex) (T_is_convex K R_across R_minus) :=
  have nd := sc_is_convex.nd
  (pss_cons (ps_set (i := 1) nd rfl (by first | exact Or.inl rfl | exact Or.inr rfl) (pe_callB Pu.cb_len (by rfl) bn.len_ (by decide +kernel) (pa_cons (pv 0) pa_nil)))
    (pss_cons (ps_if (pt_cmpR op_lt (pv 1) pe_int (nomark _))
      (pss_one (ps_ret pe_bl))
      pss_nil)
    (pss_cons (ps_for PassesOwn.never rfl (pi_range1 (by rfl) bn.range_ (pa_cons (pv 1) pa_nil)) (pg_name (i := 2) nd rfl (by first | exact Or.inl rfl | exact Or.inr rfl))
      (pss_cons (ps_par (i := 3) (j := 4) rfl nd rfl rfl (by decide) rfl rfl (pa_cons (pe_ix ix_any (pv 0) (pv 2) (fun _ _ => rfl)) (pa_cons (pe_ix ix_any (pv 0) (pe_op op_mod (pe_op op_plus (pv 2) pe_int) (pv 1)) (fun _ _ => rfl)) pa_nil)) (by rfl))
    (pss_cons (ps_for PassesOwn.never rfl (pi_list (pv 0)) (pg_name (i := 5) nd rfl (by first | exact Or.inl rfl | exact Or.inr rfl))
      (pss_one (ps_if (PW.pt (pw_and (pt_cmpR (op_ninP hr.units) (pv 5) (pe_tup (pa_cons (pv 3) (pa_cons (pv 4) pa_nil))) (by rfl)) (pw_and1 (pt_cmpR op_le (pe_cal C_across (hr.mono h_across) (by rfl) (pa_cons (pe_cal C_minus (hr.mono h_minus) (by rfl) (pa_cons (pv 4) (pa_cons (pv 3) pa_nil))) (pa_cons (pe_cal C_minus (hr.mono h_minus) (by rfl) (pa_cons (pv 5) (pa_cons (pv 3) pa_nil))) pa_nil))) pe_int (nomark _)))))
      (pss_one (ps_ret pe_bl))
      pss_nil)))
    (pss_one (ps_if (pt_cmpR (op_eqP hr.units) (pv 3) (pv 4) (nomark _))
      (pss_one (ps_ret pe_bl))
      pss_nil)))))
    (pss_one (ps_ret pe_bl)))))
theorem ok_is_convex {R : List D → (D → Prop) → Prop} (F : Fun K "is_convex" "is_convex" s_is_convex f fd) (bn : Bn mg) {R_across : List D → (D → Prop) → Prop} {k_across : Nat} (C_across : Cal P w K mg base "across" ["one", "other"] (spP R_across) k_across) (h_across : k_across ≤ k) {R_minus : List D → (D → Prop) → Prop} {k_minus : Nat} (C_minus : Cal P w K mg base "minus" ["one", "other"] (spP R_minus) k_minus) (h_minus : k_minus ≤ k) (len : ∀ ds Z, R ds Z → ds.length = 1) (sx : ∀ ds Z, R ds Z → SX (T_is_convex K R_across R_minus) (startE N_is_convex ds) { nx := fun _ => Z .none, rt := fun d _ => Z d }) :
    FnOk P w K mg base CX0 (k + 1) f fd ["corners"] (spP R) := fn_pure F sc_is_convex len fun cdv A outer s H E hr => ⟨_, ps_is_convex bn hr C_across h_across C_minus h_minus, sx⟩
theorem ps_fallen {cdv : Value} {A : Around} {outer : List PySem.Env} {s : Shared} {H : Hp} {E : XK} (bn : Bn mg) (hr : Room k (A.deeper (PyProof.Rows.envOfC "fallen" (defScope s_fallen) s.heap.objs.size f cdv))) :
    PSs (cxOf CX0 P w K mg base N_fallen "fallen" (defScope s_fallen) f cdv A outer s H E).nox (defBody s_fallen) (T_fallen K) :=
  have nd := sc_fallen.nd
  (pss_one (ps_ret (pe_lc (own := [("wind", 3)]) (g := (gName 3)) (tt := tYes) rfl nd (pi_list (pv 1)) (blkOk_by (N := N_fallen) (sc := defScope s_fallen) (by decide +kernel)) (fun _ _ _ _ _ => (pg_name (i := 3) nd rfl (by first | exact Or.inl rfl | exact Or.inr rfl))) (fun _ _ _ _ _ => pts_nil) (fun _ _ _ _ _ => (pe_tup (pa_cons (pe_op op_plus (pe_ix ix_any (pv 0) pe_int (fun _ _ => rfl)) (pe_op op_mul (pv 2) (pe_ix ix_any (pv 3) pe_int (fun _ _ => rfl)))) (pa_cons (pe_op op_plus (pe_ix ix_any (pv 0) pe_int (fun _ _ => rfl)) (pe_op op_mul (pv 2) (pe_ix ix_any (pv 3) pe_int (fun _ _ => rfl)))) pa_nil)))))))
theorem ok_fallen {R : List D → (D → Prop) → Prop} (F : Fun K "fallen" "fallen" s_fallen f fd) (bn : Bn mg) (len : ∀ ds Z, R ds Z → ds.length = 3) (sx : ∀ ds Z, R ds Z → SX (T_fallen K) (startE N_fallen ds) { nx := fun _ => Z .none, rt := fun d _ => Z d }) :
    FnOk P w K mg base CX0 (k + 1) f fd ["start", "winds", "ticks"] (spP R) := fn_pure F sc_fallen len fun cdv A outer s H E hr => ⟨_, ps_fallen bn hr, sx⟩
theorem ps_parting_edge {cdv : Value} {A : Around} {outer : List PySem.Env} {s : Shared} {H : Hp} {E : XK} (bn : Bn mg) (hr : Room k (A.deeper (PyProof.Rows.envOfC "parting_edge" (defScope s_parting_edge) s.heap.objs.size f cdv))) {R_across : List D → (D → Prop) → Prop} {k_across : Nat} (C_across : Cal P w K mg base "across" ["one", "other"] (spP R_across) k_across) (h_across : k_across ≤ k) {R_minus : List D → (D → Prop) → Prop} {k_minus : Nat} (C_minus : Cal P w K mg base "minus" ["one", "other"] (spP R_minus) k_minus) (h_minus : k_minus ≤ k) :
    PSs (cxOf CX0 P w K mg base N_parting_edge "parting_edge" (defScope s_parting_edge) f cdv A outer s H E).nox (defBody s_parting_edge) (T_parting_edge K R_across R_minus) :=
  have nd := sc_parting_edge.nd
  (pss_cons (ps_for PassesOwn.never rfl (pi_range1 (by rfl) bn.range_ (pa_cons (pe_callB Pu.cb_len (by rfl) bn.len_ (by decide +kernel) (pa_cons (pv 0) pa_nil)) pa_nil)) (pg_name (i := 2) nd rfl (by first | exact Or.inl rfl | exact Or.inr rfl))
      (pss_cons (ps_asg (pe_tup (pa_cons (pe_ix ix_any (pv 0) (pv 2) (fun _ _ => rfl)) (pa_cons (pe_ix ix_any (pv 0) (pe_op op_mod (pe_op op_plus (pv 2) pe_int) (pe_callB Pu.cb_len (by rfl) bn.len_ (by decide +kernel) (pa_cons (pv 0) pa_nil))) (fun _ _ => rfl)) pa_nil))) (pg_tup (n := 2) rfl (pgs_cons (pg_name (i := 3) nd rfl (by first | exact Or.inl rfl | exact Or.inr rfl)) (pgs_cons (pg_name (i := 4) nd rfl (by first | exact Or.inl rfl | exact Or.inr rfl)) pgs_nil))))
    (pss_one (ps_if (pt_val (pe_callB (cb_all rfl) (by rfl) bn.all_ (by decide +kernel) (pa_cons (pe_lc (own := [("corner", 5)]) (g := (gName 5)) (tt := tYes) rfl nd (pi_list (pv 1)) (blkOk_by (N := N_parting_edge) (sc := defScope s_parting_edge) (by decide +kernel)) (fun _ _ _ _ _ => (pg_name (i := 5) nd rfl (by first | exact Or.inl rfl | exact Or.inr rfl))) (fun _ _ _ _ _ => pts_nil) (fun _ _ _ _ _ => (pe_cmpR op_le (pe_cal C_across (hr.mono h_across) (by rfl) (pa_cons (pe_cal C_minus (hr.mono h_minus) (by rfl) (pa_cons (pv 4) (pa_cons (pv 3) pa_nil))) (pa_cons (pe_cal C_minus (hr.mono h_minus) (by rfl) (pa_cons (pv 5) (pa_cons (pv 3) pa_nil))) pa_nil))) pe_int (nomark _)))) pa_nil)))
      (pss_one (ps_ret (pv 2)))
      pss_nil))))
    (pss_one (ps_ret pe_non)))
theorem ok_parting_edge {R : List D → (D → Prop) → Prop} (F : Fun K "parting_edge" "parting_edge" s_parting_edge f fd) (bn : Bn mg) {R_across : List D → (D → Prop) → Prop} {k_across : Nat} (C_across : Cal P w K mg base "across" ["one", "other"] (spP R_across) k_across) (h_across : k_across ≤ k) {R_minus : List D → (D → Prop) → Prop} {k_minus : Nat} (C_minus : Cal P w K mg base "minus" ["one", "other"] (spP R_minus) k_minus) (h_minus : k_minus ≤ k) (len : ∀ ds Z, R ds Z → ds.length = 2) (sx : ∀ ds Z, R ds Z → SX (T_parting_edge K R_across R_minus) (startE N_parting_edge ds) { nx := fun _ => Z .none, rt := fun d _ => Z d }) :
    FnOk P w K mg base CX0 (k + 1) f fd ["one", "other"] (spP R) := fn_pure F sc_parting_edge len fun cdv A outer s H E hr => ⟨_, ps_parting_edge bn hr C_across h_across C_minus h_minus, sx⟩
theorem ps_clipped {cdv : Value} {A : Around} {outer : List PySem.Env} {s : Shared} {H : Hp} {E : XK} (bn : Bn mg) (hr : Room k (A.deeper (PyProof.Rows.envOfC "clipped" (defScope s_clipped) s.heap.objs.size f cdv))) {R_across : List D → (D → Prop) → Prop} {k_across : Nat} (C_across : Cal P w K mg base "across" ["one", "other"] (spP R_across) k_across) (h_across : k_across ≤ k) {R_minus : List D → (D → Prop) → Prop} {k_minus : Nat} (C_minus : Cal P w K mg base "minus" ["one", "other"] (spP R_minus) k_minus) (h_minus : k_minus ≤ k) {R_crossing : List D → (D → Prop) → Prop} {k_crossing : Nat} (C_crossing : Cal P w K mg base "crossing" ["one", "two", "left", "right"] (spP R_crossing) k_crossing) (h_crossing : k_crossing ≤ k) :
    PSs (cxOf CX0 P w K mg base N_clipped "clipped" (defScope s_clipped) f cdv A outer s H E).nox (defBody s_clipped) (T_clipped K R_across R_minus R_crossing) :=
  have nd := sc_clipped.nd
  (pss_cons (ps_set (i := 3) nd rfl (by first | exact Or.inl rfl | exact Or.inr rfl) (pe_lst pa_nil))
    (pss_cons (ps_set (i := 4) nd rfl (by first | exact Or.inl rfl | exact Or.inr rfl) (pe_lst pa_nil))
    (pss_cons (ps_for PassesOwn.never rfl (pi_list (pv 0)) (pg_tup (n := 3) rfl (pgs_cons (pg_name (i := 5) nd rfl (by first | exact Or.inl rfl | exact Or.inr rfl)) (pgs_cons (pg_name (i := 6) nd rfl (by first | exact Or.inl rfl | exact Or.inr rfl)) (pgs_cons (pg_name (i := 7) nd rfl (by first | exact Or.inl rfl | exact Or.inr rfl)) pgs_nil))))
      (pss_one (ps_expr (pe_bm PySem.F.plainAttrs_list PySem.F.slot_list_append PySem.F.type_list_append mt_append (pv 4) (pa_cons (pe_cal C_across (hr.mono h_across) (by rfl) (pa_cons (pe_cal C_minus (hr.mono h_minus) (by rfl) (pa_cons (pv 2) (pa_cons (pv 1) pa_nil))) (pa_cons (pe_tup (pa_cons (pe_op op_sub (pv 5) (pe_op op_mul (pe_ix ix_any (pv 1) pe_int (fun _ _ => rfl)) (pv 7))) (pa_cons (pe_op op_sub (pv 6) (pe_op op_mul (pe_ix ix_any (pv 1) pe_int (fun _ _ => rfl)) (pv 7))) pa_nil))) pa_nil))) pa_nil)))))
    (pss_cons (ps_for PassesOwn.never rfl (pi_range1 (by rfl) bn.range_ (pa_cons (pe_callB Pu.cb_len (by rfl) bn.len_ (by decide +kernel) (pa_cons (pv 0) pa_nil)) pa_nil)) (pg_name (i := 8) nd rfl (by first | exact Or.inl rfl | exact Or.inr rfl))
      (pss_cons (ps_par (i := 9) (j := 10) rfl nd rfl rfl (by decide) rfl rfl (pa_cons (pe_ix ix_any (pv 0) (pv 8) (fun _ _ => rfl)) (pa_cons (pe_ix ix_any (pv 0) (pe_op op_mod (pe_op op_plus (pv 8) pe_int) (pe_callB Pu.cb_len (by rfl) bn.len_ (by decide +kernel) (pa_cons (pv 0) pa_nil))) (fun _ _ => rfl)) pa_nil)) (by rfl))
    (pss_cons (ps_par (i := 11) (j := 12) rfl nd rfl rfl (by decide) rfl rfl (pa_cons (pe_ix ix_any (pv 4) (pv 8) (fun _ _ => rfl)) (pa_cons (pe_ix ix_any (pv 4) (pe_op op_mod (pe_op op_plus (pv 8) pe_int) (pe_callB Pu.cb_len (by rfl) bn.len_ (by decide +kernel) (pa_cons (pv 0) pa_nil))) (fun _ _ => rfl)) pa_nil)) (by rfl))
    (pss_cons (ps_if (pt_cmpR op_ge (pv 11) pe_int (nomark _))
      (pss_one (ps_expr (pe_bm PySem.F.plainAttrs_list PySem.F.slot_list_append PySem.F.type_list_append mt_append (pv 3) (pa_cons (pv 9) pa_nil))))
      pss_nil)
    (pss_one (ps_if (PW.pt (pw_or (pt_chain op_gt op_gt (pv 11) pe_int (pv 12)) (pw_or1 (pt_chain op_lt op_lt (pv 11) pe_int (pv 12)))))
      (pss_one (ps_expr (pe_bm PySem.F.plainAttrs_list PySem.F.slot_list_append PySem.F.type_list_append mt_append (pv 3) (pa_cons (pe_cal C_crossing (hr.mono h_crossing) (by rfl) (pa_cons (pv 9) (pa_cons (pv 10) (pa_cons (pv 11) (pa_cons (pv 12) pa_nil))))) pa_nil))))
      pss_nil))))))
    (pss_one (ps_ret (pv 3)))))))
theorem ok_clipped {R : List D → (D → Prop) → Prop} (F : Fun K "clipped" "clipped" s_clipped f fd) (bn : Bn mg) {R_across : List D → (D → Prop) → Prop} {k_across : Nat} (C_across : Cal P w K mg base "across" ["one", "other"] (spP R_across) k_across) (h_across : k_across ≤ k) {R_minus : List D → (D → Prop) → Prop} {k_minus : Nat} (C_minus : Cal P w K mg base "minus" ["one", "other"] (spP R_minus) k_minus) (h_minus : k_minus ≤ k) {R_crossing : List D → (D → Prop) → Prop} {k_crossing : Nat} (C_crossing : Cal P w K mg base "crossing" ["one", "two", "left", "right"] (spP R_crossing) k_crossing) (h_crossing : k_crossing ≤ k) (len : ∀ ds Z, R ds Z → ds.length = 3) (sx : ∀ ds Z, R ds Z → SX (T_clipped K R_across R_minus R_crossing) (startE N_clipped ds) { nx := fun _ => Z .none, rt := fun d _ => Z d }) :
    FnOk P w K mg base CX0 (k + 1) f fd ["corners", "here", "after"] (spP R) := fn_pure F sc_clipped len fun cdv A outer s H E hr => ⟨_, ps_clipped bn hr C_across h_across C_minus h_minus C_crossing h_crossing, sx⟩
theorem ps_crossing {cdv : Value} {A : Around} {outer : List PySem.Env} {s : Shared} {H : Hp} {E : XK} (bn : Bn mg) (hr : Room k (A.deeper (PyProof.Rows.envOfC "crossing" (defScope s_crossing) s.heap.objs.size f cdv))) {R_lowest : List D → (D → Prop) → Prop} {k_lowest : Nat} (C_lowest : Cal P w K mg base "lowest" ["x", "y", "by"] (spP R_lowest) k_lowest) (h_lowest : k_lowest ≤ k) :
    PSs (cxOf CX0 P w K mg base N_crossing "crossing" (defScope s_crossing) f cdv A outer s H E).nox (defBody s_crossing) (T_crossing K R_lowest) :=
  have nd := sc_crossing.nd
  (pss_cons (ps_par (i := 4) (j := 5) rfl nd rfl rfl (by decide) rfl rfl (pa_cons (pe_op op_mulW (pe_callB cb_abs (by rfl) bn.abs_ (by decide +kernel) (pa_cons (pv 2) pa_nil)) (pe_ix ix_any (pv 1) pe_int (fun _ _ => rfl))) (pa_cons (pe_op op_mulW (pe_callB cb_abs (by rfl) bn.abs_ (by decide +kernel) (pa_cons (pv 3) pa_nil)) (pe_ix ix_any (pv 0) pe_int (fun _ _ => rfl))) pa_nil)) (by rfl))
    (pss_cons (ps_set (i := 6) nd rfl (by first | exact Or.inl rfl | exact Or.inr rfl) (pe_op op_mulW (pe_op op_mulW (pe_ix ix_any (pv 0) pe_int (fun _ _ => rfl)) (pe_ix ix_any (pv 1) pe_int (fun _ _ => rfl))) (pe_op op_plus (pe_op op_mulW (pe_callB cb_abs (by rfl) bn.abs_ (by decide +kernel) (pa_cons (pv 2) pa_nil)) (pe_ix ix_any (pv 1) pe_int (fun _ _ => rfl))) (pe_op op_mulW (pe_callB cb_abs (by rfl) bn.abs_ (by decide +kernel) (pa_cons (pv 3) pa_nil)) (pe_ix ix_any (pv 0) pe_int (fun _ _ => rfl))))))
    (pss_cons (ps_set (i := 7) nd rfl (by first | exact Or.inl rfl | exact Or.inr rfl) (pe_op op_plus (pe_op op_mulW (pe_op op_mulW (pe_ix ix_any (pv 1) pe_int (fun _ _ => rfl)) (pe_ix ix_any (pv 0) pe_int (fun _ _ => rfl))) (pv 4)) (pe_op op_mulW (pe_op op_mulW (pe_ix ix_any (pv 0) pe_int (fun _ _ => rfl)) (pe_ix ix_any (pv 1) pe_int (fun _ _ => rfl))) (pv 5))))
    (pss_cons (ps_set (i := 8) nd rfl (by first | exact Or.inl rfl | exact Or.inr rfl) (pe_op op_plus (pe_op op_mulW (pe_op op_mulW (pe_ix ix_any (pv 1) pe_int (fun _ _ => rfl)) (pe_ix ix_any (pv 0) pe_int (fun _ _ => rfl))) (pv 4)) (pe_op op_mulW (pe_op op_mulW (pe_ix ix_any (pv 0) pe_int (fun _ _ => rfl)) (pe_ix ix_any (pv 1) pe_int (fun _ _ => rfl))) (pv 5))))
    (pss_one (ps_ret (pe_cal C_lowest (hr.mono h_lowest) (by rfl) (pa_cons (pv 7) (pa_cons (pv 8) (pa_cons (pv 6) pa_nil))))))))))
theorem ok_crossing {R : List D → (D → Prop) → Prop} (F : Fun K "crossing" "crossing" s_crossing f fd) (bn : Bn mg) {R_lowest : List D → (D → Prop) → Prop} {k_lowest : Nat} (C_lowest : Cal P w K mg base "lowest" ["x", "y", "by"] (spP R_lowest) k_lowest) (h_lowest : k_lowest ≤ k) (len : ∀ ds Z, R ds Z → ds.length = 4) (sx : ∀ ds Z, R ds Z → SX (T_crossing K R_lowest) (startE N_crossing ds) { nx := fun _ => Z .none, rt := fun d _ => Z d }) :
    FnOk P w K mg base CX0 (k + 1) f fd ["one", "two", "left", "right"] (spP R) := fn_pure F sc_crossing len fun cdv A outer s H E hr => ⟨_, ps_crossing bn hr C_lowest h_lowest, sx⟩
theorem ps_lowest {cdv : Value} {A : Around} {outer : List PySem.Env} {s : Shared} {H : Hp} {E : XK} (bn : Bn mg) (hr : Room k (A.deeper (PyProof.Rows.envOfC "lowest" (defScope s_lowest) s.heap.objs.size f cdv))) :
    PSs (cxOf CX0 P w K mg base N_lowest "lowest" (defScope s_lowest) f cdv A outer s H E).nox (defBody s_lowest) (T_lowest K) :=
  have nd := sc_lowest.nd
  (pss_cons (ps_par (i := 3) (j := 4) rfl nd rfl rfl (by decide) rfl rfl (pa_cons (pe_callB cb_abs (by rfl) bn.abs_ (by decide +kernel) (pa_cons (pv 0) pa_nil)) (pa_cons (pv 2) pa_nil)) (by rfl))
    (pss_cons (ps_while PassesOwn.never (pt_cmpR op_gt (pv 4) pe_int (nomark _))
      (pss_one (ps_par (i := 3) (j := 4) rfl nd rfl rfl (by decide) rfl rfl (pa_cons (pv 4) (pa_cons (pe_op op_mod (pv 3) (pv 4)) pa_nil)) (by rfl))))
    (pss_cons (ps_par (i := 5) (j := 4) rfl nd rfl rfl (by decide) rfl rfl (pa_cons (pe_callB cb_abs (by rfl) bn.abs_ (by decide +kernel) (pa_cons (pv 1) pa_nil)) (pa_cons (pv 3) pa_nil)) (by rfl))
    (pss_cons (ps_while PassesOwn.never (pt_cmpR op_gt (pv 4) pe_int (nomark _))
      (pss_one (ps_par (i := 5) (j := 4) rfl nd rfl rfl (by decide) rfl rfl (pa_cons (pv 4) (pa_cons (pe_op op_mod (pv 5) (pv 4)) pa_nil)) (by rfl))))
    (pss_one (ps_ret (pe_tup (pa_cons (pe_op op_fdivW (pv 0) (pv 5)) (pa_cons (pe_op op_fdivW (pv 1) (pv 5)) (pa_cons (pe_op op_fdivW (pv 2) (pv 5)) pa_nil))))))))))
theorem ok_lowest {R : List D → (D → Prop) → Prop} (F : Fun K "lowest" "lowest" s_lowest f fd) (bn : Bn mg) (len : ∀ ds Z, R ds Z → ds.length = 3) (sx : ∀ ds Z, R ds Z → SX (T_lowest K) (startE N_lowest ds) { nx := fun _ => Z .none, rt := fun d _ => Z d }) :
    FnOk P w K mg base CX0 (k + 1) f fd ["x", "y", "by"] (spP R) := fn_pure F sc_lowest len fun cdv A outer s H E hr => ⟨_, ps_lowest bn hr, sx⟩
theorem ps_meeting {cdv : Value} {A : Around} {outer : List PySem.Env} {s : Shared} {H : Hp} {E : XK} (bn : Bn mg) (hr : Room k (A.deeper (PyProof.Rows.envOfC "meeting" (defScope s_meeting) s.heap.objs.size f cdv))) {R_clipped : List D → (D → Prop) → Prop} {k_clipped : Nat} (C_clipped : Cal P w K mg base "clipped" ["corners", "here", "after"] (spP R_clipped) k_clipped) (h_clipped : k_clipped ≤ k) :
    PSs (cxOf CX0 P w K mg base N_meeting "meeting" (defScope s_meeting) f cdv A outer s H E).nox (defBody s_meeting) (T_meeting K R_clipped) :=
  have nd := sc_meeting.nd
  (pss_cons (ps_setLc (i := 2) (own := [("x", 3), ("y", 4)]) (g := (gTup K 2 (gCons (gName 3) (gCons (gName 4) gNil)))) (tt := tYes) rfl nd rfl rfl (sw_true rfl rfl rfl (by decide +kernel)) (pi_list (pv 0)) (blkOk_by (N := N_meeting) (sc := defScope s_meeting) (by decide +kernel)) (fun _ _ _ _ _ => (pg_tup (n := 2) rfl (pgs_cons (pg_name (i := 3) nd rfl (by first | exact Or.inl rfl | exact Or.inr rfl)) (pgs_cons (pg_name (i := 4) nd rfl (by first | exact Or.inl rfl | exact Or.inr rfl)) pgs_nil)))) (fun _ _ _ _ _ => pts_nil) (fun _ _ _ _ _ => (pe_tup (pa_cons (pv 3) (pa_cons (pv 4) (pa_cons pe_int pa_nil))))))
    (pss_cons (ps_for PassesOwn.never rfl (pi_range1 (by rfl) bn.range_ (pa_cons (pe_callB Pu.cb_len (by rfl) bn.len_ (by decide +kernel) (pa_cons (pv 1) pa_nil)) pa_nil)) (pg_name (i := 5) nd rfl (by first | exact Or.inl rfl | exact Or.inr rfl))
      (pss_one (ps_set (i := 2) nd rfl (by first | exact Or.inl rfl | exact Or.inr rfl) (pe_cal C_clipped (hr.mono h_clipped) (by rfl) (pa_cons (pv 2) (pa_cons (pe_ix ix_any (pv 1) (pv 5) (fun _ _ => rfl)) (pa_cons (pe_ix ix_any (pv 1) (pe_op op_mod (pe_op op_plus (pv 5) pe_int) (pe_callB Pu.cb_len (by rfl) bn.len_ (by decide +kernel) (pa_cons (pv 1) pa_nil))) (fun _ _ => rfl)) pa_nil)))))))
    (pss_one (ps_ret (pv 2)))))
theorem ok_meeting {R : List D → (D → Prop) → Prop} (F : Fun K "meeting" "meeting" s_meeting f fd) (bn : Bn mg) {R_clipped : List D → (D → Prop) → Prop} {k_clipped : Nat} (C_clipped : Cal P w K mg base "clipped" ["corners", "here", "after"] (spP R_clipped) k_clipped) (h_clipped : k_clipped ≤ k) (len : ∀ ds Z, R ds Z → ds.length = 2) (sx : ∀ ds Z, R ds Z → SX (T_meeting K R_clipped) (startE N_meeting ds) { nx := fun _ => Z .none, rt := fun d _ => Z d }) :
    FnOk P w K mg base CX0 (k + 1) f fd ["one", "other"] (spP R) := fn_pure F sc_meeting len fun cdv A outer s H E hr => ⟨_, ps_meeting bn hr C_clipped h_clipped, sx⟩
theorem ps_middle {cdv : Value} {A : Around} {outer : List PySem.Env} {s : Shared} {H : Hp} {E : XK} (bn : Bn mg) (hr : Room k (A.deeper (PyProof.Rows.envOfC "middle" (defScope s_middle) s.heap.objs.size f cdv))) {R_lowest : List D → (D → Prop) → Prop} {k_lowest : Nat} (C_lowest : Cal P w K mg base "lowest" ["x", "y", "by"] (spP R_lowest) k_lowest) (h_lowest : k_lowest ≤ k) :
    PSs (cxOf CX0 P w K mg base N_middle "middle" (defScope s_middle) f cdv A outer s H E).nox (defBody s_middle) (T_middle K R_lowest) :=
  have nd := sc_middle.nd
  (pss_cons (ps_set (i := 1) nd rfl (by first | exact Or.inl rfl | exact Or.inr rfl) pe_int)
    (pss_cons (ps_for PassesOwn.never rfl (pi_list (pv 0)) (pg_name (i := 2) nd rfl (by first | exact Or.inl rfl | exact Or.inr rfl))
      (pss_one (ps_set (i := 1) nd rfl (by first | exact Or.inl rfl | exact Or.inr rfl) (pe_op op_mulW (pv 1) (pe_ix ix_any (pv 2) pe_int (fun _ _ => rfl))))))
    (pss_cons (ps_set (i := 3) nd rfl (by first | exact Or.inl rfl | exact Or.inr rfl) (pe_callB (cr_sum rfl) (by rfl) bn.sum_ (by decide +kernel) (pa_cons (pe_lc (own := [("corner", 2)]) (g := (gName 2)) (tt := tYes) rfl nd (pi_list (pv 0)) (blkOk_by (N := N_middle) (sc := defScope s_middle) (by decide +kernel)) (fun _ _ _ _ _ => (pg_name (i := 2) nd rfl (by first | exact Or.inl rfl | exact Or.inr rfl))) (fun _ _ _ _ _ => pts_nil) (fun _ _ _ _ _ => (pe_op op_mulW (pe_ix ix_any (pv 2) pe_int (fun _ _ => rfl)) (pe_op op_fdivW (pv 1) (pe_ix ix_any (pv 2) pe_int (fun _ _ => rfl)))))) pa_nil)))
    (pss_cons (ps_set (i := 4) nd rfl (by first | exact Or.inl rfl | exact Or.inr rfl) (pe_callB (cr_sum rfl) (by rfl) bn.sum_ (by decide +kernel) (pa_cons (pe_lc (own := [("corner", 2)]) (g := (gName 2)) (tt := tYes) rfl nd (pi_list (pv 0)) (blkOk_by (N := N_middle) (sc := defScope s_middle) (by decide +kernel)) (fun _ _ _ _ _ => (pg_name (i := 2) nd rfl (by first | exact Or.inl rfl | exact Or.inr rfl))) (fun _ _ _ _ _ => pts_nil) (fun _ _ _ _ _ => (pe_op op_mulW (pe_ix ix_any (pv 2) pe_int (fun _ _ => rfl)) (pe_op op_fdivW (pv 1) (pe_ix ix_any (pv 2) pe_int (fun _ _ => rfl)))))) pa_nil)))
    (pss_one (ps_ret (pe_cal C_lowest (hr.mono h_lowest) (by rfl) (pa_cons (pv 3) (pa_cons (pv 4) (pa_cons (pe_op op_mulW (pv 1) (pe_callB Pu.cb_len (by rfl) bn.len_ (by decide +kernel) (pa_cons (pv 0) pa_nil))) pa_nil))))))))))
theorem ok_middle {R : List D → (D → Prop) → Prop} (F : Fun K "middle" "middle" s_middle f fd) (bn : Bn mg) {R_lowest : List D → (D → Prop) → Prop} {k_lowest : Nat} (C_lowest : Cal P w K mg base "lowest" ["x", "y", "by"] (spP R_lowest) k_lowest) (h_lowest : k_lowest ≤ k) (len : ∀ ds Z, R ds Z → ds.length = 1) (sx : ∀ ds Z, R ds Z → SX (T_middle K R_lowest) (startE N_middle ds) { nx := fun _ => Z .none, rt := fun d _ => Z d }) :
    FnOk P w K mg base CX0 (k + 1) f fd ["corners"] (spP R) := fn_pure F sc_middle len fun cdv A outer s H E hr => ⟨_, ps_middle bn hr C_lowest h_lowest, sx⟩
theorem ps_may_hit {cdv : Value} {A : Around} {outer : List PySem.Env} {s : Shared} {H : Hp} {E : XK} (bn : Bn mg) (hr : Room k (A.deeper (PyProof.Rows.envOfC "may_hit" (defScope s_may_hit) s.heap.objs.size f cdv))) {R_fallen : List D → (D → Prop) → Prop} {k_fallen : Nat} (C_fallen : Cal P w K mg base "fallen" ["start", "winds", "ticks"] (spP R_fallen) k_fallen) (h_fallen : k_fallen ≤ k) {R_middle : List D → (D → Prop) → Prop} {k_middle : Nat} (C_middle : Cal P w K mg base "middle" ["corners"] (spP R_middle) k_middle) (h_middle : k_middle ≤ k) {R_parting_edge : List D → (D → Prop) → Prop} {k_parting_edge : Nat} (C_parting_edge : Cal P w K mg base "parting_edge" ["one", "other"] (spP R_parting_edge) k_parting_edge) (h_parting_edge : k_parting_edge ≤ k) {R_meeting : List D → (D → Prop) → Prop} {k_meeting : Nat} (C_meeting : Cal P w K mg base "meeting" ["one", "other"] (spP R_meeting) k_meeting) (h_meeting : k_meeting ≤ k) {R_lowest : List D → (D → Prop) → Prop} {k_lowest : Nat} (C_lowest : Cal P w K mg base "lowest" ["x", "y", "by"] (spP R_lowest) k_lowest) (h_lowest : k_lowest ≤ k) :
    PSs (cxOf CX0 P w K mg base N_may_hit "may_hit" (defScope s_may_hit) f cdv A outer s H E).nox (defBody s_may_hit) (T_may_hit K R_fallen R_middle R_parting_edge R_meeting R_lowest) :=
  have nd := sc_may_hit.nd
  (pss_cons (ps_set (i := 4) nd rfl (by first | exact Or.inl rfl | exact Or.inr rfl) (pe_cal C_fallen (hr.mono h_fallen) (by rfl) (pa_cons (pv 0) (pa_cons (pv 1) (pa_cons (pv 2) pa_nil)))))
    (pss_cons (ps_for PassesOwn.never rfl (pi_enumT (by rfl) bn.enumerate_ (pa_cons (pe_tup (pa_cons (pe_tup (pa_cons (pv 4) (pa_cons (pv 3) pa_nil))) (pa_cons (pe_tup (pa_cons (pv 3) (pa_cons (pv 4) pa_nil))) pa_nil))) pa_nil)) (pg_tup (n := 2) rfl (pgs_cons (pg_name (i := 5) nd rfl (by first | exact Or.inl rfl | exact Or.inr rfl)) (pgs_cons (pg_tup (n := 2) rfl (pgs_cons (pg_name (i := 6) nd rfl (by first | exact Or.inl rfl | exact Or.inr rfl)) (pgs_cons (pg_name (i := 7) nd rfl (by first | exact Or.inl rfl | exact Or.inr rfl)) pgs_nil))) pgs_nil)))
      (pss_cons (ps_set (i := 8) nd rfl (by first | exact Or.inl rfl | exact Or.inr rfl) (pe_cal C_parting_edge (hr.mono h_parting_edge) (by rfl) (pa_cons (pv 6) (pa_cons (pv 7) pa_nil))))
    (pss_one (ps_if (pt_cmpR op_isnt (pv 8) pe_non (nomark _))
      (pss_one (ps_ret (pe_tup (pa_cons pe_str (pa_cons (pv 5) (pa_cons (pv 8) pa_nil))))))
      pss_nil))))
    (pss_cons (ps_asg (pe_cal C_middle (hr.mono h_middle) (by rfl) (pa_cons (pe_cal C_meeting (hr.mono h_meeting) (by rfl) (pa_cons (pv 4) (pa_cons (pv 3) pa_nil))) pa_nil)) (pg_tup (n := 3) rfl (pgs_cons (pg_name (i := 9) nd rfl (by first | exact Or.inl rfl | exact Or.inr rfl)) (pgs_cons (pg_name (i := 10) nd rfl (by first | exact Or.inl rfl | exact Or.inr rfl)) (pgs_cons (pg_name (i := 11) nd rfl (by first | exact Or.inl rfl | exact Or.inr rfl)) pgs_nil)))))
    (pss_one (ps_ret (pe_tup (pa_cons pe_str (pa_cons (pe_cal C_lowest (hr.mono h_lowest) (by rfl) (pa_cons (pe_op op_sub (pv 9) (pe_op op_mul (pe_ix ix_any (pv 0) pe_int (fun _ _ => rfl)) (pv 11))) (pa_cons (pe_op op_sub (pv 10) (pe_op op_mul (pe_ix ix_any (pv 0) pe_int (fun _ _ => rfl)) (pv 11))) (pa_cons (pe_op op_mul (pv 11) (pv 2)) pa_nil)))) pa_nil))))))))
theorem ok_may_hit {R : List D → (D → Prop) → Prop} (F : Fun K "may_hit" "may_hit" s_may_hit f fd) (bn : Bn mg) {R_fallen : List D → (D → Prop) → Prop} {k_fallen : Nat} (C_fallen : Cal P w K mg base "fallen" ["start", "winds", "ticks"] (spP R_fallen) k_fallen) (h_fallen : k_fallen ≤ k) {R_middle : List D → (D → Prop) → Prop} {k_middle : Nat} (C_middle : Cal P w K mg base "middle" ["corners"] (spP R_middle) k_middle) (h_middle : k_middle ≤ k) {R_parting_edge : List D → (D → Prop) → Prop} {k_parting_edge : Nat} (C_parting_edge : Cal P w K mg base "parting_edge" ["one", "other"] (spP R_parting_edge) k_parting_edge) (h_parting_edge : k_parting_edge ≤ k) {R_meeting : List D → (D → Prop) → Prop} {k_meeting : Nat} (C_meeting : Cal P w K mg base "meeting" ["one", "other"] (spP R_meeting) k_meeting) (h_meeting : k_meeting ≤ k) {R_lowest : List D → (D → Prop) → Prop} {k_lowest : Nat} (C_lowest : Cal P w K mg base "lowest" ["x", "y", "by"] (spP R_lowest) k_lowest) (h_lowest : k_lowest ≤ k) (len : ∀ ds Z, R ds Z → ds.length = 4) (sx : ∀ ds Z, R ds Z → SX (T_may_hit K R_fallen R_middle R_parting_edge R_meeting R_lowest) (startE N_may_hit ds) { nx := fun _ => Z .none, rt := fun d _ => Z d }) :
    FnOk P w K mg base CX0 (k + 1) f fd ["start", "winds", "ticks", "place"] (spP R) := fn_pure F sc_may_hit len fun cdv A outer s H E hr => ⟨_, ps_may_hit bn hr C_fallen h_fallen C_middle h_middle C_parting_edge h_parting_edge C_meeting h_meeting C_lowest h_lowest, sx⟩
theorem ps_safe_of {cdv : Value} {A : Around} {outer : List PySem.Env} {s : Shared} {H : Hp} {E : XK} (bn : Bn mg) (hr : Room k (A.deeper (PyProof.Rows.envOfC "safe_of" (defScope s_safe_of) s.heap.objs.size f cdv))) {R_may_hit : List D → (D → Prop) → Prop} {k_may_hit : Nat} (C_may_hit : Cal P w K mg base "may_hit" ["start", "winds", "ticks", "place"] (spP R_may_hit) k_may_hit) (h_may_hit : k_may_hit ≤ k) :
    PSs (cxOf CX0 P w K mg base N_safe_of "safe_of" (defScope s_safe_of) f cdv A outer s H E).nox (defBody s_safe_of) (T_safe_of K R_may_hit) :=
  have nd := sc_safe_of.nd
  (pss_cons (ps_set (i := 3) nd rfl (by first | exact Or.inl rfl | exact Or.inr rfl) (pe_lst pa_nil))
    (pss_cons (ps_set (i := 4) nd rfl (by first | exact Or.inl rfl | exact Or.inr rfl) (pe_lst pa_nil))
    (pss_cons (ps_for PassesOwn.never rfl (pi_enum (by rfl) bn.enumerate_ (pa_cons (pv 2) pa_nil)) (pg_tup (n := 2) rfl (pgs_cons (pg_name (i := 5) nd rfl (by first | exact Or.inl rfl | exact Or.inr rfl)) (pgs_cons (pg_name (i := 6) nd rfl (by first | exact Or.inl rfl | exact Or.inr rfl)) pgs_nil)))
      (pss_cons (ps_setLc (i := 7) (own := [("start", 8), ("ticks", 9)]) (g := (gTup K 2 (gCons (gName 8) (gCons (gName 9) gNil)))) (tt := tYes) rfl nd rfl rfl (sw_true rfl rfl rfl (by decide +kernel)) (pi_list (pv 0)) (blkOk_by (N := N_safe_of) (sc := defScope s_safe_of) (by decide +kernel)) (fun _ _ _ _ _ => (pg_tup (n := 2) rfl (pgs_cons (pg_name (i := 8) nd rfl (by first | exact Or.inl rfl | exact Or.inr rfl)) (pgs_cons (pg_name (i := 9) nd rfl (by first | exact Or.inl rfl | exact Or.inr rfl)) pgs_nil)))) (fun _ _ _ _ _ => pts_nil) (fun _ _ _ _ _ => (pe_ix ix_any (pe_cal C_may_hit (hr.mono h_may_hit) (by rfl) (pa_cons (pv 8) (pa_cons (pv 1) (pa_cons (pv 9) (pa_cons (pv 6) pa_nil))))) pe_int (fun _ _ => rfl))))
    (pss_cons (ps_setLc (i := 10) (own := [("number", 11), ("word", 12)]) (g := (gTup K 2 (gCons (gName 11) (gCons (gName 12) gNil)))) (tt := (tTest (tOp (rEqP K) (tVar 12) (tC (.str "wind"))))) rfl nd rfl rfl (sw_true rfl rfl rfl (by decide +kernel)) (pi_enum (by rfl) bn.enumerate_ (pa_cons (pv 7) pa_nil)) (blkOk_by (N := N_safe_of) (sc := defScope s_safe_of) (by decide +kernel)) (fun _ _ _ _ _ => (pg_tup (n := 2) rfl (pgs_cons (pg_name (i := 11) nd rfl (by first | exact Or.inl rfl | exact Or.inr rfl)) (pgs_cons (pg_name (i := 12) nd rfl (by first | exact Or.inl rfl | exact Or.inr rfl)) pgs_nil)))) (fun _ _ _ _ _ => (pts_one (pt_cmpR (op_eqP hr.units) (pv 12) pe_str (nomark _)))) (fun _ _ _ _ _ => (pv 11)))
    (pss_one (ps_if (pt_cmpR (op_eqP hr.units) (pe_callB Pu.cb_len (by rfl) bn.len_ (by decide +kernel) (pa_cons (pv 10) pa_nil)) pe_int (nomark _))
      (pss_one (ps_expr (pe_bm PySem.F.plainAttrs_list PySem.F.slot_list_append PySem.F.type_list_append mt_append (pv 3) (pa_cons (pv 5) pa_nil))))
      (pss_one (ps_expr (pe_bm PySem.F.plainAttrs_list PySem.F.slot_list_append PySem.F.type_list_append mt_append (pv 4) (pa_cons (pe_tup (pa_cons (pv 5) (pa_cons (pe_ix ix_any (pv 10) pe_int (fun _ _ => rfl)) pa_nil))) pa_nil)))))))))
    (pss_one (ps_ret (pe_tup (pa_cons (pv 3) (pa_cons (pv 4) pa_nil))))))))
theorem ok_safe_of {R : List D → (D → Prop) → Prop} (F : Fun K "safe_of" "safe_of" s_safe_of f fd) (bn : Bn mg) {R_may_hit : List D → (D → Prop) → Prop} {k_may_hit : Nat} (C_may_hit : Cal P w K mg base "may_hit" ["start", "winds", "ticks", "place"] (spP R_may_hit) k_may_hit) (h_may_hit : k_may_hit ≤ k) (len : ∀ ds Z, R ds Z → ds.length = 3) (sx : ∀ ds Z, R ds Z → SX (T_safe_of K R_may_hit) (startE N_safe_of ds) { nx := fun _ => Z .none, rt := fun d _ => Z d }) :
    FnOk P w K mg base CX0 (k + 1) f fd ["pieces", "winds", "places"] (spP R) := fn_pure F sc_safe_of len fun cdv A outer s H E hr => ⟨_, ps_safe_of bn hr C_may_hit h_may_hit, sx⟩
theorem ps_l_draw {cdv : Value} {A : Around} {outer : List PySem.Env} {s : Shared} {H : Hp} {E : XK} (bn : Bn mg) (hr : Room k (A.deeper (PyProof.Rows.envOfC "_law_draw" (defScope s_l_draw) s.heap.objs.size f cdv))) :
    PSs (cxOf CX0 P w K mg base N_l_draw "_law_draw" (defScope s_l_draw) f cdv A outer s H E).nox (defBody s_l_draw) (T_l_draw K) :=
  have nd := sc_l_draw.nd
  (pss_cons (ps_if (pt_cmpR (op_eqP hr.units) (pe_ix ix_any (pv 0) pe_int (fun _ _ => rfl)) pe_int (nomark _))
      (pss_cons (ps_set (i := 3) nd rfl (by first | exact Or.inl rfl | exact Or.inr rfl) pe_int)
    (pss_cons (ps_if (pt_cmpR op_gt (pe_callB Pu.cb_len (by rfl) bn.len_ (by decide +kernel) (pa_cons (pv 1) pa_nil)) pe_int (nomark _))
      (pss_one (ps_set (i := 3) nd rfl (by first | exact Or.inl rfl | exact Or.inr rfl) (pe_ix ix_any (pv 1) (pe_op op_mod (pe_ix ix_any (pv 0) pe_int (fun _ _ => rfl)) (pe_callB Pu.cb_len (by rfl) bn.len_ (by decide +kernel) (pa_cons (pv 1) pa_nil))) (fun _ _ => rfl))))
      pss_nil)
    (pss_cons (ps_if (pt_cmpR op_lt (pv 3) pe_int (nomark _))
      (pss_one (ps_set (i := 3) nd rfl (by first | exact Or.inl rfl | exact Or.inr rfl) (pe_op op_sub pe_int (pe_op op_mul pe_int (pv 3)))))
      pss_nil)
    (pss_cons (ps_set (i := 4) nd rfl (by first | exact Or.inl rfl | exact Or.inr rfl) (pe_op op_mod (pe_callTy cb_int (by rfl) bn.int_ (by decide +kernel) (pa_cons (pe_op op_mul (pe_op op_plus (pe_op op_plus (pv 3) (pe_op op_mul (pe_ix ix_any (pv 0) pe_int (fun _ _ => rfl)) pe_int)) pe_int) pe_int) pa_nil)) pe_int))
    (pss_cons (ps_asg (pe_op op_mod (pe_callTy cb_int (by rfl) bn.int_ (by decide +kernel) (pa_cons (pe_op op_plus (pe_op op_mul (pv 4) pe_int) (pe_op op_mul (pe_ix ix_any (pv 0) pe_int (fun _ _ => rfl)) pe_int)) pa_nil)) pe_int) (pg_sub (pv 0) pe_int set_list))
    (pss_cons (ps_if (PW.pt (pw_and (pt_cmpR op_ge (pv 3) (pe_op op_pow pe_int pe_int) (nomark _)) (pw_and1 (pt_cmpR op_lt (pe_ix ix_any (pv 0) pe_int (fun _ _ => rfl)) (pe_callB Pu.cb_len (by rfl) bn.len_ (by decide +kernel) (pa_cons (pv 1) pa_nil)) (nomark _)))))
      (pss_one (ps_asg (pv 3) (pg_sub (pv 0) pe_int set_list)))
      pss_nil)
    (pss_one (ps_asg (pe_op op_plus (pe_ix ix_any (pv 0) pe_int (fun _ _ => rfl)) pe_int) (pg_sub (pv 0) pe_int set_list)))))))))
      pss_nil)
    (pss_cons (ps_set (i := 5) nd rfl (by first | exact Or.inl rfl | exact Or.inr rfl) (pe_op op_mod (pe_callTy cb_int (by rfl) bn.int_ (by decide +kernel) (pa_cons (pe_ix ix_any (pv 0) pe_int (fun _ _ => rfl)) pa_nil)) (pv 2)))
    (pss_cons (ps_asg (pe_op op_fdiv (pe_ix ix_any (pv 0) pe_int (fun _ _ => rfl)) (pv 2)) (pg_sub (pv 0) pe_int set_list))
    (pss_one (ps_ret (pv 5))))))
theorem ok_l_draw {R : Stt → List D → (D → Stt → Prop) → Prop} (F : Fun K "_law_draw" "_law_draw" s_l_draw f fd) (bn : Bn mg) (len : ∀ S ds Z, R S ds Z → ds.length + 1 = 3) (sx : ∀ S ds Z, R S ds Z → SX (T_l_draw K) (.st S :: (ds.map .val ++ List.replicate (N_l_draw.length - (ds.length + 1)) .emp)) { nx := fun ρ' => ∃ S', ρ'[0]? = some (.st S') ∧ Z .none S', rt := fun d ρ' => ∃ S', ρ'[0]? = some (.st S') ∧ Z d S' }) :
    FnOk P w K mg base CX0 (k + 1) f fd ["state", "script", "size"] (spS R) := fn_state F sc_l_draw len fun cdv A outer s H E hr => ⟨_, ps_l_draw bn hr, sx⟩
theorem ps_l_pick {cdv : Value} {A : Around} {outer : List PySem.Env} {s : Shared} {H : Hp} {E : XK} (bn : Bn mg) (hr : Room k (A.deeper (PyProof.Rows.envOfC "_law_pick" (defScope s_l_pick) s.heap.objs.size f cdv))) {R_l_draw : Stt → List D → (D → Stt → Prop) → Prop} {k_l_draw : Nat} (C_l_draw : Cal P w K mg base "_law_draw" ["state", "script", "size"] (spS R_l_draw) k_l_draw) (h_l_draw : k_l_draw ≤ k) :
    PSs (cxOf CX0 P w K mg base N_l_pick "_law_pick" (defScope s_l_pick) f cdv A outer s H E).nox (defBody s_l_pick) (T_l_pick K R_l_draw) :=
  have nd := sc_l_pick.nd
  (pss_one (ps_ret (pe_ix ix_any (pv 2) (pe_cal C_l_draw (hr.mono h_l_draw) (by rfl) (pa_cons (pv 0) (pa_cons (pv 1) (pa_cons (pe_callB Pu.cb_len (by rfl) bn.len_ (by decide +kernel) (pa_cons (pv 2) pa_nil)) pa_nil)))) (fun _ _ => rfl))))
theorem ok_l_pick {R : Stt → List D → (D → Stt → Prop) → Prop} (F : Fun K "_law_pick" "_law_pick" s_l_pick f fd) (bn : Bn mg) {R_l_draw : Stt → List D → (D → Stt → Prop) → Prop} {k_l_draw : Nat} (C_l_draw : Cal P w K mg base "_law_draw" ["state", "script", "size"] (spS R_l_draw) k_l_draw) (h_l_draw : k_l_draw ≤ k) (len : ∀ S ds Z, R S ds Z → ds.length + 1 = 3) (sx : ∀ S ds Z, R S ds Z → SX (T_l_pick K R_l_draw) (.st S :: (ds.map .val ++ List.replicate (N_l_pick.length - (ds.length + 1)) .emp)) { nx := fun ρ' => ∃ S', ρ'[0]? = some (.st S') ∧ Z .none S', rt := fun d ρ' => ∃ S', ρ'[0]? = some (.st S') ∧ Z d S' }) :
    FnOk P w K mg base CX0 (k + 1) f fd ["state", "script", "items"] (spS R) := fn_state F sc_l_pick len fun cdv A outer s H E hr => ⟨_, ps_l_pick bn hr C_l_draw h_l_draw, sx⟩
theorem ps_law {cdv : Value} {A : Around} {outer : List PySem.Env} {s : Shared} {H : Hp} {E : XK} (bn : Bn mg) (hr : Room k (A.deeper (PyProof.Rows.envOfC "law" (defScope s_law) s.heap.objs.size f cdv))) {R_l_pick : Stt → List D → (D → Stt → Prop) → Prop} {k_l_pick : Nat} (C_l_pick : Cal P w K mg base "_law_pick" ["state", "script", "items"] (spS R_l_pick) k_l_pick) (h_l_pick : k_l_pick ≤ k) {R_ring_around : List D → (D → Prop) → Prop} {k_ring_around : Nat} (C_ring_around : Cal P w K mg base "ring_around" ["places"] (spP R_ring_around) k_ring_around) (h_ring_around : k_ring_around ≤ k) {R_farthest : List D → (D → Prop) → Prop} {k_farthest : Nat} (C_farthest : Cal P w K mg base "farthest" ["places"] (spP R_farthest) k_farthest) (h_farthest : k_farthest ≤ k) {R_l_draw : Stt → List D → (D → Stt → Prop) → Prop} {k_l_draw : Nat} (C_l_draw : Cal P w K mg base "_law_draw" ["state", "script", "size"] (spS R_l_draw) k_l_draw) (h_l_draw : k_l_draw ≤ k) {R_fallen : List D → (D → Prop) → Prop} {k_fallen : Nat} (C_fallen : Cal P w K mg base "fallen" ["start", "winds", "ticks"] (spP R_fallen) k_fallen) (h_fallen : k_fallen ≤ k) {R_ring_fault : List D → (D → Prop) → Prop} {k_ring_fault : Nat} (C_ring_fault : Cal P w K mg base "ring_fault" ["places", "ring"] (spP R_ring_fault) k_ring_fault) (h_ring_fault : k_ring_fault ≤ k) {R_is_convex : List D → (D → Prop) → Prop} {k_is_convex : Nat} (C_is_convex : Cal P w K mg base "is_convex" ["corners"] (spP R_is_convex) k_is_convex) (h_is_convex : k_is_convex ≤ k) {R_area_twice : List D → (D → Prop) → Prop} {k_area_twice : Nat} (C_area_twice : Cal P w K mg base "area_twice" ["ring"] (spP R_area_twice) k_area_twice) (h_area_twice : k_area_twice ≤ k) {R_is_within : List D → (D → Prop) → Prop} {k_is_within : Nat} (C_is_within : Cal P w K mg base "is_within" ["ring", "place"] (spP R_is_within) k_is_within) (h_is_within : k_is_within ≤ k) {R_may_hit : List D → (D → Prop) → Prop} {k_may_hit : Nat} (C_may_hit : Cal P w K mg base "may_hit" ["start", "winds", "ticks", "place"] (spP R_may_hit) k_may_hit) (h_may_hit : k_may_hit ≤ k) {R_safe_of : List D → (D → Prop) → Prop} {k_safe_of : Nat} (C_safe_of : Cal P w K mg base "safe_of" ["pieces", "winds", "places"] (spP R_safe_of) k_safe_of) (h_safe_of : k_safe_of ≤ k) :
    PSs (cxOf CX0 P w K mg base N_law "law" (defScope s_law) f cdv A outer s H E).nox (defBody s_law) (T_law K R_l_pick R_ring_around R_farthest R_l_draw R_fallen R_ring_fault R_is_convex R_area_twice R_is_within R_may_hit R_safe_of) :=
  have nd := sc_law.nd
  (pss_cons (ps_set (i := 1) nd rfl (by first | exact Or.inl rfl | exact Or.inr rfl) (pe_lst (pa_cons pe_int (pa_cons pe_int pa_nil))))
    (pss_cons (ps_set (i := 2) nd rfl (by first | exact Or.inl rfl | exact Or.inr rfl) (pe_op op_plus pe_int (pe_cal C_l_draw (hr.mono h_l_draw) (by rfl) (pa_cons (pv 1) (pa_cons (pv 0) (pa_cons pe_int pa_nil))))))
    (pss_cons (ps_set (i := 3) nd rfl (by first | exact Or.inl rfl | exact Or.inr rfl) (pe_cal C_l_pick (hr.mono h_l_pick) (by rfl) (pa_cons (pv 1) (pa_cons (pv 0) (pa_cons (pe_lst (pa_cons (pe_lst (pa_cons (pe_tup (pa_cons (pe_op op_sub pe_int (pv 2)) (pa_cons (pe_op op_sub pe_int (pv 2)) pa_nil))) (pa_cons (pe_tup (pa_cons (pv 2) (pa_cons (pe_op op_sub pe_int (pv 2)) pa_nil))) (pa_cons (pe_tup (pa_cons (pv 2) (pa_cons (pv 2) pa_nil))) (pa_cons (pe_tup (pa_cons (pe_op op_sub pe_int (pv 2)) (pa_cons (pv 2) pa_nil))) pa_nil))))) (pa_cons (pe_lst (pa_cons (pe_tup (pa_cons (pe_op op_sub pe_int (pv 2)) (pa_cons (pe_op op_sub pe_int (pv 2)) pa_nil))) (pa_cons (pe_tup (pa_cons (pe_op op_mul pe_int (pv 2)) (pa_cons pe_int pa_nil))) (pa_cons (pe_tup (pa_cons pe_int (pa_cons (pe_op op_mul pe_int (pv 2)) pa_nil))) pa_nil)))) pa_nil))) pa_nil)))))
    (pss_cons (ps_setLc (i := 4) (own := [("_", 5)]) (g := (gName 5)) (tt := tYes) rfl nd rfl rfl (sw_true rfl rfl rfl (by decide +kernel)) (pi_range1 (by rfl) bn.range_ (pa_cons (pe_op op_plus pe_int (pe_cal C_l_draw (hr.mono h_l_draw) (by rfl) (pa_cons (pv 1) (pa_cons (pv 0) (pa_cons pe_int pa_nil))))) pa_nil)) (blkOk_by (N := N_law) (sc := defScope s_law) (by decide +kernel)) (fun _ _ _ _ _ => (pg_name (i := 5) nd rfl (by first | exact Or.inl rfl | exact Or.inr rfl))) (fun _ _ _ _ _ => pts_nil) (fun _ _ _ _ _ => (pe_tup (pa_cons (pe_tup (pa_cons (pe_op op_sub (pe_cal C_l_draw (hr.mono h_l_draw) (by rfl) (pa_cons (pv 1) (pa_cons (pv 0) (pa_cons pe_int pa_nil)))) pe_int) (pa_cons (pe_op op_sub (pe_cal C_l_draw (hr.mono h_l_draw) (by rfl) (pa_cons (pv 1) (pa_cons (pv 0) (pa_cons pe_int pa_nil)))) pe_int) pa_nil))) (pa_cons (pe_op op_plus pe_int (pe_cal C_l_draw (hr.mono h_l_draw) (by rfl) (pa_cons (pv 1) (pa_cons (pv 0) (pa_cons pe_int pa_nil))))) pa_nil)))))
    (pss_cons (ps_set (i := 6) nd rfl (by first | exact Or.inl rfl | exact Or.inr rfl) (pe_lst pa_nil))
    (pss_cons (ps_for PassesOwn.never rfl (pi_list (pv 4)) (pg_tup (n := 2) rfl (pgs_cons (pg_name (i := 7) nd rfl (by first | exact Or.inl rfl | exact Or.inr rfl)) (pgs_cons (pg_name (i := 8) nd rfl (by first | exact Or.inl rfl | exact Or.inr rfl)) pgs_nil)))
      (pss_cons (ps_set (i := 9) nd rfl (by first | exact Or.inl rfl | exact Or.inr rfl) (pe_cal C_fallen (hr.mono h_fallen) (by rfl) (pa_cons (pv 7) (pa_cons (pv 3) (pa_cons (pv 8) pa_nil)))))
    (pss_cons (ps_set (i := 10) nd rfl (by first | exact Or.inl rfl | exact Or.inr rfl) (pe_cal C_ring_around (hr.mono h_ring_around) (by rfl) (pa_cons (pv 9) pa_nil)))
    (pss_cons (ps_if (PW.pt (pw_or (pt_cmpR (op_neP hr.units) (pe_callB (cb_sortD hr.units) (by rfl) bn.sorted_ (by decide +kernel) (pa_cons (pv 10) pa_nil)) (pe_callB (cb_sortD hr.units) (by rfl) bn.sorted_ (by decide +kernel) (pa_cons (pv 9) pa_nil)) (nomark _)) (pw_or (pt_cmpR op_notBl (pe_cal C_is_convex (hr.mono h_is_convex) (by rfl) (pa_cons (pv 10) pa_nil)) pe_bl (nomark _)) (pw_or1 (pt_cmpR (op_neP hr.units) (pe_cal C_area_twice (hr.mono h_area_twice) (by rfl) (pa_cons (pv 10) pa_nil)) (pe_op op_mul (pe_op op_mul (pv 8) (pv 8)) (pe_cal C_area_twice (hr.mono h_area_twice) (by rfl) (pa_cons (pv 3) pa_nil))) (nomark _))))))
      (pss_one (ps_ret pe_bl))
      pss_nil)
    (pss_one (ps_set (i := 6) nd rfl (by first | exact Or.inl rfl | exact Or.inr rfl) (pe_op op_plus (pv 6) (pv 9))))))))
    (pss_cons (ps_set (i := 10) nd rfl (by first | exact Or.inl rfl | exact Or.inr rfl) (pe_cal C_ring_around (hr.mono h_ring_around) (by rfl) (pa_cons (pv 6) pa_nil)))
    (pss_cons (ps_if (PW.pt (pw_or (pt_cmpR op_isnt (pe_cal C_ring_fault (hr.mono h_ring_fault) (by rfl) (pa_cons (pv 6) (pa_cons (pv 10) pa_nil))) pe_non (nomark _)) (pw_or1 (pt_cmpR op_notBl (pe_cal C_is_convex (hr.mono h_is_convex) (by rfl) (pa_cons (pv 10) pa_nil)) pe_bl (nomark _)))))
      (pss_one (ps_ret pe_bl))
      pss_nil)
    (pss_cons (ps_for PassesOwn.never rfl (pi_list (pv 4)) (pg_tup (n := 2) rfl (pgs_cons (pg_name (i := 7) nd rfl (by first | exact Or.inl rfl | exact Or.inr rfl)) (pgs_cons (pg_name (i := 8) nd rfl (by first | exact Or.inl rfl | exact Or.inr rfl)) pgs_nil)))
      (pss_one (ps_for PassesOwn.never rfl (pi_list (pe_lst (pa_cons (pe_tup (pa_cons pe_int (pa_cons pe_int pa_nil))) (pa_cons (pe_ix ix_any (pv 3) pe_int (fun _ _ => rfl)) (pa_cons (pe_ix ix_any (pv 3) pe_int (fun _ _ => rfl)) (pa_cons (pe_tup (pa_cons pe_int (pa_cons (pe_op op_sub (pv 2) pe_int) pa_nil))) pa_nil)))))) (pg_tup (n := 2) rfl (pgs_cons (pg_name (i := 11) nd rfl (by first | exact Or.inl rfl | exact Or.inr rfl)) (pgs_cons (pg_name (i := 12) nd rfl (by first | exact Or.inl rfl | exact Or.inr rfl)) pgs_nil)))
      (pss_one (ps_if (pt_not (pt_val (pe_cal C_is_within (hr.mono h_is_within) (by rfl) (pa_cons (pv 10) (pa_cons (pe_tup (pa_cons (pe_op op_plus (pe_ix ix_any (pv 7) pe_int (fun _ _ => rfl)) (pe_op op_mul (pv 8) (pv 11))) (pa_cons (pe_op op_plus (pe_ix ix_any (pv 7) pe_int (fun _ _ => rfl)) (pe_op op_mul (pv 8) (pv 12))) pa_nil))) pa_nil)))))
      (pss_one (ps_ret pe_bl))
      pss_nil)))))
    (pss_cons (ps_set (i := 13) nd rfl (by first | exact Or.inl rfl | exact Or.inr rfl) (pe_tup (pa_cons (pe_op op_sub (pe_cal C_l_draw (hr.mono h_l_draw) (by rfl) (pa_cons (pv 1) (pa_cons (pv 0) (pa_cons pe_int pa_nil)))) pe_int) (pa_cons (pe_op op_sub (pe_cal C_l_draw (hr.mono h_l_draw) (by rfl) (pa_cons (pv 1) (pa_cons (pv 0) (pa_cons pe_int pa_nil)))) pe_int) pa_nil))))
    (pss_cons (ps_if (pt_cmpR (op_neP hr.units) (pe_cal C_ring_around (hr.mono h_ring_around) (by rfl) (pa_cons (pe_lc (own := [("x", 11), ("y", 12)]) (g := (gTup K 2 (gCons (gName 11) (gCons (gName 12) gNil)))) (tt := tYes) rfl nd (pi_list (pv 6)) (blkOk_by (N := N_law) (sc := defScope s_law) (by decide +kernel)) (fun _ _ _ _ _ => (pg_tup (n := 2) rfl (pgs_cons (pg_name (i := 11) nd rfl (by first | exact Or.inl rfl | exact Or.inr rfl)) (pgs_cons (pg_name (i := 12) nd rfl (by first | exact Or.inl rfl | exact Or.inr rfl)) pgs_nil)))) (fun _ _ _ _ _ => pts_nil) (fun _ _ _ _ _ => (pe_tup (pa_cons (pe_op op_plus (pv 11) (pe_ix ix_any (pv 13) pe_int (fun _ _ => rfl))) (pa_cons (pe_op op_plus (pv 12) (pe_ix ix_any (pv 13) pe_int (fun _ _ => rfl))) pa_nil))))) pa_nil)) (pe_lc (own := [("x", 11), ("y", 12)]) (g := (gTup K 2 (gCons (gName 11) (gCons (gName 12) gNil)))) (tt := tYes) rfl nd (pi_list (pv 10)) (blkOk_by (N := N_law) (sc := defScope s_law) (by decide +kernel)) (fun _ _ _ _ _ => (pg_tup (n := 2) rfl (pgs_cons (pg_name (i := 11) nd rfl (by first | exact Or.inl rfl | exact Or.inr rfl)) (pgs_cons (pg_name (i := 12) nd rfl (by first | exact Or.inl rfl | exact Or.inr rfl)) pgs_nil)))) (fun _ _ _ _ _ => pts_nil) (fun _ _ _ _ _ => (pe_tup (pa_cons (pe_op op_plus (pv 11) (pe_ix ix_any (pv 13) pe_int (fun _ _ => rfl))) (pa_cons (pe_op op_plus (pv 12) (pe_ix ix_any (pv 13) pe_int (fun _ _ => rfl))) pa_nil))))) (nomark _))
      (pss_one (ps_ret pe_bl))
      pss_nil)
    (pss_cons (ps_set (i := 14) nd rfl (by first | exact Or.inl rfl | exact Or.inr rfl) (pe_cal C_ring_around (hr.mono h_ring_around) (by rfl) (pa_cons (pe_lc (own := [("x", 11), ("y", 12)]) (g := (gTup K 2 (gCons (gName 11) (gCons (gName 12) gNil)))) (tt := tYes) rfl nd (pi_list (pv 6)) (blkOk_by (N := N_law) (sc := defScope s_law) (by decide +kernel)) (fun _ _ _ _ _ => (pg_tup (n := 2) rfl (pgs_cons (pg_name (i := 11) nd rfl (by first | exact Or.inl rfl | exact Or.inr rfl)) (pgs_cons (pg_name (i := 12) nd rfl (by first | exact Or.inl rfl | exact Or.inr rfl)) pgs_nil)))) (fun _ _ _ _ _ => pts_nil) (fun _ _ _ _ _ => (pe_tup (pa_cons (pe_op op_sub pe_int (pv 11)) (pa_cons (pv 12) pa_nil))))) pa_nil)))
    (pss_cons (ps_if (PW.pt (pw_or (pt_cmpR (op_neP hr.units) (pe_callB (cb_sortD hr.units) (by rfl) bn.sorted_ (by decide +kernel) (pa_cons (pv 14) pa_nil)) (pe_callB (cb_sortD hr.units) (by rfl) bn.sorted_ (by decide +kernel) (pa_cons (pe_lc (own := [("x", 11), ("y", 12)]) (g := (gTup K 2 (gCons (gName 11) (gCons (gName 12) gNil)))) (tt := tYes) rfl nd (pi_list (pv 10)) (blkOk_by (N := N_law) (sc := defScope s_law) (by decide +kernel)) (fun _ _ _ _ _ => (pg_tup (n := 2) rfl (pgs_cons (pg_name (i := 11) nd rfl (by first | exact Or.inl rfl | exact Or.inr rfl)) (pgs_cons (pg_name (i := 12) nd rfl (by first | exact Or.inl rfl | exact Or.inr rfl)) pgs_nil)))) (fun _ _ _ _ _ => pts_nil) (fun _ _ _ _ _ => (pe_tup (pa_cons (pe_op op_sub pe_int (pv 11)) (pa_cons (pv 12) pa_nil))))) pa_nil)) (nomark _)) (pw_or1 (pt_cmpR (op_neP hr.units) (pe_cal C_area_twice (hr.mono h_area_twice) (by rfl) (pa_cons (pv 14) pa_nil)) (pe_cal C_area_twice (hr.mono h_area_twice) (by rfl) (pa_cons (pv 10) pa_nil)) (nomark _)))))
      (pss_one (ps_ret pe_bl))
      pss_nil)
    (pss_cons (ps_asg (pe_cal C_farthest (hr.mono h_farthest) (by rfl) (pa_cons (pv 6) pa_nil)) (pg_tup (n := 3) rfl (pgs_cons (pg_name (i := 15) nd rfl (by first | exact Or.inl rfl | exact Or.inr rfl)) (pgs_cons (pg_name (i := 16) nd rfl (by first | exact Or.inl rfl | exact Or.inr rfl)) (pgs_cons (pg_name (i := 17) nd rfl (by first | exact Or.inl rfl | exact Or.inr rfl)) pgs_nil)))))
    (pss_cons (ps_if (PW.pt (pw_or (pt_cmpR (op_ninP hr.units) (pv 16) (pv 10) (by rfl)) (pw_or (pt_cmpR (op_ninP hr.units) (pv 17) (pv 10) (by rfl)) (pw_or1 (pt_cmpR (op_neP hr.units) (pe_cal C_farthest (hr.mono h_farthest) (by rfl) (pa_cons (pv 10) pa_nil)) (pe_tup (pa_cons (pv 15) (pa_cons (pv 16) (pa_cons (pv 17) pa_nil)))) (nomark _))))))
      (pss_one (ps_ret pe_bl))
      pss_nil)
    (pss_cons (ps_for PassesOwn.never rfl (pi_range1 (by rfl) bn.range_ (pa_cons pe_int pa_nil)) (pg_name (i := 5) nd rfl (by first | exact Or.inl rfl | exact Or.inr rfl))
      (pss_cons (ps_set (i := 11) nd rfl (by first | exact Or.inl rfl | exact Or.inr rfl) (pe_op op_sub (pe_cal C_l_draw (hr.mono h_l_draw) (by rfl) (pa_cons (pv 1) (pa_cons (pv 0) (pa_cons pe_int pa_nil)))) pe_int))
    (pss_cons (ps_set (i := 12) nd rfl (by first | exact Or.inl rfl | exact Or.inr rfl) (pe_op op_sub (pe_cal C_l_draw (hr.mono h_l_draw) (by rfl) (pa_cons (pv 1) (pa_cons (pv 0) (pa_cons pe_int pa_nil)))) pe_int))
    (pss_cons (ps_set (i := 18) nd rfl (by first | exact Or.inl rfl | exact Or.inr rfl) (pe_lst (pa_cons (pe_tup (pa_cons (pv 11) (pa_cons (pv 12) pa_nil))) (pa_cons (pe_tup (pa_cons (pe_op op_plus (pv 11) pe_int) (pa_cons (pv 12) pa_nil))) (pa_cons (pe_tup (pa_cons (pe_op op_plus (pv 11) pe_int) (pa_cons (pe_op op_plus (pv 12) pe_int) pa_nil))) (pa_cons (pe_tup (pa_cons (pv 11) (pa_cons (pe_op op_plus (pv 12) pe_int) pa_nil))) pa_nil))))))
    (pss_cons (ps_set (i := 19) nd rfl (by first | exact Or.inl rfl | exact Or.inr rfl) pe_bl)
    (pss_cons (ps_for PassesOwn.never rfl (pi_range1 (by rfl) bn.range_ (pa_cons (pe_callB Pu.cb_len (by rfl) bn.len_ (by decide +kernel) (pa_cons (pv 10) pa_nil)) pa_nil)) (pg_name (i := 20) nd rfl (by first | exact Or.inl rfl | exact Or.inr rfl))
      (pss_cons (ps_set (i := 21) nd rfl (by first | exact Or.inl rfl | exact Or.inr rfl) (pe_ix ix_any (pv 10) (pv 20) (fun _ _ => rfl)))
    (pss_cons (ps_set (i := 22) nd rfl (by first | exact Or.inl rfl | exact Or.inr rfl) (pe_ix ix_any (pv 10) (pe_op op_mod (pe_op op_plus (pv 20) pe_int) (pe_callB Pu.cb_len (by rfl) bn.len_ (by decide +kernel) (pa_cons (pv 10) pa_nil))) (fun _ _ => rfl)))
    (pss_cons (ps_setLc (i := 23) (own := [("corner", 24)]) (g := (gName 24)) (tt := (tTest (tOp (rI0 fun i j => .bl (decide (j < i))) (tOp (rI0 fun i j => .int (i - j)) (tOp (rI CMul fun i j => .int (i * j)) (tOp (rI0 fun i j => .int (i - j)) (tOp (rIxA K) (tVar 22) (tC (.int 0))) (tOp (rIxA K) (tVar 21) (tC (.int 0)))) (tOp (rI0 fun i j => .int (i - j)) (tOp (rIxA K) (tVar 24) (tC (.int 1))) (tOp (rIxA K) (tVar 21) (tC (.int 1))))) (tOp (rI CMul fun i j => .int (i * j)) (tOp (rI0 fun i j => .int (i - j)) (tOp (rIxA K) (tVar 22) (tC (.int 1))) (tOp (rIxA K) (tVar 21) (tC (.int 1)))) (tOp (rI0 fun i j => .int (i - j)) (tOp (rIxA K) (tVar 24) (tC (.int 0))) (tOp (rIxA K) (tVar 21) (tC (.int 0)))))) (tC (.int 0))))) rfl nd rfl rfl (sw_true rfl rfl rfl (by decide +kernel)) (pi_list (pv 18)) (blkOk_by (N := N_law) (sc := defScope s_law) (by decide +kernel)) (fun _ _ _ _ _ => (pg_name (i := 24) nd rfl (by first | exact Or.inl rfl | exact Or.inr rfl))) (fun _ _ _ _ _ => (pts_one (pt_cmpR op_gt (pe_op op_sub (pe_op op_mul (pe_op op_sub (pe_ix ix_any (pv 22) pe_int (fun _ _ => rfl)) (pe_ix ix_any (pv 21) pe_int (fun _ _ => rfl))) (pe_op op_sub (pe_ix ix_any (pv 24) pe_int (fun _ _ => rfl)) (pe_ix ix_any (pv 21) pe_int (fun _ _ => rfl)))) (pe_op op_mul (pe_op op_sub (pe_ix ix_any (pv 22) pe_int (fun _ _ => rfl)) (pe_ix ix_any (pv 21) pe_int (fun _ _ => rfl))) (pe_op op_sub (pe_ix ix_any (pv 24) pe_int (fun _ _ => rfl)) (pe_ix ix_any (pv 21) pe_int (fun _ _ => rfl))))) pe_int (nomark _)))) (fun _ _ _ _ _ => (pv 24)))
    (pss_one (ps_set (i := 19) nd rfl (by first | exact Or.inl rfl | exact Or.inr rfl) (pe_or (pv 19) (pe_one (pe_cmpR (op_eqP hr.units) (pv 23) (pe_lst pa_nil) (nomark _))))))))))
    (pss_cons (ps_setLc (i := 25) (own := [("start", 7), ("ticks", 8)]) (g := (gTup K 2 (gCons (gName 7) (gCons (gName 8) gNil)))) (tt := tYes) rfl nd rfl rfl (sw_true rfl rfl rfl (by decide +kernel)) (pi_list (pv 4)) (blkOk_by (N := N_law) (sc := defScope s_law) (by decide +kernel)) (fun _ _ _ _ _ => (pg_tup (n := 2) rfl (pgs_cons (pg_name (i := 7) nd rfl (by first | exact Or.inl rfl | exact Or.inr rfl)) (pgs_cons (pg_name (i := 8) nd rfl (by first | exact Or.inl rfl | exact Or.inr rfl)) pgs_nil)))) (fun _ _ _ _ _ => pts_nil) (fun _ _ _ _ _ => (pe_ix ix_any (pe_cal C_may_hit (hr.mono h_may_hit) (by rfl) (pa_cons (pv 7) (pa_cons (pv 3) (pa_cons (pv 8) (pa_cons (pv 18) pa_nil))))) pe_int (fun _ _ => rfl))))
    (pss_one (ps_if (PW.pt (pw_or (PW.pt (pw_and (pt_val (pv 19)) (pw_and1 (pt_cmpR (op_inP hr.units) pe_str (pv 25) (by rfl))))) (pw_or1 (pt_cmpR (op_neP hr.units) (pe_cmpR (op_eqP hr.units) (pe_ix ix_any (pe_cal C_safe_of (hr.mono h_safe_of) (by rfl) (pa_cons (pv 4) (pa_cons (pv 3) (pa_cons (pe_lst (pa_cons (pv 18) pa_nil)) pa_nil)))) pe_int (fun _ _ => rfl)) (pe_lst (pa_cons pe_int pa_nil)) (nomark _)) (pe_cmpR (op_ninP hr.units) pe_str (pv 25) (by rfl)) (nomark _)))))
      (pss_one (ps_ret pe_bl))
      pss_nil)))))))))
    (pss_one (ps_ret pe_bl))))))))))))))))))
theorem ok_law {R : List D → (D → Prop) → Prop} (F : Fun K "law" "law" s_law f fd) (bn : Bn mg) {R_l_pick : Stt → List D → (D → Stt → Prop) → Prop} {k_l_pick : Nat} (C_l_pick : Cal P w K mg base "_law_pick" ["state", "script", "items"] (spS R_l_pick) k_l_pick) (h_l_pick : k_l_pick ≤ k) {R_ring_around : List D → (D → Prop) → Prop} {k_ring_around : Nat} (C_ring_around : Cal P w K mg base "ring_around" ["places"] (spP R_ring_around) k_ring_around) (h_ring_around : k_ring_around ≤ k) {R_farthest : List D → (D → Prop) → Prop} {k_farthest : Nat} (C_farthest : Cal P w K mg base "farthest" ["places"] (spP R_farthest) k_farthest) (h_farthest : k_farthest ≤ k) {R_l_draw : Stt → List D → (D → Stt → Prop) → Prop} {k_l_draw : Nat} (C_l_draw : Cal P w K mg base "_law_draw" ["state", "script", "size"] (spS R_l_draw) k_l_draw) (h_l_draw : k_l_draw ≤ k) {R_fallen : List D → (D → Prop) → Prop} {k_fallen : Nat} (C_fallen : Cal P w K mg base "fallen" ["start", "winds", "ticks"] (spP R_fallen) k_fallen) (h_fallen : k_fallen ≤ k) {R_ring_fault : List D → (D → Prop) → Prop} {k_ring_fault : Nat} (C_ring_fault : Cal P w K mg base "ring_fault" ["places", "ring"] (spP R_ring_fault) k_ring_fault) (h_ring_fault : k_ring_fault ≤ k) {R_is_convex : List D → (D → Prop) → Prop} {k_is_convex : Nat} (C_is_convex : Cal P w K mg base "is_convex" ["corners"] (spP R_is_convex) k_is_convex) (h_is_convex : k_is_convex ≤ k) {R_area_twice : List D → (D → Prop) → Prop} {k_area_twice : Nat} (C_area_twice : Cal P w K mg base "area_twice" ["ring"] (spP R_area_twice) k_area_twice) (h_area_twice : k_area_twice ≤ k) {R_is_within : List D → (D → Prop) → Prop} {k_is_within : Nat} (C_is_within : Cal P w K mg base "is_within" ["ring", "place"] (spP R_is_within) k_is_within) (h_is_within : k_is_within ≤ k) {R_may_hit : List D → (D → Prop) → Prop} {k_may_hit : Nat} (C_may_hit : Cal P w K mg base "may_hit" ["start", "winds", "ticks", "place"] (spP R_may_hit) k_may_hit) (h_may_hit : k_may_hit ≤ k) {R_safe_of : List D → (D → Prop) → Prop} {k_safe_of : Nat} (C_safe_of : Cal P w K mg base "safe_of" ["pieces", "winds", "places"] (spP R_safe_of) k_safe_of) (h_safe_of : k_safe_of ≤ k) (len : ∀ ds Z, R ds Z → ds.length = 1) (sx : ∀ ds Z, R ds Z → SX (T_law K R_l_pick R_ring_around R_farthest R_l_draw R_fallen R_ring_fault R_is_convex R_area_twice R_is_within R_may_hit R_safe_of) (startE N_law ds) { nx := fun _ => Z .none, rt := fun d _ => Z d }) :
    FnOk P w K mg base CX0 (k + 1) f fd ["script"] (spP R) := fn_pure F sc_law len fun cdv A outer s H E hr => ⟨_, ps_law bn hr C_l_pick h_l_pick C_ring_around h_ring_around C_farthest h_farthest C_l_draw h_l_draw C_fallen h_fallen C_ring_fault h_ring_fault C_is_convex h_is_convex C_area_twice h_area_twice C_is_within h_is_within C_may_hit h_may_hit C_safe_of h_safe_of, sx⟩
end
end Law_k21
namespace Law_k21
open PySem L2 Pu
section
variable {P : Program} {w : World} {K : PySem.W.Frag} {mg : Str → Option Value} {base : Heap} {f : Addr} {fd : FuncData} {k : Nat}
theorem len_l_draw : ∀ S ds Z, R_draw S ds Z → ds.length + 1 = 3 := by
  intro S ds Z h
  unfold R_draw at h
  repeat (obtain ⟨e, h⟩ := h; try subst e)
  all_goals rfl
theorem len_l_pick : ∀ S ds Z, R_pick S ds Z → ds.length + 1 = 3 := by
  intro S ds Z h
  unfold R_pick at h
  repeat (obtain ⟨e, h⟩ := h; try subst e)
  all_goals rfl
theorem len_turn : ∀ ds Z, R.R_turn ds Z → ds.length = 3 := by
  intro ds Z h
  unfold R.R_turn at h
  repeat (obtain ⟨e, h⟩ := h; try subst e)
  all_goals rfl
theorem len_half_ring : ∀ ds Z, R.R_half ds Z → ds.length = 1 := by
  intro ds Z h
  unfold R.R_half at h
  repeat (obtain ⟨e, h⟩ := h; try subst e)
  all_goals rfl
theorem len_ring_around : ∀ ds Z, R.R_ring ds Z → ds.length = 1 := by
  intro ds Z h
  unfold R.R_ring at h
  repeat (obtain ⟨e, h⟩ := h; try subst e)
  all_goals rfl
theorem len_square_far : ∀ ds Z, R.R_far ds Z → ds.length = 2 := by
  intro ds Z h
  unfold R.R_far at h
  repeat (obtain ⟨e, h⟩ := h; try subst e)
  all_goals rfl
theorem len_farthest : ∀ ds Z, R.R_farthest ds Z → ds.length = 1 := by
  intro ds Z h
  unfold R.R_farthest at h
  repeat (obtain ⟨e, h⟩ := h; try subst e)
  all_goals rfl
theorem len_fallen : ∀ ds Z, R_fall ds Z → ds.length = 3 := by
  intro ds Z h
  unfold R_fall at h
  repeat (obtain ⟨e, h⟩ := h; try subst e)
  all_goals rfl
theorem len_ring_fault : ∀ ds Z, R.R_fault ds Z → ds.length = 2 := by
  intro ds Z h
  unfold R.R_fault at h
  repeat (obtain ⟨e, h⟩ := h; try subst e)
  all_goals rfl
theorem len_across : ∀ ds Z, R_across ds Z → ds.length = 2 := by
  intro ds Z h
  unfold R_across at h
  repeat (obtain ⟨e, h⟩ := h; try subst e)
  all_goals rfl
theorem len_minus : ∀ ds Z, R_minus ds Z → ds.length = 2 := by
  intro ds Z h
  unfold R_minus at h
  repeat (obtain ⟨e, h⟩ := h; try subst e)
  all_goals rfl
theorem len_is_convex : ∀ ds Z, R_conv ds Z → ds.length = 1 := by
  intro ds Z h
  unfold R_conv at h
  repeat (obtain ⟨e, h⟩ := h; try subst e)
  all_goals rfl
theorem len_area_twice : ∀ ds Z, R.R_area ds Z → ds.length = 1 := by
  intro ds Z h
  unfold R.R_area at h
  repeat (obtain ⟨e, h⟩ := h; try subst e)
  all_goals rfl
theorem len_is_within : ∀ ds Z, R.R_within ds Z → ds.length = 2 := by
  intro ds Z h
  unfold R.R_within at h
  repeat (obtain ⟨e, h⟩ := h; try subst e)
  all_goals rfl
theorem len_lowest : ∀ ds Z, R_low ds Z → ds.length = 3 := by
  intro ds Z h
  unfold R_low at h
  repeat (obtain ⟨e, h⟩ := h; try subst e)
  all_goals rfl
theorem len_middle : ∀ ds Z, R_mid ds Z → ds.length = 1 := by
  intro ds Z h
  unfold R_mid at h
  repeat (obtain ⟨e, h⟩ := h; try subst e)
  all_goals rfl
theorem len_parting_edge : ∀ ds Z, R_part ds Z → ds.length = 2 := by
  intro ds Z h
  unfold R_part at h
  repeat (obtain ⟨e, h⟩ := h; try subst e)
  all_goals rfl
theorem len_crossing : ∀ ds Z, R_cross ds Z → ds.length = 4 := by
  intro ds Z h
  unfold R_cross at h
  repeat (obtain ⟨e, h⟩ := h; try subst e)
  all_goals rfl
theorem len_clipped : ∀ ds Z, R_clip ds Z → ds.length = 3 := by
  intro ds Z h
  unfold R_clip at h
  repeat (obtain ⟨e, h⟩ := h; try subst e)
  all_goals rfl
theorem len_meeting : ∀ ds Z, R_meet ds Z → ds.length = 2 := by
  intro ds Z h
  unfold R_meet at h
  repeat (obtain ⟨e, h⟩ := h; try subst e)
  all_goals rfl
theorem len_may_hit : ∀ ds Z, R_hit ds Z → ds.length = 4 := by
  intro ds Z h
  unfold R_hit at h
  repeat (obtain ⟨e, h⟩ := h; try subst e)
  all_goals rfl
theorem len_safe_of : ∀ ds Z, R_safe ds Z → ds.length = 3 := by
  intro ds Z h
  unfold R_safe at h
  repeat (obtain ⟨e, h⟩ := h; try subst e)
  all_goals rfl
theorem len_law : ∀ ds Z, R_law ds Z → ds.length = 1 := by
  intro ds Z h
  unfold R_law at h
  repeat (obtain ⟨e, h⟩ := h; try subst e)
  all_goals rfl
end
theorem all_mk {l : PySem.W.OpenLaw} {w : World} {K : PySem.W.Frag} {h : Heap} {mg : Str → Option Value} {fa f1 f2 f3 f4 f5 f6 f7 f8 f9 f10 f11 f12 f13 f14 f15 f16 f17 f18 f19 f20 f21 f22 f23 : Addr} (X : K.In h) (G : h.Ns mainGlobals mg) (hfa : mg "law" = some (.ref fa))
    {od1 an1 od2 an2 od3 an3 od4 an4 od5 an5 od6 an6 od7 an7 od8 an8 od9 an9 od10 an10 od11 an11 od12 an12 od13 an13 od14 an14 od15 an15 od16 an16 od17 an17 od18 an18 od19 an19 od20 an20 od21 an21 od22 an22 od23 an23 : Option Addr} {sl1 sl2 sl3 sl4 sl5 sl6 sl7 sl8 sl9 sl10 sl11 sl12 sl13 sl14 sl15 sl16 sl17 sl18 sl19 sl20 sl21 sl22 sl23 : Array (Option Value)}
    {oc1 kV1 dc1 pm1 cd1 ct1 oc2 kV2 dc2 pm2 cd2 ct2 oc3 kV3 dc3 pm3 cd3 ct3 oc4 kV4 dc4 pm4 cd4 ct4 oc5 kV5 dc5 pm5 cd5 ct5 oc6 kV6 dc6 pm6 cd6 ct6 oc7 kV7 dc7 pm7 cd7 ct7 oc8 kV8 dc8 pm8 cd8 ct8 oc9 kV9 dc9 pm9 cd9 ct9 oc10 kV10 dc10 pm10 cd10 ct10 oc11 kV11 dc11 pm11 cd11 ct11 oc12 kV12 dc12 pm12 cd12 ct12 oc13 kV13 dc13 pm13 cd13 ct13 oc14 kV14 dc14 pm14 cd14 ct14 oc15 kV15 dc15 pm15 cd15 ct15 oc16 kV16 dc16 pm16 cd16 ct16 oc17 kV17 dc17 pm17 cd17 ct17 oc18 kV18 dc18 pm18 cd18 ct18 oc19 kV19 dc19 pm19 cd19 ct19 oc20 kV20 dc20 pm20 cd20 ct20 oc21 kV21 dc21 pm21 cd21 ct21 oc22 kV22 dc22 pm22 cd22 ct22 oc23 kV23 dc23 pm23 cd23 ct23 : Value}
    (a1 : PySem.W.nsIn K mainGlobals "turn" = some (some (.ref f1))) (l1 : K.lookup f1 = some ⟨oc1, od1, .func (PySem.W.fnOf "turn" "turn" (defArgs s_turn) (defBody s_turn) (defScope s_turn) .none kV1 dc1 pm1 an1 cd1 ct1), sl1⟩) (c1 : PySem.W.codeIn K cd1 "turn" = true) (k1 : PySem.W.keepIn K (.ref f1) = true)
    (a2 : PySem.W.nsIn K mainGlobals "half_ring" = some (some (.ref f2))) (l2 : K.lookup f2 = some ⟨oc2, od2, .func (PySem.W.fnOf "half_ring" "half_ring" (defArgs s_half_ring) (defBody s_half_ring) (defScope s_half_ring) .none kV2 dc2 pm2 an2 cd2 ct2), sl2⟩) (c2 : PySem.W.codeIn K cd2 "half_ring" = true) (k2 : PySem.W.keepIn K (.ref f2) = true)
    (a3 : PySem.W.nsIn K mainGlobals "ring_around" = some (some (.ref f3))) (l3 : K.lookup f3 = some ⟨oc3, od3, .func (PySem.W.fnOf "ring_around" "ring_around" (defArgs s_ring_around) (defBody s_ring_around) (defScope s_ring_around) .none kV3 dc3 pm3 an3 cd3 ct3), sl3⟩) (c3 : PySem.W.codeIn K cd3 "ring_around" = true) (k3 : PySem.W.keepIn K (.ref f3) = true)
    (a4 : PySem.W.nsIn K mainGlobals "ring_fault" = some (some (.ref f4))) (l4 : K.lookup f4 = some ⟨oc4, od4, .func (PySem.W.fnOf "ring_fault" "ring_fault" (defArgs s_ring_fault) (defBody s_ring_fault) (defScope s_ring_fault) .none kV4 dc4 pm4 an4 cd4 ct4), sl4⟩) (c4 : PySem.W.codeIn K cd4 "ring_fault" = true) (k4 : PySem.W.keepIn K (.ref f4) = true)
    (a5 : PySem.W.nsIn K mainGlobals "area_twice" = some (some (.ref f5))) (l5 : K.lookup f5 = some ⟨oc5, od5, .func (PySem.W.fnOf "area_twice" "area_twice" (defArgs s_area_twice) (defBody s_area_twice) (defScope s_area_twice) .none kV5 dc5 pm5 an5 cd5 ct5), sl5⟩) (c5 : PySem.W.codeIn K cd5 "area_twice" = true) (k5 : PySem.W.keepIn K (.ref f5) = true)
    (a6 : PySem.W.nsIn K mainGlobals "square_far" = some (some (.ref f6))) (l6 : K.lookup f6 = some ⟨oc6, od6, .func (PySem.W.fnOf "square_far" "square_far" (defArgs s_square_far) (defBody s_square_far) (defScope s_square_far) .none kV6 dc6 pm6 an6 cd6 ct6), sl6⟩) (c6 : PySem.W.codeIn K cd6 "square_far" = true) (k6 : PySem.W.keepIn K (.ref f6) = true)
    (a7 : PySem.W.nsIn K mainGlobals "farthest" = some (some (.ref f7))) (l7 : K.lookup f7 = some ⟨oc7, od7, .func (PySem.W.fnOf "farthest" "farthest" (defArgs s_farthest) (defBody s_farthest) (defScope s_farthest) .none kV7 dc7 pm7 an7 cd7 ct7), sl7⟩) (c7 : PySem.W.codeIn K cd7 "farthest" = true) (k7 : PySem.W.keepIn K (.ref f7) = true)
    (a8 : PySem.W.nsIn K mainGlobals "is_within" = some (some (.ref f8))) (l8 : K.lookup f8 = some ⟨oc8, od8, .func (PySem.W.fnOf "is_within" "is_within" (defArgs s_is_within) (defBody s_is_within) (defScope s_is_within) .none kV8 dc8 pm8 an8 cd8 ct8), sl8⟩) (c8 : PySem.W.codeIn K cd8 "is_within" = true) (k8 : PySem.W.keepIn K (.ref f8) = true)
    (a9 : PySem.W.nsIn K mainGlobals "minus" = some (some (.ref f9))) (l9 : K.lookup f9 = some ⟨oc9, od9, .func (PySem.W.fnOf "minus" "minus" (defArgs s_minus) (defBody s_minus) (defScope s_minus) .none kV9 dc9 pm9 an9 cd9 ct9), sl9⟩) (c9 : PySem.W.codeIn K cd9 "minus" = true) (k9 : PySem.W.keepIn K (.ref f9) = true)
    (a10 : PySem.W.nsIn K mainGlobals "across" = some (some (.ref f10))) (l10 : K.lookup f10 = some ⟨oc10, od10, .func (PySem.W.fnOf "across" "across" (defArgs s_across) (defBody s_across) (defScope s_across) .none kV10 dc10 pm10 an10 cd10 ct10), sl10⟩) (c10 : PySem.W.codeIn K cd10 "across" = true) (k10 : PySem.W.keepIn K (.ref f10) = true)
    (a11 : PySem.W.nsIn K mainGlobals "is_convex" = some (some (.ref f11))) (l11 : K.lookup f11 = some ⟨oc11, od11, .func (PySem.W.fnOf "is_convex" "is_convex" (defArgs s_is_convex) (defBody s_is_convex) (defScope s_is_convex) .none kV11 dc11 pm11 an11 cd11 ct11), sl11⟩) (c11 : PySem.W.codeIn K cd11 "is_convex" = true) (k11 : PySem.W.keepIn K (.ref f11) = true)
    (a12 : PySem.W.nsIn K mainGlobals "fallen" = some (some (.ref f12))) (l12 : K.lookup f12 = some ⟨oc12, od12, .func (PySem.W.fnOf "fallen" "fallen" (defArgs s_fallen) (defBody s_fallen) (defScope s_fallen) .none kV12 dc12 pm12 an12 cd12 ct12), sl12⟩) (c12 : PySem.W.codeIn K cd12 "fallen" = true) (k12 : PySem.W.keepIn K (.ref f12) = true)
    (a13 : PySem.W.nsIn K mainGlobals "parting_edge" = some (some (.ref f13))) (l13 : K.lookup f13 = some ⟨oc13, od13, .func (PySem.W.fnOf "parting_edge" "parting_edge" (defArgs s_parting_edge) (defBody s_parting_edge) (defScope s_parting_edge) .none kV13 dc13 pm13 an13 cd13 ct13), sl13⟩) (c13 : PySem.W.codeIn K cd13 "parting_edge" = true) (k13 : PySem.W.keepIn K (.ref f13) = true)
    (a14 : PySem.W.nsIn K mainGlobals "clipped" = some (some (.ref f14))) (l14 : K.lookup f14 = some ⟨oc14, od14, .func (PySem.W.fnOf "clipped" "clipped" (defArgs s_clipped) (defBody s_clipped) (defScope s_clipped) .none kV14 dc14 pm14 an14 cd14 ct14), sl14⟩) (c14 : PySem.W.codeIn K cd14 "clipped" = true) (k14 : PySem.W.keepIn K (.ref f14) = true)
    (a15 : PySem.W.nsIn K mainGlobals "crossing" = some (some (.ref f15))) (l15 : K.lookup f15 = some ⟨oc15, od15, .func (PySem.W.fnOf "crossing" "crossing" (defArgs s_crossing) (defBody s_crossing) (defScope s_crossing) .none kV15 dc15 pm15 an15 cd15 ct15), sl15⟩) (c15 : PySem.W.codeIn K cd15 "crossing" = true) (k15 : PySem.W.keepIn K (.ref f15) = true)
    (a16 : PySem.W.nsIn K mainGlobals "lowest" = some (some (.ref f16))) (l16 : K.lookup f16 = some ⟨oc16, od16, .func (PySem.W.fnOf "lowest" "lowest" (defArgs s_lowest) (defBody s_lowest) (defScope s_lowest) .none kV16 dc16 pm16 an16 cd16 ct16), sl16⟩) (c16 : PySem.W.codeIn K cd16 "lowest" = true) (k16 : PySem.W.keepIn K (.ref f16) = true)
    (a17 : PySem.W.nsIn K mainGlobals "meeting" = some (some (.ref f17))) (l17 : K.lookup f17 = some ⟨oc17, od17, .func (PySem.W.fnOf "meeting" "meeting" (defArgs s_meeting) (defBody s_meeting) (defScope s_meeting) .none kV17 dc17 pm17 an17 cd17 ct17), sl17⟩) (c17 : PySem.W.codeIn K cd17 "meeting" = true) (k17 : PySem.W.keepIn K (.ref f17) = true)
    (a18 : PySem.W.nsIn K mainGlobals "middle" = some (some (.ref f18))) (l18 : K.lookup f18 = some ⟨oc18, od18, .func (PySem.W.fnOf "middle" "middle" (defArgs s_middle) (defBody s_middle) (defScope s_middle) .none kV18 dc18 pm18 an18 cd18 ct18), sl18⟩) (c18 : PySem.W.codeIn K cd18 "middle" = true) (k18 : PySem.W.keepIn K (.ref f18) = true)
    (a19 : PySem.W.nsIn K mainGlobals "may_hit" = some (some (.ref f19))) (l19 : K.lookup f19 = some ⟨oc19, od19, .func (PySem.W.fnOf "may_hit" "may_hit" (defArgs s_may_hit) (defBody s_may_hit) (defScope s_may_hit) .none kV19 dc19 pm19 an19 cd19 ct19), sl19⟩) (c19 : PySem.W.codeIn K cd19 "may_hit" = true) (k19 : PySem.W.keepIn K (.ref f19) = true)
    (a20 : PySem.W.nsIn K mainGlobals "safe_of" = some (some (.ref f20))) (l20 : K.lookup f20 = some ⟨oc20, od20, .func (PySem.W.fnOf "safe_of" "safe_of" (defArgs s_safe_of) (defBody s_safe_of) (defScope s_safe_of) .none kV20 dc20 pm20 an20 cd20 ct20), sl20⟩) (c20 : PySem.W.codeIn K cd20 "safe_of" = true) (k20 : PySem.W.keepIn K (.ref f20) = true)
    (a21 : PySem.W.nsIn K mainGlobals "_law_draw" = some (some (.ref f21))) (l21 : K.lookup f21 = some ⟨oc21, od21, .func (PySem.W.fnOf "_law_draw" "_law_draw" (defArgs s_l_draw) (defBody s_l_draw) (defScope s_l_draw) .none kV21 dc21 pm21 an21 cd21 ct21), sl21⟩) (c21 : PySem.W.codeIn K cd21 "_law_draw" = true) (k21 : PySem.W.keepIn K (.ref f21) = true)
    (a22 : PySem.W.nsIn K mainGlobals "_law_pick" = some (some (.ref f22))) (l22 : K.lookup f22 = some ⟨oc22, od22, .func (PySem.W.fnOf "_law_pick" "_law_pick" (defArgs s_l_pick) (defBody s_l_pick) (defScope s_l_pick) .none kV22 dc22 pm22 an22 cd22 ct22), sl22⟩) (c22 : PySem.W.codeIn K cd22 "_law_pick" = true) (k22 : PySem.W.keepIn K (.ref f22) = true)
    (a23 : PySem.W.nsIn K mainGlobals "law" = some (some (.ref f23))) (l23 : K.lookup f23 = some ⟨oc23, od23, .func (PySem.W.fnOf "law" "law" (defArgs s_law) (defBody s_law) (defScope s_law) .none kV23 dc23 pm23 an23 cd23 ct23), sl23⟩) (c23 : PySem.W.codeIn K cd23 "law" = true) (k23 : PySem.W.keepIn K (.ref f23) = true)
    (z1 : PySem.W.nsIn K mainGlobals "len" = some none) (z2 : PySem.W.nsIn K mainGlobals "range" = some none) (z3 : PySem.W.nsIn K mainGlobals "min" = some none) (z4 : PySem.W.nsIn K mainGlobals "max" = some none) (z5 : PySem.W.nsIn K mainGlobals "abs" = some none) (z6 : PySem.W.nsIn K mainGlobals "sum" = some none) (z7 : PySem.W.nsIn K mainGlobals "int" = some none) (z8 : PySem.W.nsIn K mainGlobals "list" = some none) (z9 : PySem.W.nsIn K mainGlobals "tuple" = some none) (z10 : PySem.W.nsIn K mainGlobals "sorted" = some none) (z11 : PySem.W.nsIn K mainGlobals "isinstance" = some none) (z12 : PySem.W.nsIn K mainGlobals "enumerate" = some none) (z13 : PySem.W.nsIn K mainGlobals "zip" = some none) (z14 : PySem.W.nsIn K mainGlobals "set" = some none) (z15 : PySem.W.nsIn K mainGlobals "repr" = some none) (z16 : PySem.W.nsIn K mainGlobals "all" = some none) (z17 : PySem.W.nsIn K mainGlobals "any" = some none) (z18 : PySem.W.nsIn K mainGlobals "dict" = some none) (z19 : PySem.W.nsIn K mainGlobals "reversed" = some none) (z20 : PySem.W.nsIn K mainGlobals "str" = some none) :
    ∃ fd : FuncData, (∀ (s : Shared) (v : Value), BindsTo s fd ⟨[v], []⟩ [("script", v)]) ∧ ∀ base : Heap, K.In base → base.Ns mainGlobals mg → FnOk l.prog w K mg base CX0 7 fa fd ["script"] (spP R_law) := by
  have e := hfa.symm.trans (PySem.W.mg_of X G a23)
  cases e
  have bn : Bn mg := ⟨PySem.W.mg_none_of X G z1, PySem.W.mg_none_of X G z2, PySem.W.mg_none_of X G z3, PySem.W.mg_none_of X G z4, PySem.W.mg_none_of X G z5, PySem.W.mg_none_of X G z6, PySem.W.mg_none_of X G z7, PySem.W.mg_none_of X G z8, PySem.W.mg_none_of X G z9, PySem.W.mg_none_of X G z10, PySem.W.mg_none_of X G z11, PySem.W.mg_none_of X G z12, PySem.W.mg_none_of X G z13, PySem.W.mg_none_of X G z14, PySem.W.mg_none_of X G z15, PySem.W.mg_none_of X G z16, PySem.W.mg_none_of X G z17, PySem.W.mg_none_of X G z18, PySem.W.mg_none_of X G z19, PySem.W.mg_none_of X G z20⟩
  have F1 := fun_mk (st := s_turn) l1 c1 k1
  have b1 := F1.binds (ps := ["one", "other", "third"]) fun _ _ _ _ _ _ us hl => match us, hl with | [_, _, _], _ => rfl
  have F2 := fun_mk (st := s_half_ring) l2 c2 k2
  have b2 := F2.binds (ps := ["places"]) fun _ _ _ _ _ _ us hl => match us, hl with | [_], _ => rfl
  have F3 := fun_mk (st := s_ring_around) l3 c3 k3
  have b3 := F3.binds (ps := ["places"]) fun _ _ _ _ _ _ us hl => match us, hl with | [_], _ => rfl
  have F4 := fun_mk (st := s_ring_fault) l4 c4 k4
  have b4 := F4.binds (ps := ["places", "ring"]) fun _ _ _ _ _ _ us hl => match us, hl with | [_, _], _ => rfl
  have F5 := fun_mk (st := s_area_twice) l5 c5 k5
  have b5 := F5.binds (ps := ["ring"]) fun _ _ _ _ _ _ us hl => match us, hl with | [_], _ => rfl
  have F6 := fun_mk (st := s_square_far) l6 c6 k6
  have b6 := F6.binds (ps := ["one", "other"]) fun _ _ _ _ _ _ us hl => match us, hl with | [_, _], _ => rfl
  have F7 := fun_mk (st := s_farthest) l7 c7 k7
  have b7 := F7.binds (ps := ["places"]) fun _ _ _ _ _ _ us hl => match us, hl with | [_], _ => rfl
  have F8 := fun_mk (st := s_is_within) l8 c8 k8
  have b8 := F8.binds (ps := ["ring", "place"]) fun _ _ _ _ _ _ us hl => match us, hl with | [_, _], _ => rfl
  have F9 := fun_mk (st := s_minus) l9 c9 k9
  have b9 := F9.binds (ps := ["one", "other"]) fun _ _ _ _ _ _ us hl => match us, hl with | [_, _], _ => rfl
  have F10 := fun_mk (st := s_across) l10 c10 k10
  have b10 := F10.binds (ps := ["one", "other"]) fun _ _ _ _ _ _ us hl => match us, hl with | [_, _], _ => rfl
  have F11 := fun_mk (st := s_is_convex) l11 c11 k11
  have b11 := F11.binds (ps := ["corners"]) fun _ _ _ _ _ _ us hl => match us, hl with | [_], _ => rfl
  have F12 := fun_mk (st := s_fallen) l12 c12 k12
  have b12 := F12.binds (ps := ["start", "winds", "ticks"]) fun _ _ _ _ _ _ us hl => match us, hl with | [_, _, _], _ => rfl
  have F13 := fun_mk (st := s_parting_edge) l13 c13 k13
  have b13 := F13.binds (ps := ["one", "other"]) fun _ _ _ _ _ _ us hl => match us, hl with | [_, _], _ => rfl
  have F14 := fun_mk (st := s_clipped) l14 c14 k14
  have b14 := F14.binds (ps := ["corners", "here", "after"]) fun _ _ _ _ _ _ us hl => match us, hl with | [_, _, _], _ => rfl
  have F15 := fun_mk (st := s_crossing) l15 c15 k15
  have b15 := F15.binds (ps := ["one", "two", "left", "right"]) fun _ _ _ _ _ _ us hl => match us, hl with | [_, _, _, _], _ => rfl
  have F16 := fun_mk (st := s_lowest) l16 c16 k16
  have b16 := F16.binds (ps := ["x", "y", "by"]) fun _ _ _ _ _ _ us hl => match us, hl with | [_, _, _], _ => rfl
  have F17 := fun_mk (st := s_meeting) l17 c17 k17
  have b17 := F17.binds (ps := ["one", "other"]) fun _ _ _ _ _ _ us hl => match us, hl with | [_, _], _ => rfl
  have F18 := fun_mk (st := s_middle) l18 c18 k18
  have b18 := F18.binds (ps := ["corners"]) fun _ _ _ _ _ _ us hl => match us, hl with | [_], _ => rfl
  have F19 := fun_mk (st := s_may_hit) l19 c19 k19
  have b19 := F19.binds (ps := ["start", "winds", "ticks", "place"]) fun _ _ _ _ _ _ us hl => match us, hl with | [_, _, _, _], _ => rfl
  have F20 := fun_mk (st := s_safe_of) l20 c20 k20
  have b20 := F20.binds (ps := ["pieces", "winds", "places"]) fun _ _ _ _ _ _ us hl => match us, hl with | [_, _, _], _ => rfl
  have F21 := fun_mk (st := s_l_draw) l21 c21 k21
  have b21 := F21.binds (ps := ["state", "script", "size"]) fun _ _ _ _ _ _ us hl => match us, hl with | [_, _, _], _ => rfl
  have F22 := fun_mk (st := s_l_pick) l22 c22 k22
  have b22 := F22.binds (ps := ["state", "script", "items"]) fun _ _ _ _ _ _ us hl => match us, hl with | [_, _, _], _ => rfl
  have F23 := fun_mk (st := s_law) l23 c23 k23
  have b23 := F23.binds (ps := ["script"]) fun _ _ _ _ _ _ us hl => match us, hl with | [_], _ => rfl
  refine ⟨PySem.W.fnOf "law" "law" (defArgs s_law) (defBody s_law) (defScope s_law) .none kV23 dc23 pm23 an23 cd23 ct23, fun s v => .of_eq rfl, fun base _ _ => ?_⟩
  have C_l_draw : Cal l.prog w K mg base "_law_draw" ["state", "script", "size"] (spS R_draw) 1 := ⟨_, _, ok_l_draw (k := 0) F21 bn len_l_draw (sx_draw K), PySem.W.mg_of X G a21, F21.kp, b21⟩
  have C_l_pick : Cal l.prog w K mg base "_law_pick" ["state", "script", "items"] (spS R_pick) 2 := ⟨_, _, ok_l_pick (k := 1) F22 bn C_l_draw (by decide) len_l_pick (sx_l_pick K), PySem.W.mg_of X G a22, F22.kp, b22⟩
  have C_turn : Cal l.prog w K mg base "turn" ["one", "other", "third"] (spP R.R_turn) 1 := ⟨_, _, ok_turn (k := 0) F1 bn len_turn (R.sx_turn K), PySem.W.mg_of X G a1, F1.kp, b1⟩
  have C_half_ring : Cal l.prog w K mg base "half_ring" ["places"] (spP R.R_half) 2 := ⟨_, _, ok_half_ring (k := 1) F2 bn C_turn (by decide) len_half_ring (R.sx_half_ring K), PySem.W.mg_of X G a2, F2.kp, b2⟩
  have C_ring_around : Cal l.prog w K mg base "ring_around" ["places"] (spP R.R_ring) 3 := ⟨_, _, ok_ring_around (k := 2) F3 bn C_half_ring (by decide) len_ring_around (R.sx_ring_around K), PySem.W.mg_of X G a3, F3.kp, b3⟩
  have C_square_far : Cal l.prog w K mg base "square_far" ["one", "other"] (spP R.R_far) 1 := ⟨_, _, ok_square_far (k := 0) F6 bn len_square_far (R.sx_square_far K), PySem.W.mg_of X G a6, F6.kp, b6⟩
  have C_farthest : Cal l.prog w K mg base "farthest" ["places"] (spP R.R_farthest) 4 := ⟨_, _, ok_farthest (k := 3) F7 bn C_ring_around (by decide) C_square_far (by decide) len_farthest (R.sx_farthest K), PySem.W.mg_of X G a7, F7.kp, b7⟩
  have C_fallen : Cal l.prog w K mg base "fallen" ["start", "winds", "ticks"] (spP R_fall) 1 := ⟨_, _, ok_fallen (k := 0) F12 bn len_fallen (sx_fallen K), PySem.W.mg_of X G a12, F12.kp, b12⟩
  have C_ring_fault : Cal l.prog w K mg base "ring_fault" ["places", "ring"] (spP R.R_fault) 2 := ⟨_, _, ok_ring_fault (k := 1) F4 bn C_turn (by decide) len_ring_fault (R.sx_ring_fault K), PySem.W.mg_of X G a4, F4.kp, b4⟩
  have C_across : Cal l.prog w K mg base "across" ["one", "other"] (spP R_across) 1 := ⟨_, _, ok_across (k := 0) F10 bn len_across (sx_across K), PySem.W.mg_of X G a10, F10.kp, b10⟩
  have C_minus : Cal l.prog w K mg base "minus" ["one", "other"] (spP R_minus) 1 := ⟨_, _, ok_minus (k := 0) F9 bn len_minus (sx_minus K), PySem.W.mg_of X G a9, F9.kp, b9⟩
  have C_is_convex : Cal l.prog w K mg base "is_convex" ["corners"] (spP R_conv) 2 := ⟨_, _, ok_is_convex (k := 1) F11 bn C_across (by decide) C_minus (by decide) len_is_convex (sx_is_convex K), PySem.W.mg_of X G a11, F11.kp, b11⟩
  have C_area_twice : Cal l.prog w K mg base "area_twice" ["ring"] (spP R.R_area) 1 := ⟨_, _, ok_area_twice (k := 0) F5 bn len_area_twice (R.sx_area_twice K), PySem.W.mg_of X G a5, F5.kp, b5⟩
  have C_is_within : Cal l.prog w K mg base "is_within" ["ring", "place"] (spP R.R_within) 2 := ⟨_, _, ok_is_within (k := 1) F8 bn C_turn (by decide) len_is_within (R.sx_is_within K), PySem.W.mg_of X G a8, F8.kp, b8⟩
  have C_lowest : Cal l.prog w K mg base "lowest" ["x", "y", "by"] (spP R_low) 1 := ⟨_, _, ok_lowest (k := 0) F16 bn len_lowest (sx_lowest K), PySem.W.mg_of X G a16, F16.kp, b16⟩
  have C_middle : Cal l.prog w K mg base "middle" ["corners"] (spP R_mid) 2 := ⟨_, _, ok_middle (k := 1) F18 bn C_lowest (by decide) len_middle (sx_middle K), PySem.W.mg_of X G a18, F18.kp, b18⟩
  have C_parting_edge : Cal l.prog w K mg base "parting_edge" ["one", "other"] (spP R_part) 2 := ⟨_, _, ok_parting_edge (k := 1) F13 bn C_across (by decide) C_minus (by decide) len_parting_edge (sx_parting_edge K), PySem.W.mg_of X G a13, F13.kp, b13⟩
  have C_crossing : Cal l.prog w K mg base "crossing" ["one", "two", "left", "right"] (spP R_cross) 2 := ⟨_, _, ok_crossing (k := 1) F15 bn C_lowest (by decide) len_crossing (sx_crossing K), PySem.W.mg_of X G a15, F15.kp, b15⟩
  have C_clipped : Cal l.prog w K mg base "clipped" ["corners", "here", "after"] (spP R_clip) 3 := ⟨_, _, ok_clipped (k := 2) F14 bn C_across (by decide) C_minus (by decide) C_crossing (by decide) len_clipped (sx_clipped K), PySem.W.mg_of X G a14, F14.kp, b14⟩
  have C_meeting : Cal l.prog w K mg base "meeting" ["one", "other"] (spP R_meet) 4 := ⟨_, _, ok_meeting (k := 3) F17 bn C_clipped (by decide) len_meeting (sx_meeting K), PySem.W.mg_of X G a17, F17.kp, b17⟩
  have C_may_hit : Cal l.prog w K mg base "may_hit" ["start", "winds", "ticks", "place"] (spP R_hit) 5 := ⟨_, _, ok_may_hit (k := 4) F19 bn C_fallen (by decide) C_middle (by decide) C_parting_edge (by decide) C_meeting (by decide) C_lowest (by decide) len_may_hit (sx_may_hit K), PySem.W.mg_of X G a19, F19.kp, b19⟩
  have C_safe_of : Cal l.prog w K mg base "safe_of" ["pieces", "winds", "places"] (spP R_safe) 6 := ⟨_, _, ok_safe_of (k := 5) F20 bn C_may_hit (by decide) len_safe_of (sx_safe_of K), PySem.W.mg_of X G a20, F20.kp, b20⟩
  exact ok_law (k := 6) F23 bn C_l_pick (by decide) C_ring_around (by decide) C_farthest (by decide) C_l_draw (by decide) C_fallen (by decide) C_ring_fault (by decide) C_is_convex (by decide) C_area_twice (by decide) C_is_within (by decide) C_may_hit (by decide) C_safe_of (by decide) len_law (sx_law K)
theorem walk {l : PySem.W.OpenLaw} {q : Program} {loose : List Str} {XP : (Str → Option Value) → Heap → Prop} {YP : World → Heap → Prop} {d : DefRec} {K : Params → PySem.W.Frag} (hn : l.most = some 63) (hdf : d.params.defaults = [])
    (hY : ∀ (w : World) (h : Heap), YP w h → (K w.params).In h) (nl : ∀ w : World, noLs (K w.params) = true)
    (F : ∀ (w : World) (mg : Str → Option Value) (fa : Addr) (h : Heap), (K w.params).In h → h.Ns mainGlobals mg → mg d.name = some (.ref fa) →
      ∃ fd : FuncData, (∀ (s : Shared) (u : Value), BindsTo s fd ⟨[u], []⟩ [("script", u)]) ∧ ∀ base : Heap, (K w.params).In base → base.Ns mainGlobals mg → FnOk l.prog w (K w.params) mg base CX0 7 fa fd ["script"] (spP R_law)) :
    PySem.W.WalkO q loose XP YP l.row.toRowW d [] (fun f vs => PySem.call f vs) :=
  L2.walk_of (n := 63) (k := 7) (x := "script") (CX := fun _ => CX0) (sp := fun w => spP R_law) hn (by decide) hdf ⟨rfl, by decide, by decide⟩ hY F (fun w _ a ns hl _ hS => sp_law (nl w) hS ⟨ns, rfl, rfl⟩) fun _ _ _ _ _ z => z
end Law_k21
open PySem PySem.W PyProof.Rows
set_option maxHeartbeats 0 in
theorem PySem.Challenge.cw_firescore_k21_whole_rings_and_winds_holds : PySem.Challenge.rw_firescore_k21_whole_rings_and_winds.Holds := by
  w_on; o_law; k_head; (case hw => w_witness2)
  k_fill
  refine Law_k21.walk (l := PySem.Challenge.rw_firescore_k21_whole_rings_and_winds) rfl rfl (fun w h Y => PySem.W.kIn_of Y) (fun w => ?NL) ?F
  case NL => rfl
  case F =>
    intro w mg fa h KX G hmg
    refine' Law_k21.all_mk KX G hmg ?a1 ?l1 ?c1 ?k1 ?a2 ?l2 ?c2 ?k2 ?a3 ?l3 ?c3 ?k3 ?a4 ?l4 ?c4 ?k4 ?a5 ?l5 ?c5 ?k5 ?a6 ?l6 ?c6 ?k6 ?a7 ?l7 ?c7 ?k7 ?a8 ?l8 ?c8 ?k8 ?a9 ?l9 ?c9 ?k9 ?a10 ?l10 ?c10 ?k10 ?a11 ?l11 ?c11 ?k11 ?a12 ?l12 ?c12 ?k12 ?a13 ?l13 ?c13 ?k13 ?a14 ?l14 ?c14 ?k14 ?a15 ?l15 ?c15 ?k15 ?a16 ?l16 ?c16 ?k16 ?a17 ?l17 ?c17 ?k17 ?a18 ?l18 ?c18 ?k18 ?a19 ?l19 ?c19 ?k19 ?a20 ?l20 ?c20 ?k20 ?a21 ?l21 ?c21 ?k21 ?a22 ?l22 ?c22 ?k22 ?a23 ?l23 ?c23 ?k23 ?z1 ?z2 ?z3 ?z4 ?z5 ?z6 ?z7 ?z8 ?z9 ?z10 ?z11 ?z12 ?z13 ?z14 ?z15 ?z16 ?z17 ?z18 ?z19 ?z20
    (case a1 => k_is); (case l1 => k_is); (case c1 => k_is); (case k1 => k_is)
    (case a2 => k_is); (case l2 => k_is); (case c2 => k_is); (case k2 => k_is)
    (case a3 => k_is); (case l3 => k_is); (case c3 => k_is); (case k3 => k_is)
    (case a4 => k_is); (case l4 => k_is); (case c4 => k_is); (case k4 => k_is)
    (case a5 => k_is); (case l5 => k_is); (case c5 => k_is); (case k5 => k_is)
    (case a6 => k_is); (case l6 => k_is); (case c6 => k_is); (case k6 => k_is)
    (case a7 => k_is); (case l7 => k_is); (case c7 => k_is); (case k7 => k_is)
    (case a8 => k_is); (case l8 => k_is); (case c8 => k_is); (case k8 => k_is)
    (case a9 => k_is); (case l9 => k_is); (case c9 => k_is); (case k9 => k_is)
    (case a10 => k_is); (case l10 => k_is); (case c10 => k_is); (case k10 => k_is)
    (case a11 => k_is); (case l11 => k_is); (case c11 => k_is); (case k11 => k_is)
    (case a12 => k_is); (case l12 => k_is); (case c12 => k_is); (case k12 => k_is)
    (case a13 => k_is); (case l13 => k_is); (case c13 => k_is); (case k13 => k_is)
    (case a14 => k_is); (case l14 => k_is); (case c14 => k_is); (case k14 => k_is)
    (case a15 => k_is); (case l15 => k_is); (case c15 => k_is); (case k15 => k_is)
    (case a16 => k_is); (case l16 => k_is); (case c16 => k_is); (case k16 => k_is)
    (case a17 => k_is); (case l17 => k_is); (case c17 => k_is); (case k17 => k_is)
    (case a18 => k_is); (case l18 => k_is); (case c18 => k_is); (case k18 => k_is)
    (case a19 => k_is); (case l19 => k_is); (case c19 => k_is); (case k19 => k_is)
    (case a20 => k_is); (case l20 => k_is); (case c20 => k_is); (case k20 => k_is)
    (case a21 => k_is); (case l21 => k_is); (case c21 => k_is); (case k21 => k_is)
    (case a22 => k_is); (case l22 => k_is); (case c22 => k_is); (case k22 => k_is)
    (case a23 => k_is); (case l23 => k_is); (case c23 => k_is); (case k23 => k_is)
    (case z1 => k_is)
    (case z2 => k_is)
    (case z3 => k_is)
    (case z4 => k_is)
    (case z5 => k_is)
    (case z6 => k_is)
    (case z7 => k_is)
    (case z8 => k_is)
    (case z9 => k_is)
    (case z10 => k_is)
    (case z11 => k_is)
    (case z12 => k_is)
    (case z13 => k_is)
    (case z14 => k_is)
    (case z15 => k_is)
    (case z16 => k_is)
    (case z17 => k_is)
    (case z18 => k_is)
    (case z19 => k_is)
    (case z20 => k_is)
