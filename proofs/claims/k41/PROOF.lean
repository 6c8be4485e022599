import PyProof.Rows.All
import Wide.All
import OpenK.AllK
import Wide.FinOn
import HandS.ForMost
import HandS.TupAny
import HandS.Zip
import KE.SortData
import KE.DataMinMax
import KE.DataEq
import KE.DataFind
import HandS.Style
import HandS.Dict
import KE.DatumIndex
import HandS.Deep
import HandS.Set
import HandS.SetFor
import KE.DataAny
import HandS.Conv
import HandS.NoneIn
import HandS.DictComp
import HandS.SortKw
import HandS.Flow
import PySem.Challenge.RW_firescore_k41_whole_spots
set_option Elab.async false
set_option linter.all false
set_option autoImplicit false
set_option maxRecDepth 100000
set_option maxHeartbeats 4000000
/-! Pu: the hand layer's readings over pure data: slots hold data, own lists, a state; no addresses. -/
namespace Pu
open PySem L2

abbrev D := PyData
mutual
/-- the value v reads as the datum d in the frozen part F of the heap -/
inductive Rp (F : Hp) : V → D → Prop
  | non : Rp F .non .none
  | bl (b : Bool) : Rp F (.bl b) (.bool b)
  | int (i : Int) : Rp F (.int i) (.int i)
  | str (x : Str) : Rp F (.str x) (.str x)
  | lst {a : Addr} {xs : List V} {ds : List D} : Rd F a (.lst xs) → RpA F xs ds → Rp F (.ref a) (.list ds)
  | tup {a : Addr} {xs : List V} {ds : List D} : F a = some (.tup xs) → RpA F xs ds → Rp F (.ref a) (.tuple ds)
inductive RpA (F : Hp) : List V → List D → Prop
  | nil : RpA F [] []
  | cons {v : V} {vs : List V} {d : D} {ds : List D} : Rp F v d → RpA F vs ds → RpA F (v :: vs) (d :: ds)
end
theorem rd_mono {F G : Hp} {a : Addr} {u : HO} (e : Same F G) (h : Rd F a u) : Rd G a u := by
  rcases h with h | ⟨o, h⟩
  · exact .inl (e _ _ h)
  · exact .inr ⟨o, e _ _ h⟩
mutual
theorem Rp.mono {F G : Hp} (e : Same F G) : ∀ (d : D) {v : V}, Rp F v d → Rp G v d
  | .none, _, h => by cases h; exact .non
  | .bool b, _, h => by cases h; exact .bl b
  | .int i, _, h => by cases h; exact .int i
  | .str x, _, h => by cases h; exact .str x
  | .list ds, _, h => by
    cases h with
    | lst h1 h2 => exact .lst (rd_mono e h1) (RpA.mono e ds h2)
  | .tuple ds, _, h => by
    cases h with
    | tup h1 h2 => exact .tup (e _ _ h1) (RpA.mono e ds h2)
  | .dict _, _, h => by cases h
theorem RpA.mono {F G : Hp} (e : Same F G) : ∀ (ds : List D) {vs : List V}, RpA F vs ds → RpA G vs ds
  | [], _, h => by cases h; exact .nil
  | d :: ds, _, h => by
    cases h with
    | cons h1 h2 => exact .cons (Rp.mono e d h1) (RpA.mono e ds h2)
end
theorem Rp.up {F G : Hp} {d : D} {v : V} (h : Rp F v d) (e : Same F G) : Rp G v d := Rp.mono e d h
theorem RpA.up {F G : Hp} {ds : List D} {vs : List V} (h : RpA F vs ds) (e : Same F G) : RpA G vs ds := RpA.mono e ds h
theorem sqL_rd {K : PySem.W.Frag} {F H : Hp} {a : Addr} {xs : List V} (h : Rd F a (.lst xs)) (e : Same F H) : SqL K H a xs := .inl (rd_mono e h)
theorem sqT_rd {K : PySem.W.Frag} {F H : Hp} {a : Addr} {xs : List V} (h : F a = some (.tup xs)) (e : Same F H) : SqT K H a xs := .inl (.inl (e _ _ h))
mutual
theorem Rp.dp {K : PySem.W.Frag} {F H : Hp} (e : Same F H) : ∀ (d : D) {v : V}, Rp F v d → Dp K H v d
  | .none, _, h => by cases h; exact .non
  | .bool b, _, h => by cases h; exact .bl b
  | .int i, _, h => by cases h; exact .int i
  | .str x, _, h => by cases h; exact .str x
  | .list ds, _, h => by
    cases h with
    | lst h1 h2 => exact .lst (sqL_rd h1 e) (RpA.dp e ds h2)
  | .tuple ds, _, h => by
    cases h with
    | tup h1 h2 => exact .tup (sqT_rd h1 e) (RpA.dp e ds h2)
  | .dict _, _, h => by cases h
theorem RpA.dp {K : PySem.W.Frag} {F H : Hp} (e : Same F H) : ∀ (ds : List D) {vs : List V}, RpA F vs ds → DpAll K H vs ds
  | [], _, h => by cases h; exact .nil
  | d :: ds, _, h => by
    cases h with
    | cons h1 h2 => exact .cons (Rp.dp e d h1) (RpA.dp e ds h2)
end
section
variable {F : Hp}
theorem Rp.int_inv {v : V} {i : Int} (h : Rp F v (.int i)) : v = .int i := by cases h; rfl
theorem Rp.bl_inv {v : V} {b : Bool} (h : Rp F v (.bool b)) : v = .bl b := by cases h; rfl
theorem Rp.str_inv {v : V} {x : Str} (h : Rp F v (.str x)) : v = .str x := by cases h; rfl
theorem Rp.non_inv {v : V} (h : Rp F v .none) : v = .non := by cases h; rfl
theorem Rp.lst_inv {v : V} {ds : List D} (h : Rp F v (.list ds)) : ∃ a xs, v = .ref a ∧ Rd F a (.lst xs) ∧ RpA F xs ds := by
  cases h with
  | lst h1 h2 => exact ⟨_, _, rfl, h1, h2⟩
theorem Rp.tup_inv {v : V} {ds : List D} (h : Rp F v (.tuple ds)) : ∃ a xs, v = .ref a ∧ F a = some (.tup xs) ∧ RpA F xs ds := by
  cases h with
  | tup h1 h2 => exact ⟨_, _, rfl, h1, h2⟩
theorem RpA.len : ∀ {vs : List V} {ds : List D}, RpA F vs ds → vs.length = ds.length
  | _, [], h => by cases h; rfl
  | _, d :: ds, h => by
    cases h with
    | cons h1 h2 => simp [RpA.len h2]
theorem RpA.get : ∀ {vs : List V} {ds : List D} {k : Nat} {d : D}, RpA F vs ds → ds[k]? = some d → ∃ v, vs[k]? = some v ∧ Rp F v d
  | _, [], k, d, h, e => by simp at e
  | _, a :: ds, 0, d, h, e => by
    cases h with
    | cons h1 h2 =>
      simp at e
      subst e
      exact ⟨_, rfl, h1⟩
  | _, a :: ds, k + 1, d, h, e => by
    cases h with
    | cons h1 h2 =>
      obtain ⟨v, e1, e2⟩ := RpA.get (k := k) h2 (by simpa using e)
      exact ⟨v, by simpa using e1, e2⟩
theorem RpA.get' : ∀ {vs : List V} {ds : List D} {k : Nat} {v : V}, RpA F vs ds → vs[k]? = some v → ∃ d, ds[k]? = some d ∧ Rp F v d := fun {vs ds k v} h e => by
  have hk : k < ds.length := by rw [← h.len]; exact (List.getElem?_eq_some_iff.mp e).1
  obtain ⟨w, e1, e2⟩ := h.get (List.getElem?_eq_getElem hk)
  rw [e] at e1
  cases e1
  exact ⟨_, List.getElem?_eq_getElem hk, e2⟩
theorem RpA.app : ∀ {vs ws : List V} {ds es : List D}, RpA F vs ds → RpA F ws es → RpA F (vs ++ ws) (ds ++ es)
  | _, _, [], es, h, g => by cases h; exact g
  | _, _, d :: ds, es, h, g => by
    cases h with
    | cons h1 h2 => exact .cons h1 (RpA.app h2 g)
theorem RpA.take : ∀ {vs : List V} {ds : List D} (n : Nat), RpA F vs ds → RpA F (vs.take n) (ds.take n)
  | _, _, 0, h => by simp; exact .nil
  | _, [], n + 1, h => by cases h; exact .nil
  | _, d :: ds, n + 1, h => by
    cases h with
    | cons h1 h2 => exact .cons h1 (RpA.take n h2)
theorem RpA.drop : ∀ {vs : List V} {ds : List D} (n : Nat), RpA F vs ds → RpA F (vs.drop n) (ds.drop n)
  | _, _, 0, h => by simpa using h
  | _, [], n + 1, h => by cases h; exact .nil
  | _, d :: ds, n + 1, h => by
    cases h with
    | cons h1 h2 => exact RpA.drop n h2
theorem RpA.set : ∀ {vs : List V} {ds : List D} {v : V} {d : D} (n : Nat), RpA F vs ds → Rp F v d → RpA F (vs.set n v) (ds.set n d)
  | _, [], _, _, n, h, g => by cases h; exact .nil
  | _, e :: ds, _, _, 0, h, g => by
    cases h with
    | cons h1 h2 => exact .cons g h2
  | _, e :: ds, _, _, n + 1, h, g => by
    cases h with
    | cons h1 h2 => exact .cons h1 (RpA.set n h2 g)
theorem RpA.ints : ∀ (ns : List Int), RpA F (ns.map V.int) (ns.map PyData.int)
  | [] => .nil
  | n :: ns => .cons (.int n) (RpA.ints ns)
theorem RpA.ints_inv : ∀ {ns : List Int} {vs : List V}, RpA F vs (ns.map PyData.int) → vs = ns.map V.int
  | [], _, h => by cases h; rfl
  | n :: ns, _, h => by
    cases h with
    | cons h1 h2 =>
      rw [h1.int_inv, RpA.ints_inv h2]
      rfl
theorem RpA.rev {vs : List V} {ds : List D} (h : RpA F vs ds) : RpA F vs.reverse ds.reverse := by
  induction ds generalizing vs with
  | nil => cases h; exact .nil
  | cons d ds ih =>
    cases h with
    | cons h1 h2 =>
      rw [List.reverse_cons, List.reverse_cons]
      exact (ih h2).app (.cons h1 .nil)
end

/-! ### state, slots, the world -/
inductive Stt where
  | two (a b : Int)
  | cel (a : Int) (cs : List Int)
  | dct (kvs : List (Int × Int))
  /-- a dict whose keys are ints, each with True -/
  | dbl (ks : List Int)
  /-- a list of lists of ints and None that nobody else has -/
  | grd (rows : List (List (Option Int)))
  /-- an instance of the class at C whose attributes are data -/
  | obj (C : Addr) (fs : List (Str × D))
  /-- a dict whose keys are pairs of ints -/
  | dtt (kvs : List ((Int × Int) × Int))
def ov : Option Int → V
  | none => .non
  | some i => .int i
/-- the inner lists -/
def GrA (H : Hp) : List Addr → List (List (Option Int)) → Prop
  | [], [] => True
  | q :: qs, r :: rows => H q = some (.lst (r.map ov)) ∧ GrA H qs rows
  | _, _ => False
/-- the attributes of an instance -/
def FldA (F : Hp) : List (Str × V) → List (Str × D) → Prop
  | [], [] => True
  | (f, v) :: vs, (g, d) :: fs => f = g ∧ Rp F v d ∧ FldA F vs fs
  | _, _ => False
theorem FldA.up {F F' : Hp} : ∀ {vs : List (Str × V)} {fs : List (Str × D)}, FldA F vs fs → Same F F' → FldA F' vs fs
  | [], [], _, _ => trivial
  | (_, _) :: _, (_, _) :: _, h, e => ⟨h.1, h.2.1.up e, FldA.up h.2.2 e⟩
  | [], _ :: _, h, _ => h.elim
  | _ :: _, [], h, _ => h.elim
def StAt (F H : Hp) : Stt → Addr → List Addr → Prop
  | .two a b, s, as => as = [s] ∧ H s = some (.lst [.int a, .int b])
  | .cel a cs, s, as => ∃ c, as = [s, c] ∧ s ≠ c ∧ H s = some (.lst [.int a, .ref c]) ∧ H c = some (.lst (cs.map V.int))
  | .dct kvs, s, as => as = [s] ∧ H s = some (.dK (kvs.map fun p => ((.inl p.1 : Key), V.int p.2)))
  | .dbl ks, s, as => as = [s] ∧ H s = some (.dK (ks.map fun k => ((.inl k : Key), V.bl true)))
  | .grd rows, s, as => ∃ qs, as = s :: qs ∧ (s :: qs).Nodup ∧ H s = some (.lst (qs.map V.ref)) ∧ GrA H qs rows
  | .obj C fs, s, as => ∃ dx vs, as = [s] ∧ H s = some (.ins C dx vs) ∧ FldA F vs fs
  | .dtt kvs, s, as => as = [s] ∧ H s = some (.dT (kvs.map fun p => (([.inl p.1.1, .inl p.1.2] : List Key), V.int p.2)))
theorem GrA.mem {H : Hp} : ∀ {qs : List Addr} {rows : List (List (Option Int))}, GrA H qs rows → ∀ q ∈ qs, H q ≠ none
  | q :: qs, r :: rows, h, x, hx => by
    rcases List.mem_cons.mp hx with rfl | hx
    · rw [h.1]; intro z; cases z
    · exact GrA.mem h.2 x hx
  | [], _, _, x, hx => by cases hx
  | _ :: _, [], h, _, _ => h.elim
theorem GrA.keep {H H' : Hp} : ∀ {qs : List Addr} {rows : List (List (Option Int))}, GrA H qs rows → (∀ q ∈ qs, ∀ o, H q = some o → H' q = some o) → GrA H' qs rows
  | q :: qs, r :: rows, h, k => ⟨k q (by simp) _ h.1, GrA.keep h.2 fun x hx => k x (by simp [hx])⟩
  | [], [], _, _ => trivial
  | [], _ :: _, h, _ => h.elim
  | _ :: _, [], h, _ => h.elim
theorem StAt.mem {F H : Hp} {S : Stt} {s : Addr} {as : List Addr} (h : StAt F H S s as) : s ∈ as ∧ ∀ a ∈ as, H a ≠ none := by
  cases S with
  | two a b =>
    obtain ⟨rfl, h⟩ := h
    exact ⟨by simp, fun x hx => by
      have e : x = s := by simpa using hx
      rw [e, h]; intro z; cases z⟩
  | dct kvs =>
    obtain ⟨rfl, h⟩ := h
    exact ⟨by simp, fun x hx => by
      have e : x = s := by simpa using hx
      rw [e, h]; intro z; cases z⟩
  | dbl ks =>
    obtain ⟨rfl, h⟩ := h
    exact ⟨by simp, fun x hx => by
      have e : x = s := by simpa using hx
      rw [e, h]; intro z; cases z⟩
  | cel a cs =>
    obtain ⟨c, rfl, _, h1, h2⟩ := h
    exact ⟨by simp, fun x hx => by
      have e : x = s ∨ x = c := by simpa using hx
      rcases e with e | e
      · rw [e, h1]; intro z; cases z
      · rw [e, h2]; intro z; cases z⟩
  | grd rows =>
    obtain ⟨qs, rfl, _, h1, h2⟩ := h
    exact ⟨by simp, fun x hx => by
      rcases List.mem_cons.mp hx with rfl | hx
      · rw [h1]; intro z; cases z
      · exact h2.mem x hx⟩
  | dtt kvs =>
    obtain ⟨rfl, h⟩ := h
    exact ⟨by simp, fun x hx => by
      have e : x = s := by simpa using hx
      rw [e, h]; intro z; cases z⟩
  | obj C fs =>
    obtain ⟨dx, vs, rfl, h, _⟩ := h
    exact ⟨by simp, fun x hx => by
      have e : x = s := by simpa using hx
      rw [e, h]; intro z; cases z⟩
theorem StAt.keep {F F' H H' : Hp} {S : Stt} {s : Addr} {as : List Addr} (h : StAt F H S s as) (f : Same F F') (k : ∀ a ∈ as, ∀ o, H a = some o → H' a = some o) : StAt F' H' S s as := by
  cases S with
  | two a b =>
    obtain ⟨rfl, h⟩ := h
    exact ⟨rfl, k s (by simp) _ h⟩
  | dct kvs =>
    obtain ⟨rfl, h⟩ := h
    exact ⟨rfl, k s (by simp) _ h⟩
  | dbl ks =>
    obtain ⟨rfl, h⟩ := h
    exact ⟨rfl, k s (by simp) _ h⟩
  | cel a cs =>
    obtain ⟨c, rfl, ne, h1, h2⟩ := h
    exact ⟨c, rfl, ne, k s (by simp) _ h1, k c (by simp) _ h2⟩
  | grd rows =>
    obtain ⟨qs, rfl, nd, h1, h2⟩ := h
    exact ⟨qs, rfl, nd, k s (by simp) _ h1, h2.keep fun q hq => k q (by simp [hq])⟩
  | dtt kvs =>
    obtain ⟨rfl, h⟩ := h
    exact ⟨rfl, k s (by simp) _ h⟩
  | obj C fs =>
    obtain ⟨dx, vs, rfl, h1, h2⟩ := h
    exact ⟨dx, vs, rfl, k s (by simp) _ h1, h2.up f⟩
/-- is it an instance? -/
def Stt.ob : Stt → Bool
  | .obj _ _ => true
  | _ => false
theorem StAt.down {F F' H : Hp} {S : Stt} {s : Addr} {as : List Addr} (h : StAt F' H S s as) (n : S.ob = false) : StAt F H S s as := by
  cases S with
  | obj C fs => cases n
  | two a b => exact h
  | cel a cs => exact h
  | dct kvs => exact h
  | dbl ks => exact h
  | grd rows => exact h
  | dtt kvs => exact h
inductive Slot where
  | emp
  | val (d : D)
  | own (ds : List D)
  | st (S : Stt)
abbrev Env := List Slot
/-- no instance is there -/
def NoOb (ρ : Env) : Prop := ∀ S, Slot.st S ∈ ρ → S.ob = false
def noObP : Env → Prop
  | [] => True
  | .st S :: ρ => S.ob = false ∧ noObP ρ
  | .emp :: ρ => noObP ρ
  | .val _ :: ρ => noObP ρ
  | .own _ :: ρ => noObP ρ
theorem noob_of : ∀ {ρ : Env}, noObP ρ → NoOb ρ
  | [], _, _, h => by cases h
  | .st S :: ρ, h, T, m => by
    rcases List.mem_cons.mp m with e | m
    · cases e; exact h.1
    · exact noob_of h.2 T m
  | .emp :: ρ, h, T, m => by
    rcases List.mem_cons.mp m with e | m
    · cases e
    · exact noob_of (ρ := ρ) h T m
  | .val _ :: ρ, h, T, m => by
    rcases List.mem_cons.mp m with e | m
    · cases e
    · exact noob_of (ρ := ρ) h T m
  | .own _ :: ρ, h, T, m => by
    rcases List.mem_cons.mp m with e | m
    · cases e
    · exact noob_of (ρ := ρ) h T m
/-- a state of the laws from k60 on: a counter, cells from 0 on -/
def Ok : Stt → Prop
  | .cel a cs => 0 < cs.length ∧ cs.length ≤ 100000 ∧ 0 ≤ a ∧ ∀ c ∈ cs, 0 ≤ c
  | _ => False
theorem Ok.nob : ∀ {S : Stt}, Ok S → S.ob = false
  | .two _ _, h => h.elim
  | .cel _ _, _ => rfl
  | .dct _, h => h.elim
  | .dbl _, h => h.elim
  | .grd _, h => h.elim
  | .obj _ _, h => h.elim
  | .dtt _, h => h.elim
/-- a state of the laws up to k45 -/
def Ok2 : Stt → Prop
  | .two a b => 0 ≤ a ∧ 0 ≤ b
  | _ => False
theorem Ok2.nob : ∀ {S : Stt}, Ok2 S → S.ob = false
  | .two _ _, _ => rfl
  | .cel _ _, _ => rfl
  | .dct _, _ => rfl
  | .dbl _, _ => rfl
  | .grd _, _ => rfl
  | .dtt _, _ => rfl
  | .obj _ _, h => h.elim
structure Base where
  F0 : Hp
  H0 : Hp
  M : Addr → Prop
  pin : Option (Addr × List Addr) := none
/-- from (F, H) to (F', H'): all is kept but what M has -/
structure Gr (M : Addr → Prop) (F H F' H' : Hp) : Prop where
  ff : Same F F'
  fh : Same F' H'
  kp : ∀ a o, H a = some o → ¬ M a → H' a = some o
  al : ∀ a, H a ≠ none → H' a ≠ none
  fr : ∀ a, H a ≠ none → F a = none → F' a = none
theorem Gr.refl {M : Addr → Prop} {F H : Hp} (e : Same F H) : Gr M F H F H := ⟨Same.refl F, e, fun _ _ h _ => h, fun _ h => h, fun _ _ h => h⟩
theorem Gr.trans {M M1 M2 : Addr → Prop} {F H F1 H1 F2 H2 : Hp} (a : Gr M1 F H F1 H1) (b : Gr M2 F1 H1 F2 H2) (i1 : ∀ x, H x ≠ none → M1 x → M x) (i2 : ∀ x, H x ≠ none → M2 x → M x) : Gr M F H F2 H2 :=
  ⟨a.ff.trans b.ff, b.fh, fun x o h m => b.kp x o (a.kp x o h fun z => m (i1 x (by rw [h]; intro q; cases q) z)) fun z => m (i2 x (by rw [h]; intro q; cases q) z), fun x h => b.al x (a.al x h), fun x h e => b.fr x (a.al x h) (a.fr x h e)⟩
/-- nothing changes -/
abbrev Non : Addr → Prop := fun _ => False

def SlotOk (B : Base) (F H : Hp) : Slot → Option (Option V) → List Addr → Prop
  | .emp, _, as => as = []
  | .val d, x, as => as = [] ∧ ∃ v, x = some (some v) ∧ Rp F v d
  | .own ds, x, as => ∃ p vs, as = [p] ∧ B.H0 p = none ∧ x = some (some (.ref p)) ∧ H p = some (.lst vs) ∧ RpA F vs ds
  | .st S, x, as => ∃ s, x = some (some (.ref s)) ∧ StAt F H S s as
/-- a state that came as the first argument stays where it is -/
def PinOk (B : Base) (ad : Nat → List Addr) (ρ : Env) (σ : St) : Prop := ∀ s as, B.pin = some (s, as) → ∀ S, ρ[0]? = some (Slot.st S) → σ[0]? = some (some (.ref s)) ∧ ad 0 = as
theorem PinOk.to {B : Base} {ad ad' : Nat → List Addr} {ρ ρ' : Env} {σ σ' : St} (h : PinOk B ad ρ σ) (k : ∀ S, ρ'[0]? = some (Slot.st S) → (∃ S', ρ[0]? = some (Slot.st S')) ∧ σ'[0]? = σ[0]? ∧ ad' 0 = ad 0) : PinOk B ad' ρ' σ' := fun s as e S q => by
  obtain ⟨⟨S', e1⟩, e2, e3⟩ := k S q
  rw [e2, e3]
  exact h s as e S' e1
structure WA (B : Base) (ad : Nat → List Addr) (ρ : Env) (σ : St) (F H : Hp) : Prop where
  gr : Gr B.M B.F0 B.H0 F H
  len : σ.length = ρ.length
  sl : ∀ i s, ρ[i]? = some s → SlotOk B F H s σ[i]? (ad i)
  fz : ∀ i p, p ∈ ad i → F p = none ∧ (B.H0 p = none ∨ (B.M p ∧ i = 0))
  dj : ∀ i j p, p ∈ ad i → p ∈ ad j → i = j
  out : ∀ i, ρ[i]? = none → ad i = []
  pin : PinOk B ad ρ σ
def W (B : Base) (ρ : Env) (σ : St) (F H : Hp) : Prop := ∃ ad, WA B ad ρ σ F H
/-- the addresses of the states -/
def MS (ad : Nat → List Addr) (ρ : Env) (a : Addr) : Prop := ∃ (i : Nat) (S : Stt), ρ[i]? = some (Slot.st S) ∧ a ∈ ad i
/-- behind an expression -/
structure Post (B : Base) (ad : Nat → List Addr) (σ : St) (ρ : Env) (F H : Hp) (ρ' : Env) (F' H' : Hp) : Prop where
  wa : WA B ad ρ' σ F' H'
  gr : Gr (MS ad ρ) F H F' H'
  sh : ∀ (i : Nat) (S' : Stt), ρ'[i]? = some (Slot.st S') → ∃ S, ρ[i]? = some (Slot.st S)
section
variable {B : Base} {ad : Nat → List Addr} {ρ ρ' ρ1 ρ2 : Env} {σ : St} {F H F' H' F1 H1 F2 H2 : Hp}
theorem Post.refl (w : WA B ad ρ σ F H) : Post B ad σ ρ F H ρ F H := ⟨w, Gr.refl w.gr.fh, fun i S h => ⟨S, h⟩⟩
theorem Post.trans (a : Post B ad σ ρ F H ρ1 F1 H1) (b : Post B ad σ ρ1 F1 H1 ρ2 F2 H2) : Post B ad σ ρ F H ρ2 F2 H2 :=
  ⟨b.wa, a.gr.trans b.gr (fun _ _ h => h) fun x _ ⟨i, S, h, m⟩ => let ⟨S', h'⟩ := a.sh i S h; ⟨i, S', h', m⟩, fun i S h => let ⟨S1, h1⟩ := b.sh i S h; a.sh i S1 h1⟩
theorem WA.lv (w : WA B ad ρ σ F H) {i : Nat} {p : Addr} (h : p ∈ ad i) : H p ≠ none := by
  cases e : ρ[i]? with
  | none => rw [w.out i e] at h; cases h
  | some s =>
    have k := w.sl i s e
    cases s with
    | emp => have k : ad i = [] := k; rw [k] at h; cases h
    | val d => have k : ad i = [] := k.1; rw [k] at h; cases h
    | own ds =>
      obtain ⟨q, vs, k, _, _, k2, _⟩ := k
      rw [k] at h
      have e : p = q := by simpa using h
      rw [e, k2]
      intro z; cases z
    | st S =>
      obtain ⟨s, _, k⟩ := k
      exact k.mem.2 p h
/-- nothing tracked changes, F grows -/
theorem WA.grow (w : WA B ad ρ σ F H) (g : Gr Non F H F' H') : WA B ad ρ σ F' H' where
  gr := w.gr.trans g (fun _ _ h => h) fun _ _ h => h.elim
  len := w.len
  sl := fun i s h => by
    have k := w.sl i s h
    cases s with
    | emp => exact k
    | val d =>
      obtain ⟨k, v, e, r⟩ := k
      exact ⟨k, v, e, r.up g.ff⟩
    | own ds =>
      obtain ⟨p, vs, k, k0, k1, k2, r⟩ := k
      exact ⟨p, vs, k, k0, k1, g.kp _ _ k2 id, r.up g.ff⟩
    | st S =>
      obtain ⟨s, k1, k⟩ := k
      exact ⟨s, k1, k.keep g.ff fun a _ o e => g.kp a o e id⟩
  fz := fun i p h => ⟨g.fr p (w.lv h) (w.fz i p h).1, (w.fz i p h).2⟩
  dj := w.dj
  out := w.out
  pin := w.pin
theorem Post.of (w : WA B ad ρ σ F H) (g : Gr Non F H F' H') : Post B ad σ ρ F H ρ F' H' := ⟨w.grow g, ⟨g.ff, g.fh, fun a o h _ => g.kp a o h id, g.al, g.fr⟩, fun i S h => ⟨S, h⟩⟩
theorem Gr.heap (e : Same F H) (g : Same H H') : Gr Non F H F H' where
  ff := Same.refl F
  fh := e.trans g
  kp := fun a o h _ => g a o h
  al := fun a h => by
    cases q : H a with
    | none => exact absurd q h
    | some o =>
      rw [g a o q]
      intro z
      cases z
  fr := fun _ _ h => h
theorem same_upd {p : Addr} {o : HO} (h : H p = none) : Same H (upd H p o) := fun b u q => by rw [upd_ne (ne_of_none q h)]; exact q
/-- a new object is laid and frozen -/
theorem Gr.new {p : Addr} {o : HO} (e : Same F H) (h : H p = none) : Gr Non F H (upd F p o) (upd H p o) where
  ff := same_upd (by
    cases q : F p with
    | none => rfl
    | some u => rw [e p u q] at h; cases h)
  fh := fun a u q => by
    by_cases ha : a = p
    · subst ha; rw [upd_same] at q ⊢; exact q
    · rw [upd_ne ha] at q ⊢; exact e a u q
  kp := fun a u q _ => by rw [upd_ne (ne_of_none q h)]; exact q
  al := fun a q => by
    by_cases ha : a = p
    · subst ha; rw [upd_same]; intro z; cases z
    · rw [upd_ne ha]; exact q
  fr := fun a q z => by
    have ha : a ≠ p := fun z => q (z ▸ h)
    rw [upd_ne ha]
    exact z
end

/-! ### expressions over pure data -/
def EX (te : TE) (ρ : Env) (Q : D → Env → Prop) : Prop := ∀ B ad σ F H, WA B ad ρ σ F H → ∀ Z : VK, (∀ d ρ' v F' H', Q d ρ' → Post B ad σ ρ F H ρ' F' H' → Rp F' v d → Z v H') → te σ H Z
def EA (ta : TA) (ρ : Env) (Q : List D → Env → Prop) : Prop := ∀ B ad σ F H, WA B ad ρ σ F H → ∀ Z : List V → Hp → Prop, (∀ ds ρ' vs F' H', Q ds ρ' → Post B ad σ ρ F H ρ' F' H' → RpA F' vs ds → Z vs H') → ta σ H Z
def ET (tt : TT) (ρ : Env) (Q : Bool → Env → Prop) : Prop := ∀ B ad σ F H, WA B ad ρ σ F H → ∀ Z : Bool → Hp → Prop, (∀ b ρ' F' H', Q b ρ' → Post B ad σ ρ F H ρ' F' H' → Z b H') → tt σ H Z
/-- a new list, not yet frozen -/
def EO (te : TE) (ρ : Env) (Q : List D → Env → Prop) : Prop := ∀ B ad σ F H, WA B ad ρ σ F H → ∀ Z : VK,
  (∀ ds ρ' p vs F' H', Q ds ρ' → Post B ad σ ρ F H ρ' F' H' → F' p = none → H p = none → H' p = some (.lst vs) → RpA F' vs ds → Z (.ref p) H') → te σ H Z
def EPt (to : TO) (ρ : Env) (Q : Option Int → Env → Prop) : Prop := ∀ B ad σ F H, WA B ad ρ σ F H → ∀ Z : Option Int → Hp → Prop, (∀ o ρ' F' H', Q o ρ' → Post B ad σ ρ F H ρ' F' H' → Z o H') → to σ H Z
/-- operations by data -/
def OpD (r : R2) (d1 d2 : D) (K : D → Prop) : Prop := ∀ F H x y, Same F H → Rp F x d1 → Rp F y d2 → ∀ Z : VK, (∀ d v F' H', K d → Gr Non F H F' H' → Rp F' v d → Z v H') → r x y H Z
def OpO (r : R2) (d1 d2 : D) (K : List D → Prop) : Prop := ∀ F H x y, Same F H → Rp F x d1 → Rp F y d2 → ∀ Z : VK, (∀ ds p vs H', K ds → Same H H' → H p = none → H' p = some (.lst vs) → RpA F vs ds → Z (.ref p) H') → r x y H Z
def UnD (r : V → Hp → VK → Prop) (d1 : D) (K : D → Prop) : Prop := ∀ F H x, Same F H → Rp F x d1 → ∀ Z : VK, (∀ d v F' H', K d → Gr Non F H F' H' → Rp F' v d → Z v H') → r x H Z
def CbD (r : List V → Hp → VK → Prop) (ds : List D) (K : D → Prop) : Prop := ∀ F H vs, Same F H → RpA F vs ds → ∀ Z : VK, (∀ d v F' H', K d → Gr Non F H F' H' → Rp F' v d → Z v H') → r vs H Z
def CbO (r : List V → Hp → VK → Prop) (ds : List D) (K : List D → Prop) : Prop := ∀ F H vs, Same F H → RpA F vs ds → ∀ Z : VK, (∀ es p ws H', K es → Same H H' → H p = none → H' p = some (.lst ws) → RpA F ws es → Z (.ref p) H') → r vs H Z
def SlD (r : V → Option Int → Option Int → Hp → VK → Prop) (d1 : D) (lo hi : Option Int) (K : D → Prop) : Prop := ∀ F H x, Same F H → Rp F x d1 → ∀ Z : VK, (∀ d v F' H', K d → Gr Non F H F' H' → Rp F' v d → Z v H') → r x lo hi H Z
def SlO (r : V → Option Int → Option Int → Hp → VK → Prop) (d1 : D) (lo hi : Option Int) (K : List D → Prop) : Prop := ∀ F H x, Same F H → Rp F x d1 → ∀ Z : VK, (∀ ds p vs H', K ds → Same H H' → H p = none → H' p = some (.lst vs) → RpA F vs ds → Z (.ref p) H') → r x lo hi H Z

section
variable {B : Base} {ad : Nat → List Addr} {ρ ρ' ρ1 ρ2 : Env} {σ : St} {F H F' H' F1 H1 F2 H2 : Hp} {te ta tb tc : TE} {tt tu : TT} {t : TA} {Q Q' : D → Env → Prop}
theorem WA.newp (w : WA B ad ρ σ F H) {p : Addr} (h : H p = none) : F p = none ∧ B.H0 p = none ∧ ∀ i, p ∉ ad i := by
  refine ⟨w.gr.fh.free h, ?_, fun i m => w.lv m h⟩
  cases q : B.H0 p with
  | none => rfl
  | some o => exact absurd h (w.gr.al p (by rw [q]; intro z; cases z))
/-- a list that nobody owns is frozen -/
theorem WA.freeze (w : WA B ad ρ σ F H) {p : Addr} {vs : List V} (hF : F p = none) (h0 : B.H0 p = none) (hn : ∀ i, p ∉ ad i) (hp : H p = some (.lst vs)) : WA B ad ρ σ (upd F p (.lst vs)) H where
  gr := ⟨w.gr.ff.trans (same_upd hF), fun a o e => by
    by_cases ha : a = p
    · subst ha; rw [upd_same] at e; rw [hp]; exact e
    · rw [upd_ne ha] at e; exact w.gr.fh a o e, w.gr.kp, w.gr.al, fun a e z => by
    have ha : a ≠ p := fun q => e (by rw [q]; exact h0)
    rw [upd_ne ha]
    exact w.gr.fr a e z⟩
  len := w.len
  sl := fun i s e => by
    have k := w.sl i s e
    have up := same_upd (o := .lst vs) hF
    cases s with
    | emp => exact k
    | val d =>
      obtain ⟨k, v, e, r⟩ := k
      exact ⟨k, v, e, r.up up⟩
    | own ds =>
      obtain ⟨q, ws, k, k0, k1, k2, r⟩ := k
      exact ⟨q, ws, k, k0, k1, k2, r.up up⟩
    | st S =>
      obtain ⟨s, k1, k⟩ := k
      exact ⟨s, k1, k.keep up fun _ _ _ e => e⟩
  fz := fun i q m => by
    have ne : q ≠ p := fun z => hn i (z ▸ m)
    rw [upd_ne ne]
    exact w.fz i q m
  dj := w.dj
  out := w.out
  pin := w.pin
theorem Post.freeze (w : Post B ad σ ρ F H ρ' F' H') (w0 : WA B ad ρ σ F H) {p : Addr} {vs : List V} (hF : F' p = none) (hH : H p = none) (hp : H' p = some (.lst vs)) : Post B ad σ ρ F H ρ' (upd F' p (.lst vs)) H' :=
  have n := w0.newp hH
  have f := w.wa.freeze hF n.2.1 n.2.2 hp
  ⟨f, ⟨w.gr.ff.trans (same_upd hF), f.gr.fh, w.gr.kp, w.gr.al, fun a e z => by
    have ha : a ≠ p := fun q => e (by rw [q]; exact hH)
    rw [upd_ne ha]
    exact w.gr.fr a e z⟩, w.sh⟩

/-! #### the rules -/
theorem EX.imp (h : EX te ρ Q) (k : ∀ d ρ', Q d ρ' → Q' d ρ') : EX te ρ Q' := fun B ad σ F H w Z z => h B ad σ F H w Z fun d ρ' v F' H' q p r => z d ρ' v F' H' (k d ρ' q) p r
theorem ex_of {Q : D → Env → Prop} (h : EO te ρ fun ds ρ' => Q (.list ds) ρ') : EX te ρ Q := fun B ad σ F H w Z z => h B ad σ F H w Z fun ds ρ' p vs F' H' q P hF hH hp r =>
  z _ ρ' _ (upd F' p (.lst vs)) H' q (P.freeze w hF hH hp) (.lst (.inl upd_same) (r.up (same_upd hF)))
theorem ex_var {i : Nat} {d : D} (h : ρ[i]? = some (.val d)) (q : Q d ρ) : EX (tVar i) ρ Q := fun B ad σ F H w Z z => by
  obtain ⟨_, v, e, r⟩ := w.sl i _ h
  exact ⟨v, e, z d ρ v F H q (Post.refl w) r⟩
theorem ex_c {v : V} {d : D} (r : ∀ F, Rp F v d) (q : Q d ρ) : EX (tC v) ρ Q := fun B ad σ F H w Z z => z d ρ v F H q (Post.refl w) (r F)
theorem ex_int {i : Int} (q : Q (.int i) ρ) : EX (tC (.int i)) ρ Q := ex_c (fun _ => .int i) q
theorem ex_str {x : Str} (q : Q (.str x) ρ) : EX (tC (.str x)) ρ Q := ex_c (fun _ => .str x) q
theorem ex_bl {b : Bool} (q : Q (.bool b) ρ) : EX (tC (.bl b)) ρ Q := ex_c (fun _ => .bl b) q
theorem ex_non (q : Q .none ρ) : EX (tC .non) ρ Q := ex_c (fun _ => .non) q
theorem ex_op {r : R2} (h : EX ta ρ fun d1 ρ1 => EX tb ρ1 fun d2 ρ2 => OpD r d1 d2 fun d => Q d ρ2) : EX (tOp r ta tb) ρ Q := fun B ad σ F H w Z z =>
  h B ad σ F H w _ fun d1 ρ1 x F1 H1 q1 p1 r1 => q1 B ad σ F1 H1 p1.wa _ fun d2 ρ2 y F2 H2 q2 p2 r2 =>
    q2 F2 H2 x y p2.wa.gr.fh (r1.up p2.gr.ff) r2 Z fun d v F' H' kd g rv => z d ρ2 v F' H' kd ((p1.trans p2).trans (Post.of p2.wa g)) rv
theorem eo_op {r : R2} {Q : List D → Env → Prop} (h : EX ta ρ fun d1 ρ1 => EX tb ρ1 fun d2 ρ2 => OpO r d1 d2 fun d => Q d ρ2) : EO (tOp r ta tb) ρ Q := fun B ad σ F H w Z z =>
  h B ad σ F H w _ fun d1 ρ1 x F1 H1 q1 p1 r1 => q1 B ad σ F1 H1 p1.wa _ fun d2 ρ2 y F2 H2 q2 p2 r2 =>
    q2 F2 H2 x y p2.wa.gr.fh (r1.up p2.gr.ff) r2 Z fun ds p vs H' kd e hn hp rv => z ds ρ2 p vs F2 H' kd ((p1.trans p2).trans (Post.of p2.wa (Gr.heap p2.wa.gr.fh e))) (p2.wa.newp hn).1 (by
      cases q : H p with
      | none => rfl
      | some o => exact absurd hn (p2.gr.al p (p1.gr.al p (by rw [q]; intro z; cases z)))) hp rv
theorem ex_un {r : V → Hp → VK → Prop} (h : EX ta ρ fun d1 ρ1 => UnD r d1 fun d => Q d ρ1) : EX (tUn r ta) ρ Q := fun B ad σ F H w Z z =>
  h B ad σ F H w _ fun d1 ρ1 x F1 H1 q1 p1 r1 => q1 F1 H1 x p1.wa.gr.fh r1 Z fun d v F' H' kd g rv => z d ρ1 v F' H' kd (p1.trans (Post.of p1.wa g)) rv
theorem ea_nil {Q : List D → Env → Prop} (q : Q [] ρ) : EA tNil ρ Q := fun B ad σ F H w Z z => z [] ρ [] F H q (Post.refl w) .nil
theorem ea_cons {Q : List D → Env → Prop} (h : EX te ρ fun d ρ1 => EA t ρ1 fun ds ρ2 => Q (d :: ds) ρ2) : EA (tCons te t) ρ Q := fun B ad σ F H w Z z =>
  h B ad σ F H w _ fun d ρ1 v F1 H1 q1 p1 r1 => q1 B ad σ F1 H1 p1.wa _ fun ds ρ2 vs F2 H2 q2 p2 r2 => z (d :: ds) ρ2 (v :: vs) F2 H2 q2 (p1.trans p2) (.cons (r1.up p2.gr.ff) r2)
theorem ex_cb {r : List V → Hp → VK → Prop} (h : EA t ρ fun ds ρ1 => CbD r ds fun d => Q d ρ1) : EX (tCB r t) ρ Q := fun B ad σ F H w Z z =>
  h B ad σ F H w _ fun ds ρ1 vs F1 H1 q1 p1 r1 => q1 F1 H1 vs p1.wa.gr.fh r1 Z fun d v F' H' kd g rv => z d ρ1 v F' H' kd (p1.trans (Post.of p1.wa g)) rv
theorem eo_cb {r : List V → Hp → VK → Prop} {Q : List D → Env → Prop} (h : EA t ρ fun ds ρ1 => CbO r ds fun d => Q d ρ1) : EO (tCB r t) ρ Q := fun B ad σ F H w Z z =>
  h B ad σ F H w _ fun ds ρ1 vs F1 H1 q1 p1 r1 => q1 F1 H1 vs p1.wa.gr.fh r1 Z fun es p ws H' kd e hn hp rv => z es ρ1 p ws F1 H' kd (p1.trans (Post.of p1.wa (Gr.heap p1.wa.gr.fh e))) (p1.wa.newp hn).1 (by
      cases q : H p with
      | none => rfl
      | some o => exact absurd hn (p1.gr.al p (by rw [q]; intro z; cases z))) hp rv
theorem ex_tup (h : EA t ρ fun ds ρ1 => ds.length ≤ 100000 ∧ Q (.tuple ds) ρ1) : EX (tTup t) ρ Q := fun B ad σ F H w Z z =>
  h B ad σ F H w _ fun ds ρ1 vs F1 H1 q1 p1 r1 => ⟨Nat.le_trans (by rw [r1.len]; exact q1.1) (by decide), fun p hp =>
    z _ ρ1 _ (upd F1 p (.tup vs)) _ q1.2 (p1.trans (Post.of p1.wa (Gr.new p1.wa.gr.fh hp))) (.tup upd_same (r1.up (Gr.new p1.wa.gr.fh hp).ff))⟩
theorem eo_lst {Q : List D → Env → Prop} (h : EA t ρ fun ds ρ1 => ds.length ≤ 100000 ∧ Q ds ρ1) : EO (tLst t) ρ Q := fun B ad σ F H w Z z =>
  h B ad σ F H w _ fun ds ρ1 vs F1 H1 q1 p1 r1 => ⟨Nat.le_trans (by rw [r1.len]; exact q1.1) (by decide), fun p hp =>
    z _ ρ1 p vs F1 _ q1.2 (p1.trans (Post.of p1.wa (Gr.heap p1.wa.gr.fh (same_upd hp)))) (p1.wa.newp hp).1 (by
      cases q : H p with
      | none => rfl
      | some o => exact absurd hp (p1.gr.al p (by rw [q]; intro z; cases z))) upd_same r1⟩
/-! slices -/
theorem ep_no {Q : Option Int → Env → Prop} (q : Q none ρ) : EPt tNoPart ρ Q := fun B ad σ F H w Z z => z none ρ F H q (Post.refl w)
theorem ep_some {Q : Option Int → Env → Prop} (h : EX te ρ fun d ρ1 => ∃ i, d = .int i ∧ Q (some i) ρ1) : EPt (tPart te) ρ Q := fun B ad σ F H w Z z =>
  h B ad σ F H w _ fun d ρ1 v F1 H1 q1 p1 r1 => by
    obtain ⟨i, rfl, q⟩ := q1
    exact ⟨i, r1.int_inv, z _ ρ1 F1 H1 q p1⟩
theorem ex_sl {r : V → Option Int → Option Int → Hp → VK → Prop} {tl th : TO} (h : EX te ρ fun d1 ρ1 => EPt tl ρ1 fun lo ρ2 => EPt th ρ2 fun hi ρ3 => SlD r d1 lo hi fun d => Q d ρ3) : EX (tSl r te tl th) ρ Q := fun B ad σ F H w Z z =>
  h B ad σ F H w _ fun d1 ρ1 x F1 H1 q1 p1 r1 => q1 B ad σ F1 H1 p1.wa _ fun lo ρ2 F2 H2 q2 p2 => q2 B ad σ F2 H2 p2.wa _ fun hi ρ3 F3 H3 q3 p3 =>
    q3 F3 H3 x p3.wa.gr.fh ((r1.up p2.gr.ff).up p3.gr.ff) Z fun d v F' H' kd g rv => z d ρ3 v F' H' kd (((p1.trans p2).trans p3).trans (Post.of p3.wa g)) rv
theorem eo_sl {r : V → Option Int → Option Int → Hp → VK → Prop} {tl th : TO} {Q : List D → Env → Prop} (h : EX te ρ fun d1 ρ1 => EPt tl ρ1 fun lo ρ2 => EPt th ρ2 fun hi ρ3 => SlO r d1 lo hi fun d => Q d ρ3) : EO (tSl r te tl th) ρ Q := fun B ad σ F H w Z z =>
  h B ad σ F H w _ fun d1 ρ1 x F1 H1 q1 p1 r1 => q1 B ad σ F1 H1 p1.wa _ fun lo ρ2 F2 H2 q2 p2 => q2 B ad σ F2 H2 p2.wa _ fun hi ρ3 F3 H3 q3 p3 =>
    q3 F3 H3 x p3.wa.gr.fh ((r1.up p2.gr.ff).up p3.gr.ff) Z fun ds p vs H' kd e hn hp rv => z ds ρ3 p vs F3 H' kd (((p1.trans p2).trans p3).trans (Post.of p3.wa (Gr.heap p3.wa.gr.fh e))) (p3.wa.newp hn).1 (by
      cases q : H p with
      | none => rfl
      | some o => exact absurd hn (p3.gr.al p (p2.gr.al p (p1.gr.al p (by rw [q]; intro z; cases z))))) hp rv
/-! tests -/
theorem et_imp {Q Q' : Bool → Env → Prop} (h : ET tt ρ Q) (k : ∀ b ρ', Q b ρ' → Q' b ρ') : ET tt ρ Q' := fun B ad σ F H w Z z => h B ad σ F H w Z fun b ρ' F' H' q p => z b ρ' F' H' (k b ρ' q) p
theorem et_test {Q : Bool → Env → Prop} (h : EX te ρ fun d ρ1 => ∃ b, d = .bool b ∧ Q b ρ1) : ET (tTest te) ρ Q := fun B ad σ F H w Z z =>
  h B ad σ F H w _ fun d ρ1 v F1 H1 q1 p1 r1 => by
    obtain ⟨b, rfl, q⟩ := q1
    exact ⟨b, r1.bl_inv, z b ρ1 F1 H1 q p1⟩
theorem et_B {Q : Bool → Env → Prop} (h : EX te ρ fun d ρ1 => ∃ b, d = .bool b ∧ Q b ρ1) : ET (tB te) ρ Q := et_test h
theorem et_and {Q : Bool → Env → Prop} (h : ET tt ρ fun b ρ1 => (b = true → ET tu ρ1 Q) ∧ (b = false → Q false ρ1)) : ET (tAnd tt tu) ρ Q := fun B ad σ F H w Z z =>
  h B ad σ F H w _ fun b ρ1 F1 H1 q1 p1 => by
    cases b with
    | true =>
      show tu σ H1 Z
      exact q1.1 rfl B ad σ F1 H1 p1.wa Z fun b ρ' F' H' q p => z b ρ' F' H' q (p1.trans p)
    | false =>
      show Z false H1
      exact z false ρ1 F1 H1 (q1.2 rfl) p1
theorem et_or {Q : Bool → Env → Prop} (h : ET tt ρ fun b ρ1 => (b = true → Q true ρ1) ∧ (b = false → ET tu ρ1 Q)) : ET (tOr tt tu) ρ Q := fun B ad σ F H w Z z =>
  h B ad σ F H w _ fun b ρ1 F1 H1 q1 p1 => by
    cases b with
    | true =>
      show Z true H1
      exact z true ρ1 F1 H1 (q1.1 rfl) p1
    | false =>
      show tu σ H1 Z
      exact q1.2 rfl B ad σ F1 H1 p1.wa Z fun b ρ' F' H' q p => z b ρ' F' H' q (p1.trans p)
theorem et_not {Q : Bool → Env → Prop} (h : ET tt ρ fun b ρ1 => Q (!b) ρ1) : ET (tNot tt) ρ Q := fun B ad σ F H w Z z => h B ad σ F H w _ fun b ρ1 F1 H1 q p => z (!b) ρ1 F1 H1 q p
theorem ex_andV (h : EX ta ρ fun d ρ1 => ∃ b, d = .bool b ∧ (b = true → EX tb ρ1 Q) ∧ (b = false → Q (.bool false) ρ1)) : EX (tAndV ta tb) ρ Q := fun B ad σ F H w Z z =>
  h B ad σ F H w _ fun d ρ1 v F1 H1 q1 p1 r1 => by
    obtain ⟨b, rfl, k1, k2⟩ := q1
    refine ⟨b, r1.bl_inv, ?_⟩
    cases b with
    | true =>
      show tb σ H1 Z
      exact k1 rfl B ad σ F1 H1 p1.wa Z fun d ρ' v F' H' q p r => z d ρ' v F' H' q (p1.trans p) r
    | false =>
      show Z (.bl false) H1
      exact z _ ρ1 _ F1 H1 (k2 rfl) p1 (.bl false)
theorem ex_orV (h : EX ta ρ fun d ρ1 => ∃ b, d = .bool b ∧ (b = true → Q (.bool true) ρ1) ∧ (b = false → EX tb ρ1 Q)) : EX (tOrV ta tb) ρ Q := fun B ad σ F H w Z z =>
  h B ad σ F H w _ fun d ρ1 v F1 H1 q1 p1 r1 => by
    obtain ⟨b, rfl, k1, k2⟩ := q1
    refine ⟨b, r1.bl_inv, ?_⟩
    cases b with
    | true =>
      show Z (.bl true) H1
      exact z _ ρ1 _ F1 H1 (k1 rfl) p1 (.bl true)
    | false =>
      show tb σ H1 Z
      exact k2 rfl B ad σ F1 H1 p1.wa Z fun d ρ' v F' H' q p r => z d ρ' v F' H' q (p1.trans p) r
theorem ex_notV (h : EX ta ρ fun d ρ1 => ∃ b, d = .bool b ∧ Q (.bool !b) ρ1) : EX (tNotV ta) ρ Q := fun B ad σ F H w Z z =>
  h B ad σ F H w _ fun d ρ1 v F1 H1 q1 p1 r1 => by
    obtain ⟨b, rfl, k⟩ := q1
    exact ⟨b, r1.bl_inv, z _ ρ1 _ F1 H1 k p1 (.bl _)⟩
theorem ex_if (h : ET tt ρ fun b ρ1 => (b = true → EX ta ρ1 Q) ∧ (b = false → EX tb ρ1 Q)) : EX (tIf tt ta tb) ρ Q := fun B ad σ F H w Z z =>
  h B ad σ F H w _ fun b ρ1 F1 H1 q1 p1 => by
    cases b with
    | true =>
      show ta σ H1 Z
      exact q1.1 rfl B ad σ F1 H1 p1.wa Z fun d ρ' v F' H' q p r => z d ρ' v F' H' q (p1.trans p) r
    | false =>
      show tb σ H1 Z
      exact q1.2 rfl B ad σ F1 H1 p1.wa Z fun d ρ' v F' H' q p r => z d ρ' v F' H' q (p1.trans p) r
theorem ex_chain {r r' : R2} (h : EX ta ρ fun d1 ρ1 => EX tb ρ1 fun d2 ρ2 => OpD r d1 d2 fun d => ∃ b, d = .bool b ∧ (b = true → EX tc ρ2 fun d3 ρ3 => OpD r' d2 d3 fun d => Q d ρ3) ∧ (b = false → Q (.bool false) ρ2)) : EX (tChain r r' ta tb tc) ρ Q := fun B ad σ F H w Z z =>
  h B ad σ F H w _ fun d1 ρ1 x F1 H1 q1 p1 r1 => q1 B ad σ F1 H1 p1.wa _ fun d2 ρ2 y F2 H2 q2 p2 r2 =>
    q2 F2 H2 x y p2.wa.gr.fh (r1.up p2.gr.ff) r2 _ fun d v F3 H3 kd g rv => by
      obtain ⟨b, rfl, k1, k2⟩ := kd
      refine ⟨b, rv.bl_inv, ?_⟩
      have p3 := (p1.trans p2).trans (Post.of p2.wa g)
      cases b with
      | true =>
        show tc σ H3 fun w' H4 => r' y w' H4 Z
        exact k1 rfl B ad σ F3 H3 p3.wa _ fun d3 ρ3 u F4 H4 q4 p4 r4 => q4 F4 H4 y u p4.wa.gr.fh ((r2.up g.ff).up p4.gr.ff) r4 Z fun d v F' H' kd g rv => z d ρ3 v F' H' kd ((p3.trans p4).trans (Post.of p4.wa g)) rv
      | false =>
        show Z (.bl false) H3
        exact z _ ρ2 _ F3 H3 (k2 rfl) p3 (.bl false)
end
/-! ### operations -/
section
variable {K : PySem.W.Frag} {Q : D → Prop} {i j : Int} {d d1 d2 : D} {ds es : List D}
theorem opd_I0 {g : Int → Int → Int} (k : Q (.int (g i j))) : OpD (rI0 fun i j => .int (g i j)) (.int i) (.int j) Q := fun F H x y e rx ry Z z => ⟨i, j, rx.int_inv, ry.int_inv, z _ _ F H k (Gr.refl e) (.int _)⟩
theorem opd_B0 {g : Int → Int → Bool} (k : Q (.bool (g i j))) : OpD (rI0 fun i j => .bl (g i j)) (.int i) (.int j) Q := fun F H x y e rx ry Z z => ⟨i, j, rx.int_inv, ry.int_inv, z _ _ F H k (Gr.refl e) (.bl _)⟩
theorem opd_I {C : Int → Int → Prop} {g : Int → Int → Int} (c : C i j) (k : Q (.int (g i j))) : OpD (rI C fun i j => .int (g i j)) (.int i) (.int j) Q := fun F H x y e rx ry Z z => ⟨i, j, rx.int_inv, ry.int_inv, c, z _ _ F H k (Gr.refl e) (.int _)⟩
theorem und_neg (k : Q (.int (-i))) : UnD (rU fun i => .int (-i)) (.int i) Q := fun F H x e rx Z z => ⟨i, rx.int_inv, z _ _ F H k (Gr.refl e) (.int _)⟩
theorem opd_eq (s1 : SeqAt.shaped d1 = true) (s2 : SeqAt.shaped d2 = true) (k : Q (.bool (PyData.eqv d1 d2))) : OpD (rEqD K) d1 d2 Q := fun F H x y e rx ry Z z => ⟨d1, d2, rx.dp e, ry.dp e, s1, s2, z _ _ F H k (Gr.refl e) (.bl _)⟩
theorem opd_ne (s1 : SeqAt.shaped d1 = true) (s2 : SeqAt.shaped d2 = true) (k : Q (.bool (!PyData.eqv d1 d2))) : OpD (rNeD K) d1 d2 Q := fun F H x y e rx ry Z z => ⟨d1, d2, rx.dp e, ry.dp e, s1, s2, z _ _ F H k (Gr.refl e) (.bl _)⟩
def isN : D → Bool
  | .none => true
  | _ => false
theorem isN_of {F : Hp} {x : V} (r : Rp F x d) : decide (x = .non) = isN d := by cases r <;> rfl
def rIs : R2 := fun x y H Q => y = .non ∧ Q (.bl (decide (x = .non))) H
def rIsnt : R2 := fun x y H Q => y = .non ∧ Q (.bl (!decide (x = .non))) H
theorem op_is {X : Cx} : OpR X (compareOp .Is) rIs := op_isN
theorem op_isnt {X : Cx} : OpR X (compareOp .IsNot) rIsnt := op_notN
theorem opd_is (k : Q (.bool (isN d))) : OpD rIs d .none Q := fun F H x y e rx ry Z z => ⟨ry.non_inv, by rw [isN_of rx]; exact z _ _ F H k (Gr.refl e) (.bl _)⟩
theorem opd_isnt (k : Q (.bool (!isN d))) : OpD rIsnt d .none Q := fun F H x y e rx ry Z z => ⟨ry.non_inv, by rw [isN_of rx]; exact z _ _ F H k (Gr.refl e) (.bl _)⟩
/-! an item -/
theorem RpA.at_ {F : Hp} {vs : List V} (r : RpA F vs ds) (h : atI ds i = some d) : ∃ v, atI vs i = some v ∧ Rp F v d := by
  unfold atI at h ⊢
  rw [r.len]
  cases e : ixN ds.length i with
  | none => rw [e] at h; cases h
  | some k =>
    rw [e] at h
    exact r.get (k := k) h
def rIxA (K : PySem.W.Frag) : R2 := fun x y H Q => rIxL K x y H Q ∨ rIxT K x y H Q
theorem ix_any {X : Cx} : IxR X (rIxA X.K) := IxR.or ix_list ix_tup
theorem opd_ixL (h : atI ds i = some d) (k : Q d) : OpD (rIxA K) (.list ds) (.int i) Q := fun F H x y e rx ry Z z => by
  obtain ⟨a, xs, rfl, h1, h2⟩ := rx.lst_inv
  obtain ⟨v, hv, rv⟩ := h2.at_ h
  exact .inl ⟨a, xs, i, v, rfl, ry.int_inv, sqL_rd h1 e, hv, z _ _ F H k (Gr.refl e) rv⟩
theorem opd_ixT (h : atI ds i = some d) (k : Q d) : OpD (rIxA K) (.tuple ds) (.int i) Q := fun F H x y e rx ry Z z => by
  obtain ⟨a, xs, rfl, h1, h2⟩ := rx.tup_inv
  obtain ⟨v, hv, rv⟩ := h2.at_ h
  exact .inr ⟨a, xs, i, v, rfl, ry.int_inv, sqT_rd h1 e, hv, z _ _ F H k (Gr.refl e) rv⟩
/-! + -/
def rCatR : R2 := fun x y H Q => ∃ l b xs zs, x = .ref l ∧ y = .ref b ∧ Rd H l (.lst xs) ∧ Rd H b (.lst zs) ∧ xs.length + zs.length ≤ sizeLine ∧ ∀ p, H p = none → Q (.ref p) (upd H p (.lst (xs ++ zs)))
theorem op_catR {X : Cx} : OpR X (binaryOp .Add) rCatR := by
  intro pins s σ H x y v u Q I rx ry h
  obtain ⟨l, b, xs, zs, rfl, rfl, hH, hB, hz, q⟩ := h
  cases rx
  cases ry
  obtain ⟨z, its, n, r, e⟩ := hH.ok I.hok
  obtain ⟨z2, its2, n2, r2, e2⟩ := hB.ok I.hok
  have hl := r.length
  have hl2 := r2.length
  refine PySem.P.add_list e e2 ?_ (by rw [List.size_toArray, List.size_toArray]; omega)
  have ea : its.toArray ++ its2.toArray = (its ++ its2).toArray := by simp
  rw [ea]
  exact ⟨.ref _, _, I.lnew (t' := s.toks) (r.append r2) (by rw [List.length_append]; omega), rfl, q _ I.fresh⟩
def rPlus (K : PySem.W.Frag) : R2 := fun x y H Q => (fun x y H Q => rI0 (fun i j => .int (i + j)) x y H Q ∨ rCatR x y H Q) x y H Q ∨ rCatA K x y H Q
theorem op_plus {X : Cx} : OpR X (binaryOp .Add) (rPlus X.K) := OpR.or (OpR.or op_add op_catR) op_catA
theorem opd_plusI (k : Q (.int (i + j))) : OpD (rPlus K) (.int i) (.int j) Q := fun F H x y e rx ry Z z => .inl (.inl (opd_I0 k F H x y e rx ry Z z))
theorem opo_plusL {Q : List D → Prop} (hz : ds.length + es.length ≤ 1000000) (k : Q (ds ++ es)) : OpO (rPlus K) (.list ds) (.list es) Q := fun F H x y e rx ry Z z => by
  obtain ⟨a, xs, rfl, h1, h2⟩ := rx.lst_inv
  obtain ⟨b, ys, rfl, g1, g2⟩ := ry.lst_inv
  exact .inl (.inr ⟨a, b, xs, ys, rfl, rfl, rd_mono e h1, rd_mono e g1, Nat.le_trans (by rw [h2.len, g2.len]; exact hz) (by decide), fun p hp => z _ p _ _ k (same_upd hp) hp upd_same (h2.app g2)⟩)
theorem opd_plusT (hz : ds.length + es.length ≤ 1000000) (k : Q (.tuple (ds ++ es))) : OpD (rPlus K) (.tuple ds) (.tuple es) Q := fun F H x y e rx ry Z z => by
  obtain ⟨a, xs, rfl, h1, h2⟩ := rx.tup_inv
  obtain ⟨b, ys, rfl, g1, g2⟩ := ry.tup_inv
  refine .inr ⟨a, b, xs, ys, rfl, rfl, sqT_rd h1 e, sqT_rd g1 e, Nat.le_trans (by rw [h2.len, g2.len]; exact hz) (by decide), fun q => ?_, fun _ q => ?_, fun _ _ p hp => ?_⟩
  · subst q
    cases h2
    exact z _ _ F H k (Gr.refl e) ry
  · subst q
    cases g2
    rw [List.append_nil] at k
    exact z _ _ F H k (Gr.refl e) rx
  · exact z _ _ _ _ k (Gr.new e hp) (.tup upd_same ((h2.app g2).up (Gr.new e hp).ff))
/-! slices -/
def rSl (K : PySem.W.Frag) : V → Option Int → Option Int → Hp → VK → Prop := fun x lo hi H Q => rSlL K x lo hi H Q ∨ rSlA K x lo hi H Q
theorem sl_any {X : Cx} : SlR X (rSl X.K) := SlR.or sl_list sl_tupA
def cutD (xs : List D) (lo hi : Option Int) : List D := (xs.drop (HT.sIx xs.length 0 lo)).take (HT.sIx xs.length xs.length hi - HT.sIx xs.length 0 lo)
theorem RpA.cut {F : Hp} {vs : List V} (r : RpA F vs ds) (lo hi : Option Int) : RpA F (cutV vs lo hi) (cutD ds lo hi) := by
  unfold cutV cutD
  rw [r.len]
  exact (r.drop _).take _
theorem slo_L {Q : List D → Prop} {lo hi : Option Int} (k : Q (cutD ds lo hi)) : SlO (rSl K) (.list ds) lo hi Q := fun F H x e rx Z z => by
  obtain ⟨a, xs, rfl, h1, h2⟩ := rx.lst_inv
  exact .inl ⟨a, xs, rfl, sqL_rd h1 e, fun p hp => z _ p _ _ k (same_upd hp) hp upd_same (h2.cut lo hi)⟩
theorem sld_T {lo hi : Option Int} (k : Q (.tuple (cutD ds lo hi))) : SlD (rSl K) (.tuple ds) lo hi Q := fun F H x e rx Z z => by
  obtain ⟨a, xs, rfl, h1, h2⟩ := rx.tup_inv
  refine .inr ⟨a, xs, rfl, sqT_rd h1 e, fun w => ?_, fun w p hp => z _ _ _ _ k (Gr.new e hp) (.tup upd_same ((h2.cut lo hi).up (Gr.new e hp).ff))⟩
  have ec : cutD ds lo hi = ds := by
    rw [h2.len] at w
    unfold cutD
    rw [w.1, w.2, List.drop_zero, Nat.sub_zero, List.take_length]
  rw [ec] at k
  exact z _ _ F H k (Gr.refl e) rx
/-! built-ins -/
def rLen (K : PySem.W.Frag) : List V → Hp → VK → Prop := fun xs H Q => ∃ x n, xs = [x] ∧ LenV K x H n ∧ Q (.int (n : Int)) H
theorem cb_len {X : Cx} : CallR X (.builtin "len") (rLen X.K) := call_len
theorem RpA.one {F : Hp} {vs : List V} (h : RpA F vs [d]) : ∃ v, vs = [v] ∧ Rp F v d := by
  cases h with
  | cons h1 h2 => cases h2; exact ⟨_, rfl, h1⟩
theorem RpA.two {F : Hp} {vs : List V} (h : RpA F vs [d1, d2]) : ∃ v u, vs = [v, u] ∧ Rp F v d1 ∧ Rp F u d2 := by
  cases h with
  | cons h1 h2 => obtain ⟨u, rfl, r⟩ := h2.one; exact ⟨_, _, rfl, h1, r⟩
theorem cbd_lenL (k : Q (.int (ds.length : Int))) : CbD (rLen K) [.list ds] Q := fun F H vs e r Z z => by
  obtain ⟨v, rfl, rv⟩ := r.one
  obtain ⟨a, xs, rfl, h1, h2⟩ := rv.lst_inv
  exact ⟨_, ds.length, rfl, .inl ⟨xs, sqL_rd h1 e, h2.len.symm⟩, z _ _ F H k (Gr.refl e) (.int _)⟩
theorem cbd_lenT (k : Q (.int (ds.length : Int))) : CbD (rLen K) [.tuple ds] Q := fun F H vs e r Z z => by
  obtain ⟨v, rfl, rv⟩ := r.one
  obtain ⟨a, xs, rfl, h1, h2⟩ := rv.tup_inv
  exact ⟨_, ds.length, rfl, .inr ⟨xs, sqT_rd h1 e, h2.len.symm⟩, z _ _ F H k (Gr.refl e) (.int _)⟩
def rAbs : List V → Hp → VK → Prop := fun xs H Q => ∃ i, xs = [.int i] ∧ Q (.int (if i < 0 then -i else i)) H
theorem cb_abs {X : Cx} : CallR X (.builtin "abs") rAbs := call_abs
theorem cbd_abs (k : Q (.int (i.natAbs : Int))) : CbD rAbs [.int i] Q := fun F H vs e r Z z => by
  obtain ⟨v, rfl, rv⟩ := r.one
  refine ⟨i, by rw [rv.int_inv], ?_⟩
  have e2 : (if i < 0 then -i else i) = (i.natAbs : Int) := by
    by_cases h : i < 0
    · rw [if_pos h]; omega
    · rw [if_neg h]; omega
  rw [e2]
  exact z _ _ F H k (Gr.refl e) (.int _)
def rMx2 : List V → Hp → VK → Prop := fun xs H Q => ∃ i j, xs = [.int i, .int j] ∧ Q (.int (if j > i then j else i)) H
def rMn2 : List V → Hp → VK → Prop := fun xs H Q => ∃ i j, xs = [.int i, .int j] ∧ Q (.int (if j < i then j else i)) H
theorem cb_max2 {X : Cx} (hc : X.calm = true) : CallR X (.builtin "max") rMx2 := call_max2 hc
theorem cb_min2 {X : Cx} (hc : X.calm = true) : CallR X (.builtin "min") rMn2 := call_min2 hc
theorem cbd_max2 (k : Q (.int (max i j))) : CbD rMx2 [.int i, .int j] Q := fun F H vs e r Z z => by
  obtain ⟨v, u, rfl, rv, ru⟩ := r.two
  refine ⟨i, j, by rw [rv.int_inv, ru.int_inv], ?_⟩
  have e2 : (if j > i then j else i) = max i j := by
    by_cases h : j > i
    · rw [if_pos h]; omega
    · rw [if_neg h]; omega
  rw [e2]
  exact z _ _ F H k (Gr.refl e) (.int _)
theorem cbd_min2 (k : Q (.int (min i j))) : CbD rMn2 [.int i, .int j] Q := fun F H vs e r Z z => by
  obtain ⟨v, u, rfl, rv, ru⟩ := r.two
  refine ⟨i, j, by rw [rv.int_inv, ru.int_inv], ?_⟩
  have e2 : (if j < i then j else i) = min i j := by
    by_cases h : j < i
    · rw [if_pos h]; omega
    · rw [if_neg h]; omega
  rw [e2]
  exact z _ _ F H k (Gr.refl e) (.int _)
def rInt : List V → Hp → VK → Prop := fun xs H Q => (∃ i, xs = [.int i] ∧ Q (.int i) H) ∨ ∃ k, xs = [.bl k] ∧ Q (.int (if k then 1 else 0)) H
theorem cb_int {X : Cx} : CallR X (.type "int") rInt := call_int1
theorem cbd_int (k : Q (.int i)) : CbD rInt [.int i] Q := fun F H vs e r Z z => by
  obtain ⟨v, rfl, rv⟩ := r.one
  exact .inl ⟨i, by rw [rv.int_inv], z _ _ F H k (Gr.refl e) (.int _)⟩
def rList (K : PySem.W.Frag) : List V → Hp → VK → Prop := fun xs H Q => ∃ p ys, xs = [.ref p] ∧ (SqL K H p ys ∨ SqT K H p ys) ∧ ∀ l, H l = none → Q (.ref l) (upd H l (.lst ys))
theorem cb_list {X : Cx} : CallR X (.type "list") (rList X.K) := call_list_of
theorem cbo_listL {Q : List D → Prop} (k : Q ds) : CbO (rList K) [.list ds] Q := fun F H vs e r Z z => by
  obtain ⟨v, rfl, rv⟩ := r.one
  obtain ⟨a, xs, rfl, h1, h2⟩ := rv.lst_inv
  exact ⟨a, xs, rfl, .inl (sqL_rd h1 e), fun p hp => z _ p _ _ k (same_upd hp) hp upd_same h2⟩
theorem cbo_listT {Q : List D → Prop} (k : Q ds) : CbO (rList K) [.tuple ds] Q := fun F H vs e r Z z => by
  obtain ⟨v, rfl, rv⟩ := r.one
  obtain ⟨a, xs, rfl, h1, h2⟩ := rv.tup_inv
  exact ⟨a, xs, rfl, .inr (sqT_rd h1 e), fun p hp => z _ p _ _ k (same_upd hp) hp upd_same h2⟩
def rTup (K : PySem.W.Frag) : List V → Hp → VK → Prop := fun xs H Q => ∃ p ys, xs = [.ref p] ∧ ((SqL K H p ys ∧ ∀ l, H l = none → Q (.ref l) (upd H l (.tup ys))) ∨ (SqT K H p ys ∧ Q (.ref p) H))
theorem cb_tuple {X : Cx} : CallR X (.type "tuple") (rTup X.K) := call_tuple_of
theorem cbd_tupL (k : Q (.tuple ds)) : CbD (rTup K) [.list ds] Q := fun F H vs e r Z z => by
  obtain ⟨v, rfl, rv⟩ := r.one
  obtain ⟨a, xs, rfl, h1, h2⟩ := rv.lst_inv
  exact ⟨a, xs, rfl, .inl ⟨sqL_rd h1 e, fun p hp => z _ _ _ _ k (Gr.new e hp) (.tup upd_same (h2.up (Gr.new e hp).ff))⟩⟩
theorem cbd_sum {ns : List Int} (k : Q (.int ns.sum)) : CbD (rSum K) [.list (ns.map .int)] Q := fun F H vs e r Z z => by
  obtain ⟨v, rfl, rv⟩ := r.one
  obtain ⟨a, xs, rfl, h1, h2⟩ := rv.lst_inv
  exact ⟨a, ns, rfl, by rw [← h2.ints_inv]; exact sqL_rd h1 e, z _ _ F H k (Gr.refl e) (.int _)⟩
/-- isinstance(x, tuple) -/
theorem ex_isT {te : TE} {ρ : Env} {Q : D → Env → Prop} (h : EX te ρ fun d ρ1 => ∃ ds, d = .tuple ds ∧ Q (.bool true) ρ1) : EX (tCB RZ.rIsTy (tCons te (tCons (tC (.ty "tuple")) tNil))) ρ Q := fun B ad σ F H w Z z =>
  h B ad σ F H w _ fun d ρ1 v F1 H1 q1 p1 r1 => by
    obtain ⟨ds, rfl, q⟩ := q1
    obtain ⟨a, xs, rfl, h1, h2⟩ := r1.tup_inv
    exact ⟨.ref a, "tuple", rfl, .tup (p1.wa.gr.fh _ _ h1), z _ ρ1 _ F1 H1 q p1 (.bl true)⟩
end

/-! ### own lists -/
section
variable {B : Base} {ad : Nat → List Addr} {ρ ρ' : Env} {σ : St} {F H F' H' : Hp} {te tb : TE} {Q : D → Env → Prop}
theorem get_set {α : Type} {l : List α} {i j : Nat} {x y : α} (h : (l.set i x)[j]? = some y) : (j = i ∧ y = x) ∨ (j ≠ i ∧ l[j]? = some y) := by
  by_cases e : j = i
  · subst e
    by_cases hl : j < l.length
    · rw [List.getElem?_set_self hl] at h
      exact .inl ⟨rfl, (Option.some.inj h).symm⟩
    · rw [List.getElem?_eq_none (by simpa using hl)] at h
      cases h
  · rw [List.getElem?_set_ne (Ne.symm e)] at h
    exact .inr ⟨e, h⟩
theorem get_set' {α : Type} {l : List α} {i j : Nat} {x : α} (h : (l.set i x)[j]? = none) : l[j]? = none := by
  rw [List.getElem?_eq_none_iff] at h ⊢
  simpa using h
/-- slot i's own list is frozen where it stands -/
theorem WA.lend (w : WA B ad ρ σ F H) {i : Nat} {ds : List D} (h : ρ[i]? = some (.own ds)) : ∃ p vs, ad i = [p] ∧ F p = none ∧ H p = some (.lst vs) ∧ RpA F vs ds ∧ B.H0 p = none ∧ σ[i]? = some (some (.ref p)) ∧
    WA B (fun k => if k = i then [] else ad k) (ρ.set i (.val (.list ds))) σ (upd F p (.lst vs)) H := by
  obtain ⟨p, vs, k, k0, k1, k2, r⟩ := w.sl i _ h
  have hF : F p = none := (w.fz i p (by rw [k]; simp)).1
  have up := same_upd (o := .lst vs) hF
  refine ⟨p, vs, k, hF, k2, r, k0, k1, ?_⟩
  have hn : ∀ j, j ≠ i → p ∉ ad j := fun j hj m => hj (w.dj j i p m (by rw [k]; simp))
  refine ⟨⟨w.gr.ff.trans up, fun a o e => ?_, w.gr.kp, w.gr.al, fun a e z => ?_⟩, by rw [List.length_set]; exact w.len, fun j s e => ?_, fun j q m => ?_, fun j1 j2 q m1 m2 => ?_, fun j e => ?_, w.pin.to fun S e => by
    rcases get_set e with ⟨_, q⟩ | ⟨hj, e⟩
    · cases q
    · exact ⟨⟨S, e⟩, rfl, if_neg hj⟩⟩
  · by_cases ha : a = p
    · subst ha; rw [upd_same] at e; rw [k2]; exact e
    · rw [upd_ne ha] at e; exact w.gr.fh a o e
  · have ha : a ≠ p := fun q => e (by rw [q]; exact k0)
    rw [upd_ne ha]
    exact w.gr.fr a e z
  · rcases get_set e with ⟨rfl, rfl⟩ | ⟨hj, e⟩
    · exact ⟨if_pos rfl, _, k1, .lst (.inl upd_same) (r.up up)⟩
    · have q := w.sl j s e
      rw [if_neg hj]
      cases s with
      | emp => exact q
      | val d =>
        obtain ⟨k, v, e, r⟩ := q
        exact ⟨k, v, e, r.up up⟩
      | own es =>
        obtain ⟨q, ws, k, k0, k1, k2, r⟩ := q
        exact ⟨q, ws, k, k0, k1, k2, r.up up⟩
      | st S =>
        obtain ⟨s, k1, k⟩ := q
        exact ⟨s, k1, k.keep up fun _ _ _ e => e⟩
  · by_cases hj : j = i
    · simp [hj] at m
    · simp only [if_neg hj] at m
      have ne : q ≠ p := fun z => hn j hj (z ▸ m)
      rw [upd_ne ne]
      exact w.fz j q m
  · by_cases h1 : j1 = i
    · simp [h1] at m1
    · by_cases h2 : j2 = i
      · simp [h2] at m2
      · simp only [if_neg h1] at m1
        simp only [if_neg h2] at m2
        exact w.dj j1 j2 q m1 m2
  · by_cases hj : j = i
    · show (if j = i then [] else ad j) = []
      rw [if_pos hj]
    · show (if j = i then [] else ad j) = []
      rw [if_neg hj]
      exact w.out j (get_set' e)
def scalD : D → Bool
  | .none => true
  | .bool _ => true
  | .int _ => true
  | .str _ => true
  | _ => false
theorem scal_any {d : D} {v : V} (h : scalD d = true) (r : Rp F v d) : Rp F' v d := by
  cases r with
  | non => exact .non
  | bl b => exact .bl b
  | int i => exact .int i
  | str x => exact .str x
  | lst _ _ => cases h
  | tup _ _ => cases h
/-- behind a loan, with nothing changed but the heap's new objects -/
theorem WA.back (w : WA B ad ρ σ F H) {i : Nat} {ds : List D} (h : ρ[i]? = some (.own ds)) {F1 : Hp} {ad1 : Nat → List Addr} {ρ1 : Env} (e1 : ρ1 = ρ.set i (.val (.list ds))) (ea : ad1 = fun k => if k = i then [] else ad k)
    (hF1 : Same F F1) (p : Post B ad1 σ ρ1 F1 H ρ1 F' H') (no : NoOb ρ) : Post B ad σ ρ F H ρ F H' := by
  subst e1 ea
  have hi : i < ρ.length := (List.getElem?_eq_some_iff.mp h).1
  have ms : ∀ a, MS (fun k => if k = i then [] else ad k) (ρ.set i (.val (.list ds))) a → MS ad ρ a := fun a ⟨j, S, e, m⟩ => by
    rcases get_set e with ⟨_, q⟩ | ⟨hj, e⟩
    · cases q
    · simp only [if_neg hj] at m
      exact ⟨j, S, e, m⟩
  have fh : Same F H' := (hF1.trans p.gr.ff).trans p.gr.fh
  have nms : ∀ j q, q ∈ ad j → (∀ S, ρ[j]? ≠ some (Slot.st S)) → ¬ MS ad ρ q := fun j q m hj ⟨j', S, e, m'⟩ => by
    have := w.dj j j' q m m'
    subst this
    exact hj S e
  refine ⟨⟨⟨w.gr.ff, fh, p.wa.gr.kp, p.wa.gr.al, w.gr.fr⟩, w.len, fun j s e => ?_, w.fz, w.dj, w.out, w.pin⟩, ⟨Same.refl F, fh, fun a o e m => p.gr.kp a o e fun z => m (ms a z), p.gr.al, fun _ _ z => z⟩, fun j S e => ⟨S, e⟩⟩
  have k := w.sl j s e
  cases s with
  | emp => exact k
  | val d => exact k
  | own es =>
    obtain ⟨q, ws, k, k0, k1, k2, r⟩ := k
    refine ⟨q, ws, k, k0, k1, p.gr.kp q _ k2 fun z => nms j q (by rw [k]; simp) (fun S z => by rw [e] at z; cases z) (ms q z), r⟩
  | st S =>
    have hj : j ≠ i := fun z => by subst z; rw [h] at e; cases e
    have k' := p.wa.sl j (.st S) (by rw [List.getElem?_set_ne (Ne.symm hj)]; exact e)
    simp only [if_neg hj] at k'
    obtain ⟨s, k1, k2⟩ := k'
    exact ⟨s, k1, k2.down (no _ (List.mem_of_getElem? e))⟩
theorem ex_lend (i : Nat) {ds : List D} (h : ρ[i]? = some (.own ds)) (k : EX te (ρ.set i (.val (.list ds))) fun d ρ' => ρ' = ρ.set i (.val (.list ds)) ∧ scalD d = true ∧ Q d ρ) (no : NoOb ρ := by first | (refine noob_of ?_; simp only [noObP, and_true]; done) | (refine noob_of ?_; simp only [noObP, and_true]; rfl) | (refine noob_of ?_; simp only [noObP, and_true]; exact Ok2.nob (by assumption)) | (refine noob_of ?_; simp only [noObP, and_true]; exact Ok.nob (by assumption))) : EX te ρ Q := fun B ad σ F H w Z z => by
  obtain ⟨p, vs, k1, k2, k3, k4, k5, k6, w2⟩ := w.lend h
  refine k B _ σ _ H w2 Z fun d ρ' v F' H' q P r => ?_
  obtain ⟨rfl, sc, q⟩ := q
  exact z d ρ v F H' q (w.back h rfl rfl (same_upd k2) P no) (scal_any sc r)
theorem et_lend (i : Nat) {tt : TT} {Q : Bool → Env → Prop} {ds : List D} (h : ρ[i]? = some (.own ds)) (k : ET tt (ρ.set i (.val (.list ds))) fun b ρ' => ρ' = ρ.set i (.val (.list ds)) ∧ Q b ρ) (no : NoOb ρ := by first | (refine noob_of ?_; simp only [noObP, and_true]; done) | (refine noob_of ?_; simp only [noObP, and_true]; rfl) | (refine noob_of ?_; simp only [noObP, and_true]; exact Ok2.nob (by assumption)) | (refine noob_of ?_; simp only [noObP, and_true]; exact Ok.nob (by assumption))) : ET tt ρ Q := fun B ad σ F H w Z z => by
  obtain ⟨p, vs, k1, k2, k3, k4, k5, k6, w2⟩ := w.lend h
  refine k B _ σ _ H w2 Z fun d ρ' F' H' q P => ?_
  obtain ⟨rfl, q⟩ := q
  exact z d ρ F H' q (w.back h rfl rfl (same_upd k2) P no)
/-- x[k], x an own list -/
theorem ex_ixO {K : PySem.W.Frag} {i : Nat} {es : List D} (h : ρ[i]? = some (.own es)) (k : EX tb ρ fun d ρ2 => ∃ ds j e, ρ2[i]? = some (.own ds) ∧ d = .int j ∧ atI ds j = some e ∧ Q e ρ2) : EX (tOp (rIxA K) (tVar i) tb) ρ Q := fun B ad σ F H w Z z => by
  obtain ⟨p0, _, _, _, k1, _⟩ := w.sl i _ h
  refine ⟨_, k1, k B ad σ F H w _ fun d ρ2 y F2 H2 q2 p2 r2 => ?_⟩
  obtain ⟨ds, j, e, h2, rfl, hj, q⟩ := q2
  obtain ⟨p, vs, _, _, k2, k3, rr⟩ := p2.wa.sl i _ h2
  rw [k1] at k2
  cases k2
  obtain ⟨v, hv, rv⟩ := rr.at_ hj
  exact .inl ⟨_, vs, j, v, rfl, r2.int_inv, .inl (.inl k3), hv, z e ρ2 v F2 H2 q p2 rv⟩
theorem ex_lenO {K : PySem.W.Frag} {i : Nat} {ds : List D} (h : ρ[i]? = some (.own ds)) (q : Q (.int (ds.length : Int)) ρ) : EX (tCB (rLen K) (tCons (tVar i) tNil)) ρ Q := fun B ad σ F H w Z z => by
  obtain ⟨p, vs, _, _, k1, k3, rr⟩ := w.sl i _ h
  exact ⟨_, k1, _, ds.length, rfl, .inl ⟨vs, .inl (.inl k3), rr.len.symm⟩, z _ ρ _ F H q (Post.refl w) (.int _)⟩
end

/-! ### statements -/
structure Po where
  nx : Env → Prop
  rt : D → Env → Prop
  bk : Env → Prop := fun _ => False
  ct : Env → Prop := fun _ => False
def SX (ts : TS) (ρ : Env) (P : Po) : Prop := ∀ B σ F H, W B ρ σ F H → ∀ Dn : Ends, (∀ ρ' σ' F' H', P.nx ρ' → W B ρ' σ' F' H' → Dn.nx σ' H') → (∀ d ρ' σ' v F' H', P.rt d ρ' → W B ρ' σ' F' H' → Rp F' v d → Dn.rt v H') →
  (∀ ρ' σ' F' H', P.bk ρ' → W B ρ' σ' F' H' → Dn.bk σ' H') → (∀ ρ' σ' F' H', P.ct ρ' → W B ρ' σ' F' H' → Dn.ct σ' H') → ts Dn σ H
/-- ρ' knows no more than ρ -/
inductive LeE : Env → Env → Prop
  | nil : LeE [] []
  | emp {s : Slot} {ρ' ρ : Env} : LeE ρ' ρ → LeE (.emp :: ρ') (s :: ρ)
  | eq {s s' : Slot} {ρ' ρ : Env} : s = s' → LeE ρ' ρ → LeE (s :: ρ') (s' :: ρ)
theorem LeE.refl : ∀ ρ, LeE ρ ρ
  | [] => .nil
  | _ :: ρ => .eq rfl (LeE.refl ρ)
theorem LeE.len {ρ' ρ : Env} (h : LeE ρ' ρ) : ρ'.length = ρ.length := by
  induction h with
  | nil => rfl
  | emp _ ih => simp [ih]
  | eq _ _ ih => simp [ih]
theorem LeE.get {ρ' ρ : Env} (h : LeE ρ' ρ) : ∀ {i : Nat} {s : Slot}, ρ'[i]? = some s → s = .emp ∨ ρ[i]? = some s := by
  induction h with
  | nil => intro i s e; simp at e
  | emp _ ih =>
    intro i s e
    cases i with
    | zero => simp at e; exact .inl e.symm
    | succ i => exact ih (by simpa using e)
  | eq q _ ih =>
    intro i s e
    cases i with
    | zero => simp at e; subst e; subst q; exact .inr rfl
    | succ i => exact ih (by simpa using e)
theorem WA.weak {B : Base} {ad : Nat → List Addr} {ρ ρ' : Env} {σ : St} {F H : Hp} (w : WA B ad ρ σ F H) (l : LeE ρ' ρ) : W B ρ' σ F H := by
  refine ⟨fun i => match ρ'[i]? with | some .emp => [] | _ => ad i, w.gr, by rw [l.len]; exact w.len, fun i s e => ?_, fun i p m => ?_, fun i j p m1 m2 => ?_, fun i e => ?_, w.pin.to fun S e => by
    rcases l.get e with h | h
    · cases h
    · exact ⟨⟨S, h⟩, rfl, by
        show (match ρ'[0]? with | some .emp => [] | _ => ad 0) = ad 0
        rw [e]⟩⟩
  · rcases l.get e with h | h
    · subst h
      show (match ρ'[i]? with | some .emp => [] | _ => ad i) = []
      rw [e]
    · have k := w.sl i s h
      show SlotOk B F H s σ[i]? (match ρ'[i]? with | some .emp => [] | _ => ad i)
      rw [e]
      cases s with
      | emp => rfl
      | _ => exact k
  · exact w.fz i p (by
      revert m
      show p ∈ (match ρ'[i]? with | some .emp => [] | _ => ad i) → p ∈ ad i
      split <;> simp)
  · have g : ∀ i, p ∈ (match ρ'[i]? with | some .emp => [] | _ => ad i) → p ∈ ad i := fun i => by split <;> simp
    exact w.dj i j p (g i m1) (g j m2)
  · show (match ρ'[i]? with | some .emp => [] | _ => ad i) = []
    rw [e]
    exact w.out i (by
      rw [List.getElem?_eq_none_iff] at e ⊢
      rw [← l.len]; exact e)
theorem W.weak {B : Base} {ρ ρ' : Env} {σ : St} {F H : Hp} (w : W B ρ σ F H) (l : LeE ρ' ρ) : W B ρ' σ F H := let ⟨_, w⟩ := w; w.weak l
/-- a slot is stored -/
theorem WA.setVal {B : Base} {ad : Nat → List Addr} {ρ : Env} {σ : St} {F H : Hp} (w : WA B ad ρ σ F H) (i : Nat) {d : D} {v : V} (r : Rp F v d) : W B (ρ.set i (.val d)) (σ.set i (some v)) F H := by
  refine ⟨fun k => if k = i then [] else ad k, w.gr, by rw [List.length_set, List.length_set]; exact w.len, fun j s e => ?_, fun j p m => ?_, fun j1 j2 q m1 m2 => ?_, fun j e => ?_, w.pin.to fun S e => by
    rcases get_set e with ⟨_, q⟩ | ⟨hj, e⟩
    · cases q
    · exact ⟨⟨S, e⟩, List.getElem?_set_ne (Ne.symm hj), if_neg hj⟩⟩
  · rcases get_set e with ⟨rfl, rfl⟩ | ⟨hj, e'⟩
    · have hi : j < σ.length := by
        have := (List.getElem?_eq_some_iff.mp e).1
        rw [List.length_set] at this
        rw [w.len]; exact this
      exact ⟨if_pos rfl, v, List.getElem?_set_self hi, r⟩
    · rw [if_neg hj, List.getElem?_set_ne (Ne.symm hj)]
      exact w.sl j s e'
  · by_cases hj : j = i
    · simp [hj] at m
    · simp only [if_neg hj] at m
      exact w.fz j p m
  · by_cases h1 : j1 = i
    · simp [h1] at m1
    · by_cases h2 : j2 = i
      · simp [h2] at m2
      · simp only [if_neg h1] at m1
        simp only [if_neg h2] at m2
        exact w.dj j1 j2 q m1 m2
  · show (if j = i then [] else ad j) = []
    by_cases hj : j = i
    · rw [if_pos hj]
    · rw [if_neg hj]
      exact w.out j (get_set' e)
theorem WA.setOwn {B : Base} {ad : Nat → List Addr} {ρ : Env} {σ : St} {F H : Hp} (w : WA B ad ρ σ F H) (i : Nat) {ds : List D} {p : Addr} {vs : List V} (hF : F p = none) (h0 : B.H0 p = none) (hn : ∀ i, p ∉ ad i) (hp : H p = some (.lst vs)) (r : RpA F vs ds) :
    W B (ρ.set i (.own ds)) (σ.set i (some (.ref p))) F H := by
  refine ⟨fun k => if k = i then (if i < ρ.length then [p] else []) else ad k, w.gr, by rw [List.length_set, List.length_set]; exact w.len, fun j s e => ?_, fun j q m => ?_, fun j1 j2 q m1 m2 => ?_, fun j e => ?_, w.pin.to fun S e => by
    rcases get_set e with ⟨_, q⟩ | ⟨hj, e⟩
    · cases q
    · exact ⟨⟨S, e⟩, List.getElem?_set_ne (Ne.symm hj), if_neg hj⟩⟩
  · rcases get_set e with ⟨rfl, rfl⟩ | ⟨hj, e'⟩
    · have hi : j < ρ.length := by
        have := (List.getElem?_eq_some_iff.mp e).1
        rwa [List.length_set] at this
      exact ⟨p, vs, by rw [if_pos rfl, if_pos hi], h0, List.getElem?_set_self (by rw [w.len]; exact hi), hp, r⟩
    · rw [if_neg hj, List.getElem?_set_ne (Ne.symm hj)]
      exact w.sl j s e'
  · by_cases hj : j = i
    · simp only [if_pos hj] at m
      by_cases hi : i < ρ.length
      · simp only [if_pos hi, List.mem_singleton] at m
        subst m
        exact ⟨hF, .inl h0⟩
      · simp [if_neg hi] at m
    · simp only [if_neg hj] at m
      exact w.fz j q m
  · have g : ∀ j, q ∈ (if j = i then (if i < ρ.length then [p] else []) else ad j) → (j = i ∧ q = p) ∨ (j ≠ i ∧ q ∈ ad j) := fun j m => by
      by_cases hj : j = i
      · simp only [if_pos hj] at m
        by_cases hi : i < ρ.length
        · simp only [if_pos hi, List.mem_singleton] at m
          exact .inl ⟨hj, m⟩
        · simp [if_neg hi] at m
      · simp only [if_neg hj] at m
        exact .inr ⟨hj, m⟩
    rcases g j1 m1 with ⟨a1, b1⟩ | ⟨a1, b1⟩ <;> rcases g j2 m2 with ⟨a2, b2⟩ | ⟨a2, b2⟩
    · rw [a1, a2]
    · exact absurd (b1 ▸ b2) (hn j2)
    · exact absurd (b2 ▸ b1) (hn j1)
    · exact w.dj j1 j2 q b1 b2
  · show (if j = i then (if i < ρ.length then [p] else []) else ad j) = []
    have e' := get_set' e
    by_cases hj : j = i
    · subst hj
      rw [if_pos rfl, if_neg (by rw [List.getElem?_eq_none_iff] at e'; omega)]
    · rw [if_neg hj]
      exact w.out j e'
/-- an own list is changed in place -/
theorem WA.mut {B : Base} {ad : Nat → List Addr} {ρ : Env} {σ : St} {F H : Hp} (w : WA B ad ρ σ F H) {i : Nat} {ds es : List D} {p : Addr} {ws : List V} (h : ρ[i]? = some (.own ds)) (hp : σ[i]? = some (some (.ref p))) (r : RpA F ws es) :
    W B (ρ.set i (.own es)) σ F (upd H p (.lst ws)) := by
  obtain ⟨p', vs, k, k0, k1, k2, _⟩ := w.sl i _ h
  rw [hp] at k1
  cases k1
  have hF : F p = none := (w.fz i p (by rw [k]; simp)).1
  have hn : ∀ j, j ≠ i → p ∉ ad j := fun j hj m => hj (w.dj j i p m (by rw [k]; simp))
  have ne0 : ∀ a o, B.H0 a = some o → a ≠ p := fun a o e z => by rw [z, k0] at e; cases e
  refine ⟨ad, ⟨w.gr.ff, fun a o e => ?_, fun a o e m => ?_, fun a e => ?_, w.gr.fr⟩, by rw [List.length_set]; exact w.len, fun j s e => ?_, w.fz, w.dj, fun j e => w.out j (get_set' e), w.pin.to fun S e => by
    rcases get_set e with ⟨_, q⟩ | ⟨hj, e⟩
    · cases q
    · exact ⟨⟨S, e⟩, rfl, rfl⟩⟩
  · rw [upd_ne (fun z => by rw [z, hF] at e; cases e)]
    exact w.gr.fh a o e
  · rw [upd_ne (ne0 a o e)]
    exact w.gr.kp a o e m
  · by_cases ha : a = p
    · rw [ha, upd_same]; intro z; cases z
    · rw [upd_ne ha]; exact w.gr.al a e
  · rcases get_set e with ⟨rfl, rfl⟩ | ⟨hj, e⟩
    · exact ⟨p, ws, k, k0, hp, upd_same, r⟩
    · have q := w.sl j s e
      cases s with
      | emp => exact q
      | val d => exact q
      | own es =>
        obtain ⟨q, vs, k1, k2, k3, k4, k5⟩ := q
        refine ⟨q, vs, k1, k2, k3, ?_, k5⟩
        rw [upd_ne (fun z => hn j hj (by rw [k1, z]; simp))]
        exact k4
      | st S =>
        obtain ⟨s, k1, q⟩ := q
        exact ⟨s, k1, q.keep (Same.refl _) fun a m o e => by
          rw [upd_ne (fun z => hn j hj (by rw [← z]; exact m))]
          exact e⟩

/-! #### the rules for statements -/
section
variable {ρ ρ' : Env} {P : Po} {te ta tb : TE} {tt : TT} {t u : TS}
/-- what follows, perhaps with less known -/
def NX (P : Po) (ρ : Env) : Prop := ∃ ρ', LeE ρ' ρ ∧ P.nx ρ'
theorem nx_same (h : P.nx ρ) : NX P ρ := ⟨ρ, LeE.refl ρ, h⟩
theorem nx_le (l : LeE ρ' ρ) (h : P.nx ρ') : NX P ρ := ⟨ρ', l, h⟩
def CTn (P : Po) (ρ : Env) : Prop := ∃ ρ', LeE ρ' ρ ∧ P.ct ρ'
theorem sx_weak (l : LeE ρ' ρ) (h : SX t ρ' P) : SX t ρ P := fun B σ F H w => h B σ F H (w.weak l)
/-- then u -/
def Po.seq (P : Po) (u : TS) : Po := { P with nx := fun ρ' => SX u ρ' P }
theorem nx_seq (h : SX u ρ P) : NX (P.seq u) ρ := nx_same h
theorem nx_seqw (l : LeE ρ' ρ) (h : SX u ρ' P) : NX (P.seq u) ρ := nx_le l h
theorem sx_seq (h : SX t ρ (P.seq u)) : SX (tSeq t u) ρ P := fun B σ F H w Dn n r b c =>
  h B σ F H w { Dn with nx := u Dn } (fun ρ' σ' F' H' q w' => q B σ' F' H' w' Dn n r b c) r b c
theorem sx_next (h : NX P ρ) : SX tNext ρ P := fun B σ F H w Dn n r b c => let ⟨ρ', l, q⟩ := h; n ρ' σ F H q (w.weak l)
theorem sx_asg {i : Nat} (h : EX te ρ fun d ρ1 => NX P (ρ1.set i (.val d))) : SX (tAsg te (gName i)) ρ P := fun B σ F H w Dn n r b c => by
  obtain ⟨ad, w⟩ := w
  exact h B ad σ F H w _ fun d ρ1 v F1 H1 q p rv => let ⟨ρ', l, q⟩ := q; n ρ' _ F1 H1 q ((p.wa.setVal i rv).weak l)
theorem sx_asgO {i : Nat} (h : EO te ρ fun ds ρ1 => NX P (ρ1.set i (.own ds))) : SX (tAsg te (gName i)) ρ P := fun B σ F H w Dn n r b c => by
  obtain ⟨ad, w⟩ := w
  refine h B ad σ F H w _ fun ds ρ1 p vs F1 H1 q P hF hH hp rv => ?_
  obtain ⟨ρ', l, q⟩ := q
  have k := w.newp hH
  exact n ρ' _ F1 H1 q ((P.wa.setOwn i hF k.2.1 k.2.2 hp rv).weak l)
theorem sx_if (h : ET tt ρ fun b ρ1 => (b = true → SX t ρ1 P) ∧ (b = false → SX u ρ1 P)) : SX (tIfS tt t u) ρ P := fun B σ F H w Dn n r bk c => by
  obtain ⟨ad, w⟩ := w
  refine h B ad σ F H w _ fun b ρ1 F1 H1 q p => ?_
  cases b with
  | true =>
    show t Dn σ H1
    exact q.1 rfl B σ F1 H1 ⟨ad, p.wa⟩ Dn n r bk c
  | false =>
    show u Dn σ H1
    exact q.2 rfl B σ F1 H1 ⟨ad, p.wa⟩ Dn n r bk c
theorem sx_ret (h : EX te ρ fun d ρ1 => P.rt d ρ1) : SX (tRet te) ρ P := fun B σ F H w Dn n r b c => by
  obtain ⟨ad, w⟩ := w
  exact h B ad σ F H w _ fun d ρ1 v F1 H1 q p rv => r d ρ1 σ v F1 H1 q ⟨ad, p.wa⟩ rv
theorem sx_retN (h : P.rt .none ρ) : SX tRetN ρ P := fun B σ F H w Dn n r b c => r .none ρ σ .non F H h w .non
theorem sx_brk (h : P.bk ρ) : SX tBreak ρ P := fun B σ F H w Dn n r b c => b ρ σ F H h w
theorem sx_cont (h : CTn P ρ) : SX tCont ρ P := fun B σ F H w Dn n r b c => let ⟨ρ', l, q⟩ := h; c ρ' σ F H q (w.weak l)
theorem sx_drop (h : EX te ρ fun _ ρ1 => NX P ρ1) : SX (tDrop te) ρ P := fun B σ F H w Dn n r b c => by
  obtain ⟨ad, w⟩ := w
  exact h B ad σ F H w _ fun d ρ1 v F1 H1 q p rv => let ⟨ρ', l, q⟩ := q; n ρ' σ F1 H1 q (p.wa.weak l)
theorem W.freeze {B : Base} {σ : St} {F H : Hp} (w : W B ρ σ F H) {i : Nat} {ds : List D} (h : ρ[i]? = some (.own ds)) : ∃ F', W B (ρ.set i (.val (.list ds))) σ F' H := by
  obtain ⟨ad, w⟩ := w
  obtain ⟨p, vs, _, _, _, _, _, _, w2⟩ := w.lend h
  exact ⟨_, _, w2⟩
theorem sx_freeze (i : Nat) {ds : List D} (h : ρ[i]? = some (.own ds)) (k : SX t (ρ.set i (.val (.list ds))) P) : SX t ρ P := fun B σ F H w => by
  obtain ⟨F', w2⟩ := w.freeze h
  exact k B σ F' H w2
/-- x.append(e), x an own list -/
theorem sx_app {K : PySem.W.Frag} {i : Nat} {es : List D} (h : ρ[i]? = some (.own es)) (k : EX te ρ fun d ρ1 => ∃ ds, ρ1[i]? = some (.own ds) ∧ ds.length < 1000000 ∧ NX P (ρ1.set i (.own (ds ++ [d])))) : SX (tDrop (tBM K "list" rAppend (tVar i) (tCons te tNil))) ρ P := fun B σ F H w Dn n r b c => by
  obtain ⟨ad, w⟩ := w
  obtain ⟨p0, vs0, _, _, k1, k0, _⟩ := w.sl i _ h
  refine ⟨_, k1, .inl ⟨rfl, _, .inl (.inl k0)⟩, k B ad σ F H w _ fun d ρ1 v F1 H1 q1 p1 r1 => ?_⟩
  obtain ⟨ds, h1, hz, ρ', l, q⟩ := q1
  obtain ⟨p, vs, _, _, k2, k3, rr⟩ := p1.wa.sl i _ h1
  have e := k1.symm.trans k2
  cases e
  exact ⟨_, vs, v, rfl, rfl, k3, Nat.lt_of_lt_of_le (by rw [rr.len]; exact hz) (by decide), n ρ' σ F1 _ q ((p1.wa.mut h1 k2 (rr.app (.cons r1 .nil))).weak l)⟩
/-- x[j] = e, x an own list -/
theorem sx_setO {i : Nat} {es : List D} (h : EX te ρ fun d ρ1 => ρ1[i]? = some (.own es) ∧ EX tb ρ1 fun j ρ2 => ∃ ds k m, ρ2[i]? = some (.own ds) ∧ j = .int k ∧ ixN ds.length k = some m ∧ NX P (ρ2.set i (.own (ds.set m d)))) : SX (tAsg te (gSub (tVar i) tb rSetL)) ρ P := fun B σ F H w Dn n r b c => by
  obtain ⟨ad, w⟩ := w
  refine h B ad σ F H w _ fun d ρ1 v F1 H1 q1 p1 r1 => ?_
  obtain ⟨h1, q1⟩ := q1
  obtain ⟨p0, vs0, _, _, k1, k0, _⟩ := p1.wa.sl i _ h1
  refine ⟨_, k1, q1 B ad σ F1 H1 p1.wa _ fun j ρ2 y F2 H2 q2 p2 r2 => ?_⟩
  obtain ⟨ds, k, m, h2, rfl, hm, ρ', l, q⟩ := q2
  obtain ⟨p, vs, _, _, k2, k3, rr⟩ := p2.wa.sl i _ h2
  have e := k1.symm.trans k2
  cases e
  exact ⟨_, vs, k, m, rfl, r2.int_inv, k3, by rw [rr.len]; exact hm, n ρ' σ F2 _ q ((p2.wa.mut h2 k2 (rr.set m (r1.up p2.gr.ff))).weak l)⟩
/-- a, b = e, f -/
theorem sx_par {i j : Nat} {t : TA} (h : EA t ρ fun ds ρ1 => ∃ d e, ds = [d, e] ∧ NX P ((ρ1.set i (.val d)).set j (.val e))) : SX (tPar i j t) ρ P := fun B σ F H w Dn n r b c => by
  obtain ⟨ad, w⟩ := w
  refine h B ad σ F H w _ fun ds ρ1 vs F1 H1 q p rv => ?_
  obtain ⟨d, e, rfl, ρ', l, q⟩ := q
  obtain ⟨v, u, rfl, r1, r2⟩ := rv.two
  obtain ⟨ad2, w2⟩ := p.wa.setVal i r1
  exact ⟨v, u, rfl, n ρ' _ F1 H1 q ((w2.setVal j r2).weak l)⟩
/-! targets -/
def SG (J : List Nat) (g : TG) (d : D) (ρ : Env) (Qn : Env → Prop) : Prop := ∀ B ad σ F H v, WA B ad ρ σ F H → (∀ j ∈ J, ad j = []) → Rp F v d → ∀ Z : St → Hp → Prop, (∀ ρ' σ', Qn ρ' → WA B ad ρ' σ' F H → wipe σ' J = wipe σ J → (∀ i, i ∉ J → ρ'[i]? = ρ[i]?) → Z σ' H) → g v σ H Z
def SGs (J : List Nat) (g : TGs) (ds : List D) (ρ : Env) (Qn : Env → Prop) : Prop := ∀ B ad σ F H vs, WA B ad ρ σ F H → (∀ j ∈ J, ad j = []) → RpA F vs ds → ∀ Z : St → Hp → Prop, (∀ ρ' σ', Qn ρ' → WA B ad ρ' σ' F H → wipe σ' J = wipe σ J → (∀ i, i ∉ J → ρ'[i]? = ρ[i]?) → Z σ' H) → g vs σ H Z
theorem wipe_get {σ : St} {i : Nat} : ∀ {vs : List Nat}, (wipe σ vs)[i]? = if i ∈ vs ∧ i < σ.length then some none else σ[i]?
  | [] => by simp [wipe]
  | v :: vs => by
    unfold wipe
    by_cases h : i = v
    · subst h
      by_cases hl : i < σ.length
      · rw [List.getElem?_set_self (by rw [wipe_length]; exact hl)]
        simp [hl]
      · rw [List.getElem?_eq_none (by rw [List.length_set, wipe_length]; omega)]
        simp [hl]
    · rw [List.getElem?_set_ne (Ne.symm h), wipe_get]
      simp [h]
theorem wipe_set {σ : St} {i : Nat} {x : Option V} {J : List Nat} (h : i ∈ J) : wipe (σ.set i x) J = wipe σ J := by
  apply List.ext_getElem?
  intro k
  rw [wipe_get, wipe_get, List.length_set]
  by_cases hk : k ∈ J ∧ k < σ.length
  · rw [if_pos hk, if_pos hk]
  · rw [if_neg hk, if_neg hk]
    by_cases e : k = i
    · subst e
      have : ¬ k < σ.length := fun z => hk ⟨h, z⟩
      rw [List.getElem?_eq_none (by rw [List.length_set]; omega), List.getElem?_eq_none (by omega)]
    · rw [List.getElem?_set_ne (Ne.symm e)]
theorem WA.setVal' {B : Base} {ad : Nat → List Addr} {σ : St} {F H : Hp} (w : WA B ad ρ σ F H) (i : Nat) (hi : ad i = []) {d : D} {v : V} (r : Rp F v d) : WA B ad (ρ.set i (.val d)) (σ.set i (some v)) F H := by
  refine ⟨w.gr, by rw [List.length_set, List.length_set]; exact w.len, fun j s e => ?_, w.fz, w.dj, fun j e => w.out j (get_set' e), w.pin.to fun S e => by
    rcases get_set e with ⟨_, q⟩ | ⟨hj, e⟩
    · cases q
    · exact ⟨⟨S, e⟩, List.getElem?_set_ne (Ne.symm hj), rfl⟩⟩
  rcases get_set e with ⟨rfl, rfl⟩ | ⟨hj, e'⟩
  · have hl : j < σ.length := by
      have := (List.getElem?_eq_some_iff.mp e).1
      rw [List.length_set] at this
      rw [w.len]; exact this
    exact ⟨hi, v, List.getElem?_set_self hl, r⟩
  · rw [List.getElem?_set_ne (Ne.symm hj)]
    exact w.sl j s e'
theorem sg_name {J : List Nat} {i : Nat} {d : D} {Qn : Env → Prop} (hj : i ∈ J) (q : Qn (ρ.set i (.val d))) : SG J (gName i) d ρ Qn := fun B ad σ F H v w hJ r Z z => z _ _ q (w.setVal' i (hJ i hj) r) (wipe_set hj) fun k hk => List.getElem?_set_ne fun e => hk (by rw [← e]; exact hj)
theorem sgs_nil {J : List Nat} {Qn : Env → Prop} (q : Qn ρ) : SGs J gNil [] ρ Qn := fun B ad σ F H vs w hJ r Z z => by
  cases r
  exact ⟨rfl, z ρ σ q w rfl fun _ _ => rfl⟩
theorem sgs_cons {J : List Nat} {g : TG} {gs : TGs} {d : D} {ds : List D} {Qn : Env → Prop} (h : SG J g d ρ fun ρ1 => SGs J gs ds ρ1 Qn) : SGs J (gCons g gs) (d :: ds) ρ Qn := fun B ad σ F H vs w hJ r Z z => by
  cases r with
  | cons r1 r2 =>
    exact ⟨_, _, rfl, h B ad σ F H _ w hJ r1 _ fun ρ1 σ1 q w1 e1 f1 => q B ad σ1 F H _ w1 hJ r2 Z fun ρ2 σ2 q w2 e2 f2 => z ρ2 σ2 q w2 (e2.trans e1) fun i hi => (f2 i hi).trans (f1 i hi)⟩
theorem sg_tup {K : PySem.W.Frag} {J : List Nat} {n : Nat} {gs : TGs} {ds : List D} {Qn : Env → Prop} (hn : ds.length = n) (h : SGs J gs ds ρ Qn) : SG J (gTup K n gs) (.tuple ds) ρ Qn := fun B ad σ F H v w hJ r Z z => by
  obtain ⟨a, xs, rfl, h1, h2⟩ := r.tup_inv
  exact ⟨a, xs, rfl, sqT_rd h1 w.gr.fh, h2.len.trans hn, h B ad σ F H xs w hJ h2 Z z⟩
/-- the slots at vs forgotten -/
def wipeE (ρ : Env) (vs : List Nat) : Env := vs.foldl (fun r v => r.set v .emp) ρ
theorem wipeE_len (ρ : Env) (vs : List Nat) : (wipeE ρ vs).length = ρ.length := by
  unfold wipeE
  induction vs generalizing ρ with
  | nil => rfl
  | cons v vs ih => rw [List.foldl_cons, ih, List.length_set]
theorem wipeE_get : ∀ {vs : List Nat} {ρ : Env} {i : Nat}, (wipeE ρ vs)[i]? = if i ∈ vs ∧ i < ρ.length then some .emp else ρ[i]?
  | [], ρ, i => by simp [wipeE]
  | v :: vs, ρ, i => by
    have e : wipeE ρ (v :: vs) = wipeE (ρ.set v .emp) vs := rfl
    rw [e, wipeE_get, List.length_set]
    by_cases h : i ∈ vs ∧ i < ρ.length
    · rw [if_pos h, if_pos ⟨List.mem_cons_of_mem _ h.1, h.2⟩]
    · rw [if_neg h]
      by_cases hv : i = v
      · subst hv
        by_cases hl : i < ρ.length
        · rw [List.getElem?_set_self hl, if_pos ⟨by simp, hl⟩]
        · rw [List.getElem?_eq_none (by rw [List.length_set]; omega), if_neg (fun z => hl z.2), List.getElem?_eq_none (by omega)]
      · rw [List.getElem?_set_ne (Ne.symm hv)]
        rw [if_neg (fun z => h ⟨(List.mem_cons.mp z.1).resolve_left hv, z.2⟩)]
theorem WA.weakJ {B : Base} {ad : Nat → List Addr} {σ : St} {F H : Hp} (w : WA B ad ρ σ F H) (J : List Nat) : WA B (fun k => if k ∈ J then [] else ad k) (wipeE ρ J) σ F H := by
  have g : ∀ i p, p ∈ (if i ∈ J then [] else ad i) → p ∈ ad i := fun i p m => by
    by_cases h : i ∈ J
    · rw [if_pos h] at m; cases m
    · rw [if_neg h] at m; exact m
  refine ⟨w.gr, by rw [wipeE_len]; exact w.len, fun i s e => ?_, fun i p m => w.fz i p (g i p m), fun i j p m1 m2 => w.dj i j p (g i p m1) (g j p m2), fun i e => ?_, w.pin.to fun S e => by
    rw [wipeE_get] at e
    by_cases h : 0 ∈ J ∧ 0 < ρ.length
    · rw [if_pos h] at e; cases e
    · rw [if_neg h] at e
      have hi : 0 < ρ.length := (List.getElem?_eq_some_iff.mp e).1
      exact ⟨⟨S, e⟩, rfl, if_neg fun z => h ⟨z, hi⟩⟩⟩
  · rw [wipeE_get] at e
    by_cases h : i ∈ J ∧ i < ρ.length
    · rw [if_pos h] at e
      cases e
      exact if_pos h.1
    · rw [if_neg h] at e
      have hi : i < ρ.length := (List.getElem?_eq_some_iff.mp e).1
      have hJ : i ∉ J := fun z => h ⟨z, hi⟩
      simp only [if_neg hJ]
      exact w.sl i s e
  · rw [wipeE_get] at e
    by_cases hJ : i ∈ J
    · exact if_pos hJ
    · show (if i ∈ J then [] else ad i) = []
      rw [if_neg hJ]
      rw [if_neg (fun z => hJ z.1)] at e
      exact w.out i e
theorem sg_go {B : Base} {ad : Nat → List Addr} {σ : St} {F H : Hp} {J : List Nat} {g : TG} {d : D} {v : V} {Qn : Env → Prop} (h : SG J g d (wipeE ρ J) Qn) (w : WA B ad ρ σ F H) (r : Rp F v d) (Z : St → Hp → Prop) (z : ∀ ρ' σ', Qn ρ' → W B ρ' σ' F H → Z σ' H) : g v σ H Z :=
  h B _ σ F H v (w.weakJ J) (fun j hj => if_pos hj) r Z fun ρ' σ' q w' _ _ => z ρ' σ' q ⟨_, w'⟩
/-- (a, b) = e by a target -/
theorem sx_asgT {J : List Nat} {g : TG} (h : EX te ρ fun d ρ1 => SG J g d (wipeE ρ1 J) fun ρ2 => NX P ρ2) : SX (tAsg te g) ρ P := fun B σ F H w Dn n r b c => by
  obtain ⟨ad, w⟩ := w
  exact h B ad σ F H w _ fun d ρ1 v F1 H1 q p rv => sg_go q p.wa rv _ fun ρ2 σ2 q w2 => let ⟨ρ', l, q⟩ := q; n ρ' σ2 F1 H1 q (w2.weak l)
/-! loops -/
structure ItD (J : It) (F : Hp) (ds : List D) : Prop where
  go : ∀ i H, Same F H → i < ds.length → J.go i H
  stop : ∀ i H, Same F H → ds.length ≤ i → J.stop i H
  yld : ∀ i H x H' F1, Same F F1 → Same F1 H → J.yld i H x H' → i < ds.length → ∃ d F2, ds[i]? = some d ∧ Gr Non F1 H F2 H' ∧ Rp F2 x d
/-- what is walked -/
def EI (wi : TI) (ρ : Env) (Q : List D → Env → Prop) : Prop := ∀ B ad σ F H, WA B ad ρ σ F H → ∀ R : It → Hp → Prop, (∀ ds ρ' J F' H', Q ds ρ' → Post B ad σ ρ F H ρ' F' H' → ItD J F' ds → R J H') → wi σ H R
theorem W.rebase {B : Base} {σ : St} {F H : Hp} (w : W B ρ σ F H) : W { F0 := F, H0 := B.H0, M := B.M, pin := B.pin } ρ σ F H := by
  obtain ⟨ad, w⟩ := w
  refine ⟨ad, ⟨Same.refl F, w.gr.fh, w.gr.kp, w.gr.al, fun _ _ z => z⟩, w.len, fun i s e => ?_, w.fz, w.dj, w.out, w.pin⟩
  have k := w.sl i s e
  cases s <;> exact k
theorem W.unbase {B : Base} {σ σ' : St} {F H F' H' : Hp} (w : W B ρ σ F H) (w' : W { F0 := F, H0 := B.H0, M := B.M, pin := B.pin } ρ' σ' F' H') : W B ρ' σ' F' H' ∧ Same F F' := by
  obtain ⟨ad, w⟩ := w
  obtain ⟨ad', w'⟩ := w'
  refine ⟨⟨ad', ⟨w.gr.ff.trans w'.gr.ff, w'.gr.fh, w'.gr.kp, w'.gr.al, fun a e z => w'.gr.fr a e (w.gr.fr a e z)⟩, w'.len, fun i s e => ?_, w'.fz, w'.dj, w'.out, w'.pin⟩, w'.gr.ff⟩
  have k := w'.sl i s e
  cases s <;> exact k
theorem sx_for {wi : TI} {J : List Nat} {g : TG} (h : EI wi ρ fun ds ρ1 => ∃ I : Nat → Env → Prop, I 0 ρ1 ∧ (∀ k d ρ', ds[k]? = some d → I k ρ' → SG J g d (wipeE ρ' J) fun ρ2 => SX t ρ2 { nx := I (k + 1), ct := I (k + 1), bk := NX P, rt := P.rt }) ∧ ∀ ρ', I ds.length ρ' → NX P ρ') :
    SX (tFor wi g t) ρ P := fun B σ F H w Dn n r b c => by
  obtain ⟨ad, w⟩ := w
  refine h B ad σ F H w _ fun ds ρ1 J F1 H1 q1 p1 it => ?_
  obtain ⟨I, i0, turn, done⟩ := q1
  refine ⟨fun i m σ' H' => m = ds.length - i ∧ i ≤ ds.length ∧ ∃ ρ' F', I i ρ' ∧ W B ρ' σ' F' H' ∧ Same F1 F', ⟨_, rfl, Nat.zero_le _, ρ1, F1, i0, ⟨ad, p1.wa⟩, Same.refl _⟩, ?_⟩
  rintro i m σ' H' ⟨rfl, hi, ρ', F', iv, ⟨ad', w'⟩, sf⟩
  by_cases hlt : i < ds.length
  · refine .inr ⟨it.go i H' (sf.trans w'.gr.fh) hlt, fun σ2 H2 => ∃ ρ2 F2, I (i + 1) ρ2 ∧ W B ρ2 σ2 F2 H2 ∧ Same F1 F2, fun σ2 H2 ⟨ρ2, F2, a, b, c⟩ => ⟨ds.length - (i + 1), by omega, rfl, hlt, ρ2, F2, a, b, c⟩, fun x H2 y => ?_⟩
    obtain ⟨d, F2, e, gr, rx⟩ := it.yld i H' x H2 F' sf w'.gr.fh y hlt
    refine sg_go (turn i d ρ' e iv) (w'.grow gr) rx _ fun ρ2 σ2 q w2 => ?_
    exact q _ σ2 F2 H2 w2.rebase _ (fun ρ3 σ3 F3 H3 q3 w3 => let k := w2.unbase w3; ⟨ρ3, F3, q3, k.1, (sf.trans gr.ff).trans k.2⟩) (fun d ρ3 σ3 v F3 H3 q3 w3 rv => r d ρ3 σ3 v F3 H3 q3 (w2.unbase w3).1 rv) (fun ρ3 σ3 F3 H3 q3 w3 => let ⟨ρ4, l, q4⟩ := q3; n ρ4 σ3 F3 H3 q4 ((w2.unbase w3).1.weak l)) (fun ρ3 σ3 F3 H3 q3 w3 => let k := w2.unbase w3; ⟨ρ3, F3, q3, k.1, (sf.trans gr.ff).trans k.2⟩)
  · have e : i = ds.length := by omega
    subst e
    obtain ⟨ρ2, l, q⟩ := done ρ' iv
    exact .inl ⟨it.stop _ H' (sf.trans w'.gr.fh) (Nat.le_refl _), n ρ2 σ' F' H' q (w'.weak l)⟩
theorem sx_while (I : Nat → Env → Prop) (m0 : Nat) (i0 : I m0 ρ) (h : ∀ m ρ', I m ρ' → ET tt ρ' fun b ρ1 => (b = true → SX t ρ1 { nx := fun ρ2 => ∃ m', m' < m ∧ I m' ρ2, ct := fun ρ2 => ∃ m', m' < m ∧ I m' ρ2, bk := NX P, rt := P.rt }) ∧ (b = false → NX P ρ1)) : SX (tWhile tt t) ρ P := fun B σ F H w Dn n r b c => by
  refine ⟨fun m σ' H' => ∃ ρ' F', I m ρ' ∧ W B ρ' σ' F' H', ⟨m0, ρ, F, i0, w⟩, ?_⟩
  rintro m σ' H' ⟨ρ', F', iv, ⟨ad, w'⟩⟩
  refine h m ρ' iv B ad σ' F' H' w' _ fun b1 ρ1 F1 H1 q p => ?_
  cases b1 with
  | true =>
    refine ⟨fun σ2 H2 => ∃ m' ρ2 F2, m' < m ∧ I m' ρ2 ∧ W B ρ2 σ2 F2 H2, fun σ2 H2 ⟨m', ρ2, F2, a, b, c⟩ => ⟨m', a, ρ2, F2, b, c⟩, ?_⟩
    exact q.1 rfl B σ' F1 H1 ⟨ad, p.wa⟩ _ (fun ρ3 σ3 F3 H3 q3 w3 => let ⟨m', a, b⟩ := q3; ⟨m', ρ3, F3, a, b, w3⟩) r (fun ρ3 σ3 F3 H3 q3 w3 => let ⟨ρ4, l, q4⟩ := q3; n ρ4 σ3 F3 H3 q4 (w3.weak l)) (fun ρ3 σ3 F3 H3 q3 w3 => let ⟨m', a, b⟩ := q3; ⟨m', ρ3, F3, a, b, w3⟩)
  | false =>
    show Dn.nx σ' H1
    obtain ⟨ρ2, l, q2⟩ := q.2 rfl
    exact n ρ2 σ' F1 H1 q2 (W.weak ⟨ad, p.wa⟩ l)
/-! what is walked -/
theorem ei_list {K : PySem.W.Frag} {Q : List D → Env → Prop} (h : EX te ρ fun d ρ1 => ∃ ds, d = .list ds ∧ Q ds ρ1) : EI (iList K te) ρ Q := fun B ad σ F H w R z =>
  h B ad σ F H w _ fun d ρ1 v F1 H1 q p r => by
    obtain ⟨ds, rfl, q⟩ := q
    obtain ⟨a, xs, rfl, h1, h2⟩ := r.lst_inv
    refine ⟨a, rfl, ⟨xs, sqL_rd h1 p.wa.gr.fh⟩, z ds ρ1 _ F1 H1 q p ⟨fun i H' e hi => ⟨xs, xs[i]'(by rw [h2.len]; exact hi), sqL_rd h1 e, by simp⟩, fun i H' e hi => ⟨xs, sqL_rd h1 e, by rw [h2.len]; exact hi⟩, fun i H' x H2 F2 e1 e2 y hi => ?_⟩⟩
    obtain ⟨rfl, y⟩ := y
    obtain ⟨d, hd, rd⟩ := h2.get' (y xs (sqL_rd h1 (e1.trans e2)))
    exact ⟨d, F2, hd, Gr.refl e2, rd.up e1⟩
theorem ei_tup {K : PySem.W.Frag} {Q : List D → Env → Prop} (h : EX te ρ fun d ρ1 => ∃ ds, d = .tuple ds ∧ Q ds ρ1) : EI (iTup K te) ρ Q := fun B ad σ F H w R z =>
  h B ad σ F H w _ fun d ρ1 v F1 H1 q p r => by
    obtain ⟨ds, rfl, q⟩ := q
    obtain ⟨a, xs, rfl, h1, h2⟩ := r.tup_inv
    refine ⟨a, rfl, ⟨xs, sqT_rd h1 p.wa.gr.fh⟩, z ds ρ1 _ F1 H1 q p ⟨fun i H' e hi => ⟨xs, xs[i]'(by rw [h2.len]; exact hi), sqT_rd h1 e, by simp⟩, fun i H' e hi => ⟨xs, sqT_rd h1 e, by rw [h2.len]; exact hi⟩, fun i H' x H2 F2 e1 e2 y hi => ?_⟩⟩
    obtain ⟨rfl, y⟩ := y
    obtain ⟨d, hd, rd⟩ := h2.get' (y xs (sqT_rd h1 (e1.trans e2)))
    exact ⟨d, F2, hd, Gr.refl e2, rd.up e1⟩
/-- lo, lo + 1, .., n of them -/
def rngI (lo : Int) (n : Nat) : List Int := (List.range n).map fun k : Nat => lo + (k : Int)
theorem rngI_len (lo : Int) (n : Nat) : (rngI lo n).length = n := by simp [rngI]
theorem rngI_get {lo : Int} {n k : Nat} (h : k < n) : (rngI lo n)[k]? = some (lo + (k : Int)) := by simp [rngI, h]
theorem rngI_mem {lo x : Int} {n : Nat} : x ∈ rngI lo n ↔ lo ≤ x ∧ x < lo + (n : Int) := by
  unfold rngI
  rw [List.mem_map]
  constructor
  · rintro ⟨k, hk, rfl⟩
    rw [List.mem_range] at hk
    omega
  · intro h
    exact ⟨(x - lo).toNat, by rw [List.mem_range]; omega, by omega⟩
theorem itd_rng {F : Hp} (lo : Int) (n : Nat) : ItD (Itr lo n) F ((rngI lo n).map .int) where
  go := fun i H _ h => by rw [List.length_map, rngI_len] at h; exact h
  stop := fun i H _ h => by rw [List.length_map, rngI_len] at h; exact h
  yld := fun i H x H' F1 _ e2 y h => by
    rw [List.length_map, rngI_len] at h
    obtain ⟨rfl, rfl⟩ := y
    exact ⟨.int (lo + (i : Int)), F1, by rw [List.getElem?_map, rngI_get h]; rfl, Gr.refl e2, .int _⟩
theorem ei_rng1 {t : TA} {Q : List D → Env → Prop} (h : EA t ρ fun ds ρ1 => ∃ n, ds = [.int n] ∧ (-1000000000000 ≤ n ∧ n ≤ 1000000000000) ∧ Q ((rngI 0 n.toNat).map .int) ρ1) : EI (iRng1 t) ρ Q := fun B ad σ F H w R z =>
  h B ad σ F H w _ fun ds ρ1 vs F1 H1 q p r => by
    obtain ⟨n, rfl, ⟨hn1, hn2⟩, q⟩ := q
    obtain ⟨v, rfl, rv⟩ := r.one
    exact ⟨n, by rw [rv.int_inv], by omega, by omega, z _ ρ1 _ F1 H1 q p (itd_rng 0 _)⟩
theorem ei_rng2 {t : TA} {Q : List D → Env → Prop} (h : EA t ρ fun ds ρ1 => ∃ l n, ds = [.int l, .int n] ∧ (-1000000000000 ≤ l ∧ l ≤ 1000000000000 ∧ -1000000000000 ≤ n ∧ n ≤ 1000000000000) ∧ Q ((rngI l (n - l).toNat).map .int) ρ1) : EI (iRng2 t) ρ Q := fun B ad σ F H w R z =>
  h B ad σ F H w _ fun ds ρ1 vs F1 H1 q p r => by
    obtain ⟨l, n, rfl, ⟨hl1, hl2, hn1, hn2⟩, q⟩ := q
    obtain ⟨v, u, rfl, rv, ru⟩ := r.two
    exact ⟨l, n, by rw [rv.int_inv, ru.int_inv], ⟨by omega, by omega, by omega, by omega⟩, z _ ρ1 _ F1 H1 q p (itd_rng l _)⟩
/-- enumerate: pairs (index, item) -/
def enumD (k : Nat) : List D → List D
  | [] => []
  | d :: ds => .tuple [.int (k : Int), d] :: enumD (k + 1) ds
theorem enumD_len : ∀ (ds : List D) (k : Nat), (enumD k ds).length = ds.length
  | [], _ => rfl
  | d :: ds, k => by simp [enumD, enumD_len ds]
theorem enumD_get : ∀ (ds : List D) (k i : Nat) {d : D}, ds[i]? = some d → (enumD k ds)[i]? = some (.tuple [.int ((k + i : Nat) : Int), d])
  | [], _, i, _, h => by simp at h
  | e :: ds, k, 0, d, h => by simp at h; subst h; rfl
  | e :: ds, k, i + 1, d, h => by
    have q := enumD_get ds (k + 1) i (by simpa using h)
    show (enumD (k + 1) ds)[i]? = _
    rw [q, show k + 1 + i = k + (i + 1) by omega]
theorem ei_enum {K : PySem.W.Frag} {t : TA} {Q : List D → Env → Prop} (h : EA t ρ fun es ρ1 => ∃ ds, es = [.list ds] ∧ Q (enumD 0 ds) ρ1) : EI (iEnum K t) ρ Q := fun B ad σ F H w R z =>
  h B ad σ F H w _ fun es ρ1 vs F1 H1 q p r => by
    obtain ⟨ds, rfl, q⟩ := q
    obtain ⟨v, rfl, rv⟩ := r.one
    obtain ⟨a, xs, rfl, h1, h2⟩ := rv.lst_inv
    refine ⟨a, xs, rfl, sqL_rd h1 p.wa.gr.fh, z _ ρ1 _ F1 H1 q p ⟨fun i H' e hi => ?_, fun i H' e hi => ?_, fun i H' x H2 F2 e1 e2 y hi => ?_⟩⟩
    · rw [enumD_len] at hi
      exact ⟨xs, xs[i]'(by rw [h2.len]; exact hi), sqL_rd h1 e, by simp⟩
    · rw [enumD_len] at hi
      exact ⟨xs, sqL_rd h1 e, by rw [h2.len]; exact hi⟩
    · obtain ⟨T, x, rfl, hT, rfl, y⟩ := y
      obtain ⟨d, hd, rd⟩ := h2.get' (y xs (sqL_rd h1 (e1.trans e2)))
      have g := Gr.new (o := .tup [.int (i : Nat), x]) e2 hT
      refine ⟨_, upd F2 T (.tup [.int (i : Nat), x]), enumD_get ds 0 i hd, g, .tup upd_same (.cons ?_ (.cons ((rd.up e1).up g.ff) .nil))⟩
      rw [Nat.zero_add]
      exact .int _
theorem ei_zip {K : PySem.W.Frag} {t : TA} {Q : List D → Env → Prop} (h : EA t ρ fun es ρ1 => ∃ ds fs, es = [.list ds, .list fs] ∧ Q (List.zipWith (fun d f => PyData.tuple [d, f]) ds fs) ρ1) : EI (iZip K t) ρ Q := fun B ad σ F H w R z =>
  h B ad σ F H w _ fun es ρ1 vs F1 H1 q p r => by
    obtain ⟨ds, fs, rfl, q⟩ := q
    obtain ⟨v, u, rfl, rv, ru⟩ := r.two
    obtain ⟨a, xs, rfl, h1, h2⟩ := rv.lst_inv
    obtain ⟨b, ys, rfl, g1, g2⟩ := ru.lst_inv
    refine ⟨a, b, xs, ys, rfl, sqL_rd h1 p.wa.gr.fh, sqL_rd g1 p.wa.gr.fh, z _ ρ1 _ F1 H1 q p ⟨fun i H' e hi => ?_, fun i H' e hi => ?_, fun i H' x H2 F2 e1 e2 y hi => ?_⟩⟩
    · rw [List.length_zipWith] at hi
      exact ⟨xs, ys, xs[i]'(by rw [h2.len]; omega), ys[i]'(by rw [g2.len]; omega), sqL_rd h1 e, sqL_rd g1 e, by simp, by simp⟩
    · rw [List.length_zipWith] at hi
      exact ⟨xs, ys, sqL_rd h1 e, sqL_rd g1 e, by rw [h2.len, g2.len]; omega⟩
    · obtain ⟨T, x, y', rfl, hT, rfl, y1, y2⟩ := y
      obtain ⟨d, hd, rd⟩ := h2.get' (y1 xs (sqL_rd h1 (e1.trans e2)))
      obtain ⟨f, hf, rf⟩ := g2.get' (y2 ys (sqL_rd g1 (e1.trans e2)))
      have g := Gr.new (o := .tup [x, y']) e2 hT
      exact ⟨_, upd F2 T (.tup [x, y']), by rw [List.getElem?_zipWith, hd, hf], g, .tup upd_same (.cons ((rd.up e1).up g.ff) (.cons ((rf.up e1).up g.ff) .nil))⟩
end

/-! ### comprehensions -/
section
variable {ρ ρ' : Env} {te : TE} {tt : TT} {wi : TI} {g : TG}
/-- vs's slots as in the first, the others as in the second -/
def unwA : Nat → List Nat → Env → Env → Env
  | k, vs, a :: ρ, b :: ρ' => (if vs.contains k = true then a else b) :: unwA (k + 1) vs ρ ρ'
  | _, _, _, _ => []
abbrev unw (vs : List Nat) (ρ ρ' : Env) : Env := unwA 0 vs ρ ρ'
theorem unwA_len : ∀ {k : Nat} {vs : List Nat} {ρ ρ' : Env}, ρ'.length = ρ.length → (unwA k vs ρ ρ').length = ρ.length
  | _, _, [], [], _ => rfl
  | _, _, [], _ :: _, h => by simp at h
  | _, _, _ :: _, [], h => by simp at h
  | k, vs, a :: ρ, b :: ρ', h => by
    show (unwA (k + 1) vs ρ ρ').length + 1 = ρ.length + 1
    rw [unwA_len (by simpa using h)]
theorem unwA_get : ∀ {k : Nat} {vs : List Nat} {ρ ρ' : Env} {i : Nat}, ρ'.length = ρ.length → (unwA k vs ρ ρ')[i]? = if k + i ∈ vs then ρ[i]? else ρ'[i]?
  | _, _, [], [], i, _ => by simp [unwA]
  | _, _, [], _ :: _, _, h => by simp at h
  | _, _, _ :: _, [], _, h => by simp at h
  | k, vs, a :: ρ, b :: ρ', 0, h => by
    show some (if vs.contains k = true then a else b) = if k + 0 ∈ vs then some a else some b
    by_cases hk : k ∈ vs
    · rw [if_pos (by simpa using hk), if_pos (by simpa using hk)]
    · rw [if_neg (by simpa using hk), if_neg (by simpa using hk)]
  | k, vs, a :: ρ, b :: ρ', i + 1, h => by
    show (unwA (k + 1) vs ρ ρ')[i]? = if k + (i + 1) ∈ vs then ρ[i]? else ρ'[i]?
    rw [unwA_get (by simpa using h), show k + 1 + i = k + (i + 1) by omega]
/-- the slots at vs hold nothing that is owned -/
def isPl : Option Slot → Bool
  | some (.own _) => false
  | some (.st _) => false
  | _ => true
def Plain (ρ : Env) (vs : List Nat) : Prop := ∀ i ∈ vs, isPl ρ[i]? = true
theorem Plain.ad {B : Base} {ad : Nat → List Addr} {σ : St} {F H : Hp} {vs : List Nat} (w : WA B ad ρ σ F H) (pl : Plain ρ vs) : ∀ j ∈ vs, ad j = [] := fun j hj => by
  have k := pl j hj
  cases e : ρ[j]? with
  | none => exact w.out j e
  | some s =>
    have q := w.sl j s e
    rw [e] at k
    cases s with
    | emp => exact q
    | val d => exact q.1
    | own _ => cases k
    | st _ => cases k
theorem WA.wiped {B : Base} {ad : Nat → List Addr} {σ : St} {F H : Hp} {vs : List Nat} (w : WA B ad ρ σ F H) (pl : Plain ρ vs) : WA B ad (wipeE ρ vs) (wipe σ vs) F H where
  gr := w.gr
  len := by rw [wipe_length, wipeE_len]; exact w.len
  sl := fun i s e => by
    rw [wipeE_get] at e
    rw [wipe_get]
    by_cases h : i ∈ vs ∧ i < ρ.length
    · rw [if_pos h] at e
      cases e
      exact pl.ad w i h.1
    · rw [if_neg h] at e
      rw [if_neg (by rw [w.len]; exact h)]
      exact w.sl i s e
  fz := w.fz
  dj := w.dj
  out := fun i e => by
    rw [wipeE_get] at e
    by_cases h : i ∈ vs ∧ i < ρ.length
    · rw [if_pos h] at e; cases e
    · rw [if_neg h] at e; exact w.out i e
  pin := w.pin.to fun S e => by
    rw [wipeE_get] at e
    by_cases h : 0 ∈ vs ∧ 0 < ρ.length
    · rw [if_pos h] at e; cases e
    · rw [if_neg h] at e
      exact ⟨⟨S, e⟩, by rw [wipe_get, if_neg (by rw [w.len]; exact h)], rfl⟩
theorem wipe_eq {σ σ' : St} {vs : List Nat} (h : wipe σ' vs = wipe σ vs) {i : Nat} (hi : i ∉ vs) : σ'[i]? = σ[i]? := by
  have e := congrArg (fun l => l[i]?) h
  simp only [wipe_get] at e
  rwa [if_neg (fun z => hi z.1), if_neg (fun z => hi z.1)] at e
/-- behind the block's turn: the outer slots again -/
theorem Post.unwiped {B : Base} {ad : Nat → List Addr} {σ σ2 : St} {F H F' H' : Hp} {vs : List Nat} {ρ1 ρ2 : Env} (w : WA B ad ρ1 σ F H) (pl : Plain ρ1 vs)
    (hσ : wipe σ2 vs = wipe σ vs) (fr : ∀ i, i ∉ vs → ρ2[i]? = (wipeE ρ1 vs)[i]?) (w2 : WA B ad ρ2 σ2 F H) (p : Post B ad σ2 ρ2 F H ρ' F' H') : Post B ad σ ρ1 F H (unw vs ρ1 ρ') F' H' := by
  have hl : ρ'.length = ρ1.length := by
    have l1 := p.wa.len
    have l2 := congrArg List.length hσ
    rw [wipe_length, wipe_length] at l2
    rw [← l1, l2, w.len]
  have pa := pl.ad w
  have ms : ∀ a, MS ad ρ2 a → MS ad ρ1 a := fun a ⟨i, S, e, m⟩ => by
    have hi : i ∉ vs := fun z => by rw [pa i z] at m; cases m
    rw [fr i hi, wipeE_get, if_neg (fun z => hi z.1)] at e
    exact ⟨i, S, e, m⟩
  refine ⟨⟨p.wa.gr, by rw [unwA_len hl]; exact w.len, fun i s e => ?_, p.wa.fz, p.wa.dj, fun i e => ?_, fun s as hp S e => ?_⟩, ⟨p.gr.ff, p.gr.fh, fun a o e m => p.gr.kp a o e fun z => m (ms a z), p.gr.al, p.gr.fr⟩, fun i S e => ?_⟩
  · rw [unwA_get hl, Nat.zero_add] at e
    by_cases hi : i ∈ vs
    · rw [if_pos hi] at e
      have k := w.sl i s e
      have q := pl i hi
      rw [e] at q
      cases s with
      | emp => exact k
      | val d =>
        obtain ⟨k, v, e, r⟩ := k
        exact ⟨k, v, e, r.up p.gr.ff⟩
      | own _ => cases q
      | st _ => cases q
    · rw [if_neg hi] at e
      rw [← wipe_eq hσ hi]
      exact p.wa.sl i s e
  · rw [List.getElem?_eq_none_iff, unwA_len hl, ← hl, ← List.getElem?_eq_none_iff] at e
    exact p.wa.out i e
  · rw [unwA_get hl, Nat.zero_add] at e
    by_cases hi : 0 ∈ vs
    · rw [if_pos hi] at e
      have q := pl 0 hi
      rw [e] at q
      cases q
    · rw [if_neg hi] at e
      rw [← wipe_eq hσ hi]
      exact p.wa.pin s as hp S e
  · rw [unwA_get hl, Nat.zero_add] at e
    by_cases hi : i ∈ vs
    · rw [if_pos hi] at e
      exact ⟨S, e⟩
    · rw [if_neg hi] at e
      obtain ⟨S', e'⟩ := p.sh i S e
      rw [fr i hi, wipeE_get, if_neg (fun z => hi z.1)] at e'
      exact ⟨S', e'⟩
/-- [e for target in ..], by an invariant over the turn, the items made, the slots -/
theorem eo_lc {vs : List Nat} {Q : List D → Env → Prop} (h : EI wi ρ fun ds ρ1 => ∃ I : Nat → List D → Env → Prop, I 0 [] ρ1 ∧
    (∀ k d acc ρ', ds[k]? = some d → I k acc ρ' → Plain ρ' vs ∧ acc.length < 1000000 ∧ SG vs g d (wipeE ρ' vs) fun ρ2 => ET tt ρ2 fun b ρ3 => (b = true → EX te ρ3 fun e ρ4 => I (k + 1) (acc ++ [e]) (unw vs ρ' ρ4)) ∧ (b = false → I (k + 1) acc (unw vs ρ' ρ3))) ∧
    ∀ acc ρ', I ds.length acc ρ' → Q acc ρ') : EO (tLc wi g tt te vs) ρ Q := fun B ad σ F H w Z z => by
  refine h B ad σ F H w _ fun ds ρ1 J F1 H1 q1 p1 it => ?_
  obtain ⟨I, i0, turn, done⟩ := q1
  intro Dl hD
  have hDH : H Dl = none := by
    cases q : H Dl with
    | none => rfl
    | some o => exact absurd hD (p1.gr.al Dl (by rw [q]; intro z; cases z))
  have nw := p1.wa.newp hD
  -- at each turn: the outer slots, over a heap in which Dl is not seen
  let Inv := fun (i : Nat) (H' : Hp) => ∃ acc ρ' F' vs', I i acc ρ' ∧ Post B ad σ ρ1 F1 H1 ρ' F' H' ∧ F' Dl = none ∧ H' Dl = some (.lst vs') ∧ RpA F' vs' acc
  refine ⟨fun i m H' => m = ds.length - i ∧ i ≤ ds.length ∧ Inv i H', ⟨_, rfl, Nat.zero_le _, [], ρ1, F1, [], i0, Post.of p1.wa (Gr.heap p1.wa.gr.fh (same_upd hD)), nw.1, upd_same, .nil⟩, ?_⟩
  rintro i m H' ⟨rfl, hi, acc, ρ', F', vs', iv, P, hF, hH, ra⟩
  by_cases hlt : i < ds.length
  · refine .inr ⟨it.go i H' (P.gr.ff.trans P.wa.gr.fh) hlt, fun H2 => Inv (i + 1) H2, fun H2 k => ⟨ds.length - (i + 1), by omega, rfl, hlt, k⟩, fun x H2 y => ?_⟩
    obtain ⟨d, F2, e, gr, rx⟩ := it.yld i H' x H2 F' P.gr.ff P.wa.gr.fh y hlt
    obtain ⟨pl, hz, k⟩ := turn i d acc ρ' e iv
    have P2 := P.trans (Post.of P.wa gr)
    have w2 := P.wa.grow gr
    have hF2 : F2 Dl = none := gr.fr Dl (by rw [hH]; intro z; cases z) hF
    have hH2 : H2 Dl = some (.lst vs') := gr.kp Dl _ hH id
    have nms : ∀ (ρ2 : Env), ¬ MS ad ρ2 Dl := fun ρ2 ⟨j, S, _, m⟩ => nw.2.2 j m
    refine k B ad (wipe σ vs) F2 H2 x (w2.wiped pl) (pl.ad w2) rx _ fun ρ2 σ2 q wb e2 fr => ?_
    have e2' : wipe σ2 vs = wipe σ vs := by
      rw [e2]
      apply List.ext_getElem?
      intro j
      rw [wipe_get, wipe_get, wipe_length]
      split
      · rfl
      · first | rfl | rw [wipe_get, if_neg (by assumption)]
    refine ⟨e2', q B ad σ2 F2 H2 wb _ fun b ρ3 F3 H3 q3 p3 => ?_⟩
    cases b with
    | true =>
      show te σ2 H3 _
      refine q3.1 rfl B ad σ2 F3 H3 p3.wa _ fun e ρ4 v F4 H4 q4 p4 rv => ?_
      have p34 := p3.trans p4
      have pu := Post.unwiped w2 pl e2' fr wb p34
      have hH4 : H4 Dl = some (.lst vs') := p34.gr.kp Dl _ hH2 (nms _)
      have hF4 : F4 Dl = none := p34.gr.fr Dl (by rw [hH2]; intro z; cases z) hF2
      have ra4 : RpA F4 (vs' ++ [v]) (acc ++ [e]) := (ra.up (gr.ff.trans p34.gr.ff)).app (.cons rv .nil)
      refine ⟨vs', hH4, Nat.lt_of_lt_of_le (by rw [ra.len]; exact hz) (by decide), acc ++ [e], _, F4, vs' ++ [v], q4, ?_, hF4, upd_same, ra4⟩
      -- Dl grows: nobody sees it
      have pt := P2.trans pu
      have ne1 : ∀ a o, H1 a = some o → a ≠ Dl := fun a o q z => by rw [z, hD] at q; cases q
      have neF : ∀ a o, F4 a = some o → a ≠ Dl := fun a o q z => by rw [z, hF4] at q; cases q
      refine ⟨⟨⟨pt.wa.gr.ff, fun a o q => by rw [upd_ne (neF a o q)]; exact pt.wa.gr.fh a o q, fun a o q m => ?_, fun a q => ?_, pt.wa.gr.fr⟩, pt.wa.len, fun j s q => ?_, pt.wa.fz, pt.wa.dj, pt.wa.out, pt.wa.pin⟩, ⟨pt.gr.ff, fun a o q => by rw [upd_ne (neF a o q)]; exact pt.gr.fh a o q, fun a o q m => by rw [upd_ne (ne1 a o q)]; exact pt.gr.kp a o q m, fun a q => ?_, pt.gr.fr⟩, pt.sh⟩
      · rw [upd_ne (fun z => by rw [z, nw.2.1] at q; cases q)]
        exact pt.wa.gr.kp a o q m
      · by_cases ha : a = Dl
        · rw [ha, upd_same]; intro z; cases z
        · rw [upd_ne ha]; exact pt.wa.gr.al a q
      · have k := pt.wa.sl j s q
        cases s with
        | emp => exact k
        | val d => exact k
        | own es =>
          obtain ⟨p, ws, a1, a2, a3, a4, a5⟩ := k
          refine ⟨p, ws, a1, a2, a3, ?_, a5⟩
          rw [upd_ne (fun z => nw.2.2 j (by rw [a1, z]; simp))]
          exact a4
        | st S =>
          obtain ⟨s, a1, a2⟩ := k
          exact ⟨s, a1, a2.keep (Same.refl _) fun a m o e => by
            rw [upd_ne (fun z => nw.2.2 j (by rw [← z]; exact m))]
            exact e⟩
      · by_cases ha : a = Dl
        · rw [ha, upd_same]; intro z; cases z
        · rw [upd_ne ha]; exact pt.gr.al a q
    | false =>
      show Inv (i + 1) H3
      have pu := Post.unwiped w2 pl e2' fr wb p3
      exact ⟨acc, _, F3, vs', q3.2 rfl, P2.trans pu, p3.gr.fr Dl (by rw [hH2]; intro z; cases z) hF2, p3.gr.kp Dl _ hH2 (nms _), ra.up (gr.ff.trans p3.gr.ff)⟩
  · have e : i = ds.length := by omega
    subst e
    exact .inl ⟨it.stop _ H' (P.gr.ff.trans P.wa.gr.fh) (Nat.le_refl _), z acc ρ' Dl vs' F' H' (done acc ρ' iv) (p1.trans P) hF hDH hH ra⟩
theorem et_yes {Q : Bool → Env → Prop} (q : Q true ρ) : ET tYes ρ Q := fun B ad σ F H w Z z => z true ρ F H q (Post.refl w)
/-- items that read off a list of one's own; nothing changes: the filter and the map -/
theorem eo_lcP {α : Type} {vs : List Nat} {Q : List D → Env → Prop} (f : α → Bool) (gg : α → D) (h : EI wi ρ fun ds ρ1 => ∃ (xs : List α) (enc : α → D), ds = xs.map enc ∧ xs.length < 1000000 ∧ Plain ρ1 vs ∧
    (∀ x ∈ xs, SG vs g (enc x) (wipeE ρ1 vs) fun ρ2 => unw vs ρ1 ρ2 = ρ1 ∧ ET tt ρ2 fun b ρ3 => b = f x ∧ ρ3 = ρ2 ∧ (f x = true → EX te ρ2 fun e ρ4 => e = gg x ∧ ρ4 = ρ2)) ∧ Q ((xs.filter f).map gg) ρ1) : EO (tLc wi g tt te vs) ρ Q := by
  refine eo_lc fun B ad σ F H w R z => h B ad σ F H w R fun ds ρ1 J F' H' q p it => z ds ρ1 J F' H' ?_ p it
  obtain ⟨xs, enc, rfl, hz, pl, turn, q⟩ := q
  refine ⟨fun k acc ρ' => ρ' = ρ1 ∧ acc = ((xs.take k).filter f).map gg, ⟨rfl, by simp⟩, ?_, ?_⟩
  · rintro k d acc ρ' e ⟨rfl, rfl⟩
    rw [List.getElem?_map] at e
    obtain ⟨x, ex, rfl⟩ : ∃ x, xs[k]? = some x ∧ enc x = d := by
      cases hx : xs[k]? with
      | none => rw [hx] at e; cases e
      | some x => rw [hx] at e; exact ⟨x, rfl, Option.some.inj e⟩
    have hm : x ∈ xs := List.mem_of_getElem? ex
    have hk : k < xs.length := (List.getElem?_eq_some_iff.mp ex).1
    have et : xs.take (k + 1) = xs.take k ++ [x] := by
      rw [List.take_succ, ex]; rfl
    refine ⟨pl, ?_, fun B ad σ F H v w hJ r Z z => turn x hm B ad σ F H v w hJ r Z fun ρ2 σ2 q w2 a b => z ρ2 σ2 (fun B ad σ F H w Z z => q.2 B ad σ F H w Z fun b ρ3 F' H' q2 p => z b ρ3 F' H' ⟨fun hb => ?_, fun hb => ?_⟩ p) w2 a b⟩
    · rw [List.length_map]
      exact Nat.lt_of_le_of_lt (Nat.le_trans (List.length_filter_le _ _) (by rw [List.length_take]; exact Nat.min_le_right _ _)) hz
    · obtain ⟨rfl, rfl, q2⟩ := q2
      refine (q2 hb).imp fun e ρ4 q => ?_
      obtain ⟨rfl, rfl⟩ := q
      exact ⟨‹_ ∧ _›.1, by rw [et, List.filter_append, List.map_append, List.filter_cons, if_pos hb]; rfl⟩
    · obtain ⟨rfl, rfl, q2⟩ := q2
      exact ⟨‹_ ∧ _›.1, by rw [et, List.filter_append, List.filter_cons, if_neg (by rw [hb]; exact Bool.false_ne_true), List.filter_nil, List.append_nil]⟩
  · rintro acc ρ' ⟨rfl, rfl⟩
    rw [List.length_map, List.take_length]
    exact q
end

/-! ### calls -/
/-- what a def of data promises: R tells of the arguments and of what is wanted of the answer -/
def spP (R : List D → (D → Prop) → Prop) : Sp := fun vs H Q _ => ∃ F ds Z, Same F H ∧ RpA F vs ds ∧ R ds Z ∧ ∀ d v F' H', Z d → Gr Non F H F' H' → Rp F' v d → Q v H'
/-- the same with a state ahead of the arguments -/
def spS (R : Stt → List D → (D → Stt → Prop) → Prop) : Sp := fun vs H Q _ => ∃ F s as S us ds Z, vs = .ref s :: us ∧ Same F H ∧ StAt F H S s as ∧ (∀ a ∈ as, F a = none) ∧ RpA F us ds ∧ R S ds Z ∧
  ∀ d S' v F' H', Z d S' → Gr (· ∈ as) F H F' H' → StAt F' H' S' s as → (∀ a ∈ as, F' a = none) → Rp F' v d → Q v H'
/-- a new state is handed back -/
def spN (R : List D → (Stt → Prop) → Prop) : Sp := fun vs H Q _ => ∃ F ds Z, Same F H ∧ RpA F vs ds ∧ R ds Z ∧ ∀ S s as F' H', Z S → Gr Non F H F' H' → StAt F' H' S s as → (∀ a ∈ as, F' a = none ∧ H a = none) → Q (.ref s) H'
section
variable {ρ ρ' : Env} {te : TE} {tt : TT} {t : TA} {E : XK}
theorem ex_call {R : List D → (D → Prop) → Prop} {Q : D → Env → Prop} (h : EA t ρ fun ds ρ1 => R ds fun d => Q d ρ1) : EX (tCall (spP R) [] E t) ρ Q := fun B ad σ F H w Z z =>
  h B ad σ F H w _ fun ds ρ1 vs F1 H1 q p r => by
    rw [List.append_nil]
    exact ⟨F1, ds, _, p.wa.gr.fh, r, q, fun d v F' H' zd g rv => z d ρ1 v F' H' zd (p.trans (Post.of p.wa g)) rv⟩
/-- f(state, ..) -/
theorem ex_callS {R : Stt → List D → (D → Stt → Prop) → Prop} {i : Nat} {S0 : Stt} {Q : D → Env → Prop} (h0 : ρ[i]? = some (.st S0)) (h : EA t ρ fun ds ρ1 => ∃ S, ρ1[i]? = some (.st S) ∧ R S ds fun d S' => Q d (ρ1.set i (.st S'))) :
    EX (tCall (spS R) [] E (tCons (tVar i) t)) ρ Q := fun B ad σ F H w Z z => by
  obtain ⟨s0, k0, _⟩ := w.sl i _ h0
  refine ⟨_, k0, h B ad σ F H w _ fun ds ρ1 vs F1 H1 q p r => ?_⟩
  obtain ⟨S, h1, q⟩ := q
  obtain ⟨s, k1, k2⟩ := p.wa.sl i _ h1
  rw [k0] at k1
  cases k1
  have hi : i < ρ1.length := (List.getElem?_eq_some_iff.mp h1).1
  rw [List.append_nil]
  refine ⟨F1, s0, ad i, S, vs, ds, _, rfl, p.wa.gr.fh, k2, fun a m => (p.wa.fz i a m).1, r, q, fun d S' v F' H' zd g st fn rv => ?_⟩
  have nm : ∀ j a, j ≠ i → a ∈ ad j → a ∉ ad i := fun j a hj m m' => hj (p.wa.dj j i a m m')
  refine z d _ v F' H' zd (p.trans ⟨⟨?_, ?_, fun j sl e => ?_, fun j a m => ?_, p.wa.dj, fun j e => p.wa.out j (get_set' e), p.wa.pin.to fun S2 e => by
    rcases get_set e with ⟨e0, _⟩ | ⟨hj, e⟩
    · exact ⟨⟨S, by rw [e0]; exact h1⟩, rfl, rfl⟩
    · exact ⟨⟨S2, e⟩, rfl, rfl⟩⟩, ⟨g.ff, g.fh, fun a o e m => g.kp a o e fun z => m ⟨i, S, h1, z⟩, g.al, g.fr⟩, fun j S'' e => ?_⟩) rv
  · refine ⟨p.wa.gr.ff.trans g.ff, g.fh, fun a o e m => g.kp a o (p.wa.gr.kp a o e m) fun z => ?_, fun a e => g.al a (p.wa.gr.al a e), fun a e z => g.fr a (p.wa.gr.al a e) (p.wa.gr.fr a e z)⟩
    rcases (p.wa.fz i a z).2 with q | q
    · rw [q] at e; cases e
    · exact m q.1
  · rw [List.length_set]; exact p.wa.len
  · rcases get_set e with ⟨rfl, rfl⟩ | ⟨hj, e⟩
    · exact ⟨s0, k0, st⟩
    · have k := p.wa.sl j sl e
      cases sl with
      | emp => exact k
      | val d =>
        obtain ⟨k, v, e, r⟩ := k
        exact ⟨k, v, e, r.up g.ff⟩
      | own es =>
        obtain ⟨q, ws, a1, a2, a3, a4, a5⟩ := k
        exact ⟨q, ws, a1, a2, a3, g.kp q _ a4 (nm j q hj (by rw [a1]; simp)), a5.up g.ff⟩
      | st S2 =>
        obtain ⟨s2, a1, a2⟩ := k
        exact ⟨s2, a1, a2.keep g.ff fun a m o e => g.kp a o e (nm j a hj m)⟩
  · refine ⟨?_, (p.wa.fz j a m).2⟩
    by_cases hj : j = i
    · subst hj; exact fn a m
    · exact g.fr a (p.wa.lv m) (p.wa.fz j a m).1
  · rcases get_set e with ⟨rfl, _⟩ | ⟨_, e⟩
    · exact ⟨S, h1⟩
    · exact ⟨S'', e⟩
/-- state = f(..) -/
theorem sx_asgN {R : List D → (Stt → Prop) → Prop} {i : Nat} {P : Po} (h00 : i ≠ 0) (h : EA t ρ fun ds ρ1 => R ds fun S => NX P (ρ1.set i (.st S))) : SX (tAsg (tCall (spN R) [] E t) (gName i)) ρ P := fun B σ F H w Dn n r b c => by
  obtain ⟨ad, w⟩ := w
  refine h B ad σ F H w _ fun ds ρ1 vs F1 H1 q p rv => ?_
  rw [List.append_nil]
  refine ⟨F1, ds, _, p.wa.gr.fh, rv, q, fun S s as F' H' zd g st fn => ?_⟩
  obtain ⟨ρ2, l, q⟩ := zd
  have w2 := p.wa.grow g
  have nw : ∀ a ∈ as, B.H0 a = none ∧ ∀ j, a ∉ ad j := fun a m => (p.wa.newp (fn a m).2).2
  refine n ρ2 _ F' H' q (W.weak ⟨fun k => if k = i then (if i < ρ1.length then as else []) else ad k, w2.gr, by rw [List.length_set, List.length_set]; exact w2.len, fun j sl e => ?_, fun j q m => ?_, fun j1 j2 q m1 m2 => ?_, fun j e => ?_, w2.pin.to fun S2 e => by
    rcases get_set e with ⟨e0, _⟩ | ⟨hj, e⟩
    · exact absurd e0.symm h00
    · exact ⟨⟨S2, e⟩, List.getElem?_set_ne (Ne.symm hj), if_neg hj⟩⟩ l)
  · rcases get_set e with ⟨rfl, rfl⟩ | ⟨hj, e'⟩
    · have hi : j < ρ1.length := by
        have := (List.getElem?_eq_some_iff.mp e).1
        rwa [List.length_set] at this
      exact ⟨s, List.getElem?_set_self (by rw [w2.len]; exact hi), by rw [if_pos rfl, if_pos hi]; exact st⟩
    · rw [if_neg hj, List.getElem?_set_ne (Ne.symm hj)]
      exact w2.sl j sl e'
  · by_cases hj : j = i
    · simp only [if_pos hj] at m
      by_cases hi : i < ρ1.length
      · simp only [if_pos hi] at m
        exact ⟨(fn q m).1, .inl (nw q m).1⟩
      · simp [if_neg hi] at m
    · simp only [if_neg hj] at m
      exact w2.fz j q m
  · have g : ∀ j, q ∈ (if j = i then (if i < ρ1.length then as else []) else ad j) → (j = i ∧ q ∈ as) ∨ (j ≠ i ∧ q ∈ ad j) := fun j m => by
      by_cases hj : j = i
      · simp only [if_pos hj] at m
        by_cases hi : i < ρ1.length
        · simp only [if_pos hi] at m
          exact .inl ⟨hj, m⟩
        · simp [if_neg hi] at m
      · simp only [if_neg hj] at m
        exact .inr ⟨hj, m⟩
    rcases g j1 m1 with ⟨a1, b1⟩ | ⟨a1, b1⟩ <;> rcases g j2 m2 with ⟨a2, b2⟩ | ⟨a2, b2⟩
    · rw [a1, a2]
    · exact absurd b2 ((nw q b1).2 j2)
    · exact absurd b1 ((nw q b2).2 j1)
    · exact w2.dj j1 j2 q b1 b2
  · show (if j = i then (if i < ρ1.length then as else []) else ad j) = []
    have e' := get_set' e
    by_cases hj : j = i
    · subst hj
      rw [if_pos rfl, if_neg (by rw [List.getElem?_eq_none_iff] at e'; omega)]
    · rw [if_neg hj]
      exact w2.out j e'
end

/-! ### defs -/
def startE (N : List Str) (ds : List D) : Env := ds.map .val ++ List.replicate (N.length - ds.length) .emp
section
variable {P : Program} {w : World} {K : PySem.W.Frag} {mg : Str → Option Value} {base : Heap} {x qual : Str} {st : Stmt} {f : Addr} {fd : FuncData} {N ps : List Str} {k : Nat}
theorem start_get {N : List Str} {us : List V} {i : Nat} {v : V} (h : us[i]? = some v) : (L2.start N us)[i]? = some (some v) := by
  unfold L2.start
  have hi := (List.getElem?_eq_some_iff.mp h).1
  rw [List.getElem?_append_left (by rw [List.length_map]; exact hi), List.getElem?_map, h]
  rfl
theorem startE_get {N : List Str} {ds : List D} {i : Nat} {s : Slot} (h : (startE N ds)[i]? = some s) : (∃ d, ds[i]? = some d ∧ s = .val d) ∨ s = .emp := by
  unfold startE at h
  by_cases hi : i < ds.length
  · rw [List.getElem?_append_left (by rw [List.length_map]; exact hi), List.getElem?_map] at h
    cases e : ds[i]? with
    | none => rw [e] at h; cases h
    | some d => rw [e] at h; exact .inl ⟨d, rfl, (Option.some.inj h).symm⟩
  · rw [List.getElem?_append_right (by rw [List.length_map]; omega)] at h
    exact .inr (List.eq_of_mem_replicate (List.mem_of_getElem? h))
theorem fn_pure {R : List D → (D → Prop) → Prop} (F : Fun K x qual st f fd) (S : FnScope N ps (defScope st)) (len : ∀ ds Z, R ds Z → ds.length = ps.length)
    (body : ∀ (cdv : Value) (A : Around) (outer : List PySem.Env) (s : Shared) (H : Hp) (E : XK), Room k (A.deeper (PyProof.Rows.envOfC qual (defScope st) s.heap.objs.size f cdv)) →
      ∃ t, PSs (cxOf CX0 P w K mg base N qual (defScope st) f cdv A outer s H E).nox (defBody st) t ∧ ∀ ds Z, R ds Z → SX t (startE N ds) { nx := fun _ => Z .none, rt := fun d _ => Z d }) :
    FnOk P w K mg base CX0 (k + 1) f fd ps (spP R) := by
  refine F.ok S (fun vs H Q E h => ?_) (fun cdv A outer s H vs Q E hr h => ?_)
  · obtain ⟨F, ds, Z, _, r, q, _⟩ := h
    rw [r.len]
    exact len ds Z q
  · obtain ⟨F0, ds, Z, fh, r, q, z⟩ := h
    obtain ⟨t, ht, hs⟩ := body cdv A outer s H E hr
    refine ⟨t, ht, hs ds Z q { F0 := F0, H0 := H, M := Non } (L2.start N vs) F0 H ⟨fun _ => [], Gr.refl fh, ?_, fun i s e => ?_, (fun i p m => by cases m), (fun i j p m => by cases m), fun _ _ => rfl, (fun s as e => by cases e)⟩ _ (fun ρ' σ' F' H' q w' => ?_) (fun d ρ' σ' v F' H' q w' rv => ?_) (fun _ _ _ _ q _ => q.elim) (fun _ _ _ _ q _ => q.elim)⟩
    · unfold L2.start startE
      rw [List.length_append, List.length_append, List.length_map, List.length_map, List.length_replicate, List.length_replicate, r.len]
    · rcases startE_get e with ⟨d, e2, rfl⟩ | rfl
      · obtain ⟨v, e1, rv⟩ := r.get e2
        exact ⟨rfl, v, start_get e1, rv⟩
      · rfl
    · obtain ⟨ad, w'⟩ := w'
      exact z .none .non F' H' q w'.gr .non
    · obtain ⟨ad, w'⟩ := w'
      exact z d v F' H' q w'.gr rv
/-- a def whose first parameter is a state -/
theorem fn_state {R : Stt → List D → (D → Stt → Prop) → Prop} (F : Fun K x qual st f fd) (S : FnScope N ps (defScope st)) (len : ∀ S ds Z, R S ds Z → ds.length + 1 = ps.length)
    (body : ∀ (cdv : Value) (A : Around) (outer : List PySem.Env) (s : Shared) (H : Hp) (E : XK), Room k (A.deeper (PyProof.Rows.envOfC qual (defScope st) s.heap.objs.size f cdv)) →
      ∃ t, PSs (cxOf CX0 P w K mg base N qual (defScope st) f cdv A outer s H E).nox (defBody st) t ∧ ∀ S ds Z, R S ds Z → SX t (.st S :: (ds.map .val ++ List.replicate (N.length - (ds.length + 1)) .emp)) { nx := fun ρ' => ∃ S', ρ'[0]? = some (.st S') ∧ Z .none S', rt := fun d ρ' => ∃ S', ρ'[0]? = some (.st S') ∧ Z d S' }) :
    FnOk P w K mg base CX0 (k + 1) f fd ps (spS R) := by
  refine F.ok S (fun vs H Q E h => ?_) (fun cdv A outer s H vs Q E hr h => ?_)
  · obtain ⟨F, s, as, S, us, ds, Z, rfl, _, _, _, r, q, _⟩ := h
    rw [List.length_cons, r.len]
    exact len S ds Z q
  · obtain ⟨F0, s0, as, S0, us, ds, Z, rfl, fh, sa, fn, r, q, z⟩ := h
    obtain ⟨t, ht, hs⟩ := body cdv A outer s H E hr
    have hm := sa.mem
    have hl : (L2.start N (.ref s0 :: us)).length = (Slot.st S0 :: (ds.map Slot.val ++ List.replicate (N.length - (ds.length + 1)) Slot.emp)).length := by
      unfold L2.start
      simp [r.len]
    have fin : ∀ (d : D) (ρ' : Env) (σ' : St) (v : V) (F' H' : Hp), (∃ S', ρ'[0]? = some (Slot.st S') ∧ Z d S') → W { F0 := F0, H0 := H, M := (· ∈ as), pin := some (s0, as) } ρ' σ' F' H' → Rp F' v d → Q v H' := fun d ρ' σ' v F' H' ⟨S', e, zd⟩ ⟨ad, w'⟩ rv => by
      obtain ⟨e1, e2⟩ := w'.pin s0 as rfl S' e
      obtain ⟨s1, k1, k2⟩ := w'.sl 0 _ e
      rw [e1] at k1
      cases k1
      rw [e2] at k2
      exact z d S' v F' H' zd w'.gr k2 (fun a m => (w'.fz 0 a (by rw [e2]; exact m)).1) rv
    refine ⟨t, ht, hs S0 ds Z q { F0 := F0, H0 := H, M := (· ∈ as), pin := some (s0, as) } (L2.start N (.ref s0 :: us)) F0 H ⟨fun i => if i = 0 then as else [], Gr.refl fh, hl, fun i sl e => ?_, fun i p m => ?_, fun i j p m1 m2 => ?_, fun i e => ?_, fun s as' e S _ => ?_⟩ _ (fun ρ' σ' F' H' q w' => fin .none ρ' σ' .non F' H' q w' .non) (fun d ρ' σ' v F' H' q w' rv => fin d ρ' σ' v F' H' q w' rv) (fun _ _ _ _ q _ => q.elim) (fun _ _ _ _ q _ => q.elim)⟩
    · cases i with
      | zero =>
        cases e
        exact ⟨s0, start_get (us := .ref s0 :: us) rfl, by rw [if_pos rfl]; exact sa⟩
      | succ i =>
        have e' : (startE (List.replicate (N.length - 1) "") ds)[i]? = some sl := by
          unfold startE
          rw [List.length_replicate, show N.length - 1 - ds.length = N.length - (ds.length + 1) by omega]
          exact e
        rw [if_neg (Nat.succ_ne_zero i)]
        rcases startE_get e' with ⟨d, e2, rfl⟩ | rfl
        · obtain ⟨v, e1, rv⟩ := r.get e2
          exact ⟨rfl, v, start_get (us := .ref s0 :: us) (by simpa using e1), rv⟩
        · rfl
    · by_cases hi : i = 0
      · rw [if_pos hi] at m
        exact ⟨fn p m, .inr ⟨m, hi⟩⟩
      · rw [if_neg hi] at m; cases m
    · by_cases hi : i = 0
      · by_cases hj : j = 0
        · rw [hi, hj]
        · rw [if_neg hj] at m2; cases m2
      · rw [if_neg hi] at m1; cases m1
    · by_cases hi : i = 0
      · subst hi; cases e
      · exact if_neg hi
    · cases e
      exact ⟨start_get (us := .ref s0 :: us) rfl, if_pos rfl⟩
end
end Pu
namespace Pu
open PySem L2

/-! ### what the defs call: built-ins, one another -/
/-- no name of a built-in is bound by the module -/
structure Bn (mg : Str → Option Value) : Prop where
  len_ : mg "len" = none
  range_ : mg "range" = none
  min_ : mg "min" = none
  max_ : mg "max" = none
  abs_ : mg "abs" = none
  sum_ : mg "sum" = none
  int_ : mg "int" = none
  list_ : mg "list" = none
  tuple_ : mg "tuple" = none
  sorted_ : mg "sorted" = none
  isinstance_ : mg "isinstance" = none
  enumerate_ : mg "enumerate" = none
  zip_ : mg "zip" = none
  set_ : mg "set" = none
  repr_ : mg "repr" = none
  all_ : mg "all" = none
  any_ : mg "any" = none
  dict_ : mg "dict" = none
  reversed_ : mg "reversed" = none
  str_ : mg "str" = none
/-- a def of the module that keeps a promise -/
inductive Cal (P : Program) (w : World) (K : PySem.W.Frag) (mg : Str → Option Value) (base : Heap) (x : Str) (ps : List Str) (sp : Sp) (k : Nat) : Prop
  | mk (f : Addr) (fd : FuncData) (ok : FnOk P w K mg base CX0 k f fd ps sp) (hm : mg x = some (.ref f)) (kp : PySem.W.keepIn K (.ref f) = true) (bd : Binds K fd ps []) : Cal P w K mg base x ps sp k
theorem pe_cal {X : Cx} {k : Nat} {ps : List Str} {sp : Sp} {x : Str} {p pos : Pos} {e : Expr} {es : List Expr} {t : TA} (C : Cal X.prog X.w X.K X.mg X.base x ps sp k) (hr : Room k X.A) (hg : Gl X x) (ha : PA X (e :: es) t)
    (hdb : (x == ("__debug__" : Str)) = false := by decide) (he : starEach (e :: es) X.env = (false, eval e X.env) :: starEach es X.env := by rfl) (hpl : (backTo pos (starEach es X.env)).any (·.1) = false := by rfl) :
    PE X (.Call (.Name x p) (e :: es) [] pos) (tCall sp [] E0 t) := by
  obtain ⟨f, fd, ok, hm, kp, bd⟩ := C
  exact pe_call ok hr hg hm kp bd .nil pass0 ha hdb he hpl
theorem Cal.imp {P : Program} {w : World} {K : PySem.W.Frag} {mg : Str → Option Value} {base : Heap} {x : Str} {ps : List Str} {sp sp' : Sp} {k : Nat} (C : Cal P w K mg base x ps sp k) (h : ∀ vs H Q E, sp' vs H Q E → sp vs H Q E) : Cal P w K mg base x ps sp' k := by
  obtain ⟨f, fd, ok, hm, kp, bd⟩ := C
  exact ⟨f, fd, ok.imp h, hm, kp, bd⟩
theorem Cal.mono {P : Program} {w : World} {K : PySem.W.Frag} {mg : Str → Option Value} {base : Heap} {x : Str} {ps : List Str} {sp : Sp} {j k : Nat} (C : Cal P w K mg base x ps sp j) (h : j ≤ k) : Cal P w K mg base x ps sp k := by
  obtain ⟨f, fd, ok, hm, kp, bd⟩ := C
  exact ⟨f, fd, ok.mono h, hm, kp, bd⟩

/-! ### reading data off the heap -/
section
variable {X : Cx} {pins : List (Addr × Obj)} {σ : St} {F H : Hp} {s : Shared} {d : D} {ds : List D} {v : V} {u : Value} {vs : List V} {us : List Value}
theorem rp_reads (I : Inv X pins σ H s) (e : Same F H) (r : Rp F v d) (ru : RelV v u) : ∃ as, Reads s.heap u d as := Dp.reads I d v u (r.dp e) ru
theorem rpa_reads (I : Inv X pins σ H s) (e : Same F H) (r : RpA F vs ds) (ru : Vals vs us) : ∃ as, ReadsAll s.heap us ds as := Dp.readsAll I ds vs us (r.dp e) ru
mutual
theorem Rp.plain : ∀ (d : D) {v : V}, Rp F v d → d.plain = true
  | .none, _, _ => by simp only [PyData.plain]
  | .bool _, _, _ => by simp only [PyData.plain]
  | .int _, _, _ => by simp only [PyData.plain]
  | .str _, _, _ => by simp only [PyData.plain]
  | .list ds, _, h => by
    cases h with
    | lst _ h => simp only [PyData.plain]; exact RpA.plain ds h
  | .tuple ds, _, h => by
    cases h with
    | tup _ h => simp only [PyData.plain]; exact RpA.plain ds h
  | .dict _, _, h => by cases h
theorem RpA.plain : ∀ (ds : List D) {vs : List V}, RpA F vs ds → PyData.plainAll ds = true
  | [], _, _ => by simp only [PyData.plainAll]
  | d :: ds, _, h => by
    cases h with
    | cons h1 h2 => simp only [PyData.plainAll, Bool.and_eq_true]; exact ⟨Rp.plain d h1, RpA.plain ds h2⟩
end
/-- at most so deep -/
def DpN (n : Nat) (d : D) : Prop := d.depth ≤ n
theorem dpn_int {n : Nat} {i : Int} : DpN n (.int i) := by simp [DpN, PyData.depth]
theorem dpn_bl {n : Nat} {b : Bool} : DpN n (.bool b) := by simp [DpN, PyData.depth]
theorem dpn_str {n : Nat} {x : Str} : DpN n (.str x) := by simp [DpN, PyData.depth]
theorem dpn_non {n : Nat} : DpN n .none := by simp [DpN, PyData.depth]
theorem depthAll_le {n : Nat} : ∀ {ds : List D}, (∀ d ∈ ds, DpN n d) → PyData.depthAll ds ≤ n
  | [], _ => by simp [PyData.depthAll]
  | d :: ds, h => by
    simp only [PyData.depthAll]
    exact Nat.max_le.mpr ⟨h d (by simp), depthAll_le fun e he => h e (by simp [he])⟩
theorem dpn_list {n : Nat} {ds : List D} (h : ∀ d ∈ ds, DpN n d) : DpN (n + 1) (.list ds) := by
  simp only [DpN, PyData.depth]
  exact Nat.succ_le_succ (depthAll_le h)
theorem dpn_tup {n : Nat} {ds : List D} (h : ∀ d ∈ ds, DpN n d) : DpN (n + 1) (.tuple ds) := by
  simp only [DpN, PyData.depth]
  exact Nat.succ_le_succ (depthAll_le h)
theorem dpn_map {α : Type} {n : Nat} {xs : List α} {f : α → D} (h : ∀ x ∈ xs, DpN n (f x)) : ∀ d ∈ xs.map f, DpN n d := fun d hd => by
  obtain ⟨x, hx, rfl⟩ := List.mem_map.mp hd
  exact h x hx
theorem dpn_nil {n : Nat} : ∀ d ∈ ([] : List D), DpN n d := fun d h => by cases h
theorem dpn_cons {n : Nat} {d : D} {ds : List D} (h : DpN n d) (hs : ∀ e ∈ ds, DpN n e) : ∀ e ∈ d :: ds, DpN n e := fun e he => by
  rcases List.mem_cons.mp he with rfl | he
  · exact h
  · exact hs e he
theorem DpN.up {n m : Nat} {d : D} (h : DpN n d) (k : n ≤ m) : DpN m d := Nat.le_trans h k
end

/-! ### ==, != of data at depth 64 -/
section
variable {X : Cx} {K : PySem.W.Frag} {d d1 d2 : D} {ds es : List D} {Q : D → Prop}
def rEqP (K : PySem.W.Frag) : R2 := fun x y H Q => ∃ d e, Dp K H x d ∧ Dp K H y e ∧ d.plain = true ∧ e.plain = true ∧ min d.depth e.depth ≤ 60 ∧ Q (.bl (PyData.eqv d e)) H
def rNeP (K : PySem.W.Frag) : R2 := fun x y H Q => ∃ d e, Dp K H x d ∧ Dp K H y e ∧ d.plain = true ∧ e.plain = true ∧ min d.depth e.depth ≤ 60 ∧ Q (.bl (!PyData.eqv d e)) H
theorem op_eqP (hu : X.A.units + 64 < cLine) : OpR X (compareOp .Eq) (rEqP X.K) := by
  rintro pins s σ H x y v u Q I rx ry ⟨d, e, hd, he, pd, pe, hz, q⟩
  obtain ⟨as, r1⟩ := Dp.reads I d x v hd rx
  obtain ⟨bs, r2⟩ := Dp.reads I e y u he ry
  exact PySem.SeqAt.eq_plain r1 r2 pd pe (by omega) ⟨.bl _, H, I, rfl, q⟩
theorem op_neP (hu : X.A.units + 64 < cLine) : OpR X (compareOp .NotEq) (rNeP X.K) := by
  rintro pins s σ H x y v u Q I rx ry ⟨d, e, hd, he, pd, pe, hz, q⟩
  obtain ⟨as, r1⟩ := Dp.reads I d x v hd rx
  obtain ⟨bs, r2⟩ := Dp.reads I e y u he ry
  exact PySem.SeqAt.ne_plain r1 r2 pd pe (by omega) ⟨.bl _, H, I, rfl, q⟩
theorem opd_eqP (h : min d1.depth d2.depth ≤ 60) (k : Q (.bool (PyData.eqv d1 d2))) : OpD (rEqP K) d1 d2 Q := fun F H x y e rx ry Z z => ⟨d1, d2, rx.dp e, ry.dp e, Rp.plain _ rx, Rp.plain _ ry, h, z _ _ F H k (Gr.refl e) (.bl _)⟩
theorem opd_neP (h : min d1.depth d2.depth ≤ 60) (k : Q (.bool (!PyData.eqv d1 d2))) : OpD (rNeP K) d1 d2 Q := fun F H x y e rx ry Z z => ⟨d1, d2, rx.dp e, ry.dp e, Rp.plain _ rx, Rp.plain _ ry, h, z _ _ F H k (Gr.refl e) (.bl _)⟩
theorem min_l {n m k : Nat} (h : n ≤ k) : min n m ≤ k := Nat.le_trans (Nat.min_le_left _ _) h
theorem min_r {n m k : Nat} (h : m ≤ k) : min n m ≤ k := Nat.le_trans (Nat.min_le_right _ _) h
/-! in, not in -/
def rInP (K : PySem.W.Frag) : R2 := fun x y H Q => ∃ d es, Dp K H x d ∧ (Dp K H y (.list es) ∨ Dp K H y (.tuple es)) ∧ d.plain = true ∧ PyData.plainAll es = true ∧ min (PyData.depthAll es) d.depth ≤ 60 ∧ Q (.bl (es.any fun y => PyData.eqv y d)) H
def rNinP (K : PySem.W.Frag) : R2 := fun x y H Q => ∃ d es, Dp K H x d ∧ (Dp K H y (.list es) ∨ Dp K H y (.tuple es)) ∧ d.plain = true ∧ PyData.plainAll es = true ∧ min (PyData.depthAll es) d.depth ≤ 60 ∧ Q (.bl (!es.any fun y => PyData.eqv y d)) H
theorem op_inP (hu : X.A.units + 64 < cLine) : OpR X (compareOp .In) (rInP X.K) := by
  rintro pins s σ H x y v u Q I rx ry ⟨d, es, hd, he, pd, pe, hz, q⟩
  obtain ⟨as, r1⟩ := Dp.reads I d x v hd rx
  rcases he with he | he
  · obtain ⟨bs, r2⟩ := Dp.reads I _ y u he ry
    exact PySem.SeqAt.in_list_data r2 r1 pe pd (by omega) ⟨.bl _, H, I, rfl, q⟩
  · obtain ⟨bs, r2⟩ := Dp.reads I _ y u he ry
    exact PySem.SeqAt.in_tuple_data r2 r1 pe pd (by omega) ⟨.bl _, H, I, rfl, q⟩
theorem op_ninP (hu : X.A.units + 64 < cLine) : OpR X (compareOp .NotIn) (rNinP X.K) := by
  rintro pins s σ H x y v u Q I rx ry ⟨d, es, hd, he, pd, pe, hz, q⟩
  obtain ⟨as, r1⟩ := Dp.reads I d x v hd rx
  rcases he with he | he
  · obtain ⟨bs, r2⟩ := Dp.reads I _ y u he ry
    exact PySem.SeqAt.notIn_list_data r2 r1 pe pd (by omega) ⟨.bl _, H, I, rfl, q⟩
  · obtain ⟨bs, r2⟩ := Dp.reads I _ y u he ry
    exact PySem.SeqAt.notIn_tuple_data r2 r1 pe pd (by omega) ⟨.bl _, H, I, rfl, q⟩
theorem opd_inL (h : min (PyData.depthAll es) d.depth ≤ 60) (k : Q (.bool (es.any fun y => PyData.eqv y d))) : OpD (rInP K) d (.list es) Q := fun F H x y e rx ry Z z =>
  ⟨d, es, rx.dp e, .inl (ry.dp e), Rp.plain _ rx, by have := Rp.plain _ ry; simpa only [PyData.plain] using this, h, z _ _ F H k (Gr.refl e) (.bl _)⟩
theorem opd_inT (h : min (PyData.depthAll es) d.depth ≤ 60) (k : Q (.bool (es.any fun y => PyData.eqv y d))) : OpD (rInP K) d (.tuple es) Q := fun F H x y e rx ry Z z =>
  ⟨d, es, rx.dp e, .inr (ry.dp e), Rp.plain _ rx, by have := Rp.plain _ ry; simpa only [PyData.plain] using this, h, z _ _ F H k (Gr.refl e) (.bl _)⟩
theorem opd_ninL (h : min (PyData.depthAll es) d.depth ≤ 60) (k : Q (.bool (!es.any fun y => PyData.eqv y d))) : OpD (rNinP K) d (.list es) Q := fun F H x y e rx ry Z z =>
  ⟨d, es, rx.dp e, .inl (ry.dp e), Rp.plain _ rx, by have := Rp.plain _ ry; simpa only [PyData.plain] using this, h, z _ _ F H k (Gr.refl e) (.bl _)⟩
theorem opd_ninT (h : min (PyData.depthAll es) d.depth ≤ 60) (k : Q (.bool (!es.any fun y => PyData.eqv y d))) : OpD (rNinP K) d (.tuple es) Q := fun F H x y e rx ry Z z =>
  ⟨d, es, rx.dp e, .inr (ry.dp e), Rp.plain _ rx, by have := Rp.plain _ ry; simpa only [PyData.plain] using this, h, z _ _ F H k (Gr.refl e) (.bl _)⟩
/-! min, max of a list of alike data -/
def rMnD (K : PySem.W.Frag) : List V → Hp → VK → Prop := fun vs H Q => ∃ (F : Hp) (a : Addr) (xs : List V) (d : D) (ds : List D), vs = [.ref a] ∧ Same F H ∧ Rd F a (.lst xs) ∧ RpA F xs (d :: ds) ∧ PySem.W.AlikeAll (d :: ds) ∧ PyData.depthAll (d :: ds) ≤ 60 ∧ ∀ v, Rp F v (PySem.W.minD d ds) → Q v H
def rMxD (K : PySem.W.Frag) : List V → Hp → VK → Prop := fun vs H Q => ∃ (F : Hp) (a : Addr) (xs : List V) (d : D) (ds : List D), vs = [.ref a] ∧ Same F H ∧ Rd F a (.lst xs) ∧ RpA F xs (d :: ds) ∧ PySem.W.AlikeAll (d :: ds) ∧ PyData.depthAll (d :: ds) ≤ 60 ∧ ∀ v, Rp F v (PySem.W.maxD d ds) → Q v H
theorem minD_mem (d : D) (ds : List D) : PySem.W.minD d ds ∈ d :: ds := by
  have : ∀ (es : List D) (a : D), es.foldl (fun a y => if PySem.W.dataLt y a then y else a) a ∈ a :: es := by
    intro es
    induction es with
    | nil => intro a; simp
    | cons e es ih =>
      intro a
      rw [List.foldl_cons]
      have q := ih (if PySem.W.dataLt e a then e else a)
      by_cases c : PySem.W.dataLt e a = true
      · rw [if_pos c] at q ⊢
        exact List.mem_cons_of_mem _ q
      · rw [if_neg c] at q ⊢
        rcases List.mem_cons.mp q with q | q
        · rw [q]; exact List.mem_cons_self
        · exact List.mem_cons_of_mem _ (List.mem_cons_of_mem _ q)
  exact this ds d
theorem maxD_mem (d : D) (ds : List D) : PySem.W.maxD d ds ∈ d :: ds := by
  have : ∀ (es : List D) (a : D), es.foldl (fun a y => if PySem.W.dataLt a y then y else a) a ∈ a :: es := by
    intro es
    induction es with
    | nil => intro a; simp
    | cons e es ih =>
      intro a
      rw [List.foldl_cons]
      have q := ih (if PySem.W.dataLt a e then e else a)
      by_cases c : PySem.W.dataLt a e = true
      · rw [if_pos c] at q ⊢
        exact List.mem_cons_of_mem _ q
      · rw [if_neg c] at q ⊢
        rcases List.mem_cons.mp q with q | q
        · rw [q]; exact List.mem_cons_self
        · exact List.mem_cons_of_mem _ (List.mem_cons_of_mem _ q)
  exact this ds d
theorem pick_rp {pins : List (Addr × Obj)} {σ : St} {F H : Hp} {s : Shared} {xs : List V} {its : List Value} {es : List D} {m : D} (I : Inv X pins σ H s) (e : Same F H) (ra : RpA F xs es) (rv : Vals xs its) (al : PySem.W.AlikeAll es) (hm : m ∈ es)
    {i : Nat} {v : Value} {h' : Heap} {bs : List Addr} (hi : its.toArray[i]? = some v) (rd : Reads h' v m bs) (hk : ∀ b o, s.heap.get? b = some o → h'.get? b = some o) : ∃ y, RelV y v ∧ Rp F y m := by
  have hi' : its[i]? = some v := by simpa using hi
  have hl : i < xs.length := by rw [rv.length]; exact (List.getElem?_eq_some_iff.mp hi').1
  obtain ⟨u, hu, ru⟩ := rv.get (List.getElem?_eq_getElem hl)
  rw [hi'] at hu
  cases hu
  obtain ⟨d, hd, rp⟩ := ra.get' (List.getElem?_eq_getElem hl)
  obtain ⟨as, r1⟩ := rp_reads I e rp ru
  have q : d = m := PySem.W.alike_unique d m v as bs (al.1 d (List.mem_of_getElem? hd) m hm) (PyProof.Rows.Reads.keeps hk r1) rd
  rw [q] at rp
  exact ⟨_, ru, rp⟩
theorem cb_minD (hc : X.calm = true) (hu : X.A.units + 64 < cLine) : CallR X (.builtin "min") (rMnD X.K) := by
  rintro pins s σ H vs us Q I r ⟨F, a, xs, d, ds, rfl, e, ha, ra, al, hz, q⟩
  obtain ⟨its, rv, hl, _⟩ := I.list (sqL_rd (K := X.K) ha e)
  obtain ⟨as, rr⟩ := rpa_reads I e ra rv
  rw [Vals.ref1 r]
  refine PySem.W.min_list_data (I.ok.hd hc) hl.isList (by simpa using rr) al (by omega) fun i v h' tk bs hi rd hk => ?_
  obtain ⟨y, ry, rp⟩ := pick_rp I e ra rv al (minD_mem d ds) hi rd hk
  exact ⟨y, H, I.kept hk, ry, q y rp⟩
theorem cb_maxD (hc : X.calm = true) (hu : X.A.units + 64 < cLine) : CallR X (.builtin "max") (rMxD X.K) := by
  rintro pins s σ H vs us Q I r ⟨F, a, xs, d, ds, rfl, e, ha, ra, al, hz, q⟩
  obtain ⟨its, rv, hl, _⟩ := I.list (sqL_rd (K := X.K) ha e)
  obtain ⟨as, rr⟩ := rpa_reads I e ra rv
  rw [Vals.ref1 r]
  refine PySem.W.max_list_data (I.ok.hd hc) hl.isList (by simpa using rr) al (by omega) fun i v h' tk bs hi rd hk => ?_
  obtain ⟨y, ry, rp⟩ := pick_rp I e ra rv al (maxD_mem d ds) hi rd hk
  exact ⟨y, H, I.kept hk, ry, q y rp⟩
theorem cbd_minD (al : PySem.W.AlikeAll (d :: ds)) (hz : PyData.depthAll (d :: ds) ≤ 60) (k : Q (PySem.W.minD d ds)) : CbD (rMnD K) [.list (d :: ds)] Q := fun F H vs e r Z z => by
  obtain ⟨v, rfl, rv⟩ := r.one
  obtain ⟨a, xs, rfl, h1, h2⟩ := rv.lst_inv
  exact ⟨F, a, xs, d, ds, rfl, e, h1, h2, al, hz, fun v rv => z _ _ F H k (Gr.refl e) rv⟩
theorem cbd_maxD (al : PySem.W.AlikeAll (d :: ds)) (hz : PyData.depthAll (d :: ds) ≤ 60) (k : Q (PySem.W.maxD d ds)) : CbD (rMxD K) [.list (d :: ds)] Q := fun F H vs e r Z z => by
  obtain ⟨v, rfl, rv⟩ := r.one
  obtain ⟨a, xs, rfl, h1, h2⟩ := rv.lst_inv
  exact ⟨F, a, xs, d, ds, rfl, e, h1, h2, al, hz, fun v rv => z _ _ F H k (Gr.refl e) rv⟩
theorem alike_ints (ns : List Int) : PySem.W.AlikeAll (ns.map PyData.int) := ⟨fun x hx y hy => by
  obtain ⟨a, _, rfl⟩ := List.mem_map.mp hx
  obtain ⟨b, _, rfl⟩ := List.mem_map.mp hy
  rfl, fun x hx => by
  obtain ⟨a, _, rfl⟩ := List.mem_map.mp hx
  intro z; cases z⟩
def foldMin : List Int → Int
  | [] => 0
  | n :: ns => ns.foldl min n
def foldMax : List Int → Int
  | [] => 0
  | n :: ns => ns.foldl max n
theorem cbd_minI {ns : List Int} (h : 0 < ns.length) (k : Q (.int (foldMin ns))) : CbD (rMnD K) [.list (ns.map .int)] Q := by
  cases ns with
  | nil => cases h
  | cons n ns =>
    refine cbd_minD (alike_ints (n :: ns)) ?_ ?_
    · exact depthAll_le (dpn_map (xs := n :: ns) fun x _ => dpn_int)
    · have e := PySem.W.minD_ints n ns
      show Q (PySem.W.minD (.int n) (ns.map .int))
      rw [e]
      exact k
theorem cbd_maxI {ns : List Int} (h : 0 < ns.length) (k : Q (.int (foldMax ns))) : CbD (rMxD K) [.list (ns.map .int)] Q := by
  cases ns with
  | nil => cases h
  | cons n ns =>
    refine cbd_maxD (alike_ints (n :: ns)) ?_ ?_
    · exact depthAll_le (dpn_map (xs := n :: ns) fun x _ => dpn_int)
    · have e := PySem.W.maxD_ints n ns
      show Q (PySem.W.maxD (.int n) (ns.map .int))
      rw [e]
      exact k
/-! sorted -/
abbrev sortD (ds : List D) : List D := ds.mergeSort (PySem.W.dataLe false id)
def rSrD (K : PySem.W.Frag) : List V → Hp → VK → Prop := fun vs H Q => ∃ (F : Hp) (a : Addr) (xs : List V) (ds : List D), vs = [.ref a] ∧ Same F H ∧ Rd F a (.lst xs) ∧ RpA F xs ds ∧ PySem.W.AllAlike ds ∧ PySem.W.Sortable ds ∧ PyData.depthAll ds ≤ 60 ∧
  ∀ p ys, H p = none → RpA F ys (sortD ds) → Q (.ref p) (upd H p (.lst ys))
theorem rpa_zip {F : Hp} : ∀ {xs : List V} {ds : List D}, RpA F xs ds → ∀ p ∈ xs.zip ds, Rp F p.1 p.2
  | _, [], h, p, hp => by cases h; cases hp
  | _, d :: ds, h, p, hp => by
    cases h with
    | cons h1 h2 =>
      rcases List.mem_cons.mp hp with rfl | hp
      · exact h1
      · exact rpa_zip h2 p hp
theorem rpa_of {F : Hp} : ∀ {zs : List (V × D)}, (∀ p ∈ zs, Rp F p.1 p.2) → RpA F (zs.map Prod.fst) (zs.map Prod.snd)
  | [], _ => .nil
  | z :: zs, h => .cons (h z (by simp)) (rpa_of fun p hp => h p (by simp [hp]))
theorem each_zip {F : Hp} : ∀ {xs : List V} {ds : List D} {its : List Value}, RpA F xs ds → Vals xs its → PySem.W.EachIs (fun v (b : V × D) => RelV b.1 v) its (xs.zip ds)
  | _, [], _, h, r => by cases h; cases r; exact .nil
  | _, d :: ds, _, h, r => by
    cases h with
    | cons h1 h2 =>
      cases r with
      | cons r1 r2 => exact .cons r1 (each_zip h2 r2)
theorem vals_each : ∀ {zs : List (V × D)} {out : List Value}, PySem.W.EachIs (fun v (b : V × D) => RelV b.1 v) out zs → Vals (zs.map Prod.fst) out
  | _, _, .nil => .nil
  | _, _, .cons h t => .cons h (vals_each t)
theorem each_reads {h : Heap} : ∀ {xs : List V} {ds : List D} {its : List Value} {as : List Addr}, xs.length = ds.length → ReadsAll h its ds as → PySem.W.EachIs (fun v (b : V × D) => ∃ as, Reads h v b.2 as) its (xs.zip ds)
  | [], [], _, _, _, r => by cases r; exact .nil
  | x :: xs, d :: ds, _, _, l, r => by
    cases r with
    | cons r1 r2 => exact .cons ⟨_, r1⟩ (each_reads (by simpa using l) r2)
  | [], _ :: _, _, _, l, _ => by simp at l
  | _ :: _, [], _, _, l, _ => by simp at l
theorem depth_mem : ∀ {ds : List D} {d : D}, d ∈ ds → d.depth ≤ PyData.depthAll ds
  | [], _, h => by cases h
  | e :: ds, d, h => by
    simp only [PyData.depthAll]
    rcases List.mem_cons.mp h with rfl | h
    · exact Nat.le_max_left _ _
    · exact Nat.le_trans (depth_mem h) (Nat.le_max_right _ _)
theorem cb_sortD (hu : X.A.units + 64 < cLine) : CallR X (.builtin "sorted") (rSrD X.K) := by
  rintro pins s σ H vs us Q I r ⟨F, a, xs, ds, rfl, e, ha, ra, al, so, hz, q⟩
  obtain ⟨its, rv, hl, hzl⟩ := I.list (sqL_rd (K := X.K) ha e)
  obtain ⟨as, rr⟩ := rpa_reads I e ra rv
  rw [Vals.ref1 r]
  have hmap : (xs.zip ds).map Prod.snd = ds := List.map_snd_zip (by rw [ra.len]; exact Nat.le_refl _)
  have hlen : (xs.zip ds).length = xs.length := by rw [List.length_zip, ra.len, Nat.min_self]
  refine PySem.W.sorted_data (bs := xs.zip ds) (enc := Prod.snd) hl.isList (each_zip ra rv) (each_reads ra.len rr) (by rw [hmap]; exact al) (by rw [hmap]; exact so) (by rw [hlen]; exact hzl)
    (fun b hb => ?_) fun out ho he => ?_
  · have hd : b.2 ∈ ds := by rw [← hmap]; exact List.mem_map_of_mem hb
    have := depth_mem hd
    omega
  · obtain ⟨ep, he'⟩ := PyProof.Rows.sortedAll_at s.heap its out.toArray
    have hv := vals_each he
    have hd : (List.mergeSort (xs.zip ds) (PySem.W.dataLe false Prod.snd)).map Prod.snd = sortD ds := by
      have q := PySem.W.sort_maps (r := PySem.W.dataLe false Prod.snd) (s := PySem.W.dataLe false id) (Prod.snd : V × D → D) (l := xs.zip ds) (fun a _ b _ => rfl)
      rw [q, hmap]
    have hr := rpa_of (F := F) (zs := List.mergeSort (xs.zip ds) (PySem.W.dataLe false Prod.snd)) fun p hp => rpa_zip ra p (List.mem_mergeSort.mp hp)
    rw [hd] at hr
    refine ⟨.ref _, upd H (s.heap.objs.size + 1) (.lst ((List.mergeSort (xs.zip ds) (PySem.W.dataLe false Prod.snd)).map Prod.fst)), I.laid (t' := s.toks) (fun _ _ => PyProof.Rows.sortedAll_old) (Nat.le_succ _) ⟨?_, out, ep, hv, he'⟩, rfl, q _ _ (I.hok.fresh (Nat.le_succ _)) hr⟩
    rw [List.length_map, List.length_mergeSort, hlen]
    exact hzl
theorem cbo_sortD {Q : List D → Prop} (al : PySem.W.AllAlike ds) (so : PySem.W.Sortable ds) (hz : PyData.depthAll ds ≤ 60) (k : Q (sortD ds)) : CbO (rSrD K) [.list ds] Q := fun F H vs e r Z z => by
  obtain ⟨v, rfl, rv⟩ := r.one
  obtain ⟨a, xs, rfl, h1, h2⟩ := rv.lst_inv
  exact ⟨F, a, xs, ds, rfl, e, h1, h2, al, so, hz, fun p ys hp rp => z _ p _ _ k (same_upd hp) hp upd_same rp⟩
/-! x.extend(ys) -/
def rExtR : V → List V → Hp → VK → Prop := fun x vs H Q => ∃ l b xs zs, x = .ref l ∧ vs = [.ref b] ∧ H l = some (.lst xs) ∧ Rd H b (.lst zs) ∧ xs.length + zs.length ≤ sizeLine ∧ Q .non (upd H l (.lst (xs ++ zs)))
theorem mt_extR : MtM X "list.extend" rExtR := by
  intro pins s σ H x vs v us Q I rx rv h
  obtain ⟨l, b, xs, zs, rfl, rfl, hH, hB, hz, q⟩ := h
  cases rx
  obtain ⟨u, rfl, ru⟩ := rv.one
  cases ru
  obtain ⟨z, its, n, r, hl, e⟩ := I.lstM hH
  obtain ⟨z2, its2, n2, r2, e2⟩ := hB.ok I.hok
  have hl2 := r2.length
  have k1 : its.toArray.size + its2.toArray.size ≤ sizeLine := by rw [List.size_toArray, List.size_toArray]; omega
  have k2 : ¬ (!its.toArray.isEmpty && Builtin.List.listTooLong (its.toArray.size + its2.toArray.size)) = true := by rw [notLongL k1, Bool.and_false]; exact Bool.false_ne_true
  refine call_meets F.slot_list_extend ⟨_, e, rfl⟩ F.entry_list_extend (F.args_list_extend_2 _ _) (AutoSeq1.list_extend_list_list_0 l its.toArray n b its2.toArray n2 k2 (by rw [List.size_toArray]; omega) (by omega)) ⟨e, e2, ?_⟩
  refine ⟨.non, _, I.lset (its' := its ++ its2) hH e (by simp) (r.append r2) ?_, rfl, q⟩
  rw [List.length_append]; omega
theorem sx_ext {ρ : Env} {P : Po} {te : TE} {i : Nat} {fs : List D} (h : ρ[i]? = some (.own fs)) (k : EX te ρ fun d ρ1 => ∃ ds es, d = .list es ∧ ρ1[i]? = some (.own ds) ∧ ds.length + es.length ≤ 1000000 ∧ NX P (ρ1.set i (.own (ds ++ es)))) : SX (tDrop (tBM K "list" rExtR (tVar i) (tCons te tNil))) ρ P := fun B σ F H w Dn n r b c => by
  obtain ⟨ad, w⟩ := w
  obtain ⟨p0, vs0, _, _, k1, k0, _⟩ := w.sl i _ h
  refine ⟨_, k1, .inl ⟨rfl, _, .inl (.inl k0)⟩, k B ad σ F H w _ fun d ρ1 v F1 H1 q1 p1 r1 => ?_⟩
  obtain ⟨ds, es, rfl, h1, hz, ρ', l, q⟩ := q1
  obtain ⟨p, vs, _, _, k2, k3, rr⟩ := p1.wa.sl i _ h1
  have e := k1.symm.trans k2
  cases e
  obtain ⟨a, ws, rfl, g1, g2⟩ := r1.lst_inv
  exact ⟨_, a, vs, ws, rfl, rfl, k3, rd_mono p1.wa.gr.fh g1, Nat.le_trans (by rw [rr.len, g2.len]; exact hz) (by decide), n ρ' σ F1 _ q ((p1.wa.mut h1 k2 (rr.app g2)).weak l)⟩
end

/-! ### short forms for a run -/
section
variable {K : PySem.W.Frag} {Q : D → Prop} {i j : Int} {d d1 d2 : D} {ds es : List D}
theorem Gr.frz {F H H' : Hp} {p : Addr} {vs : List V} (e : Same F H) (g : Same H H') (hn : H p = none) (hp : H' p = some (.lst vs)) : Gr Non F H (upd F p (.lst vs)) H' where
  ff := same_upd (e.free hn)
  fh := fun a u q => by
    by_cases ha : a = p
    · subst ha; rw [upd_same] at q; rw [hp]; exact q
    · rw [upd_ne ha] at q; exact g a u (e a u q)
  kp := fun a u q _ => g a u q
  al := fun a q => by
    cases z : H a with
    | none => exact absurd z q
    | some o => rw [g a o z]; intro z; cases z
  fr := fun a q z => by
    have ha : a ≠ p := fun z => q (z ▸ hn)
    rw [upd_ne ha]; exact z
theorem opd_ofO {r : R2} (h : OpO r d1 d2 fun ds => Q (.list ds)) : OpD r d1 d2 Q := fun F H x y e rx ry Z z => h F H x y e rx ry Z fun ds p vs H' q g hn hp rv =>
  z _ _ (upd F p (.lst vs)) H' q (Gr.frz e g hn hp) (.lst (.inl upd_same) (rv.up (Gr.frz e g hn hp).ff))
theorem cbd_ofO {r : List V → Hp → VK → Prop} (h : CbO r ds fun ds => Q (.list ds)) : CbD r ds Q := fun F H vs e rv Z z => h F H vs e rv Z fun ds p vs H' q g hn hp rv =>
  z _ _ (upd F p (.lst vs)) H' q (Gr.frz e g hn hp) (.lst (.inl upd_same) (rv.up (Gr.frz e g hn hp).ff))
theorem sld_ofO {r : V → Option Int → Option Int → Hp → VK → Prop} {lo hi : Option Int} (h : SlO r d lo hi fun ds => Q (.list ds)) : SlD r d lo hi Q := fun F H x e rx Z z => h F H x e rx Z fun ds p vs H' q g hn hp rv =>
  z _ _ (upd F p (.lst vs)) H' q (Gr.frz e g hn hp) (.lst (.inl upd_same) (rv.up (Gr.frz e g hn hp).ff))
theorem opd_plusL (hz : ds.length + es.length ≤ 1000000) (k : Q (.list (ds ++ es))) : OpD (rPlus K) (.list ds) (.list es) Q := opd_ofO (opo_plusL hz k)
theorem sld_L {lo hi : Option Int} (k : Q (.list (cutD ds lo hi))) : SlD (rSl K) (.list ds) lo hi Q := sld_ofO (slo_L k)
theorem cbd_listL (k : Q (.list ds)) : CbD (rList K) [.list ds] Q := cbd_ofO (cbo_listL k)
theorem cbd_listT (k : Q (.list ds)) : CbD (rList K) [.tuple ds] Q := cbd_ofO (cbo_listT k)
theorem cbd_sortD (al : PySem.W.AllAlike ds) (so : PySem.W.Sortable ds) (hz : PyData.depthAll ds ≤ 60) (k : Q (.list (sortD ds))) : CbD (rSrD K) [.list ds] Q := cbd_ofO (cbo_sortD al so hz k)
theorem opd_eqI (k : Q (.bool (decide (i = j)))) : OpD (rEqP K) (.int i) (.int j) Q := opd_eqP (min_l (by simp [PyData.depth])) (by
  have e : PyData.eqv (.int i) (.int j) = decide (i = j) := by simp only [PyData.eqv]; exact Bool.beq_eq_decide_eq i j
  rw [e]; exact k)
theorem opd_neI (k : Q (.bool (!decide (i = j)))) : OpD (rNeP K) (.int i) (.int j) Q := opd_neP (min_l (by simp [PyData.depth])) (by
  have e : PyData.eqv (.int i) (.int j) = decide (i = j) := by simp only [PyData.eqv]; exact Bool.beq_eq_decide_eq i j
  rw [e]; exact k)
theorem opd_eqS {x y : Str} (k : Q (.bool (decide (x = y)))) : OpD (rEqP K) (.str x) (.str y) Q := opd_eqP (min_l (by simp [PyData.depth])) (by
  have e : PyData.eqv (.str x) (.str y) = decide (x = y) := by simp only [PyData.eqv]; by_cases h : x = y <;> simp [h]
  rw [e]; exact k)
theorem opd_neS {x y : Str} (k : Q (.bool (!decide (x = y)))) : OpD (rNeP K) (.str x) (.str y) Q := opd_neP (min_l (by simp [PyData.depth])) (by
  have e : PyData.eqv (.str x) (.str y) = decide (x = y) := by simp only [PyData.eqv]; by_cases h : x = y <;> simp [h]
  rw [e]; exact k)
theorem atI_in {α : Type} {xs : List α} {k : Int} (h0 : 0 ≤ k) (h1 : k < xs.length) : atI xs k = some (xs[k.toNat]'(by omega)) := by
  obtain ⟨n, rfl⟩ : ∃ n : Nat, k = (n : Int) := ⟨k.toNat, by omega⟩
  exact atI_nat (by simp)
/-- an item of a mapped list, told by a default -/
theorem atI_map {α : Type} {xs : List α} {f : α → D} {k : Int} (a : α) (h0 : 0 ≤ k) (h1 : k < xs.length) : atI (xs.map f) k = some (f (xs.getD k.toNat a)) := by
  have hk : k.toNat < xs.length := by omega
  have e := atI_in (xs := xs.map f) h0 (by rw [List.length_map]; exact h1)
  rw [e, List.getElem_map, List.getD_eq_getElem?_getD, List.getElem?_eq_getElem hk]
  rfl
theorem opd_ixM {α : Type} {xs : List α} {f : α → D} {k : Int} (a : α) (h0 : 0 ≤ k) (h1 : k < xs.length) (q : Q (f (xs.getD k.toNat a))) : OpD (rIxA K) (.list (xs.map f)) (.int k) Q := opd_ixL (atI_map a h0 h1) q
end

theorem rng_at {lo : Int} {n k : Nat} {d : D} (h : ((rngI lo n).map PyData.int)[k]? = some d) : k < n ∧ d = .int (lo + (k : Int)) := by
  have hk : k < n := by
    have := (List.getElem?_eq_some_iff.mp h).1
    rw [List.length_map, rngI_len] at this
    exact this
  rw [List.getElem?_map, rngI_get hk] at h
  exact ⟨hk, (Option.some.inj h).symm⟩
theorem rng_size (lo : Int) (n : Nat) : ((rngI lo n).map PyData.int).length = n := by rw [List.length_map, rngI_len]
theorem map_at {α : Type} {xs : List α} {f : α → D} {k : Nat} {d : D} (h : (xs.map f)[k]? = some d) : ∃ x, xs[k]? = some x ∧ d = f x := by
  rw [List.getElem?_map] at h
  cases e : xs[k]? with
  | none => rw [e] at h; cases h
  | some x => rw [e] at h; exact ⟨x, rfl, (Option.some.inj h).symm⟩

/-- what a slot that holds data gives on -/
def VQ (s : Option Slot) (Q : D → Env → Prop) (ρ : Env) : Prop := match s with
  | some (.val d) => Q d ρ
  | _ => False
theorem ex_vr {ρ : Env} {i : Nat} {Q : D → Env → Prop} (h : VQ ρ[i]? Q ρ) : EX (tVar i) ρ Q := by
  unfold VQ at h
  split at h
  · rename_i d e
    exact ex_var e h
  · exact h.elim

section
variable {K : PySem.W.Frag} {Q : D → Prop} {d : D}
/-- two times the same datum -/
theorem opd_eqSelf (h : d.depth ≤ 60) (k : Q (.bool true)) : OpD (rEqP K) d d Q := fun F H x y e rx ry Z z => opd_eqP (Q := Q) (min_l h) (by rw [PySem.SeqAt.eqv_refl_plain d (Rp.plain d rx)]; exact k) F H x y e rx ry Z z
theorem opd_neSelf (h : d.depth ≤ 60) (k : Q (.bool false)) : OpD (rNeP K) d d Q := fun F H x y e rx ry Z z => opd_neP (Q := Q) (min_l h) (by rw [PySem.SeqAt.eqv_refl_plain d (Rp.plain d rx)]; exact k) F H x y e rx ry Z z
/-! pairs of ints -/
def ltP (a b : Int × Int) : Bool := decide (a.1 < b.1 ∨ a.1 = b.1 ∧ a.2 < b.2)
def encP (p : Int × Int) : D := .tuple [.int p.1, .int p.2]
theorem dataLt_P (a b : Int × Int) : PySem.W.dataLt (encP a) (encP b) = ltP a b := by
  unfold encP ltP
  rw [PySem.W.dataLt_pair rfl rfl]
  simp only [PyData.eqv, PySem.W.dataLt_int]
  by_cases h : a.1 = b.1
  · by_cases h2 : a.2 = b.2
    · simp [h, h2]
    · simp [h, h2]
  · simp [h]
def minPs : List (Int × Int) → Int × Int
  | [] => (0, 0)
  | p :: ps => ps.foldl (fun a y => if ltP y a = true then y else a) p
theorem minD_P (p : Int × Int) (ps : List (Int × Int)) : PySem.W.minD (encP p) (ps.map encP) = encP (minPs (p :: ps)) := by
  have h : ∀ (qs : List (Int × Int)) (a : Int × Int), (qs.map encP).foldl (fun a y => if PySem.W.dataLt y a then y else a) (encP a) = encP (qs.foldl (fun a y => if ltP y a = true then y else a) a) := by
    intro qs
    induction qs with
    | nil => intro a; rfl
    | cons q qs ih =>
      intro a
      simp only [List.map_cons, List.foldl_cons, dataLt_P]
      by_cases h : ltP q a = true
      · rw [if_pos h, if_pos h]; exact ih q
      · rw [if_neg h, if_neg h]; exact ih a
  exact h ps p
theorem alike_P (ps : List (Int × Int)) : PySem.W.AlikeAll (ps.map encP) := ⟨fun x hx y hy => by
  obtain ⟨a, _, rfl⟩ := List.mem_map.mp hx
  obtain ⟨b, _, rfl⟩ := List.mem_map.mp hy
  rfl, fun x hx => by
  obtain ⟨a, _, rfl⟩ := List.mem_map.mp hx
  intro z; cases z⟩
theorem cbd_minP {ps : List (Int × Int)} (h : 0 < ps.length) (k : Q (encP (minPs ps))) : CbD (rMnD K) [.list (ps.map encP)] Q := by
  cases ps with
  | nil => cases h
  | cons p ps =>
    refine cbd_minD (alike_P (p :: ps)) (depthAll_le (dpn_map (xs := p :: ps) fun x _ => dpn_tup (dpn_cons dpn_int (dpn_cons dpn_int dpn_nil)))) ?_
    have e := minD_P p ps
    show Q (PySem.W.minD (encP p) (ps.map encP))
    rw [e]
    exact k
theorem minPs_mem : ∀ {ps : List (Int × Int)}, 0 < ps.length → minPs ps ∈ ps
  | p :: ps, _ => by
    have : ∀ (qs : List (Int × Int)) (a : Int × Int), qs.foldl (fun a y => if ltP y a = true then y else a) a ∈ a :: qs := by
      intro qs
      induction qs with
      | nil => intro a; simp
      | cons e es ih =>
        intro a
        rw [List.foldl_cons]
        have q := ih (if ltP e a = true then e else a)
        by_cases c : ltP e a = true
        · rw [if_pos c] at q ⊢; exact List.mem_cons_of_mem _ q
        · rw [if_neg c] at q ⊢
          rcases List.mem_cons.mp q with q | q
          · rw [q]; exact List.mem_cons_self
          · exact List.mem_cons_of_mem _ (List.mem_cons_of_mem _ q)
    exact this ps p
end

/-! ### the ends: nothing asked, the law's own argument -/
section
variable {P : Program} {w : World} {K : PySem.W.Frag} {mg : Str → Option Value} {base : Heap} {f : Addr} {fd : FuncData} {k : Nat} {ps : List Str}
theorem fn_no {sp : Sp} (no : ∀ vs H Q E, ¬ sp vs H Q E) : FnOk P w K mg base CX0 k f fd ps sp := ⟨fun vs H Q E h => absurd h (no vs H Q E), fun A outer s H args us vs Q E _ _ _ _ h => absurd h (no vs H Q E)⟩
theorem fn_noP {R : List D → (D → Prop) → Prop} (no : ∀ ds Z, ¬ R ds Z) : FnOk P w K mg base CX0 k f fd ps (spP R) := fn_no fun vs H Q E h => by
  obtain ⟨F, ds, Z, _, _, q, _⟩ := h
  exact no ds Z q
theorem fn_noS {R : Stt → List D → (D → Stt → Prop) → Prop} (no : ∀ S ds Z, ¬ R S ds Z) : FnOk P w K mg base CX0 k f fd ps (spS R) := fn_no fun vs H Q E h => by
  obtain ⟨F, s, as, S, us, ds, Z, _, _, _, _, _, q, _⟩ := h
  exact no S ds Z q
/-- the written part holds no list -/
def noLs (K : PySem.W.Frag) : Bool := K.all fun p => match p.2.cls with
  | .type s => !(s == "list")
  | _ => true
theorem noLs_at {K : PySem.W.Frag} (h : noLs K = true) : ∀ {a : Addr} {o : Obj}, K.lookup a = some o → o.cls ≠ .type "list" := by
  intro a o e q
  unfold noLs at h
  induction K with
  | nil => cases e
  | cons p r ih =>
    obtain ⟨b, x⟩ := p
    simp only [List.all_cons, Bool.and_eq_true] at h
    simp only [List.lookup] at e
    split at e
    · cases e
      have h1 := h.1
      rw [q] at h1
      revert h1
      decide
    · exact ih h.2 e
theorem sqL_noK {H : Hp} {a : Addr} {xs : List V} (h : noLs K = true) (s : SqL K H a xs) : Rd H a (.lst xs) := by
  rcases s with s | ⟨o, its, n, e, c, _⟩
  · exact s
  · exact absurd c (noLs_at h e)
theorem rpa_ints {F : Hp} : ∀ ns : List Int, RpA F (ns.map V.int) (ns.map PyData.int)
  | [] => .nil
  | n :: ns => .cons (.int n) (rpa_ints ns)
theorem sp_law {R : List D → (D → Prop) → Prop} {H : Hp} {a : Addr} {ns : List Int} {E : XK} (nl : noLs K = true) (s : SqL K H a (ns.map V.int)) (hR : R [.list (ns.map .int)] fun d => d = .bool true) : spP R [.ref a] H (fun v _ => v = .bl true) E :=
  ⟨H, _, _, fun _ _ h => h, .cons (.lst (sqL_noK nl s) (rpa_ints ns)) .nil, hR, fun d v F' H' e _ rv => by
    subst e
    cases rv
    rfl⟩
end
end Pu
/-! the laws' drawing state: its making and its draws, once for all laws -/
namespace Pu
open PySem L2
def R_state : List D → (Stt → Prop) → Prop := fun ds Z => ∃ ns : List Int, ds = [.list (ns.map .int)] ∧ ∀ S, Ok S → Z S
/-- what is drawn: any number below the bound -/
def R_take : Stt → List D → (D → Stt → Prop) → Prop := fun S ds Z => ∃ m : Int, ds = [.int m] ∧ 1 ≤ m ∧ m < 1073741824 ∧ Ok S ∧ ∀ r S', 0 ≤ r → r < m → Ok S' → Z (.int r) S'
def T_state (K : PySem.W.Frag) : TS :=
    (tSeq (tAsg (tLc (iList K (tSl (rSl K) (tVar 0) tNoPart (tPart (tC (.int 63))))) (gName 2) tYes (tCB (rAbs) (tCons (tVar 2) tNil)) [2]) (gName 1))
    (tSeq (tIfS (tTest (tOp (rEqP K) (tCB (rLen K) (tCons (tVar 1) tNil)) (tC (.int 0))))
      (tAsg (tLst (tCons (tC (.int 0)) tNil)) (gName 1))
      tNext)
    (tRet (tLst (tCons (tC (.int 0)) (tCons (tVar 1) tNil))))))
def T_take (K : PySem.W.Frag) : TS :=
    (tSeq (tAsg (tOp (rIxA K) (tVar 0) (tC (.int 1))) (gName 2))
    (tSeq (tAsg (tOp (rI (fun _ j => 0 < j) fun i j => .int (i % j)) (tOp (rIxA K) (tVar 0) (tC (.int 0))) (tCB (rLen K) (tCons (tVar 2) tNil))) (gName 3))
    (tSeq (tAsg (tOp (rIxA K) (tVar 2) (tVar 3)) (gName 4))
    (tSeq (tIfS (tTest (tOp (rI0 fun i j => .bl (decide (j ≤ i))) (tVar 4) (tC (.int 1000000000000000000))))
      (tSeq (tAsg (tOp (rI CDiv fun i j => .int (i / j)) (tVar 4) (tVar 1)) (gSub (tVar 2) (tVar 3) rSetL))
    (tRet (tOp (rI (fun _ j => 0 < j) fun i j => .int (i % j)) (tVar 4) (tVar 1))))
      tNext)
    (tSeq (tAsg (tOp (rPlus K) (tOp (rIxA K) (tVar 0) (tC (.int 0))) (tC (.int 1))) (gSub (tVar 0) (tC (.int 0)) rSetL))
    (tSeq (tAsg (tOp (rI (fun _ j => 0 < j) fun i j => .int (i % j)) (tCB (rInt) (tCons (tOp (rPlus K) (tOp (rI CMul fun i j => .int (i * j)) (tVar 4) (tC (.int 48271))) (tOp (rI CMul fun i j => .int (i * j)) (tOp (rIxA K) (tVar 0) (tC (.int 0))) (tC (.int 69621)))) tNil)) (tC (.int 2147483647))) (gName 5))
    (tSeq (tAsg (tOp (rI (fun _ j => 0 < j) fun i j => .int (i % j)) (tCB (rInt) (tCons (tOp (rPlus K) (tOp (rI CMul fun i j => .int (i * j)) (tVar 5) (tC (.int 16807))) (tOp (rI CMul fun i j => .int (i * j)) (tOp (rIxA K) (tVar 0) (tC (.int 0))) (tC (.int 7919)))) tNil)) (tC (.int 1000000007))) (gName 5))
    (tRet (tOp (rI (fun _ j => 0 < j) fun i j => .int (i % j)) (tOp (rI CDiv fun i j => .int (i / j)) (tVar 5) (tC (.int 7))) (tVar 1))))))))))
theorem W.first {F H : Hp} {N : List Str} {vs : List V} {ds : List D} (fh : Same F H) (r : RpA F vs ds) : W { F0 := F, H0 := H, M := Non } (startE N ds) (L2.start N vs) F H := by
  refine ⟨fun _ => [], Gr.refl fh, ?_, fun i s e => ?_, (fun i p m => by cases m), (fun i j p m => by cases m), fun _ _ => rfl, (fun s as e => by cases e)⟩
  · unfold L2.start startE
    rw [List.length_append, List.length_append, List.length_map, List.length_map, List.length_replicate, List.length_replicate, r.len]
  · rcases startE_get e with ⟨d, e2, rfl⟩ | rfl
    · obtain ⟨v, e1, rv⟩ := r.get e2
      exact ⟨rfl, v, start_get e1, rv⟩
    · rfl
theorem mem_cut {xs : List D} {lo hi : Option Int} {x : D} (h : x ∈ cutD xs lo hi) : x ∈ xs := List.mem_of_mem_drop (List.mem_of_mem_take h)
theorem cut_map {α : Type} {f : α → D} (xs : List α) (lo hi : Option Int) : ∃ ys : List α, cutD (xs.map f) lo hi = ys.map f ∧ ys.length ≤ xs.length := by
  refine ⟨(xs.drop (HT.sIx (xs.map f).length 0 lo)).take (HT.sIx (xs.map f).length (xs.map f).length hi - HT.sIx (xs.map f).length 0 lo), ?_, ?_⟩
  · unfold cutD
    rw [← List.map_drop, ← List.map_take]
  · rw [List.length_take, List.length_drop]
    omega
theorem run_state {K : PySem.W.Frag} {vs : List V} {H : Hp} {Q : VK} {E : XK} (h : spN R_state vs H Q E) : T_state K { nx := fun _ H' => Q .non H', rt := Q } (L2.start ["script", "cells", "cell"] vs) H := by
  obtain ⟨F, ds, Z, fh, r, ⟨ns, rfl, hz⟩, z⟩ := h
  -- the cells, then the state
  have s1 : SX (tAsg (tLc (iList K (tSl (rSl K) (tVar 0) tNoPart (tPart (tC (.int 63))))) (gName 2) tYes (tCB (rAbs) (tCons (tVar 2) tNil)) [2]) (gName 1)) [.val (.list (ns.map .int)), .emp, .emp]
      { nx := fun ρ' => ∃ cs : List Int, (cs.length ≤ 63 ∧ ∀ c ∈ cs, 0 ≤ c) ∧ ρ' = [.val (.list (ns.map .int)), .own (cs.map .int), .emp], rt := fun _ _ => False } := by
    refine sx_asgO (eo_lcP (α := Int) (fun _ => true) (fun c => .int (c.natAbs : Int)) (ei_list (ex_of (eo_sl (ex_var rfl (ep_no (ep_some (ex_int ⟨63, rfl, slo_L ?_⟩))))))))
    obtain ⟨ys, ey, ly⟩ : ∃ ys : List Int, cutD (ns.map PyData.int) none (some 63) = ys.map PyData.int ∧ ys.length ≤ 63 := by
      refine ⟨(ns.drop (HT.sIx (ns.map PyData.int).length 0 none)).take (HT.sIx (ns.map PyData.int).length (ns.map PyData.int).length (some 63) - HT.sIx (ns.map PyData.int).length 0 none), ?_, ?_⟩
      · unfold cutD
        rw [← List.map_drop, ← List.map_take]
      · rw [List.length_take]
        refine Nat.le_trans (Nat.min_le_left _ _) ?_
        unfold HT.sIx
        simp
        omega
    refine ⟨_, rfl, ys, .int, ey, by omega, fun i hi => by simp at hi; subst hi; rfl, fun x _ => sg_name (by simp) ⟨rfl, et_yes ⟨rfl, rfl, fun _ => ex_cb (ea_cons (ex_var rfl (ea_nil (cbd_abs ⟨rfl, rfl⟩))))⟩⟩, ?_⟩
    refine nx_same ⟨ys.map fun c => (c.natAbs : Int), ⟨by rw [List.length_map]; exact ly, fun c hc => ?_⟩, ?_⟩
    · obtain ⟨x, _, rfl⟩ := List.mem_map.mp hc
      omega
    · rw [List.filter_eq_self.mpr (fun _ _ => rfl), List.map_map]
      rfl
  have s2 : ∀ cs : List Int, (cs.length ≤ 63 ∧ ∀ c ∈ cs, 0 ≤ c) → SX (tIfS (tTest (tOp (rEqP K) (tCB (rLen K) (tCons (tVar 1) tNil)) (tC (.int 0)))) (tAsg (tLst (tCons (tC (.int 0)) tNil)) (gName 1)) tNext) [.val (.list (ns.map .int)), .own (cs.map .int), .emp]
      { nx := fun ρ' => ∃ cs : List Int, (0 < cs.length ∧ cs.length ≤ 63 ∧ ∀ c ∈ cs, 0 ≤ c) ∧ ρ' = [.val (.list (ns.map .int)), .own (cs.map .int), .emp], rt := fun _ _ => False } := fun cs hcs => by
    refine sx_if (et_test (ex_op (ex_lenO rfl (ex_int (opd_eqP (min_l (by simp [PyData.depth])) ⟨_, rfl, fun hb => ?_, fun hb => ?_⟩)))))
    · exact sx_asgO (eo_lst (ea_cons (ex_int (ea_nil ⟨by simp, nx_same ⟨[0], by simp, rfl⟩⟩))))
    · refine sx_next (nx_same ⟨cs, ⟨?_, hcs⟩, rfl⟩)
      simp only [PyData.eqv, List.length_map, beq_eq_false_iff_ne, ne_eq] at hb
      omega
  have w0 := W.first (N := ["script", "cells", "cell"]) fh r
  refine s1 _ _ F H w0 _ (fun ρ1 σ1 F1 H1 q1 w1 => ?_) (fun _ _ _ _ _ _ q => q.elim) (fun _ _ _ _ q => q.elim) (fun _ _ _ _ q => q.elim)
  obtain ⟨cs, hcs, rfl⟩ := q1
  refine s2 cs hcs _ _ F1 H1 w1 _ (fun ρ2 σ2 F2 H2 q2 w2 => ?_) (fun _ _ _ _ _ _ q => q.elim) (fun _ _ _ _ q => q.elim) (fun _ _ _ _ q => q.elim)
  obtain ⟨cs, hcs, rfl⟩ := q2
  obtain ⟨ad, w2⟩ := w2
  obtain ⟨p, us, ka, k0, k1, k2, kr⟩ := w2.sl 1 _ rfl
  refine ⟨_, k1, by show 2 ≤ sizeLine; decide, fun q hq => ?_⟩
  have nq := w2.newp hq
  have npq : p ≠ q := ne_of_none k2 hq
  have g := w2.gr
  refine z (.cel 0 cs) q [q, p] F2 _ (hz _ ⟨hcs.1, by omega, Int.le_refl 0, hcs.2.2⟩) ⟨g.ff, g.fh.trans (same_upd hq), fun a o e m => same_upd hq _ _ (g.kp a o e m), fun a e => ?_, g.fr⟩ ⟨p, rfl, npq.symm, upd_same, ?_⟩ fun a ha => ?_
  · by_cases ha : a = q
    · rw [ha, upd_same]; intro z; cases z
    · rw [upd_ne ha]; exact g.al a e
  · rw [upd_ne npq, k2, kr.ints_inv]
  · have e : a = q ∨ a = p := by simpa using ha
    rcases e with e | e
    · rw [e]; exact ⟨nq.1, nq.2.1⟩
    · rw [e]; exact ⟨(w2.fz 1 p (by rw [ka]; simp)).1, k0⟩
theorem run_take {K : PySem.W.Frag} {vs : List V} {H : Hp} {Q : VK} {E : XK} (h : spS R_take vs H Q E) : T_take K { nx := fun _ H' => Q .non H', rt := Q } (L2.start ["state", "most", "cells", "at", "cell", "mixed"] vs) H := by
  obtain ⟨F, s, as, S, us, ds, Z, rfl, fh, sa, fn, r, ⟨m, rfl, hm1, hm2, ok, hz⟩, z⟩ := h
  obtain ⟨v, rfl, rv⟩ := r.one
  have ev := rv.int_inv
  subst ev
  cases S with
  | two a b => exact ok.elim
  | dct kvs => exact ok.elim
  | dbl ks => exact ok.elim
  | grd rows => exact ok.elim
  | obj C fs => exact ok.elim
  | dtt kvs => exact ok.elim
  | cel a cs =>
    obtain ⟨c, rfl, ne, hs, hc⟩ := sa
    obtain ⟨hl, hl2, ha, hcs⟩ := ok
    have hlen : (cs.map V.int).length = cs.length := List.length_map _
    have hi0 : 0 ≤ a % (cs.length : Int) := Int.emod_nonneg _ (by omega)
    have hi1 : a % (cs.length : Int) < (cs.length : Int) := Int.emod_lt_of_pos _ (by omega)
    obtain ⟨i, ei⟩ : ∃ i : Nat, a % (cs.length : Int) = (i : Int) := ⟨(a % (cs.length : Int)).toNat, by omega⟩
    have hi : i < cs.length := by omega
    -- cells = state[1]; at = state[0] % len(cells); cell = cells[at]
    refine ⟨_, rfl, .inl ⟨s, _, 1, .ref c, rfl, rfl, .inl (.inl hs), rfl, ?_⟩⟩
    refine ⟨_, rfl, .inl ⟨s, _, 0, .int a, rfl, rfl, .inl (.inl hs), rfl, ?_⟩⟩
    refine ⟨_, rfl, _, cs.length, rfl, .inl ⟨_, .inl (.inl hc), hlen.symm⟩, a, (cs.length : Int), rfl, rfl, by omega, ?_⟩
    refine ⟨_, rfl, _, rfl, .inl ⟨c, _, (i : Int), .int cs[i], rfl, congrArg V.int ei, .inl (.inl hc), atI_nat (by rw [List.getElem?_map, List.getElem?_eq_getElem hi]; rfl), ?_⟩⟩
    refine ⟨_, rfl, _, _, rfl, rfl, _, rfl, ?_⟩
    have gr : ∀ H', (∀ b o, H b = some o → b ≠ s → b ≠ c → H' b = some o) → (∃ o, H' s = some o) → (∃ o, H' c = some o) → Gr (· ∈ [s, c]) F H F H' := fun H' k1 k2 k3 => by
      have fs := fn s (by simp)
      have fc := fn c (by simp)
      refine ⟨Same.refl F, fun b o e => k1 b o (fh b o e) (fun q => by rw [q, fs] at e; cases e) (fun q => by rw [q, fc] at e; cases e), fun b o e m => k1 b o e (fun q => m (by simp [q])) (fun q => m (by simp [q])), fun b e => ?_, fun _ _ z => z⟩
      by_cases h1 : b = s
      · obtain ⟨o, k⟩ := k2
        rw [h1, k]; intro z; cases z
      · by_cases h2 : b = c
        · obtain ⟨o, k⟩ := k3
          rw [h2, k]; intro z; cases z
        · cases q : H b with
          | none => exact absurd q e
          | some o => rw [k1 b o q h1 h2]; intro z; cases z
    refine ite2 (fun hbig => ?_) (fun hsmall => ?_)
    · -- cells[at] = cell // most; return cell % most
      refine ⟨_, rfl, _, rfl, cs[i], m, rfl, rfl, ⟨by omega, by omega⟩, ?_⟩
      refine ⟨_, rfl, _, rfl, c, _, (i : Int), i, rfl, congrArg V.int ei, hc, ?_, ?_⟩
      · unfold ixN
        rw [hlen, if_pos (by omega), if_pos (by omega)]
        simp
      refine ⟨_, rfl, _, rfl, cs[i], m, rfl, rfl, by omega, ?_⟩
      have hd : 0 ≤ cs[i] := hcs _ (List.getElem_mem hi)
      refine z (.int (cs[i] % m)) (.cel a (cs.set i (cs[i] / m))) _ F _ (hz _ _ (Int.emod_nonneg _ (by omega)) (Int.emod_lt_of_pos _ (by omega)) ⟨by rw [List.length_set]; exact hl, by rw [List.length_set]; exact hl2, ha, fun x hx => ?_⟩) (gr _ (fun b o e h1 h2 => by rw [upd_ne h2]; exact e) ⟨_, by rw [upd_ne ne]; exact hs⟩ ⟨_, upd_same⟩) ⟨c, rfl, ne, by rw [upd_ne ne]; exact hs, by rw [upd_same, List.map_set]⟩ fn (.int _)
      rcases List.mem_or_eq_of_mem_set hx with h | h
      · exact hcs x h
      · rw [h]; exact Int.ediv_nonneg hd (by omega)
    · -- state[0] = state[0] + 1
      refine ⟨_, rfl, .inl ⟨s, _, 0, .int a, rfl, rfl, .inl (.inl hs), rfl, ?_⟩⟩
      refine .inl (.inl ⟨a, 1, rfl, rfl, ?_⟩)
      refine ⟨_, rfl, s, _, 0, 0, rfl, rfl, hs, rfl, ?_⟩
      have hs' : upd H s (.lst ([.int a, .ref c].set 0 (.int (a + 1)))) s = some (.lst [.int (a + 1), .ref c]) := upd_same
      -- mixed
      refine ⟨_, rfl, _, _, rfl, rfl, .inr ⟨by decide, by decide⟩, ?_⟩
      refine ⟨_, rfl, .inl ⟨s, _, 0, .int (a + 1), rfl, rfl, .inl (.inl hs'), rfl, ?_⟩⟩
      refine ⟨_, _, rfl, rfl, .inr ⟨by decide, by decide⟩, ?_⟩
      refine .inl (.inl ⟨_, _, rfl, rfl, ?_⟩)
      refine .inl ⟨_, rfl, ?_⟩
      refine ⟨_, _, rfl, rfl, (by decide : (0 : Int) < 2147483647), ?_⟩
      refine ⟨_, rfl, _, _, rfl, rfl, .inr ⟨by decide, by decide⟩, ?_⟩
      refine ⟨_, rfl, .inl ⟨s, _, 0, .int (a + 1), rfl, rfl, .inl (.inl hs'), rfl, ?_⟩⟩
      refine ⟨_, _, rfl, rfl, .inr ⟨by decide, by decide⟩, ?_⟩
      refine .inl (.inl ⟨_, _, rfl, rfl, ?_⟩)
      refine .inl ⟨_, rfl, ?_⟩
      refine ⟨_, _, rfl, rfl, (by decide : (0 : Int) < 1000000007), ?_⟩
      refine ⟨_, rfl, _, _, rfl, rfl, ⟨by decide, by decide⟩, ?_⟩
      refine ⟨_, rfl, _, _, rfl, rfl, by omega, ?_⟩
      exact z _ (.cel (a + 1) cs) _ F _ (hz _ _ (Int.emod_nonneg _ (by omega)) (Int.emod_lt_of_pos _ (by omega)) ⟨hl, hl2, by omega, hcs⟩) (gr _ (fun b o e h1 h2 => by rw [upd_ne h1]; exact e) ⟨_, upd_same⟩ ⟨_, by rw [upd_ne ne.symm]; exact hc⟩) ⟨c, rfl, ne, hs', by rw [upd_ne ne.symm]; exact hc⟩ fn (.int _)

section
variable {P : Program} {w : World} {K : PySem.W.Frag} {mg : Str → Option Value} {base : Heap} {f : Addr} {fd : FuncData} {k : Nat} {x qual : Str} {st : Stmt}
theorem fn_newstate (F : Fun K x qual st f fd) (S : FnScope ["script", "cells", "cell"] ["script"] (defScope st))
    (body : ∀ (cdv : Value) (A : Around) (outer : List PySem.Env) (s : Shared) (H : Hp) (E : XK), Room k (A.deeper (PyProof.Rows.envOfC qual (defScope st) s.heap.objs.size f cdv)) →
      PSs (cxOf CX0 P w K mg base ["script", "cells", "cell"] qual (defScope st) f cdv A outer s H E).nox (defBody st) (T_state K)) : FnOk P w K mg base CX0 (k + 1) f fd ["script"] (spN R_state) :=
  F.ok S (fun vs H Q E h => by
    obtain ⟨F, ds, Z, _, r, ⟨ns, rfl, _⟩, _⟩ := h
    rw [r.len]; rfl) fun cdv A outer s H vs Q E hr h => ⟨_, body cdv A outer s H E hr, run_state h⟩
theorem fn_take (F : Fun K x qual st f fd) (S : FnScope ["state", "most", "cells", "at", "cell", "mixed"] ["state", "most"] (defScope st))
    (body : ∀ (cdv : Value) (A : Around) (outer : List PySem.Env) (s : Shared) (H : Hp) (E : XK), Room k (A.deeper (PyProof.Rows.envOfC qual (defScope st) s.heap.objs.size f cdv)) →
      PSs (cxOf CX0 P w K mg base ["state", "most", "cells", "at", "cell", "mixed"] qual (defScope st) f cdv A outer s H E).nox (defBody st) (T_take K)) : FnOk P w K mg base CX0 (k + 1) f fd ["state", "most"] (spS R_take) :=
  F.ok S (fun vs H Q E h => by
    obtain ⟨F, s, as, S, us, ds, Z, rfl, _, _, _, r, ⟨m, rfl, _⟩, _⟩ := h
    rw [List.length_cons, r.len]; rfl) fun cdv A outer s H vs Q E hr h => ⟨_, body cdv A outer s H E hr, run_take h⟩
end
end Pu
/-! PuC: xs[::-1], xs.index(n), sorted rows -/
namespace Pu
open PySem L2
section
variable {ρ : Pu.Env} {te to : TE} {t : TA} {K : PySem.W.Frag} {Q : D → Pu.Env → Prop}
theorem ex_revL (h : EX te ρ fun d ρ1 => ∃ ds, d = .list ds ∧ Q (.list ds.reverse) ρ1) : EX (tRevL K te) ρ Q := fun B ad σ F H w Z z =>
  h B ad σ F H w _ fun d1 ρ1 x F1 H1 q1 p1 r1 => by
    obtain ⟨ds, rfl, q⟩ := q1
    obtain ⟨a, xs, rfl, h1, h2⟩ := r1.lst_inv
    refine ⟨a, xs, rfl, sqL_rd h1 p1.wa.gr.fh, fun p hp => ?_⟩
    have g := Gr.frz (F := F1) (H := H1) (H' := upd H1 p (.lst xs.reverse)) (p := p) (vs := xs.reverse) p1.wa.gr.fh (same_upd hp) hp upd_same
    exact z _ ρ1 _ _ _ q (p1.trans (Post.of p1.wa g)) (.lst (.inl upd_same) (h2.rev.up g.ff))
/-- a method that changes nothing -/
def MtD (r : V → List V → Hp → VK → Prop) (d : D) (es : List D) (Q : D → Prop) : Prop := ∀ (F H : Hp) (x : V) (vs : List V), Same F H → Rp F x d → RpA F vs es → ∀ Z : VK, (∀ e v F' H', Q e → Gr Non F H F' H' → Rp F' v e → Z v H') → r x vs H Z
theorem ex_bmL {r : V → List V → Hp → VK → Prop} (h : EX to ρ fun d ρ1 => ∃ ds, d = .list ds ∧ EA t ρ1 fun es ρ2 => MtD r (.list ds) es fun e => Q e ρ2) : EX (tBM K "list" r to t) ρ Q := fun B ad σ F H w Z z =>
  h B ad σ F H w _ fun d1 ρ1 x F1 H1 q1 p1 r1 => by
    obtain ⟨ds, rfl, q⟩ := q1
    obtain ⟨a, xs, rfl, h1, h2⟩ := r1.lst_inv
    refine ⟨?_, q B ad σ F1 H1 p1.wa _ fun es ρ2 vs F2 H2 q2 p2 r2 => ?_⟩
    · exact .inl ⟨rfl, xs, sqL_rd h1 p1.wa.gr.fh⟩
    · exact q2 F2 H2 (.ref a) vs p2.wa.gr.fh (r1.up p2.gr.ff) r2 Z fun e v F' H' k g rv => z e ρ2 v F' H' k ((p1.trans p2).trans (Post.of p2.wa g)) rv
theorem rpa_intsI {F : Hp} : ∀ {ns : List Int} {vs : List V}, RpA F vs (ns.map .int) → vs = ns.map V.int
  | [], _, h => by cases h; rfl
  | n :: ns, _, h => by
    cases h with
    | cons h1 h2 => rw [h1.int_inv, rpa_intsI h2]; rfl
theorem mtd_indexI {ns : List Int} {n : Int} {Q : D → Prop} (hn : n ∈ ns) (k : Q (.int (ns.idxOf n : Nat))) : MtD (rIndex K) (.list (ns.map .int)) [.int n] Q := fun F H x vs e r rv Z z => by
  obtain ⟨a, xs, rfl, h1, h2⟩ := r.lst_inv
  obtain ⟨v, rfl, rv1⟩ := rv.one
  have e1 := rv1.int_inv
  have e2 := rpa_intsI h2
  subst e1 e2
  have hl : ns.idxOf n < ns.length := List.idxOf_lt_length_iff.mpr hn
  refine ⟨a, ns.map V.int, .int n, ns.idxOf n, .int n, rfl, rfl, sqL_rd h1 e, rfl, ?_, ?_, ?_, fun m z' hm hz => ?_, z _ _ F H k (Gr.refl e) (.int _)⟩
  · rw [List.all_eq_true]
    intro x hx
    obtain ⟨i, _, rfl⟩ := List.mem_map.mp hx
    rfl
  · rw [List.getElem?_map, List.getElem?_eq_getElem hl, List.getElem_idxOf hl]; rfl
  · show (n == n) = true
    simp
  · rw [List.getElem?_map] at hz
    have hml : m < ns.length := by omega
    rw [List.getElem?_eq_getElem hml] at hz
    cases hz
    show (ns[m] == n) = false
    exact List.not_of_lt_findIdx (p := fun x => x == n) hm
end
/-! sorted -/
theorem uniq_of {α : Type} {le : α → α → Bool} (anti : ∀ a b, le a b = true → le b a = true → a = b) : ∀ {xs ys : List α}, xs.Perm ys → xs.Pairwise (fun a b => le a b = true) → ys.Pairwise (fun a b => le a b = true) → xs = ys
  | [], ys, p, _, _ => (List.nil_perm.mp p).symm
  | a :: xs, [], p, _, _ => absurd p.length_eq (by simp)
  | a :: xs, b :: ys, p, h1, h2 => by
    have e : a = b := by
      by_cases e : a = b
      · exact e
      · have ha : a ∈ ys := (List.mem_cons.mp (p.mem_iff.mp (by simp : a ∈ a :: xs))).resolve_left e
        have hb : b ∈ xs := (List.mem_cons.mp (p.mem_iff.mpr (by simp : b ∈ b :: ys))).resolve_left (fun q => e q.symm)
        exact anti a b ((List.pairwise_cons.mp h1).1 b hb) ((List.pairwise_cons.mp h2).1 a ha)
    subst e
    rw [uniq_of anti (p.cons_inv) (List.pairwise_cons.mp h1).2 (List.pairwise_cons.mp h2).2]
theorem sortD_of {α : Type} {enc : α → D} {xs ys : List α} {lt : α → α → Bool} (hlt : ∀ a b, PySem.W.dataLt (enc a) (enc b) = lt a b) (ntr : ∀ a b c, lt b a = false → lt c b = false → lt c a = false) (as : ∀ a b, lt a b = true → lt b a = false) (tot : ∀ a b, lt a b = false → lt b a = false → a = b)
    (hp : xs.Perm ys) (hs : ys.Pairwise fun a b => lt a b = true) : sortD (xs.map enc) = ys.map enc := by
  have e := PySem.W.sort_maps (r := fun a b => !lt b a) (s := PySem.W.dataLe false id) enc (l := xs) (fun a _ b _ => by
    show (!lt b a) = (!PySem.W.dataLt (enc b) (enc a))
    rw [hlt])
  show (xs.map enc).mergeSort (PySem.W.dataLe false id) = ys.map enc
  rw [← e]
  have u : xs.mergeSort (fun a b => !lt b a) = ys := uniq_of (le := fun a b => !lt b a) (fun a b h1 h2 => by
      simp only [Bool.not_eq_true'] at h1 h2
      exact tot a b h2 h1) ((List.mergeSort_perm _ _).trans hp) (List.pairwise_mergeSort (fun a b c h1 h2 => by
        simp only [Bool.not_eq_true'] at h1 h2 ⊢
        exact ntr a b c h1 h2) (fun a b => by
        cases h : lt b a with
        | false => rfl
        | true => simp [as _ _ h]) xs) (hs.imp fun {a b} h => by simp [as _ _ h])
  rw [u]
/-! ### dict(pairs of ints), d[k] -/
section
variable {ρ : Pu.Env} {ty : TE} {K : PySem.W.Frag} {Q : D → Pu.Env → Prop}
def kvOf (p : Int × Int) : Key × V := ((.inl p.1 : Key), V.int p.2)
/-- pairs with different keys -/
def R_dict : List D → (Stt → Prop) → Prop := fun ds Z => ∃ kvs : List (Int × Int), ds = [.list (kvs.map encP)] ∧ (kvs.map Prod.fst).Nodup ∧ Z (.dct kvs)
theorem merge_new : ∀ (more acc : List (Int × Int)), ((acc ++ more).map Prod.fst).Nodup → mergeK (acc.map kvOf) (more.map kvOf) = (acc ++ more).map kvOf
  | [], acc, _ => by simp [mergeK]
  | p :: more, acc, h => by
    have h2 : ((acc ++ [p] ++ more).map Prod.fst).Nodup := by simpa using h
    have ih := merge_new more (acc ++ [p]) h2
    have np : ∀ q ∈ acc, q.1 ≠ p.1 := fun q hq e => by
      have h3 : ((acc.map Prod.fst) ++ (p.1 :: more.map Prod.fst)).Nodup := by simpa using h
      exact (List.nodup_append.mp h3).2.2 q.1 (List.mem_map_of_mem hq) p.1 (by simp) e
    have e1 : ((acc.map kvOf).any fun kv => decide (kv.1 = (kvOf p).1)) = false := by
      rw [List.any_eq_false]
      intro x hx
      obtain ⟨q, hq, rfl⟩ := List.mem_map.mp hx
      simp only [decide_eq_true_eq, kvOf, Sum.inl.injEq]
      exact np q hq
    show mergeK (putK (acc.map kvOf) (kvOf p).1 (kvOf p).2) (more.map kvOf) = _
    unfold putK
    rw [e1, if_neg Bool.false_ne_true]
    have e2 : acc.map kvOf ++ [((kvOf p).1, (kvOf p).2)] = (acc ++ [p]).map kvOf := by simp
    rw [e2, ih]
    simp
theorem paired_of {H F : Hp} (e : Same F H) : ∀ {kvs : List (Int × Int)} {xs : List V}, RpA F xs (kvs.map encP) → ∃ ps : List Addr, xs = ps.map V.ref ∧ Paired (fun p kv => SqT K H p [kV kv.1, kv.2]) ps (kvs.map kvOf)
  | [], _, h => by cases h; exact ⟨[], rfl, .nil⟩
  | p :: kvs, _, h => by
    cases h with
    | cons h1 h2 =>
      obtain ⟨ps, rfl, hp⟩ := paired_of e h2
      obtain ⟨a, ys, rfl, g1, g2⟩ := h1.tup_inv
      obtain ⟨u, v, rfl, r1, r2⟩ := g2.two
      have e1 := r1.int_inv
      have e2 := r2.int_inv
      subst e1 e2
      exact ⟨a :: ps, rfl, .cons (sqT_rd g1 e) hp⟩
theorem dict_fits {H : Hp} {vs : List V} {Q : VK} {E : XK} (h : spN R_dict vs H Q E) : ∃ (a : Addr) (ps : List Addr) (kvs : List (Key × V)), vs = [.ref a] ∧ SqL K H a (ps.map V.ref) ∧ Paired (fun p kv => SqT K H p [kV kv.1, kv.2]) ps kvs ∧
    ∀ p, H p = none → Q (.ref p) (upd H p (.dK (mergeK [] kvs))) := by
  obtain ⟨F, ds, Z, e, r, ⟨kvs, rfl, nd, hz⟩, z⟩ := h
  obtain ⟨v, rfl, rv⟩ := r.one
  obtain ⟨a, xs, rfl, h1, h2⟩ := rv.lst_inv
  obtain ⟨ps, rfl, hp⟩ := paired_of (K := K) e h2
  refine ⟨a, ps, kvs.map kvOf, rfl, sqL_rd h1 e, hp, fun p hn => ?_⟩
  have em : mergeK [] (kvs.map kvOf) = kvs.map kvOf := merge_new kvs [] nd
  rw [em]
  exact z (.dct kvs) p [p] F _ hz (Gr.heap e (same_upd hn)) ⟨rfl, upd_same⟩ fun b hb => by
    rw [List.mem_singleton.mp hb]
    refine ⟨?_, hn⟩
    cases q : F p with
    | none => rfl
    | some o => rw [e p o q] at hn; cases hn
theorem cb_dictN {X : Cx} (hcalm : X.calm = true) : CallR X (.type "dict") fun vs H Q => spN R_dict (vs ++ []) H Q E0 := fun pins s σ H vs us Q I r h => call_dictP hcalm pins s σ H vs us Q I r (dict_fits (E := E0) (by have h : spN R_dict (vs ++ []) H Q E0 := h; rw [List.append_nil] at h; exact h))
theorem valV_int : ∀ {kvs : List (Int × Int)} {k v : Int}, kvs.lookup k = some v → valV (kvs.map kvOf) (.inl k : Key) = some (V.int v)
  | [], _, _, h => by cases h
  | p :: kvs, k, v, h => by
    obtain ⟨a, b⟩ := p
    by_cases c : a = k
    · subst c
      simp only [List.lookup, beq_self_eq_true] at h
      cases h
      exact valV_pos rfl
    · have c2 : (k == a) = false := beq_eq_false_iff_ne.mpr (fun q => c q.symm)
      simp only [List.lookup, c2] at h
      rw [List.map_cons, valV_neg (by simp [kvOf, c])]
      exact valV_int h
theorem ex_dget {i : Nat} {S0 : Stt} (h0 : ρ[i]? = some (.st S0)) (h : EX ty ρ fun d ρ1 => ∃ k v kvs, d = .int k ∧ ρ1[i]? = some (.st (.dct kvs)) ∧ kvs.lookup k = some v ∧ Q (.int v) ρ1) : EX (tDGet (tVar i) ty) ρ Q := fun B ad σ F H w Z z => by
  obtain ⟨s0, k0, _⟩ := w.sl i _ h0
  refine ⟨_, k0, h B ad σ F H w _ fun d ρ1 y F1 H1 q1 p1 r1 => ?_⟩
  obtain ⟨k, v, kvs, rfl, h1, hl, q⟩ := q1
  obtain ⟨s1, k1, st1⟩ := p1.wa.sl i _ h1
  have e := k0.symm.trans k1
  cases e
  have ey := r1.int_inv
  subst ey
  have g := DGet.k (k := (.inl k : Key)) st1.2
  have ev := valV_int hl
  have g' : DGet H1 s0 (.int k) (some (.int v)) := by
    have e2 : (kvs.map fun p => ((.inl p.1 : Key), V.int p.2)) = kvs.map kvOf := rfl
    rw [e2, ev] at g
    exact g
  exact ⟨s0, .int v, rfl, g', z (.int v) ρ1 (.int v) F1 H1 q p1 (.int v)⟩
end
/-! ### a op b op c op d, as a test -/
section
open PyProof.Rows
def tCh3 (r r' r'' : R2) (ta tb tc td : TE) : TT := fun σ H Q => ta σ H fun x H1 => tb σ H1 fun y H2 => r x y H2 fun z H3 => ∃ k, z = .bl k ∧
  (if k = true then tc σ H3 fun x3 H4 => r' y x3 H4 fun z2 H5 => ∃ k2, z2 = .bl k2 ∧ (if k2 = true then td σ H5 fun x4 H6 => r'' x3 x4 H6 fun z3 H7 => ∃ k3, z3 = .bl k3 ∧ Q k3 H7 else Q false H5) else Q false H3)
theorem pt_chain3 {X : Cx} {a b c d : Expr} {ta tb tc td : TE} {pos : Pos} {op op' op'' : CmpOp} {r r' r'' : R2} (ho : OpR X (compareOp op) r) (ho' : OpR X (compareOp op') r') (ho'' : OpR X (compareOp op'') r'') (ha : PE X a ta) (hb : PE X b tb) (hc : PE X c tc) (hd : PE X d td)
    (hm : lastMarks [op, op', op''] [b, c, d] = false := by with_unfolding_all rfl) : PT X (.Compare a [op, op', op''] [b, c, d] pos) (tCh3 r r' r'' ta tb tc td) := by
  refine ⟨fun pins s σ H Q I h => ?_⟩
  refine isTrue_chain (thn (ha.run pins s σ H _ I h) fun v s1 ⟨x, H1, I1, r1, q1⟩ => test_link (thn (hb.run pins s1 σ H1 _ I1 q1) fun u s2 ⟨y, H2, I2, r2, q2⟩ => thn (ho pins s2 σ H2 x y v u _ I2 r1 r2 q2) fun _ s3 ⟨z, H3, I3, r3, k, e, q3⟩ => ?_)) hm
  subst e
  cases r3
  refine wpAny_truthy_bool ?_
  cases k with
  | false => exact ite_ff ⟨H3, I3, q3⟩
  | true =>
    refine ite_tt (test_link (thn (hc.run pins s3 σ H3 _ I3 q3) fun u3 s4 ⟨x3, H4, I4, r4, q4⟩ => thn (ho' pins s4 σ H4 y x3 u u3 _ I4 r2 r4 q4) fun _ s5 ⟨z2, H5, I5, r5, k2, e2, q5⟩ => ?_))
    subst e2
    cases r5
    refine wpAny_truthy_bool ?_
    cases k2 with
    | false => exact ite_ff ⟨H5, I5, q5⟩
    | true =>
      refine ite_tt (test_last (thn (hd.run pins s5 σ H5 _ I5 q5) fun u4 s6 ⟨x4, H6, I6, r6, q6⟩ => thn (ho'' pins s6 σ H6 x3 x4 u3 u4 _ I6 r4 r6 q6) fun _ s7 ⟨z3, H7, I7, r7, k3, e3, q7⟩ => ?_))
      subst e3
      cases r7
      exact wpAny_truthy_bool ⟨H7, I7, q7⟩
theorem et_ch3 {ρ : Pu.Env} {r r' r'' : R2} {ta tb tc td : TE} {Q : Bool → Pu.Env → Prop} (h : EX ta ρ fun d1 ρ1 => EX tb ρ1 fun d2 ρ2 => OpD r d1 d2 fun d => ∃ b, d = .bool b ∧ (b = true → EX tc ρ2 fun d3 ρ3 => OpD r' d2 d3 fun d => ∃ b2, d = .bool b2 ∧
    (b2 = true → EX td ρ3 fun d4 ρ4 => OpD r'' d3 d4 fun d => ∃ b3, d = .bool b3 ∧ Q b3 ρ4) ∧ (b2 = false → Q false ρ3)) ∧ (b = false → Q false ρ2)) : ET (tCh3 r r' r'' ta tb tc td) ρ Q := fun B ad σ F H w Z z =>
  h B ad σ F H w _ fun d1 ρ1 x F1 H1 q1 p1 r1 => q1 B ad σ F1 H1 p1.wa _ fun d2 ρ2 y F2 H2 q2 p2 r2 => q2 F2 H2 x y p2.wa.gr.fh (r1.up p2.gr.ff) r2 _ fun d v F3 H3 kd g rv => by
    obtain ⟨b, rfl, k1, k2⟩ := kd
    refine ⟨b, rv.bl_inv, ?_⟩
    have p3 := (p1.trans p2).trans (Post.of p2.wa g)
    cases b with
    | false => exact z false ρ2 F3 H3 (k2 rfl) p3
    | true =>
      show tc σ H3 _
      refine k1 rfl B ad σ F3 H3 p3.wa _ fun d3 ρ3 u F4 H4 q4 p4 r4 => q4 F4 H4 y u p4.wa.gr.fh ((r2.up g.ff).up p4.gr.ff) r4 _ fun d v F5 H5 kd2 g2 rv2 => ?_
      obtain ⟨b2, rfl, m1, m2⟩ := kd2
      refine ⟨b2, rv2.bl_inv, ?_⟩
      have p5 := (p3.trans p4).trans (Post.of p4.wa g2)
      cases b2 with
      | false => exact z false ρ3 F5 H5 (m2 rfl) p5
      | true =>
        show td σ H5 _
        refine m1 rfl B ad σ F5 H5 p5.wa _ fun d4 ρ4 u4 F6 H6 q6 p6 r6 => q6 F6 H6 u u4 p6.wa.gr.fh ((r4.up g2.ff).up p6.gr.ff) r6 _ fun d v F7 H7 kd3 g3 rv3 => ?_
        obtain ⟨b3, rfl, q⟩ := kd3
        exact ⟨b3, rv3.bl_inv, z b3 ρ4 F7 H7 q ((p5.trans p6).trans (Post.of p6.wa g3))⟩
end
/-! ### a list times an int -/
section
open PyProof.Rows
def rRepR : R2 := fun x y H Q => ∃ l k xs, x = .ref l ∧ y = .int k ∧ Rd H l (.lst xs) ∧ (-1000000 ≤ k ∧ k ≤ 1000000) ∧ xs.length * k.toNat ≤ sizeLine ∧ ∀ p, H p = none → Q (.ref p) (upd H p (.lst (List.replicate k.toNat xs).flatten))
theorem op_repR {X : Cx} : OpR X (binaryOp .Mult) rRepR := by
  rintro pins sh σ H x y v u Q I rx ry ⟨l, k, xs, rfl, rfl, hd, ⟨k1, k2⟩, room, q⟩
  cases rx
  obtain ⟨t, rfl⟩ := ry
  obtain ⟨z, its, n, rv, ob⟩ := hd.ok I.hok
  have ln := rv.length
  have sz : its.toArray.size * k.toNat ≤ sizeLine := by rw [List.size_toArray, ← ln]; exact room
  have fits : ¬ (!Builtin.List.listFitsIndex k) = true := by
    rw [fitsIndex_both (by omega) (by omega)]
    decide
  have cap : ¬ its.toArray.size * k.toNat > (2 ^ 63 - 1) / 8 := Nat.not_lt.mpr (Nat.le_trans sz (by decide))
  have long : ¬ Builtin.List.listTooLong (its.toArray.size * k.toNat) = true := by
    rw [notLongL sz]
    decide
  have flat : ∀ m : Nat, List.foldl (fun a b => a ++ b) #[] (List.replicate m its.toArray) = (List.replicate m its).flatten.toArray := fun m => by
    have f := foldl_rep its m []
    rwa [List.nil_append] at f
  have made : List.foldl (fun a b => a ++ b) #[] (List.replicate (if its.toArray.isEmpty = true then 0 else k.toNat) its.toArray) = (List.replicate k.toNat its).flatten.toArray := by
    rw [flat]
    cases its with
    | nil => simp
    | cons a r => rw [if_neg (by simp)]
  refine wpAny_binaryOp_repeat_ref (U := "int") (T := "list") (by decide) ⟨_, ob, rfl⟩ (fun g => typeIs_int g k t) noFill_list_mul F.fills_int_mul F.slot_int_rmul repeat_list F.slot_int_index.lookup (call_meets F.slot_int_rmul (typeIs_int sh k t) F.entry_int_rmul (F.args_int_rmul_2 _ _) (int___rmul___int_list k t l its.toArray n) ⟨ob, rfl, ⟨_, ob, rfl⟩, call_meets F.slot_list_mul ⟨_, ob, rfl⟩ F.entry_list_mul (F.args_list_mul_2 _ _) (AutoListH.list___mul___list_int_3 l its.toArray n k t fits cap long) ⟨ob, ?_⟩⟩)
  rw [made]
  exact ⟨.ref _, _, I.lnew (t' := sh.toks) (rv.rep k.toNat) (by rw [PyProof.Rows.lm_len_rep_flat, Nat.mul_comm]; exact room), rfl, q _ I.fresh⟩
theorem RpA.rep {F : Hp} {vs : List V} {ds : List D} (h : RpA F vs ds) : ∀ k : Nat, RpA F (List.replicate k vs).flatten (List.replicate k ds).flatten
  | 0 => .nil
  | k + 1 => by
    rw [List.replicate_succ, List.replicate_succ, List.flatten_cons, List.flatten_cons]
    exact h.app (RpA.rep h k)
theorem opo_rep {ds : List D} {k : Int} {Q : List D → Prop} (hk : -1000000 ≤ k ∧ k ≤ 1000000) (hz : ds.length * k.toNat ≤ 1000000) (q : Q (List.replicate k.toNat ds).flatten) : OpO rRepR (.list ds) (.int k) Q := fun F H x y e rx ry Z z => by
  obtain ⟨a, xs, rfl, h1, h2⟩ := rx.lst_inv
  exact ⟨a, k, xs, rfl, ry.int_inv, rd_mono e h1, hk, Nat.le_trans (by rw [h2.len]; exact hz) (by decide), fun p hp => z _ p _ _ q (same_upd hp) hp upd_same (h2.rep _)⟩
theorem opd_rep {ds : List D} {k : Int} {Q : D → Prop} (hk : -1000000 ≤ k ∧ k ≤ 1000000) (hz : ds.length * k.toNat ≤ 1000000) (q : Q (.list (List.replicate k.toNat ds).flatten)) : OpD rRepR (.list ds) (.int k) Q := opd_ofO (opo_rep hk hz q)
end
end Pu
/-! PuG: the law's def at the claim's caller alone, where no repr is under way; so repr of data may be told -/
namespace Pu
open PySem L2 PySem.Spec PyProof.Rows
section
variable {P : Program} {w : World} {K : PySem.W.Frag} {mg mb : Str → Option Value} {base : Heap} {f : Addr} {fd : FuncData} {k : Nat} {x qual : Str} {st : Stmt} {N ps : List Str}
/-- room at the claim's caller -/
abbrev RoomTop (k : Nat) : Prop := Room k callerA
/-- the promise of the law's def when the claim's caller calls it -/
def TopOk (P : Program) (w : World) (K : PySem.W.Frag) (mg : Str → Option Value) (base : Heap) (f : Addr) (fd : FuncData) (ps : List Str) (sp : Sp) : Prop :=
  ∀ (sh : Shared) (G : Hp) (args : Args) (us : List Value) (ws : List V) (Z : VK) (E : XK), Env0 P w K mg base callerA [] sh G → BindsTo sh fd args (ps.zip us) → Vals ws us → sp ws G Z E →
    codeAny (model P w) callerA (.call (.ref f) args) (CR CX0 [] P w G sh Z E) sh
theorem top_of {sp : Sp} (F : Fun K x qual st f fd) (S : FnScope N ps (defScope st)) (len : ∀ vs H Q E, sp vs H Q E → vs.length = ps.length) (room : Room (k + 1) callerA)
    (body : ∀ (cdv : Value) (sh : Shared) (G : Hp) (ws : List V) (Z : VK) (E : XK), Room k (callerA.deeper (envOfC qual (defScope st) sh.heap.objs.size f cdv)) → sp ws G Z E →
      ∃ t, PSs (cxOf CX0 P w K mg base N qual (defScope st) f cdv callerA [] sh G E).nox (defBody st) t ∧ t { nx := fun _ G' => Z .non G', rt := Z } (L2.start N ws) G) : TopOk P w K mg base f fd ps sp := by
  obtain ⟨oc, od, kV, doc, pm, an, cdv, ct, osl, rfl, lk, hcd⟩ := F.ex
  intro sh G args us ws Z E e0 hb rv hz
  have hlen := len _ _ _ _ hz
  have kin : K.In sh.heap := e0.mod.kin.keeps fun b o q => (e0.bs b o q).1
  have nolim : sh.heap.NoLimit := e0.mod.nolimit.keeps fun b o q => (e0.bs b o q).1
  have kinds : ∀ z ∈ ps.zip us, (defScope st).names.lookup z.1 = some .local ∨ ((defScope st).names.lookup z.1 = some .cell ∧ ((cellsFrom (sh.heap.objs.size + 1) (defScope st).names []).lookup z.1).isSome = true) := fun ⟨n, u⟩ hz => by
    have hn := S.par n (List.of_mem_zip hz).1
    exact hn.imp id fun q => ⟨q, PySem.W.cellsFrom_some _ _ _ (.inl q)⟩
  refine codeAny_call_function room.depth (kin _ _ lk) rfl S.co S.gen rfl (PySem.W.codeRec_of kin hcd) (hb _ _ _ _ (wpAny_newFunctionEnv_cells S.kind kinds fun env he s1 inc => ?_))
  subst he
  refine ⟨nolim.keeps inc.toInCall.keep, codeAny_func ?_⟩
  obtain ⟨t, ht, hq⟩ := body cdv sh G ws Z E (room.deeper _) hz
  have I0 : Inv (cxOf CX0 P w K mg base N qual (defScope st) f cdv callerA [] sh G E) [] (L2.start N ws) G s1 := inv_start S room.hd e0 hlen rv inc
  refine wpAny_mono (ht.nox.run [] s1 (L2.start N ws) G _ I0 hq) (fun fl s' hs => ?_) fun _ _ hs => hs
  cases fl with
  | ret u =>
    obtain ⟨v, σ', H', J, r, q⟩ := hs
    exact ⟨v, H', J.os, J.bare, J.base, J.hok, r, q⟩
  | next =>
    obtain ⟨σ', H', J, q⟩ := hs
    exact ⟨V.non, H', J.os, J.bare, J.base, J.hok, rfl, q⟩
  | brk => exact hs.elim fun _ hs => hs.elim fun _ hs => (hs.2 : False).elim
  | cont => exact hs.elim fun _ hs => hs.elim fun _ hs => (hs.2 : False).elim
/-- the script as it stands ahead of the call: one frozen list -/
def scriptH (a : Addr) (vs : List Value) (ns : List Int) : Hp := fun b => if b = a then some (.frz { cls := .type "list", data := .seq vs.toArray } (.lst (ns.map V.int))) else none
theorem scriptH_at (a : Addr) (vs : List Value) (ns : List Int) : scriptH a vs ns a = some (.frz { cls := .type "list", data := .seq vs.toArray } (.lst (ns.map V.int))) := if_pos rfl
theorem scriptH_no {a b : Addr} {vs : List Value} {ns : List Int} (h : b ≠ a) : scriptH a vs ns b = none := if_neg h
theorem top_call {fa a : Addr} {sh : Shared} {vs : List Value} {ns : List Int} {R : List D → (D → Prop) → Prop} (kin : K.In sh.heap) (gl : sh.heap.Ns mainGlobals mg) (bl : sh.heap.Ns builtinsNs mb) (bb : ∀ y : Str, y ≠ "__name__" → mb y = bootBuiltins y) (nolim : sh.heap.NoLimit) (gens : sh.gens = #[])
    (hs : sh.heap.get? a = some { cls := .type "list", data := .seq vs.toArray }) (hi : IntsAre vs ns) (hl : ns.length ≤ sizeLine) (nl : noLs K = true)
    (F : ∀ base : Heap, K.In base → base.Ns mainGlobals mg → TopOk P w K mg base fa fd [x] (spP R)) (hbind : ∀ (s : Shared) (u : Value), BindsTo s fd ⟨[u], []⟩ [(x, u)]) (hR : R [.list (ns.map .int)] fun d => d = .bool true) :
    codeAny (model P w) callerA (.call (.ref fa) ⟨[.ref a], []⟩) (fun r s' => r = .ok (.ret (.bool true)) ∧ OldK sh.heap s'.heap ∧ s'.os = sh.os ∧ AllBare s'.gens) sh := by
  let G := scriptH a vs ns
  have gAt : G a = some (.frz { cls := .type "list", data := .seq vs.toArray } (.lst (ns.map V.int))) := scriptH_at a vs ns
  have gNo : ∀ {b : Addr}, b ≠ a → G b = none := fun h => scriptH_no h
  have keep : ∀ {b : Addr} {o : Obj}, sh.heap.get? b = some o → b ≠ a → (hidT sh.heap G).get? b = some o := fun e h => hidT_get e (gNo h)
  have notDict : ∀ {b : Addr} {o : Obj} {es : Array DictEntry} {ep : Nat}, sh.heap.get? b = some o → o.data = .dict es ep → b ≠ a := fun {b o es ep} e d q => by
    subst q
    rw [hs] at e
    cases e
    cases d
  have nsOf : ∀ {b : Addr} {m : Str → Option Value}, sh.heap.Ns b m → (hidT sh.heap G).Ns b m := fun {b m} ⟨o, es, ep, e, d, r⟩ => ⟨o, es, ep, keep e (notDict e d), d, r⟩
  have kin' : K.In (hidT sh.heap G) := fun b o e => keep (kin b o e) fun q => by
    subst q
    have z := kin b o e
    rw [hs] at z
    cases z
    exact noLs_at nl e rfl
  have md : Mod K mg (hidT sh.heap G) := ⟨kin', nsOf gl, ⟨mb, nsOf bl, bb⟩, nolim.elim fun mc h => ⟨mc, nsOf h.1, h.2⟩⟩
  have vals := vals_ints hi
  have gok : HOk P w G sh.heap := fun b u z => by
    by_cases q : b = a
    · subst q
      rw [gAt] at z
      cases z
      exact ⟨hs, by rw [List.length_map]; exact hl, vs, _, vals, hs⟩
    · rw [gNo q] at z; cases z
  have e0 : Env0 P w K mg (hidT sh.heap G) callerA [] sh G := ⟨rfl, md, fun b o e => of_hidT e, Nat.le_of_eq (hidT_size _ _), trivial, fun b hb => (by cases hb), gok, .of_eq gens⟩
  have spec : spP R [.ref a] G (fun v _ => v = .bl true) fun _ _ _ => False := sp_law nl (.inl (.inr ⟨_, gAt⟩)) hR
  refine codeAny_mono (F _ kin' (nsOf gl) sh G ⟨[.ref a], []⟩ [.ref a] [.ref a] _ _ e0 (hbind sh (.ref a)) (.cons rfl .nil) spec) fun r s' h => ?_
  cases r with
  | error e => exact (show False from h).elim
  | ok fl =>
    cases fl with
    | next => exact h.elim
    | brk => exact h.elim
    | cont => exact h.elim
    | ret u =>
      obtain ⟨v, G', os, bare, un, gok', rv, q⟩ := h
      have q : v = .bl true := q
      subst q
      have rv : u = Value.bool true := rv
      subst rv
      refine ⟨rfl, OldK.of_keep fun b o e => ?_, os, bare⟩
      by_cases hb : b = a
      · subst hb
        have z := un.frzs b _ _ gAt
        have e1 := (gok b _ gAt).1
        rw [e] at e1
        cases e1
        exact (gok' b _ z).1
      · exact un.keep b o e (gNo hb) (fun z => by cases z) (fun z => by cases z)
/-- a law's def whose argument is the script -/
theorem top_pure {R : List D → (D → Prop) → Prop} (F : Fun K x qual st f fd) (S : FnScope N ps (defScope st)) (len : ∀ ds Z, R ds Z → ds.length = ps.length) (room : Room (k + 1) callerA)
    (body : ∀ (cdv : Value) (s : Shared) (H : Hp) (E : XK), Room k (callerA.deeper (envOfC qual (defScope st) s.heap.objs.size f cdv)) →
      ∃ t, PSs (cxOf CX0 P w K mg base N qual (defScope st) f cdv callerA [] s H E).nox (defBody st) t ∧ ∀ ds Z, R ds Z → SX t (startE N ds) { nx := fun _ => Z .none, rt := fun d _ => Z d }) :
    TopOk P w K mg base f fd ps (spP R) := by
  refine top_of F S (fun vs H Q E h => ?_) room (fun cdv s H vs Q E hr h => ?_)
  · obtain ⟨F, ds, Z, _, r, q, _⟩ := h
    rw [r.len]
    exact len ds Z q
  · obtain ⟨F0, ds, Z, fh, r, q, z⟩ := h
    obtain ⟨t, ht, hs⟩ := body cdv s H E hr
    refine ⟨t, ht, hs ds Z q { F0 := F0, H0 := H, M := Non } (L2.start N vs) F0 H ⟨fun _ => [], Gr.refl fh, ?_, fun i s e => ?_, (fun i p m => by cases m), (fun i j p m => by cases m), fun _ _ => rfl, (fun s as e => by cases e)⟩ _ (fun ρ' σ' F' H' q w' => ?_) (fun d ρ' σ' v F' H' q w' rv => ?_) (fun _ _ _ _ q _ => q.elim) (fun _ _ _ _ q _ => q.elim)⟩
    · unfold L2.start startE
      rw [List.length_append, List.length_append, List.length_map, List.length_map, List.length_replicate, List.length_replicate, r.len]
    · rcases startE_get e with ⟨d, e2, rfl⟩ | rfl
      · obtain ⟨v, e1, rv⟩ := r.get e2
        exact ⟨rfl, v, start_get e1, rv⟩
      · rfl
    · obtain ⟨ad, w'⟩ := w'
      exact z .none .non F' H' q w'.gr .non
    · obtain ⟨ad, w'⟩ := w'
      exact z d v F' H' q w'.gr rv
/-- the law's statement out of the law's def at the claim's caller -/
theorem walk_top {l : PySem.W.OpenLaw} {n : Nat} {q : Program} {loose : List Str} {XP : (Str → Option Value) → Heap → Prop} {YP : World → Heap → Prop} {d : DefRec} {K : Params → PySem.W.Frag} {R : List D → (D → Prop) → Prop} {x : Str} (hn : l.most = some n) (hn2 : n ≤ sizeLine) (hdf : d.params.defaults = [])
    (hY : ∀ (w : World) (h : Heap), YP w h → (K w.params).In h) (nl : ∀ w : World, noLs (K w.params) = true)
    (F : ∀ (w : World) (mg : Str → Option Value) (fa : Addr) (h : Heap), (K w.params).In h → h.Ns mainGlobals mg → mg d.name = some (.ref fa) →
      ∃ fd : FuncData, (∀ (s : Shared) (u : Value), BindsTo s fd ⟨[u], []⟩ [(x, u)]) ∧ ∀ base : Heap, (K w.params).In base → base.Ns mainGlobals mg → TopOk l.prog w (K w.params) mg base fa fd [x] (spP R))
    (hR : ∀ ns : List Int, ns.length ≤ n → R [.list (ns.map .int)] fun d => d = .bool true) : PySem.W.WalkO q loose XP YP l.row.toRowW d [] (fun f vs => PySem.call f vs) := by
  refine Att.attach_call hn hdf fun w s₀ s₁ mg mb fa o pm cd doc a vs ns G Y ho hd hcd hm hs hi hlen hg => ?_
  obtain ⟨fd, hb, hF⟩ := F w mg fa _ (hY w _ Y) G.T.g hm
  exact top_call (hY w _ Y) G.T.g G.T.b G.T.builtins G.T.nolimit hg hs hi (Nat.le_trans hlen hn2) (nl w) hF hb (hR ns hlen)
end
/-! ### repr of data -/
theorem textFrom_le : ∀ (ts : List Str) (k n : Nat) (acc : Str), (∀ t ∈ ts, t.length ≤ n) → (textFrom k acc ts).length ≤ acc.length + ts.length * (n + 2)
  | [], k, n, acc, _ => by
    show acc.length ≤ _
    omega
  | t :: r, k, n, acc, h => by
    have ih := textFrom_le r (k + 1) n (acc ++ (if k > 0 then ", " else "" : String) ++ t) fun u hu => h u (by simp [hu])
    have ht := h t (by simp)
    have hl : (acc ++ (if k > 0 then ", " else "" : String) ++ t : Str).length ≤ acc.length + 2 + t.length := by
      rw [Str.length_append, Str.length_append]
      by_cases c : k > 0
      · rw [if_pos c]
        have e : (Str.ofString ", ").length = 2 := by decide +kernel
        have e2 : (", " : Str).length = 2 := e
        omega
      · rw [if_neg c]
        have e : (Str.ofString "").length = 0 := by decide +kernel
        have e2 : ("" : Str).length = 0 := e
        omega
    show (textFrom (k + 1) (acc ++ (if k > 0 then ", " else "" : String) ++ t) r).length ≤ _
    rw [List.length_cons, Nat.succ_mul]
    omega
theorem listText_le {ts : List Str} {n : Nat} (h : ∀ t ∈ ts, t.length ≤ n) : (listText ts).length ≤ ts.length * (n + 2) + 2 := by
  unfold listText
  rw [Str.length_append]
  have q := textFrom_le ts 0 n "[" h
  have e1 : ("[" : Str).length = 1 := (by decide +kernel : (Str.ofString "[").length = 1)
  have e2 : ("]" : Str).length = 1 := (by decide +kernel : (Str.ofString "]").length = 1)
  omega
theorem piled_le : ∀ {ts : List Str} {n : Nat}, (∀ t ∈ ts, t.length ≤ n) → piled ts ≤ ts.length * (n + 2)
  | [], n, _ => by simp [piled]
  | t :: ts, n, h => by
    have h1 := h t (by simp)
    have h2 := piled_le (ts := ts) fun u hu => h u (by simp [hu])
    rw [piled_cons, List.length_cons, Nat.succ_mul]
    omega
theorem tupleText_le {ts : List Str} {n : Nat} (h : ∀ t ∈ ts, t.length ≤ n) : (tupleText ts).length ≤ ts.length * (n + 2) + 4 := by
  unfold tupleText
  rw [Str.length_append, Str.length_append]
  have e1 : ("(" : Str).length = 1 := (by decide +kernel : (Str.ofString "(").length = 1)
  have e2 : ((if ts.length == 1 then ",)" else ")" : String) : Str).length ≤ 2 := by
    split
    · exact (by decide +kernel : (Str.ofString ",)").length ≤ 2)
    · exact (by decide +kernel : (Str.ofString ")").length ≤ 2)
  have e3 : (Str.join ", " ts).length ≤ ts.length * (n + 2) := by
    cases ts with
    | nil =>
      have e : (Str.join (Str.ofString ", ") []).length = 0 := by decide +kernel
      have e' : (Str.join ", " []).length = 0 := e
      omega
    | cons t ts =>
      have q := join_length_add (t :: ts) (by simp)
      have p := piled_le h
      omega
  omega
/-- text that can be shown, of at most so many signs -/
structure Sh (n : Nat) (d : D) : Prop where
  sh : d.showable = true
  nd : d.hasDict = false
  ln : d.shown.length ≤ n
theorem sh_int {i : Int} (h : i.natAbs < 2 ^ 64) : Sh 2000 (.int i) where
  sh := by
    simp only [PyData.showable, decide_eq_true_eq]
    rcases Nat.eq_zero_or_pos i.natAbs with z | z
    · rw [z]; decide
    · exact Nat.lt_of_lt_of_le ((Nat.log2_lt (by omega)).mpr h) (by decide)
  nd := by simp only [PyData.hasDict]
  ln := by
    simp only [PyData.shown]
    refine Nat.le_trans (int_text_len_1921 ?_) (by decide)
    rcases Nat.eq_zero_or_pos i.natAbs with z | z
    · rw [z]; decide
    · exact Nat.lt_of_lt_of_le ((Nat.log2_lt (by omega)).mpr h) (by decide)
theorem sh_non : Sh 2000 .none := ⟨by simp only [PyData.showable], by simp only [PyData.hasDict], by simp only [PyData.shown]; decide +kernel⟩
theorem sh_all {n : Nat} : ∀ {ds : List D}, (∀ d ∈ ds, Sh n d) → PyData.showableAll ds = true ∧ PyData.hasDictAll ds = false ∧ (∀ t ∈ PyData.shownAll ds, t.length ≤ n) ∧ (PyData.shownAll ds).length = ds.length
  | [], _ => ⟨by simp only [PyData.showableAll], by simp only [PyData.hasDictAll], (fun t ht => by simp [PyData.shownAll] at ht), by simp [PyData.shownAll]⟩
  | d :: ds, h => by
    have h1 := h d (by simp)
    obtain ⟨a, b, c, e⟩ := sh_all (ds := ds) fun x hx => h x (by simp [hx])
    refine ⟨by simp only [PyData.showableAll, h1.sh, a, Bool.and_self], by simp only [PyData.hasDictAll, h1.nd, b, Bool.or_self], fun t ht => ?_, by simp [PyData.shownAll, e]⟩
    simp only [PyData.shownAll, List.mem_cons] at ht
    rcases ht with rfl | ht
    · exact h1.ln
    · exact c t ht
theorem sh_list {n m : Nat} {ds : List D} (h : ∀ d ∈ ds, Sh n d) (hm : ds.length ≤ m) : Sh (m * (n + 2) + 4) (.list ds) := by
  obtain ⟨a, b, c, e⟩ := sh_all h
  refine ⟨by simp only [PyData.showable]; exact a, by simp only [PyData.hasDict]; exact b, ?_⟩
  simp only [PyData.shown]
  have q := listText_le c
  rw [e] at q
  have q2 : ds.length * (n + 2) ≤ m * (n + 2) := Nat.mul_le_mul_right _ hm
  omega
theorem sh_tup {n m : Nat} {ds : List D} (h : ∀ d ∈ ds, Sh n d) (hm : ds.length ≤ m) : Sh (m * (n + 2) + 4) (.tuple ds) := by
  obtain ⟨a, b, c, e⟩ := sh_all h
  refine ⟨by simp only [PyData.showable]; exact a, by simp only [PyData.hasDict]; exact b, ?_⟩
  simp only [PyData.shown]
  have q := tupleText_le c
  rw [e] at q
  have q2 : ds.length * (n + 2) ≤ m * (n + 2) := Nat.mul_le_mul_right _ hm
  omega
theorem Sh.up {n m : Nat} {d : D} (h : Sh n d) (k : n ≤ m) : Sh m d := ⟨h.sh, h.nd, Nat.le_trans h.ln k⟩
theorem sh_map {α : Type} {n : Nat} {xs : List α} {f : α → D} (h : ∀ x ∈ xs, Sh n (f x)) : ∀ d ∈ xs.map f, Sh n d := fun d hd => by
  obtain ⟨x, hx, rfl⟩ := List.mem_map.mp hd
  exact h x hx
theorem sh_nil {n : Nat} : ∀ d ∈ ([] : List D), Sh n d := fun d h => by cases h
theorem sh_cons {n : Nat} {d : D} {ds : List D} (h : Sh n d) (hs : ∀ e ∈ ds, Sh n e) : ∀ e ∈ d :: ds, Sh n e := fun e he => by
  rcases List.mem_cons.mp he with rfl | he
  · exact h
  · exact hs e he
def rRepr (_ : PySem.W.Frag) : List V → Hp → VK → Prop := fun vs H Q => ∃ (F : Hp) (v : V) (d : D), vs = [v] ∧ Same F H ∧ Rp F v d ∧ Sh sizeLine d ∧ d.depth ≤ 60 ∧ Q (.str d.shown) H
theorem cb_repr {X : Cx} (hu : X.A.units + 64 < cLine) (hg : X.A.guards = some []) : CallR X (.builtin "repr") (rRepr X.K) := by
  rintro pins s σ H vs us Q I r ⟨F, v, d, rfl, e, rp, ⟨hs, hnd, hl⟩, hz, q⟩
  obtain ⟨u, rfl, ru⟩ := r.one
  obtain ⟨as, rd⟩ := rp_reads I e rp ru
  have disp : isDisplay d = true → wpAny (model X.prog X.w) X.A (call (.builtin "repr") [u]) (EP X pins σ Q) X.xe s := fun hd => by
    obtain ⟨a, rfl⟩ := isRef_of_reads rd hd
    exact repr_of_reads' rd hs (PyData.noDict_hsm hnd) hg (by omega) (fun _ _ e => e) (fun h' u tk hk => ⟨.str d.shown, H, I.kept hk, ⟨u, rfl⟩, q⟩) hl
  cases d with
  | none =>
    cases rp
    have ru : u = Value.none := ru
    subst ru
    simp only [PyData.shown] at q
    exact PySem.P.repr_of_none ⟨.str "None", H, I.tok _, ⟨_, rfl⟩, q⟩
  | bool b =>
    cases rp
    have ru : u = Value.bool b := ru
    subst ru
    simp only [PyData.shown] at q
    exact PySem.P.repr_of_bool ⟨.str _, H, I.tok _, ⟨_, rfl⟩, q⟩
  | int i =>
    cases rp
    obtain ⟨t, rfl⟩ := ru
    simp only [PyData.shown] at q
    simp only [PyData.showable, decide_eq_true_eq] at hs
    exact PySem.P.repr_of_int hs ⟨.str _, H, I.tok _, ⟨_, rfl⟩, q⟩
  | str x =>
    cases rp
    obtain ⟨t, rfl⟩ := ru
    simp only [PyData.shown] at q hl
    exact PySem.P.repr_of_str ⟨.str _, H, I.tok _, ⟨_, rfl⟩, q⟩ hl
  | list xs => exact disp rfl
  | tuple xs => exact disp rfl
  | dict xs => simp only [PyData.hasDict] at hnd; cases hnd
theorem cbd_repr {K : PySem.W.Frag} {d : D} {n : Nat} {Q : D → Prop} (h : Sh n d) (hn : n ≤ sizeLine) (hz : d.depth ≤ 60) (k : Q (.str d.shown)) : CbD (rRepr K) [d] Q := fun F H vs e r Z z => by
  obtain ⟨v, rfl, rv⟩ := r.one
  exact ⟨F, v, d, rfl, e, rv, h.up hn, hz, z _ _ F H k (Gr.refl e) (.str _)⟩
end Pu
/-! PuD: the drawing state of the laws k00 .. k45: a list of two ints, read and written by its owner -/
namespace Pu
open PySem L2
section
variable {ρ : Pu.Env} {te : TE} {K : PySem.W.Frag} {Q : D → Pu.Env → Prop} {P : Po} {i : Nat}
theorem WA.stp {B : Base} {ad : Nat → List Addr} {σ : St} {F H F' H' : Hp} {s : Addr} {S S' : Stt} (w : WA B ad ρ σ F H) (h1 : ρ[i]? = some (.st S)) (k0 : σ[i]? = some (some (.ref s))) (g : Gr (· ∈ ad i) F H F' H') (st : StAt F' H' S' s (ad i)) (fn : ∀ a ∈ ad i, F' a = none) : WA B ad (ρ.set i (.st S')) σ F' H' := by
  have nm : ∀ j a, j ≠ i → a ∈ ad j → a ∉ ad i := fun j a hj m m' => hj (w.dj j i a m m')
  refine ⟨⟨w.gr.ff.trans g.ff, g.fh, fun a o e m => g.kp a o (w.gr.kp a o e m) fun z => ?_, fun a e => g.al a (w.gr.al a e), fun a e z => g.fr a (w.gr.al a e) (w.gr.fr a e z)⟩, by rw [List.length_set]; exact w.len, fun j sl e => ?_, fun j a m => ⟨?_, (w.fz j a m).2⟩, w.dj, fun j e => w.out j (get_set' e), w.pin.to fun S2 e => by
    rcases get_set e with ⟨e0, _⟩ | ⟨hj, e⟩
    · exact ⟨⟨S, by rw [e0]; exact h1⟩, rfl, rfl⟩
    · exact ⟨⟨S2, e⟩, rfl, rfl⟩⟩
  · rcases (w.fz i a z).2 with q | q
    · rw [q] at e; cases e
    · exact m q.1
  · rcases get_set e with ⟨rfl, rfl⟩ | ⟨hj, e⟩
    · exact ⟨s, k0, st⟩
    · have k := w.sl j sl e
      cases sl with
      | emp => exact k
      | val d =>
        obtain ⟨k, v, e, r⟩ := k
        exact ⟨k, v, e, r.up g.ff⟩
      | own es =>
        obtain ⟨q, ws, a1, a2, a3, a4, a5⟩ := k
        exact ⟨q, ws, a1, a2, a3, g.kp q _ a4 (nm j q hj (by rw [a1]; simp)), a5.up g.ff⟩
      | st S2 =>
        obtain ⟨s2, a1, a2⟩ := k
        exact ⟨s2, a1, a2.keep g.ff fun a m o e => g.kp a o e (nm j a hj m)⟩
  · by_cases hj : j = i
    · subst hj; exact fn a m
    · exact g.fr a (w.lv m) (w.fz j a m).1
/-- a fresh list of two ints is the state from now on -/
theorem W.toTwo {B : Base} {σ : St} {F H : Hp} {a b : Int} (h00 : i ≠ 0) (h : ρ[i]? = some (.own [.int a, .int b])) (w : W B ρ σ F H) : W B (ρ.set i (.st (.two a b))) σ F H := by
  obtain ⟨ad, w⟩ := w
  obtain ⟨p, vs, hp, a1, a2, a3, rr⟩ := w.sl i _ h
  obtain ⟨u, v, rfl, r1, r2⟩ := rr.two
  have e1 := r1.int_inv
  have e2 := r2.int_inv
  subst e1 e2
  refine ⟨ad, w.gr, by rw [List.length_set]; exact w.len, fun j sl e => ?_, w.fz, w.dj, fun j e => w.out j (get_set' e), w.pin.to fun S2 e => by
    rcases get_set e with ⟨e0, _⟩ | ⟨hj, e⟩
    · exact absurd e0.symm h00
    · exact ⟨⟨S2, e⟩, rfl, rfl⟩⟩
  rcases get_set e with ⟨rfl, rfl⟩ | ⟨hj, e⟩
  · exact ⟨p, a2, hp, a3⟩
  · exact w.sl j sl e
theorem sx_toTwo {t : TS} {a b : Int} (h00 : i ≠ 0) (h : ρ[i]? = some (.own [.int a, .int b])) (k : SX t (ρ.set i (.st (.two a b))) P) : SX t ρ P := fun B σ F H w Dn n r bk c => k B σ F H (W.toTwo h00 h w) Dn n r bk c
theorem ex_st0 {a b : Int} (h : ρ[i]? = some (.st (.two a b))) (q : Q (.int a) ρ) : EX (tOp (rIxA K) (tVar i) (tC (.int 0))) ρ Q := fun B ad σ F H w Z z => by
  obtain ⟨s, k0, _, hs⟩ := w.sl i _ h
  exact ⟨_, k0, .inl ⟨s, [.int a, .int b], 0, .int a, rfl, rfl, .inl (.inl hs), rfl, z (.int a) ρ (.int a) F H q (Post.refl w) (.int a)⟩⟩
theorem ex_st1 {a b : Int} (h : ρ[i]? = some (.st (.two a b))) (q : Q (.int b) ρ) : EX (tOp (rIxA K) (tVar i) (tC (.int 1))) ρ Q := fun B ad σ F H w Z z => by
  obtain ⟨s, k0, _, hs⟩ := w.sl i _ h
  exact ⟨_, k0, .inl ⟨s, [.int a, .int b], 1, .int b, rfl, rfl, .inl (.inl hs), rfl, z (.int b) ρ (.int b) F H q (Post.refl w) (.int b)⟩⟩
theorem two_grow {F H : Hp} {s : Addr} {a b c d : Int} {as : List Addr} (ha : as = [s]) (fh : Same F H) (hs : H s = some (.lst [.int a, .int b])) (fn : ∀ x ∈ as, F x = none) : Gr (· ∈ as) F H F (upd H s (.lst [.int c, .int d])) := by
  subst ha
  have fs := fn s (by simp)
  refine ⟨Same.refl F, fun x o e => ?_, fun x o e m => ?_, fun x e => ?_, fun _ _ z => z⟩
  · have ne : x ≠ s := fun q => by rw [q, fs] at e; cases e
    rw [upd_ne ne]; exact fh x o e
  · rw [upd_ne (fun q => m (by simp [q]))]; exact e
  · by_cases q : x = s
    · rw [q, upd_same]; intro z; cases z
    · rw [upd_ne q]; exact e
theorem sx_st0 (h : EX te ρ fun d ρ1 => ∃ v a b, d = .int v ∧ ρ1[i]? = some (.st (.two a b)) ∧ NX P (ρ1.set i (.st (.two v b)))) : SX (tAsg te (gSub (tVar i) (tC (.int 0)) rSetL)) ρ P := fun B σ F H w Dn n r bk c => by
  obtain ⟨ad, w⟩ := w
  refine h B ad σ F H w _ fun d ρ1 v F1 H1 q1 p1 r1 => ?_
  obtain ⟨x, a, b, rfl, h1, ρ', l, q⟩ := q1
  have ev := r1.int_inv
  subst ev
  obtain ⟨s, k0, as, hs⟩ := p1.wa.sl i _ h1
  have g := two_grow (c := x) (d := b) as p1.wa.gr.fh hs fun y hy => (p1.wa.fz i y hy).1
  exact ⟨_, k0, s, [.int a, .int b], 0, 0, rfl, rfl, hs, rfl, n ρ' σ F1 _ q (W.weak ⟨ad, p1.wa.stp (S' := .two x b) h1 k0 g ⟨as, upd_same⟩ fun y hy => (p1.wa.fz i y hy).1⟩ l)⟩
theorem sx_st1 (h : EX te ρ fun d ρ1 => ∃ v a b, d = .int v ∧ ρ1[i]? = some (.st (.two a b)) ∧ NX P (ρ1.set i (.st (.two a v)))) : SX (tAsg te (gSub (tVar i) (tC (.int 1)) rSetL)) ρ P := fun B σ F H w Dn n r bk c => by
  obtain ⟨ad, w⟩ := w
  refine h B ad σ F H w _ fun d ρ1 v F1 H1 q1 p1 r1 => ?_
  obtain ⟨x, a, b, rfl, h1, ρ', l, q⟩ := q1
  have ev := r1.int_inv
  subst ev
  obtain ⟨s, k0, as, hs⟩ := p1.wa.sl i _ h1
  have g := two_grow (c := a) (d := x) as p1.wa.gr.fh hs fun y hy => (p1.wa.fz i y hy).1
  exact ⟨_, k0, s, [.int a, .int b], 1, 1, rfl, rfl, hs, rfl, n ρ' σ F1 _ q (W.weak ⟨ad, p1.wa.stp (S' := .two a x) h1 k0 g ⟨as, upd_same⟩ fun y hy => (p1.wa.fz i y hy).1⟩ l)⟩
end
def T_draw (K : PySem.W.Frag) : TS :=
    (tSeq (tIfS (tTest (tOp (rEqP K) (tOp (rIxA K) (tVar 0) (tC (.int 1))) (tC (.int 0))))
      (tSeq (tAsg (tC (.int 0)) (gName 3))
    (tSeq (tIfS (tTest (tOp (rI0 fun i j => .bl (decide (j < i))) (tCB (rLen K) (tCons (tVar 1) tNil)) (tC (.int 0))))
      (tAsg (tOp (rIxA K) (tVar 1) (tOp (rI (fun _ j => 0 < j) fun i j => .int (i % j)) (tOp (rIxA K) (tVar 0) (tC (.int 0))) (tCB (rLen K) (tCons (tVar 1) tNil)))) (gName 3))
      tNext)
    (tSeq (tIfS (tTest (tOp (rI0 fun i j => .bl (decide (i < j))) (tVar 3) (tC (.int 0))))
      (tAsg (tOp (rI0 fun i j => .int (i - j)) (tC (.int 1)) (tOp (rI CMul fun i j => .int (i * j)) (tC (.int 2)) (tVar 3))) (gName 3))
      tNext)
    (tSeq (tAsg (tOp (rI (fun _ j => 0 < j) fun i j => .int (i % j)) (tCB (rInt) (tCons (tOp (rI CMul fun i j => .int (i * j)) (tOp (rPlus K) (tOp (rPlus K) (tVar 3) (tOp (rI CMul fun i j => .int (i * j)) (tOp (rIxA K) (tVar 0) (tC (.int 0))) (tC (.int 7919)))) (tC (.int 1))) (tC (.int 48271))) tNil)) (tC (.int 2147483647))) (gName 4))
    (tSeq (tAsg (tOp (rI (fun _ j => 0 < j) fun i j => .int (i % j)) (tCB (rInt) (tCons (tOp (rPlus K) (tOp (rI CMul fun i j => .int (i * j)) (tVar 4) (tC (.int 69621))) (tOp (rI CMul fun i j => .int (i * j)) (tOp (rIxA K) (tVar 0) (tC (.int 0))) (tC (.int 104729)))) tNil)) (tC (.int 4294967291))) (gSub (tVar 0) (tC (.int 1)) rSetL))
    (tSeq (tIfS (tAnd (tTest (tOp (rI0 fun i j => .bl (decide (j ≤ i))) (tVar 3) (tOp (rI CPow fun i j => .int (i ^ j.toNat)) (tC (.int 10)) (tC (.int 18))))) (tTest (tOp (rI0 fun i j => .bl (decide (i < j))) (tOp (rIxA K) (tVar 0) (tC (.int 0))) (tCB (rLen K) (tCons (tVar 1) tNil)))))
      (tAsg (tVar 3) (gSub (tVar 0) (tC (.int 1)) rSetL))
      tNext)
    (tAsg (tOp (rPlus K) (tOp (rIxA K) (tVar 0) (tC (.int 0))) (tC (.int 1))) (gSub (tVar 0) (tC (.int 0)) rSetL))))))))
      tNext)
    (tSeq (tAsg (tOp (rI (fun _ j => 0 < j) fun i j => .int (i % j)) (tCB (rInt) (tCons (tOp (rIxA K) (tVar 0) (tC (.int 1))) tNil)) (tVar 2)) (gName 5))
    (tSeq (tAsg (tOp (rI CDiv fun i j => .int (i / j)) (tOp (rIxA K) (tVar 0) (tC (.int 1))) (tVar 2)) (gSub (tVar 0) (tC (.int 1)) rSetL))
    (tRet (tVar 5)))))
def T_dr3 (K : PySem.W.Frag) : TS :=
    (tSeq (tAsg (tOp (rI (fun _ j => 0 < j) fun i j => .int (i % j)) (tCB (rInt) (tCons (tOp (rIxA K) (tVar 0) (tC (.int 1))) tNil)) (tVar 2)) (gName 5))
    (tSeq (tAsg (tOp (rI CDiv fun i j => .int (i / j)) (tOp (rIxA K) (tVar 0) (tC (.int 1))) (tVar 2)) (gSub (tVar 0) (tC (.int 1)) rSetL))
    (tRet (tVar 5))))
def T_dr4 (K : PySem.W.Frag) : TS :=
    (tSeq (tAsg (tOp (rI (fun _ j => 0 < j) fun i j => .int (i % j)) (tCB (rInt) (tCons (tOp (rI CMul fun i j => .int (i * j)) (tOp (rPlus K) (tOp (rPlus K) (tVar 3) (tOp (rI CMul fun i j => .int (i * j)) (tOp (rIxA K) (tVar 0) (tC (.int 0))) (tC (.int 7919)))) (tC (.int 1))) (tC (.int 48271))) tNil)) (tC (.int 2147483647))) (gName 4))
    (tSeq (tAsg (tOp (rI (fun _ j => 0 < j) fun i j => .int (i % j)) (tCB (rInt) (tCons (tOp (rPlus K) (tOp (rI CMul fun i j => .int (i * j)) (tVar 4) (tC (.int 69621))) (tOp (rI CMul fun i j => .int (i * j)) (tOp (rIxA K) (tVar 0) (tC (.int 0))) (tC (.int 104729)))) tNil)) (tC (.int 4294967291))) (gSub (tVar 0) (tC (.int 1)) rSetL))
    (tSeq (tIfS (tAnd (tTest (tOp (rI0 fun i j => .bl (decide (j ≤ i))) (tVar 3) (tOp (rI CPow fun i j => .int (i ^ j.toNat)) (tC (.int 10)) (tC (.int 18))))) (tTest (tOp (rI0 fun i j => .bl (decide (i < j))) (tOp (rIxA K) (tVar 0) (tC (.int 0))) (tCB (rLen K) (tCons (tVar 1) tNil)))))
      (tAsg (tVar 3) (gSub (tVar 0) (tC (.int 1)) rSetL))
      tNext)
    (tAsg (tOp (rPlus K) (tOp (rIxA K) (tVar 0) (tC (.int 0))) (tC (.int 1))) (gSub (tVar 0) (tC (.int 0)) rSetL)))))
def T_dr2 (K : PySem.W.Frag) : TS :=
    (tSeq (tIfS (tTest (tOp (rI0 fun i j => .bl (decide (i < j))) (tVar 3) (tC (.int 0))))
      (tAsg (tOp (rI0 fun i j => .int (i - j)) (tC (.int 1)) (tOp (rI CMul fun i j => .int (i * j)) (tC (.int 2)) (tVar 3))) (gName 3))
      tNext)
    (T_dr4 K))
def R_draw : Stt → List D → (D → Stt → Prop) → Prop := fun S ds Z => ∃ (ns : List Int) (m : Int), ds = [.list (ns.map .int), .int m] ∧ (1 ≤ m ∧ m < 1073741824) ∧ Ok2 S ∧ ∀ (r : Int) (S' : Stt), 0 ≤ r → r < m → Ok2 S' → Z (.int r) S'
local macro_rules | `(tactic| walk_at "e") => `(tactic| first
  | ((with_reducible refine nx_seq ?_); (try dsimp only [List.set_cons_succ, List.set_cons_zero]))
  | ((with_reducible refine ex_vr ?_); dsimp only [VQ, List.set_cons_succ, List.set_cons_zero, List.getElem?_cons_zero, List.getElem?_cons_succ]; (fail_if_success (with_reducible show False)))
  | (with_reducible refine sx_seq ?_)
  | (with_reducible refine sx_if ?_)
  | (with_reducible refine sx_next ?_)
  | (with_reducible refine sx_ret ?_)
  | ((fail_if_success (with_reducible refine sx_asgO (eo_lst ?_))); (with_reducible refine sx_asg ?_))
  | (with_reducible refine ex_int ?_)
  | (with_reducible refine ex_str ?_)
  | (with_reducible refine ex_bl ?_)
  | (with_reducible refine ex_non ?_)
  | (with_reducible refine ex_op ?_)
  | (with_reducible refine ex_un ?_)
  | (with_reducible refine ex_chain ?_)
  | (with_reducible refine ex_call ?_)
  | (with_reducible refine ex_isT ?_)
  | (with_reducible refine ex_cb ?_)
  | (with_reducible refine ex_sl ?_)
  | (with_reducible refine ex_tup ?_)
  | (with_reducible refine ex_if ?_)
  | (with_reducible refine ex_of (eo_lst ?_))
  | (with_reducible refine ex_notV ?_)
  | (with_reducible refine ea_nil ?_)
  | (with_reducible refine ea_cons ?_)
  | (with_reducible refine ep_no ?_)
  | (with_reducible refine ep_some ?_)
  | (with_reducible refine et_test ?_)
  | (with_reducible refine et_B ?_)
  | (with_reducible refine et_and ?_)
  | (with_reducible refine et_or ?_)
  | (with_reducible refine et_not ?_)
  | (with_reducible refine et_yes ?_)
  | (with_reducible refine opd_plusI ?_)
  | (with_reducible refine opd_I0 ?_)
  | (with_reducible refine opd_B0 ?_)
  | (with_reducible refine opd_eqI ?_)
  | (with_reducible refine opd_neI ?_)
  | (with_reducible refine opd_eqS ?_)
  | (with_reducible refine opd_neS ?_)
  | (with_reducible refine opd_is ?_)
  | (with_reducible refine opd_isnt ?_)
  | (with_reducible refine opd_ixT rfl ?_)
  | (with_reducible refine opd_ixL rfl ?_)
  | (with_reducible refine und_neg ?_)
  | (with_reducible refine cbd_lenL ?_)
  | (with_reducible refine cbd_lenT ?_)
  | (with_reducible refine cbd_min2 ?_)
  | (with_reducible refine cbd_max2 ?_)
  | (with_reducible refine cbd_abs ?_)
  | (with_reducible refine cbd_int ?_)
  | (with_reducible refine cbd_tupL ?_)
  | (with_reducible refine cbd_listL ?_)
  | (with_reducible refine cbd_listT ?_)
  | (with_reducible refine cbd_sum ?_)
  | (with_reducible refine sld_T ?_)
  | (with_reducible refine sld_L ?_)
  | (with_reducible refine ex_revL ?_)
  | (with_reducible refine ex_bmL ?_)
  | (with_reducible refine ex_andV ?_)
  | (with_reducible refine ei_list ?_)
  | (with_reducible refine ei_rng1 ?_)
  | (with_reducible refine ei_rng2 ?_)
  | (with_reducible refine ei_enum ?_)
  | (with_reducible refine ei_enumT ?_)
  | (with_reducible refine ei_zip ?_)
  | (with_reducible refine sx_par ?_)
  | (with_reducible refine Exists.intro _ (And.intro rfl ?_))
  | (with_reducible refine Exists.intro _ (Exists.intro _ (And.intro rfl ?_)))
  | ((with_reducible show EX (tCall (spS _) [] _ (tCons (tVar _) _)) _ _); refine ex_callS rfl ?_)
  | ((with_reducible refine And.intro (show (_ : Nat) ≤ 100000 from ?_) ?_); (focus (simp; done)))
  | ((with_reducible refine opd_I ?_ ?_); focus (first | omega | (show CDiv _ _; exact ⟨by omega, by omega⟩) | (show CMul _ _; first | exact Or.inl ⟨by omega, by omega⟩ | exact Or.inr ⟨by omega, by omega⟩))))
local macro_rules | `(tactic| walk_at "es") => `(tactic| repeat walk_at "e")
local macro_rules | `(tactic| walk_at "w") => `(tactic| try dsimp only [wipeE, List.foldl_cons, List.foldl_nil, List.set_cons_succ, List.set_cons_zero])
local macro_rules | `(tactic| walk_at "le") => `(tactic| repeat' first | exact LeE.nil | (refine LeE.eq rfl ?_) | (refine LeE.emp ?_) | (refine LeE.eq ?_ ?_))
local macro_rules | `(tactic| walk_at "no") => `(tactic| ((refine And.intro (fun hb => absurd hb ?_) (fun _ => ?_)); (focus (first | (exact Bool.false_ne_true) | (simp; done) | (simp; omega) | (simp only [decide_eq_true_eq]; omega)))))
local macro_rules | `(tactic| walk_at "yes") => `(tactic| ((refine And.intro (fun _ => ?_) (fun hb => absurd hb ?_)); (rotate_left); (focus (first | (exact Bool.noConfusion) | (simp; done) | (simp; omega) | (simp only [decide_eq_false_iff_not]; omega)))))
local macro_rules | `(tactic| walk_at "e") => `(tactic| first
  | ((with_reducible show EX (tOp (rIxA _) (tVar 0) (tC (.int 0))) _ _); refine ex_st0 rfl ?_)
  | ((with_reducible show EX (tOp (rIxA _) (tVar 0) (tC (.int 1))) _ _); refine ex_st1 rfl ?_))
theorem sx_draw (K : PySem.W.Frag) (S : Stt) (ds : List D) (Z : D → Stt → Prop) (h : R_draw S ds Z) :
    SX (T_draw K) (.st S :: (ds.map .val ++ List.replicate (6 - (ds.length + 1)) .emp)) { nx := fun ρ' => ∃ S', ρ'[0]? = some (.st S') ∧ Z .none S', rt := fun d ρ' => ∃ S', ρ'[0]? = some (.st S') ∧ Z d S' } := by
  obtain ⟨ns, m, rfl, ⟨m1, m2⟩, ok, z⟩ := h
  cases S with
  | cel a cs => exact ok.elim
  | dct kvs => exact ok.elim
  | dbl ks => exact ok.elim
  | grd rows => exact ok.elim
  | obj C fs => exact ok.elim
  | dtt kvs => exact ok.elim
  | two a b =>
  obtain ⟨a0, b0⟩ := ok
  show SX (T_draw K) [.st (.two a b), .val (.list (ns.map .int)), .val (.int m), .emp, .emp, .emp] _
  have fin : ∀ (a b : Int) (s3 s4 : Slot), 0 ≤ a → 0 ≤ b → SX (T_dr3 K) [.st (.two a b), .val (.list (ns.map .int)), .val (.int m), s3, s4, .emp] { nx := fun ρ' => ∃ S', ρ'[0]? = some (.st S') ∧ Z .none S', rt := fun d ρ' => ∃ S', ρ'[0]? = some (.st S') ∧ Z d S' } := fun a b s3 s4 a0 b0 => by
    unfold T_dr3
    refine sx_seq (sx_asg (ex_op (ex_cb (ea_cons (ex_st1 rfl (ea_nil (cbd_int ?_)))))))
    walk_at "es"
    refine sx_st1 (ex_op (ex_st1 rfl ?_))
    walk_at "es"
    refine ⟨_, a, b, rfl, rfl, ?_⟩
    walk_at "es"
    exact z _ _ (Int.emod_nonneg _ (by omega)) (Int.emod_lt_of_pos _ (by omega)) ⟨a0, Int.ediv_nonneg b0 (by omega)⟩
  have fill : ∀ (cell : Int), SX (T_dr4 K) [.st (.two a b), .val (.list (ns.map .int)), .val (.int m), .val (.int cell), .emp, .emp] (({ nx := fun ρ' => ∃ S', ρ'[0]? = some (.st S') ∧ Z .none S', rt := fun d ρ' => ∃ S', ρ'[0]? = some (.st S') ∧ Z d S' } : Po).seq (T_dr3 K)) := fun cell => by
    unfold T_dr4
    walk_at "es"
    have v0 : ∀ x : Int, 0 ≤ x % 4294967291 := fun x => Int.emod_nonneg _ (by decide)
    refine sx_st1 ?_
    walk_at "es"
    refine ⟨_, a, b, rfl, rfl, ?_⟩
    walk_at "es"
    have last : ∀ (b' : Int) (s4 : Slot), 0 ≤ b' → SX (tAsg (tOp (rPlus K) (tOp (rIxA K) (tVar 0) (tC (.int 0))) (tC (.int 1))) (gSub (tVar 0) (tC (.int 0)) rSetL)) [.st (.two a b'), .val (.list (ns.map .int)), .val (.int m), .val (.int cell), s4, .emp] (({ nx := fun ρ' => ∃ S', ρ'[0]? = some (.st S') ∧ Z .none S', rt := fun d ρ' => ∃ S', ρ'[0]? = some (.st S') ∧ Z d S' } : Po).seq (T_dr3 K)) := fun b' s4 hb' => by
      refine sx_st0 ?_
      walk_at "es"
      refine ⟨_, a, b', rfl, rfl, ?_⟩
      exact nx_seq (fin _ _ _ _ (by omega) hb')
    refine opd_I (C := CPow) ⟨by decide, by decide, by decide⟩ ?_
    walk_at "es"
    refine ⟨fun hc => ?_, fun hc => ?_⟩
    · have hc := of_decide_eq_true hc
      have h18 : (0 : Int) ≤ 10 ^ (18 : Int).toNat := by decide
      walk_at "es"
      refine ⟨fun hd => ?_, fun hd => ?_⟩
      · refine sx_st1 ?_
        walk_at "es"
        refine ⟨_, a, _, rfl, rfl, ?_⟩
        exact nx_seq (last _ _ (by omega))
      · exact sx_next (nx_seq (last _ _ (v0 _)))
    · refine ⟨(fun q => by cases q), fun _ => ?_⟩
      exact sx_next (nx_seq (last _ _ (v0 _)))
  have second : ∀ (cell : Int), SX (T_dr2 K) [.st (.two a b), .val (.list (ns.map .int)), .val (.int m), .val (.int cell), .emp, .emp] (({ nx := fun ρ' => ∃ S', ρ'[0]? = some (.st S') ∧ Z .none S', rt := fun d ρ' => ∃ S', ρ'[0]? = some (.st S') ∧ Z d S' } : Po).seq (T_dr3 K)) := fun cell => by
    unfold T_dr2
    refine sx_seq (sx_if (et_test (ex_op ?_)))
    walk_at "es"
    refine ⟨fun hc => ?_, fun hc => ?_⟩
    · refine sx_asg (ex_op (ex_int (ex_op (ex_int ?_))))
      walk_at "es"
      exact fill _
    · exact sx_next (nx_seq (fill _))
  unfold T_draw
  walk_at "es"
  refine ⟨fun hb => ?_, fun hb => ?_⟩
  · walk_at "es"
    refine ⟨fun hc => ?_, fun hc => ?_⟩
    · have hc := of_decide_eq_true hc
      rw [List.length_map] at hc
      refine sx_asg (ex_op ?_)
      walk_at "es"
      rw [List.length_map]
      refine opd_I (C := fun _ j => 0 < j) hc ?_
      refine opd_ixM 0 (Int.emod_nonneg _ (by omega)) (Int.emod_lt_of_pos _ hc) ?_
      exact nx_seq (second _)
    · exact sx_next (nx_seq (second _))
  · exact sx_next (nx_seq (fin _ _ _ _ a0 b0))
end Pu
/-! Comprehensions of two clauses over data. -/
namespace Pu
open PySem L2
section
variable {B : Base} {ad : Nat → List Addr} {ρ ρ' : Pu.Env} {σ : St} {F H F' H' F1 H1 : Hp}
theorem WA.updD (w : WA B ad ρ σ F H) {p : Addr} {o : HO} (nb : B.H0 p = none) (nad : ∀ i, p ∉ ad i) (hF : F p = none) : WA B ad ρ σ F (upd H p o) := by
  have neF : ∀ a o, F a = some o → a ≠ p := fun a o q z => by rw [z, hF] at q; cases q
  refine ⟨⟨w.gr.ff, fun a o q => by rw [upd_ne (neF a o q)]; exact w.gr.fh a o q, fun a o q m => ?_, fun a q => ?_, w.gr.fr⟩, w.len, fun j s q => ?_, w.fz, w.dj, w.out, w.pin⟩
  · rw [upd_ne (fun z => by rw [z, nb] at q; cases q)]
    exact w.gr.kp a o q m
  · by_cases ha : a = p
    · rw [ha, upd_same]; intro z; cases z
    · rw [upd_ne ha]; exact w.gr.al a q
  · have k := w.sl j s q
    cases s with
    | emp => exact k
    | val d => exact k
    | own es =>
      obtain ⟨p', ws, a1, a2, a3, a4, a5⟩ := k
      refine ⟨p', ws, a1, a2, a3, ?_, a5⟩
      rw [upd_ne (fun z => nad j (by rw [a1, z]; simp))]
      exact a4
    | st S =>
      obtain ⟨s, a1, a2⟩ := k
      exact ⟨s, a1, a2.keep (Same.refl _) fun a m o e => by
        rw [upd_ne (fun z => nad j (by rw [← z]; exact m))]
        exact e⟩
theorem Post.updD (pt : Post B ad σ ρ F1 H1 ρ' F H) {p : Addr} {o : HO} (hD : H1 p = none) (nb : B.H0 p = none) (nad : ∀ i, p ∉ ad i) (hF : F p = none) : Post B ad σ ρ F1 H1 ρ' F (upd H p o) := by
  have ne1 : ∀ a o, H1 a = some o → a ≠ p := fun a o q z => by rw [z, hD] at q; cases q
  have neF : ∀ a o, F a = some o → a ≠ p := fun a o q z => by rw [z, hF] at q; cases q
  refine ⟨pt.wa.updD nb nad hF, ⟨pt.gr.ff, fun a o q => by rw [upd_ne (neF a o q)]; exact pt.gr.fh a o q, fun a o q m => by rw [upd_ne (ne1 a o q)]; exact pt.gr.kp a o q m, fun a q => ?_, pt.gr.fr⟩, pt.sh⟩
  by_cases ha : a = p
  · rw [ha, upd_same]; intro z; cases z
  · rw [upd_ne ha]; exact pt.gr.al a q
end
/-- a value's truth as a test -/
def tTru (K : PySem.W.Frag) (te : TE) : TT := fun σ H Q => te σ H fun x H' => ∃ k, TruV K x H' k ∧ Q k H'
theorem pt_tru {X : Cx} {a : Expr} {te : TE} (h : PT X a (fun σ H Q => te σ H fun x H' => ∃ k, TruV X.K x H' k ∧ Q k H')) : PT X a (tTru X.K te) := h
theorem et_truL {K : PySem.W.Frag} {ρ : Pu.Env} {te : TE} {Q : Bool → Pu.Env → Prop} (h : EX te ρ fun d ρ1 => ∃ ds, d = .list ds ∧ Q (!ds.isEmpty) ρ1) : ET (tTru K te) ρ Q := fun B ad σ F H w Z z =>
  h B ad σ F H w _ fun d ρ1 v F1 H1 q1 p1 r1 => by
    obtain ⟨ds, rfl, q⟩ := q1
    obtain ⟨a, xs, rfl, h1, h2⟩ := r1.lst_inv
    refine ⟨!ds.isEmpty, .inl ⟨xs, sqL_rd h1 p1.wa.gr.fh, ?_⟩, z _ ρ1 F1 H1 q p1⟩
    have e := h2.len
    cases xs <;> cases ds <;> simp at e <;> rfl
section
variable {ρ : Pu.Env} {wi wi1 : TI} {g g1 : TG} {tt tt1 : TT} {te : TE}
def lc2L {α β : Type} (f : α → Bool) (ys : α → List β) (f1 : α → β → Bool) (gg : α → β → D) (xs : List α) : List D := (xs.filter f).flatMap fun x => ((ys x).filter (f1 x)).map (gg x)
theorem lc2L_snoc {α β : Type} {f : α → Bool} {ys : α → List β} {f1 : α → β → Bool} {gg : α → β → D} {xs : List α} {x : α} : lc2L f ys f1 gg (xs ++ [x]) = lc2L f ys f1 gg xs ++ (if f x = true then ((ys x).filter (f1 x)).map (gg x) else []) := by
  unfold lc2L
  rw [List.filter_append, List.flatMap_append]
  cases h : f x <;> simp [List.filter_cons, h]
theorem lc2L_le {α β : Type} {f : α → Bool} {ys : α → List β} {f1 : α → β → Bool} {gg : α → β → D} {xs : List α} {k : Nat} {x : α} (hx : xs[k]? = some x) (hf : f x = true) (j : Nat) :
    (lc2L f ys f1 gg (xs.take k) ++ (((ys x).take j).filter (f1 x)).map (gg x)).length ≤ (lc2L f ys f1 gg xs).length := by
  have hk : k < xs.length := (List.getElem?_eq_some_iff.mp hx).1
  have e : xs = xs.take k ++ [x] ++ xs.drop (k + 1) := by
    have h1 : xs.take k ++ [x] = xs.take (k + 1) := by rw [List.take_add_one, hx]; rfl
    rw [h1, List.take_append_drop]
  have e2 : lc2L f ys f1 gg xs = lc2L f ys f1 gg (xs.take k) ++ (((ys x).filter (f1 x)).map (gg x) ++ lc2L f ys f1 gg (xs.drop (k + 1))) := by
    conv => lhs; rw [e]
    have : lc2L f ys f1 gg (xs.take k ++ [x] ++ xs.drop (k + 1)) = lc2L f ys f1 gg (xs.take k ++ [x]) ++ lc2L f ys f1 gg (xs.drop (k + 1)) := by
      unfold lc2L; rw [List.filter_append, List.flatMap_append]
    rw [this, lc2L_snoc, if_pos hf, List.append_assoc]
  rw [e2]
  simp only [List.length_append, List.length_map]
  have : (((ys x).take j).filter (f1 x)).length ≤ ((ys x).filter (f1 x)).length := (List.Sublist.filter _ (List.take_sublist _ _)).length_le
  omega
/-- [e for target in .. if .. for target1 in .. if ..], nothing changes -/
theorem eo_lc2P {α β : Type} {vs vs1 : List Nat} {Q : List D → Pu.Env → Prop} (f : α → Bool) (ys : α → List β) (f1 : α → β → Bool) (enc1 : α → β → D) (gg : α → β → D) (h : EI wi ρ fun ds ρ1 => ∃ (xs : List α) (enc : α → D), ds = xs.map enc ∧ (lc2L f ys f1 gg xs).length < 1000000 ∧ Plain ρ1 vs ∧
    (∀ x ∈ xs, SG vs g (enc x) (wipeE ρ1 vs) fun ρ2 => unw vs ρ1 ρ2 = ρ1 ∧ Plain ρ2 vs1 ∧ ET tt ρ2 fun b ρ3 => b = f x ∧ ρ3 = ρ2 ∧ (f x = true → EI wi1 ρ2 fun ds1 ρ4 => ds1 = (ys x).map (enc1 x) ∧ ρ4 = ρ2 ∧
      ∀ y ∈ ys x, SG vs1 g1 (enc1 x y) (wipeE ρ2 vs1) fun ρ5 => unw vs1 ρ2 ρ5 = ρ2 ∧ ET tt1 ρ5 fun b ρ6 => b = f1 x y ∧ ρ6 = ρ5 ∧ (f1 x y = true → EX te ρ5 fun e ρ7 => e = gg x y ∧ ρ7 = ρ5))) ∧ Q (lc2L f ys f1 gg xs) ρ1) : EO (tLc2 wi g tt wi1 g1 tt1 te vs vs1) ρ Q := fun B ad σ F H w Z z => by
  refine h B ad σ F H w _ fun ds ρ1 J F1 H1 q1 p1 it => ?_
  obtain ⟨xs, enc, rfl, hz, pl, turn, done⟩ := q1
  intro Dl hD
  have hDH : H Dl = none := by
    cases q : H Dl with
    | none => rfl
    | some o => exact absurd hD (p1.gr.al Dl (by rw [q]; intro z; cases z))
  have nw := p1.wa.newp hD
  have nms : ∀ (ρ2 : Pu.Env), ¬ MS ad ρ2 Dl := fun ρ2 ⟨j, S, _, m⟩ => nw.2.2 j m
  let Inv := fun (i : Nat) (H' : Hp) => ∃ F' vs', Post B ad σ ρ1 F1 H1 ρ1 F' H' ∧ F' Dl = none ∧ H' Dl = some (.lst vs') ∧ RpA F' vs' (lc2L f ys f1 gg (xs.take i))
  refine ⟨fun i m H' => m = (xs.map enc).length - i ∧ i ≤ (xs.map enc).length ∧ Inv i H', ⟨_, rfl, Nat.zero_le _, F1, [], Post.of p1.wa (Gr.heap p1.wa.gr.fh (same_upd hD)), nw.1, upd_same, .nil⟩, ?_⟩
  rintro i m H' ⟨rfl, hi, F', vs', P, hF, hH, ra⟩
  by_cases hlt : i < (xs.map enc).length
  · refine .inr ⟨it.go i H' (P.gr.ff.trans P.wa.gr.fh) hlt, fun H2 => Inv (i + 1) H2, fun H2 k => ⟨(xs.map enc).length - (i + 1), by omega, rfl, hlt, k⟩, fun x H2 y => ?_⟩
    obtain ⟨d, F2, e, gr, rx⟩ := it.yld i H' x H2 F' P.gr.ff P.wa.gr.fh y hlt
    rw [List.getElem?_map] at e
    obtain ⟨a, ex, rfl⟩ : ∃ a, xs[i]? = some a ∧ enc a = d := by
      cases hx : xs[i]? with
      | none => rw [hx] at e; cases e
      | some a => rw [hx] at e; exact ⟨a, rfl, Option.some.inj e⟩
    have hm : a ∈ xs := List.mem_of_getElem? ex
    have et : xs.take (i + 1) = xs.take i ++ [a] := by rw [List.take_add_one, ex]; rfl
    have P2 := P.trans (Post.of P.wa gr)
    have w2 := P.wa.grow gr
    have hF2 : F2 Dl = none := gr.fr Dl (by rw [hH]; intro z; cases z) hF
    have hH2 : H2 Dl = some (.lst vs') := gr.kp Dl _ hH id
    refine turn a hm B ad (wipe σ vs) F2 H2 x (w2.wiped pl) (pl.ad w2) rx _ fun ρ2 σ2 q wb e2 fr => ?_
    obtain ⟨un2, pl1, q⟩ := q
    have e2' : wipe σ2 vs = wipe σ vs := by
      rw [e2]
      apply List.ext_getElem?
      intro j
      rw [wipe_get, wipe_get, wipe_length]
      split
      · rfl
      · first | rfl | rw [wipe_get, if_neg (by assumption)]
    refine ⟨e2', q B ad σ2 F2 H2 wb _ fun b ρ3 F3 H3 q3 p3 => ?_⟩
    obtain ⟨rfl, rfl, q3⟩ := q3
    cases hb : f a with
    | false =>
      show Inv (i + 1) H3
      have pu := Post.unwiped w2 pl e2' fr wb p3
      rw [un2] at pu
      refine ⟨F3, vs', P2.trans pu, p3.gr.fr Dl (by rw [hH2]; intro z; cases z) hF2, p3.gr.kp Dl _ hH2 (nms _), ?_⟩
      rw [et, lc2L_snoc, if_neg (by rw [hb]; decide), List.append_nil]
      exact ra.up (gr.ff.trans p3.gr.ff)
    | true =>
      show wi1 σ2 H3 _
      refine q3 hb B ad σ2 F3 H3 p3.wa _ fun ds1 ρ4 J1 F4 H4 q4 p4 it1 => ?_
      obtain ⟨rfl, rfl, turn1⟩ := q4
      have p34 := p3.trans p4
      have pu := Post.unwiped w2 pl e2' fr wb p34
      rw [un2] at pu
      let Inv1 := fun (j : Nat) (H' : Hp) => ∃ F' vs', Post B ad σ ρ1 F1 H1 ρ1 F' H' ∧ WA B ad ρ4 σ2 F' H' ∧ Same F4 F' ∧ F' Dl = none ∧ H' Dl = some (.lst vs') ∧ RpA F' vs' (lc2L f ys f1 gg (xs.take i) ++ (((ys a).take j).filter (f1 a)).map (gg a))
      refine ⟨fun j k H' => k = ((ys a).map (enc1 a)).length - j ∧ j ≤ ((ys a).map (enc1 a)).length ∧ Inv1 j H', ⟨_, rfl, Nat.zero_le _, F4, vs', P2.trans pu, p34.wa, Same.refl F4, p34.gr.fr Dl (by rw [hH2]; intro z; cases z) hF2, p34.gr.kp Dl _ hH2 (nms _), by
        show RpA F4 vs' (lc2L f ys f1 gg (xs.take i) ++ [])
        rw [List.append_nil]; exact ra.up (gr.ff.trans p34.gr.ff)⟩, ?_⟩
      rintro j k H5 ⟨rfl, hj, F5, vs5, P5, w5, f45, hF5, hH5, ra5⟩
      by_cases hl1 : j < ((ys a).map (enc1 a)).length
      · refine .inr ⟨it1.go j H5 (f45.trans w5.gr.fh) hl1, fun H6 => Inv1 (j + 1) H6, fun H6 k => ⟨((ys a).map (enc1 a)).length - (j + 1), by omega, rfl, hl1, k⟩, fun x1 H6 y1 => ?_⟩
        obtain ⟨d1, F6, e1, gr1, rx1⟩ := it1.yld j H5 x1 H6 F5 f45 w5.gr.fh y1 hl1
        rw [List.getElem?_map] at e1
        obtain ⟨c, ec, rfl⟩ : ∃ c, (ys a)[j]? = some c ∧ enc1 a c = d1 := by
          cases hx : (ys a)[j]? with
          | none => rw [hx] at e1; cases e1
          | some c => rw [hx] at e1; exact ⟨c, rfl, Option.some.inj e1⟩
        have hc : c ∈ ys a := List.mem_of_getElem? ec
        have et1 : (ys a).take (j + 1) = (ys a).take j ++ [c] := by rw [List.take_add_one, ec]; rfl
        have P6 := P5.trans (Post.of P5.wa gr1)
        have w6 := w5.grow gr1
        have hF6 : F6 Dl = none := gr1.fr Dl (by rw [hH5]; intro z; cases z) hF5
        have hH6 : H6 Dl = some (.lst vs5) := gr1.kp Dl _ hH5 id
        refine turn1 c hc B ad (wipe σ2 vs1) F6 H6 x1 (w6.wiped pl1) (pl1.ad w6) rx1 _ fun ρ5 σ5 q wb5 e5 fr5 => ?_
        obtain ⟨un5, q⟩ := q
        have e5' : wipe σ5 vs1 = wipe σ2 vs1 := by
          rw [e5]
          apply List.ext_getElem?
          intro j
          rw [wipe_get, wipe_get, wipe_length]
          split
          · rfl
          · first | rfl | rw [wipe_get, if_neg (by assumption)]
        refine ⟨e5', q B ad σ5 F6 H6 wb5 _ fun b ρ6 F7 H7 q6 p6 => ?_⟩
        obtain ⟨rfl, rfl, q6⟩ := q6
        have low : ∀ {F8 H8 : Hp}, Post B ad σ5 ρ6 F6 H6 ρ6 F8 H8 → Post B ad σ2 ρ4 F6 H6 ρ4 F8 H8 ∧ Post B ad σ ρ1 F6 H6 ρ1 F8 H8 := fun p => by
          have a1 := Post.unwiped w6 pl1 e5' fr5 wb5 p
          rw [un5] at a1
          have a2 := Post.unwiped P6.wa pl e2' fr w6 a1
          rw [un2] at a2
          exact ⟨a1, a2⟩
        cases hb1 : f1 a c with
        | false =>
          show Inv1 (j + 1) H7
          obtain ⟨a1, a2⟩ := low p6
          refine ⟨F7, vs5, P6.trans a2, a1.wa, f45.trans (gr1.ff.trans p6.gr.ff), p6.gr.fr Dl (by rw [hH6]; intro z; cases z) hF6, p6.gr.kp Dl _ hH6 (nms _), ?_⟩
          rw [et1, List.filter_append, List.filter_cons, if_neg (by rw [hb1]; decide), List.filter_nil, List.append_nil]
          exact ra5.up (gr1.ff.trans p6.gr.ff)
        | true =>
          show te σ5 H7 _
          refine q6 hb1 B ad σ5 F7 H7 p6.wa _ fun e ρ7 v F8 H8 q7 p7 rv => ?_
          obtain ⟨rfl, rfl⟩ := q7
          obtain ⟨a1, a2⟩ := low (p6.trans p7)
          have p67 := p6.trans p7
          have hF8 : F8 Dl = none := p67.gr.fr Dl (by rw [hH6]; intro z; cases z) hF6
          have hH8 : H8 Dl = some (.lst vs5) := p67.gr.kp Dl _ hH6 (nms _)
          have ra8 := (ra5.up (gr1.ff.trans p67.gr.ff)).app (.cons rv .nil)
          refine ⟨vs5, hH8, Nat.lt_of_lt_of_le (by rw [ra5.len]; exact Nat.lt_of_le_of_lt (lc2L_le ex hb j) hz) (by decide), ?_⟩
          show Inv1 (j + 1) _
          refine ⟨F8, vs5 ++ [v], (P6.trans a2).updD hD nw.2.1 nw.2.2 hF8, a1.wa.updD nw.2.1 nw.2.2 hF8, f45.trans (gr1.ff.trans p67.gr.ff), hF8, upd_same, ?_⟩
          rw [et1, List.filter_append, List.map_append, List.filter_cons, if_pos hb1, List.filter_nil, ← List.append_assoc]
          exact ra8
      · have e : j = (ys a).length := by rw [List.length_map] at hl1 hj; omega
        subst e
        rw [List.take_length] at ra5
        refine .inl ⟨it1.stop _ H5 (f45.trans w5.gr.fh) (by rw [List.length_map]; exact Nat.le_refl _), ?_⟩
        show Inv (i + 1) H5
        refine ⟨F5, vs5, P5, hF5, hH5, ?_⟩
        rw [et, lc2L_snoc, if_pos hb]
        exact ra5
  · have e : i = xs.length := by rw [List.length_map] at hlt hi; omega
    subst e
    rw [List.take_length] at ra
    exact .inl ⟨it.stop _ H' (P.gr.ff.trans P.wa.gr.fh) (by rw [List.length_map]; exact Nat.le_refl _), z _ ρ1 Dl vs' F' H' done (p1.trans P) hF hDH hH ra⟩
end
end Pu
namespace Pu
open PySem L2
theorem ex_val {te : TE} {ρ : Pu.Env} {Q : D → Pu.Env → Prop} (d0 : D) (h : EX te ρ fun d ρ' => d = d0 ∧ ρ' = ρ) (q : Q d0 ρ) : EX te ρ Q := h.imp fun d ρ' e => by rw [e.1, e.2]; exact q
theorem et_val {tt : TT} {ρ : Pu.Env} {Q : Bool → Pu.Env → Prop} (b0 : Bool) (h : ET tt ρ fun b ρ' => b = b0 ∧ ρ' = ρ) (q : Q b0 ρ) : ET tt ρ Q := et_imp h fun b ρ' e => by rw [e.1, e.2]; exact q
theorem sx_mid {t u : TS} {ρ : Pu.Env} {P : Po} (ρ1 : Pu.Env) (h : SX t ρ { nx := fun ρ' => ρ' = ρ1, rt := fun _ _ => False }) (k : SX u ρ1 P) : SX (tSeq t u) ρ P := sx_seq fun B σ F H w Dn n r b c =>
  h B σ F H w Dn (fun ρ' σ' F' H' e w' => n ρ' σ' F' H' (by rw [e]; exact k) w') (fun _ _ _ _ _ _ q => q.elim) (fun _ _ _ _ q => q.elim) (fun _ _ _ _ q => q.elim)
/-- the same with what holds of the slots behind t -/
theorem sx_midP {t u : TS} {ρ : Pu.Env} {P : Po} (J : Pu.Env → Prop) (h : SX t ρ { nx := J, rt := fun _ _ => False }) (k : ∀ ρ1, J ρ1 → SX u ρ1 P) : SX (tSeq t u) ρ P := sx_seq fun B σ F H w Dn n r b c =>
  h B σ F H w Dn (fun ρ' σ' F' H' e w' => n ρ' σ' F' H' (k ρ' e) w') (fun _ _ _ _ _ _ q => q.elim) (fun _ _ _ _ q => q.elim) (fun _ _ _ _ q => q.elim)
theorem cbd_intB {b : Bool} {Q : D → Prop} (k : Q (.int (if b then 1 else 0))) : CbD rInt [.bool b] Q := fun F H vs e r Z z => by
  obtain ⟨v, rfl, rv⟩ := r.one
  cases rv.bl_inv
  exact .inr ⟨_, rfl, z _ _ F H k (Gr.refl e) (.int _)⟩
theorem last_at (ds : List D) (d : D) : atI (ds ++ [d]) (-1) = some d := by
  have e : ixN (ds.length + 1) (-1) = some ds.length := by
    unfold ixN
    simp
    omega
  simp [atI, e]
theorem enum_zip {α : Type} (f : α → D) : ∀ (k : Nat) (xs : List α), enumD k (xs.map f) = (xs.zipIdx k).map fun p => .tuple [.int (p.2 : Int), f p.1]
  | _, [] => rfl
  | k, x :: xs => by
    rw [List.map_cons, List.zipIdx_cons, List.map_cons, ← enum_zip f (k + 1) xs]
    rfl
theorem enum_at {α : Type} {f : α → D} {xs : List α} {k : Nat} {d : D} (h : (enumD 0 (xs.map f))[k]? = some d) : ∃ x, xs[k]? = some x ∧ d = .tuple [.int (k : Int), f x] := by
  rw [enum_zip, List.getElem?_map, List.getElem?_zipIdx] at h
  cases e : xs[k]? with
  | none => rw [e] at h; simp at h
  | some x =>
    rw [e] at h
    simp at h
    exact ⟨x, rfl, h.symm⟩
theorem enum_len {α : Type} {f : α → D} {xs : List α} : (enumD 0 (xs.map f)).length = xs.length := by rw [enum_zip, List.length_map, List.length_zipIdx]
theorem find_first {α : Type} {g : Nat → Option α} {n k : Nat} {d : α} (hk : k < n) (h : ∀ j, j < k → g j = none) (e : g k = some d) : (List.range n).findSome? g = some d := by
  obtain ⟨m, rfl⟩ : ∃ m, n = k + 1 + m := ⟨n - (k + 1), by omega⟩
  rw [List.range_add, List.range_succ, List.findSome?_append, List.findSome?_append]
  have : (List.range k).findSome? g = none := List.findSome?_eq_none_iff.mpr fun x hx => h x (List.mem_range.mp hx)
  rw [this]
  simp [e]
theorem find_no {α : Type} {g : Nat → Option α} {n : Nat} (h : ∀ j, j < n → g j = none) : (List.range n).findSome? g = none := List.findSome?_eq_none_iff.mpr fun x hx => h x (List.mem_range.mp hx)
theorem fmin_all : ∀ (ns : List Int) (a : Int), ns.foldl min a ≤ a ∧ (∀ x ∈ ns, ns.foldl min a ≤ x) ∧ (ns.foldl min a = a ∨ ns.foldl min a ∈ ns)
  | [], a => ⟨Int.le_refl _, ⟨(fun _ h => by cases h), Or.inl rfl⟩⟩
  | n :: ns, a => by
    obtain ⟨h1, h2, h3⟩ := fmin_all ns (min a n)
    rw [List.foldl_cons]
    refine ⟨by omega, fun x hx => ?_, ?_⟩
    · rcases List.mem_cons.mp hx with rfl | q
      · omega
      · exact h2 x q
    · rcases h3 with q | q
      · rcases (show min a n = a ∨ min a n = n by omega) with z | z
        · left; rw [q, z]
        · right; rw [q, z]; simp
      · right; exact List.mem_cons_of_mem _ q
theorem foldMin_is {ns : List Int} {m : Int} (hm : m ∈ ns) (h : ∀ x ∈ ns, m ≤ x) : foldMin ns = m := by
  cases ns with
  | nil => cases hm
  | cons n ns =>
    show ns.foldl min n = m
    obtain ⟨h1, h2, h3⟩ := fmin_all ns n
    have a : ns.foldl min n ≤ m := by
      rcases List.mem_cons.mp hm with rfl | q
      · exact h1
      · exact h2 m q
    have b : m ≤ ns.foldl min n := by
      rcases h3 with q | q
      · rw [q]; exact h n (by simp)
      · exact h _ (List.mem_cons_of_mem _ q)
    omega
theorem foldMin_le {ns : List Int} {x : Int} (hm : x ∈ ns) : foldMin ns ≤ x := by
  cases ns with
  | nil => cases hm
  | cons n ns =>
    show ns.foldl min n ≤ x
    obtain ⟨h1, h2, h3⟩ := fmin_all ns n
    rcases List.mem_cons.mp hm with rfl | q
    · exact h1
    · exact h2 x q
theorem foldMin_mem {ns : List Int} (h : 0 < ns.length) : foldMin ns ∈ ns := by
  cases ns with
  | nil => simp at h
  | cons n ns =>
    show ns.foldl min n ∈ n :: ns
    rcases (fmin_all ns n).2.2 with q | q
    · rw [q]; simp
    · exact List.mem_cons_of_mem _ q
theorem take_snoc' {α : Type} {l : List α} {k : Nat} {x : α} (h : l[k]? = some x) : l.take (k + 1) = l.take k ++ [x] := by rw [List.take_add_one, h]; rfl
theorem get_D {α : Type} {l : List α} {k : Nat} {a : α} (h : k < l.length) : l[k]? = some (l.getD k a) := by rw [List.getD_eq_getElem?_getD]; simp [h]
theorem mem_D {α : Type} {l : List α} {k : Nat} {a : α} (h : k < l.length) : l.getD k a ∈ l := List.mem_of_getElem? (get_D h)
theorem flat_snoc' {α β : Type} {l : List α} {x : α} {f : α → List β} : (l ++ [x]).flatMap f = l.flatMap f ++ f x := by simp
theorem eqv_encP (u v : Int × Int) : PyData.eqv (encP u) (encP v) = decide (u = v) := by
  show PyData.eqvAll [.int u.1, .int u.2] [.int v.1, .int v.2] = _
  simp only [PyData.eqvAll, PyData.eqv, Bool.and_true]
  by_cases h : u = v
  · subst h; simp
  · rw [decide_eq_false h]
    by_cases h1 : u.1 = v.1
    · have h2 : u.2 ≠ v.2 := fun q => h (Prod.ext h1 q)
      simp [h2]
    · simp [h1]
theorem any_encP (ws : List (Int × Int)) (w : Int × Int) : ((ws.map encP).any fun y => PyData.eqv y (encP w)) = decide (w ∈ ws) := by
  rw [Bool.eq_iff_iff, List.any_eq_true, decide_eq_true_eq]
  constructor
  · rintro ⟨x, hx, e⟩
    obtain ⟨u, hu, rfl⟩ := List.mem_map.mp hx
    rw [eqv_encP, decide_eq_true_eq] at e
    rwa [← e]
  · intro h
    exact ⟨encP w, List.mem_map.mpr ⟨w, h, rfl⟩, by rw [eqv_encP]; simp⟩
theorem eqv_listP : ∀ (xs ys : List (Int × Int)), PyData.eqvAll (xs.map encP) (ys.map encP) = decide (xs = ys)
  | [], [] => by simp [PyData.eqvAll]
  | [], _ :: _ => by simp [PyData.eqvAll]
  | _ :: _, [] => by simp [PyData.eqvAll]
  | x :: xs, y :: ys => by
    rw [List.map_cons, List.map_cons, PyData.eqvAll, eqv_encP, eqv_listP xs ys]
    by_cases h1 : x = y <;> by_cases h2 : xs = ys <;> simp [h1, h2]
theorem eqv_LP (xs ys : List (Int × Int)) : PyData.eqv (.list (xs.map encP)) (.list (ys.map encP)) = decide (xs = ys) := by
  show PyData.eqvAll _ _ = _
  exact eqv_listP xs ys
/-- l.index(x) of data -/
theorem mtd_indexD {K : PySem.W.Frag} {ds : List D} {d z : D} {j : Nat} {Q : D → Prop} (s1 : PySem.SeqAt.shaped (.list ds) = true) (s2 : PySem.SeqAt.shaped d = true) (hz : ds[j]? = some z) (he : PyData.eqv z d = true)
    (hno : ∀ (m : Nat) (z' : D), m < j → ds[m]? = some z' → PyData.eqv z' d = false) (k : Q (.int (j : Nat))) : MtD (rIndexD K) (.list ds) [d] Q := fun F H x vs e r rv Z z' => by
  obtain ⟨v, rfl, rv1⟩ := rv.one
  have r' := r.dp (K := K) e
  obtain ⟨a, xs, rfl, h1, h2⟩ := r.lst_inv
  exact ⟨a, v, d, ds, j, z, rfl, rfl, r', rv1.dp e, s1, s2, hz, he, hno, z' _ _ F H k (Gr.refl e) (.int _)⟩
theorem lay_encP (xs : List (Int × Int)) : PyData.canLayAll0 (xs.map encP) = true := by
  induction xs with
  | nil => simp [PyData.canLayAll0]
  | cons x xs ih => rw [List.map_cons, PyData.canLayAll0, ih]; simp [encP, PyData.canLay0, PyData.canLayAll0]
theorem mtd_indexP {K : PySem.W.Frag} {ws : List (Int × Int)} {w : Int × Int} {Q : D → Prop} (hw : w ∈ ws) (k : Q (.int (ws.idxOf w : Nat))) : MtD (rIndexD K) (.list (ws.map encP)) [encP w] Q := by
  have hl : ws.idxOf w < ws.length := List.idxOf_lt_length_iff.mpr hw
  have d1 : (PyData.list (ws.map encP)).depth ≤ 64 := by
    have h : DpN 3 (PyData.list (ws.map encP)) := dpn_list (dpn_map fun x _ => dpn_tup (dpn_cons dpn_int (dpn_cons dpn_int dpn_nil)))
    exact Nat.le_trans h (by decide)
  have d2 : (encP w).depth ≤ 64 := by
    have h : DpN 2 (encP w) := dpn_tup (dpn_cons dpn_int (dpn_cons dpn_int dpn_nil))
    exact Nat.le_trans h (by decide)
  refine mtd_indexD (z := encP w) (j := ws.idxOf w) ?_ ?_ ?_ ?_ (fun m z' hm hz => ?_) k
  · unfold PySem.SeqAt.shaped
    rw [decide_eq_true d1, Bool.and_true]
    show PyData.canLayAll0 _ = true
    exact lay_encP ws
  · unfold PySem.SeqAt.shaped
    rw [decide_eq_true d2, Bool.and_true]
    simp [encP, PyData.canLay0, PyData.canLayAll0]
  · rw [List.getElem?_map, List.getElem?_eq_getElem hl, List.getElem_idxOf hl]; rfl
  · rw [eqv_encP]; simp
  · rw [List.getElem?_map, List.getElem?_eq_getElem (by omega)] at hz
    cases hz
    rw [eqv_encP, decide_eq_false_iff_not]
    have := List.not_of_lt_findIdx (p := fun x => x == w) hm
    simpa using this
theorem enum_rng {α : Type} {f : α → D} (a : α) (xs : List α) : enumD 0 (xs.map f) = (rngI 0 xs.length).map fun k => .tuple [.int k, f (xs.getD k.toNat a)] := by
  refine List.ext_getElem? fun k => ?_
  rw [enum_zip, List.getElem?_map, List.getElem?_zipIdx, List.getElem?_map]
  by_cases h : k < xs.length
  · rw [rngI_get h, get_D (a := a) h]
    simp
  · rw [List.getElem?_eq_none (by omega), List.getElem?_eq_none (by rw [rngI_len]; omega)]
    rfl
theorem units65 {k : Nat} {A : Around} (r : Room k A) : A.units + 65 < cLine := by have := r.un; omega
end Pu
/-! PuN: a list of lists of ints and None that is changed within: a state (Stt.grd) from a comprehension [list(x) for x in ..], read, changed, frozen. -/
namespace Pu
open PySem L2
def optD : Option Int → D
  | none => .none
  | some i => .int i
def rowD (row : List (Option Int)) : D := .list (row.map optD)
theorem rp_ov (F : Hp) (x : Option Int) : Rp F (ov x) (optD x) := by
  cases x with
  | none => exact .non
  | some i => exact .int i
theorem ov_inv {F : Hp} {v : V} {x : Option Int} (h : Rp F v (optD x)) : v = ov x := by
  cases x with
  | none => exact h.non_inv
  | some i => exact h.int_inv
theorem rpa_ov (F : Hp) : ∀ row : List (Option Int), RpA F (row.map ov) (row.map optD)
  | [] => .nil
  | x :: row => .cons (rp_ov F x) (rpa_ov F row)
theorem ovs_inv {F : Hp} : ∀ {row : List (Option Int)} {vs : List V}, RpA F vs (row.map optD) → vs = row.map ov
  | [], _, h => by cases h; rfl
  | x :: row, _, h => by
    cases h with
    | cons h1 h2 => rw [ov_inv h1, ovs_inv h2]; rfl
theorem GrA.len {H : Hp} : ∀ {qs : List Addr} {rows : List (List (Option Int))}, GrA H qs rows → qs.length = rows.length
  | [], [], _ => rfl
  | q :: qs, r :: rows, h => by rw [List.length_cons, List.length_cons, GrA.len h.2]
  | [], _ :: _, h => h.elim
  | _ :: _, [], h => h.elim
theorem GrA.get {H : Hp} : ∀ {qs : List Addr} {rows : List (List (Option Int))} {i : Nat} {r : List (Option Int)}, GrA H qs rows → rows[i]? = some r → ∃ q, qs[i]? = some q ∧ H q = some (.lst (r.map ov))
  | q :: qs, r :: rows, 0, _, h, e => by
    cases e
    exact ⟨q, rfl, h.1⟩
  | q :: qs, r :: rows, i + 1, r', h, e => by
    have := GrA.get h.2 (show rows[i]? = some r' by simpa using e)
    simpa using this
  | [], [], _, _, _, e => by simp at e
  | [], _ :: _, _, _, h, _ => h.elim
  | _ :: _, [], _, _, h, _ => h.elim
theorem GrA.app {H : Hp} {l : Addr} {r : List (Option Int)} (hl : H l = some (.lst (r.map ov))) : ∀ {qs : List Addr} {rows : List (List (Option Int))}, GrA H qs rows → GrA H (qs ++ [l]) (rows ++ [r])
  | [], [], _ => ⟨hl, trivial⟩
  | q :: qs, s :: rows, h => ⟨h.1, GrA.app hl h.2⟩
  | [], _ :: _, h => h.elim
  | _ :: _, [], h => h.elim
theorem GrA.out {H : Hp} {p : Addr} {o : HO} : ∀ {qs : List Addr} {rows : List (List (Option Int))}, p ∉ qs → GrA H qs rows → GrA (upd H p o) qs rows
  | [], [], _, _ => trivial
  | q :: qs, r :: rows, hn, h => ⟨by rw [upd_ne (fun e => hn (by rw [e]; simp))]; exact h.1, GrA.out (fun m => hn (by simp [m])) h.2⟩
  | [], _ :: _, _, h => h.elim
  | _ :: _, [], _, h => h.elim
theorem GrA.set {H : Hp} {r' : List (Option Int)} : ∀ {qs : List Addr} {rows : List (List (Option Int))} {i : Nat} {q : Addr}, qs.Nodup → GrA H qs rows → qs[i]? = some q → GrA (upd H q (.lst (r'.map ov))) qs (rows.set i r')
  | p :: qs, r :: rows, 0, _, nd, h, e => by
    cases e
    rw [List.nodup_cons] at nd
    exact ⟨upd_same, GrA.out nd.1 h.2⟩
  | p :: qs, r :: rows, i + 1, q, nd, h, e => by
    rw [List.nodup_cons] at nd
    have e : qs[i]? = some q := by simpa using e
    refine ⟨?_, GrA.set nd.2 h.2 e⟩
    rw [upd_ne (fun z => nd.1 (by rw [z]; exact List.mem_of_getElem? e))]
    exact h.1
  | [], [], _, _, _, _, e => by simp at e
  | [], _ :: _, _, _, _, h, _ => h.elim
  | _ :: _, [], _, _, _, h, _ => h.elim
/-- an expression that makes a state -/
def EN (te : TE) (ρ : Pu.Env) (Q : Stt → Pu.Env → Prop) : Prop := ∀ B ad σ F H, WA B ad ρ σ F H → ∀ Z : VK,
  (∀ S s as ρ1 F1 H1 F' H', Q S ρ1 → Post B ad σ ρ F H ρ1 F1 H1 → Gr Non F1 H1 F' H' → StAt F' H' S s as → (∀ a ∈ as, F' a = none ∧ H1 a = none) → Z (.ref s) H') → te σ H Z
section
variable {ρ : Pu.Env} {P : Po} {te tb tc : TE} {t : TS} {K : PySem.W.Frag}
theorem WA.setVal2 {B : Base} {ad : Nat → List Addr} {ρ : Pu.Env} {σ : St} {F H : Hp} (w : WA B ad ρ σ F H) (i : Nat) {d : D} {v : V} (r : Rp F v d) : WA B (fun k => if k = i then [] else ad k) (ρ.set i (.val d)) (σ.set i (some v)) F H := by
  refine ⟨w.gr, by rw [List.length_set, List.length_set]; exact w.len, fun j s e => ?_, fun j p m => ?_, fun j1 j2 q m1 m2 => ?_, fun j e => ?_, w.pin.to fun S e => by
    rcases get_set e with ⟨_, q⟩ | ⟨hj, e⟩
    · cases q
    · exact ⟨⟨S, e⟩, List.getElem?_set_ne (Ne.symm hj), if_neg hj⟩⟩
  · rcases get_set e with ⟨rfl, rfl⟩ | ⟨hj, e'⟩
    · have hi : j < σ.length := by
        have := (List.getElem?_eq_some_iff.mp e).1
        rw [List.length_set] at this
        rw [w.len]; exact this
      exact ⟨if_pos rfl, v, List.getElem?_set_self hi, r⟩
    · rw [if_neg hj, List.getElem?_set_ne (Ne.symm hj)]
      exact w.sl j s e'
  · by_cases hj : j = i
    · simp [hj] at m
    · simp only [if_neg hj] at m
      exact w.fz j p m
  · by_cases h1 : j1 = i
    · simp [h1] at m1
    · by_cases h2 : j2 = i
      · simp [h2] at m2
      · simp only [if_neg h1] at m1
        simp only [if_neg h2] at m2
        exact w.dj j1 j2 q m1 m2
  · show (if j = i then [] else ad j) = []
    by_cases hj : j = i
    · rw [if_pos hj]
    · rw [if_neg hj]
      exact w.out j (get_set' e)
theorem WA.setOwn2 {B : Base} {ad : Nat → List Addr} {ρ : Pu.Env} {σ : St} {F H : Hp} (w : WA B ad ρ σ F H) (i : Nat) {ds : List D} {p : Addr} {vs : List V} (hF : F p = none) (h0 : B.H0 p = none) (hn : ∀ i, p ∉ ad i) (hp : H p = some (.lst vs)) (r : RpA F vs ds) :
    WA B (fun k => if k = i then (if i < ρ.length then [p] else []) else ad k) (ρ.set i (.own ds)) (σ.set i (some (.ref p))) F H := by
  refine ⟨w.gr, by rw [List.length_set, List.length_set]; exact w.len, fun j s e => ?_, fun j q m => ?_, fun j1 j2 q m1 m2 => ?_, fun j e => ?_, w.pin.to fun S e => by
    rcases get_set e with ⟨_, q⟩ | ⟨hj, e⟩
    · cases q
    · exact ⟨⟨S, e⟩, List.getElem?_set_ne (Ne.symm hj), if_neg hj⟩⟩
  · rcases get_set e with ⟨rfl, rfl⟩ | ⟨hj, e'⟩
    · have hi : j < ρ.length := by
        have := (List.getElem?_eq_some_iff.mp e).1
        rwa [List.length_set] at this
      exact ⟨p, vs, by rw [if_pos rfl, if_pos hi], h0, List.getElem?_set_self (by rw [w.len]; exact hi), hp, r⟩
    · rw [if_neg hj, List.getElem?_set_ne (Ne.symm hj)]
      exact w.sl j s e'
  · by_cases hj : j = i
    · simp only [if_pos hj] at m
      by_cases hi : i < ρ.length
      · simp only [if_pos hi, List.mem_singleton] at m
        subst m
        exact ⟨hF, .inl h0⟩
      · simp [if_neg hi] at m
    · simp only [if_neg hj] at m
      exact w.fz j q m
  · have g : ∀ j, q ∈ (if j = i then (if i < ρ.length then [p] else []) else ad j) → (j = i ∧ q = p) ∨ (j ≠ i ∧ q ∈ ad j) := fun j m => by
      by_cases hj : j = i
      · simp only [if_pos hj] at m
        by_cases hi : i < ρ.length
        · simp only [if_pos hi, List.mem_singleton] at m
          exact .inl ⟨hj, m⟩
        · simp [if_neg hi] at m
      · simp only [if_neg hj] at m
        exact .inr ⟨hj, m⟩
    rcases g j1 m1 with ⟨a1, b1⟩ | ⟨a1, b1⟩ <;> rcases g j2 m2 with ⟨a2, b2⟩ | ⟨a2, b2⟩
    · rw [a1, a2]
    · exact absurd (b1 ▸ b2) (hn j2)
    · exact absurd (b2 ▸ b1) (hn j1)
    · exact w.dj j1 j2 q b1 b2
  · show (if j = i then (if i < ρ.length then [p] else []) else ad j) = []
    have e' := get_set' e
    by_cases hj : j = i
    · subst hj
      rw [if_pos rfl, if_neg (by rw [List.getElem?_eq_none_iff] at e'; omega)]
    · rw [if_neg hj]
      exact w.out j e'
theorem WA.setSt2 {B : Base} {ad : Nat → List Addr} {ρ : Pu.Env} {σ : St} {F H : Hp} {S : Stt} {s : Addr} {as : List Addr} (w : WA B ad ρ σ F H) (i : Nat) (h00 : i ≠ 0) (st : StAt F H S s as) (hF : ∀ a ∈ as, F a = none) (nw : ∀ a ∈ as, B.H0 a = none ∧ ∀ j, a ∉ ad j) :
    WA B (fun k => if k = i then (if i < ρ.length then as else []) else ad k) (ρ.set i (.st S)) (σ.set i (some (.ref s))) F H := by
  refine ⟨w.gr, by rw [List.length_set, List.length_set]; exact w.len, fun j sl e => ?_, fun j q m => ?_, fun j1 j2 q m1 m2 => ?_, fun j e => ?_, w.pin.to fun S2 e => by
    rcases get_set e with ⟨e0, _⟩ | ⟨hj, e⟩
    · exact absurd e0.symm h00
    · exact ⟨⟨S2, e⟩, List.getElem?_set_ne (Ne.symm hj), if_neg hj⟩⟩
  · rcases get_set e with ⟨rfl, rfl⟩ | ⟨hj, e'⟩
    · have hi : j < ρ.length := by
        have := (List.getElem?_eq_some_iff.mp e).1
        rwa [List.length_set] at this
      exact ⟨s, List.getElem?_set_self (by rw [w.len]; exact hi), by rw [if_pos rfl, if_pos hi]; exact st⟩
    · rw [if_neg hj, List.getElem?_set_ne (Ne.symm hj)]
      exact w.sl j sl e'
  · by_cases hj : j = i
    · simp only [if_pos hj] at m
      by_cases hi : i < ρ.length
      · simp only [if_pos hi] at m
        exact ⟨hF q m, .inl (nw q m).1⟩
      · simp [if_neg hi] at m
    · simp only [if_neg hj] at m
      exact w.fz j q m
  · have g : ∀ j, q ∈ (if j = i then (if i < ρ.length then as else []) else ad j) → (j = i ∧ q ∈ as) ∨ (j ≠ i ∧ q ∈ ad j) := fun j m => by
      by_cases hj : j = i
      · simp only [if_pos hj] at m
        by_cases hi : i < ρ.length
        · simp only [if_pos hi] at m
          exact .inl ⟨hj, m⟩
        · simp [if_neg hi] at m
      · simp only [if_neg hj] at m
        exact .inr ⟨hj, m⟩
    rcases g j1 m1 with ⟨a1, b1⟩ | ⟨a1, b1⟩ <;> rcases g j2 m2 with ⟨a2, b2⟩ | ⟨a2, b2⟩
    · rw [a1, a2]
    · exact absurd b2 ((nw q b1).2 j2)
    · exact absurd b1 ((nw q b2).2 j1)
    · exact w.dj j1 j2 q b1 b2
  · show (if j = i then (if i < ρ.length then as else []) else ad j) = []
    have e' := get_set' e
    by_cases hj : j = i
    · subst hj
      rw [if_pos rfl, if_neg (by rw [List.getElem?_eq_none_iff] at e'; omega)]
    · rw [if_neg hj]
      exact w.out j e'
theorem sx_asgE {i : Nat} (h00 : i ≠ 0) (h : EN te ρ fun S ρ1 => NX P (ρ1.set i (.st S))) : SX (tAsg te (gName i)) ρ P := fun B σ F H w Dn n r b c => by
  obtain ⟨ad, w⟩ := w
  refine h B ad σ F H w _ fun S s as ρ1 F1 H1 F' H' q p g st fn => ?_
  obtain ⟨ρ2, l, q⟩ := q
  exact n ρ2 _ F' H' q (W.weak ⟨_, (p.wa.grow g).setSt2 i h00 st (fun a m => (fn a m).1) fun a m => (p.wa.newp (fn a m).2).2⟩ l)
theorem wipe_twice (σ : St) (vs : List Nat) : wipe (wipe σ vs) vs = wipe σ vs := by
  apply List.ext_getElem?
  intro j
  rw [wipe_get, wipe_get, wipe_length]
  split
  · rfl
  · first | rfl | rw [wipe_get, if_neg (by assumption)]
/-- [list(x) for x in ..]: the lists that it makes are a state -/
theorem en_grid {r : Nat} {Q : Stt → Pu.Env → Prop} (h : EX te ρ fun d ρ1 => ∃ rows, d = .list (rows.map rowD) ∧ rows.length < 1000000 ∧ r < ρ1.length ∧ Q (.grd rows) ρ1) :
    EN (tLc (iList K te) (gName r) tYes (tCB (rList K) (tCons (tVar r) tNil)) [r]) ρ Q := fun B ad σ F H w Z z => by
  have hi : EI (iList K te) ρ fun ds ρ1 => ∃ rows : List (List (Option Int)), ds = rows.map rowD ∧ rows.length < 1000000 ∧ r < ρ1.length ∧ Q (.grd rows) ρ1 := ei_list (h.imp fun d ρ1 e => by
    obtain ⟨rows, e, k⟩ := e
    exact ⟨_, e, rows, rfl, k⟩)
  refine hi B ad σ F H w _ fun ds ρ1 J F1 H1 q1 p1 it => ?_
  obtain ⟨rows, rfl, hz, hr, q⟩ := q1
  intro Dl hD
  have hrs : r < σ.length := by rw [p1.wa.len]; exact hr
  have nF1 : F1 Dl = none := (p1.wa.newp hD).1
  let Inv := fun (k : Nat) (H' : Hp) => ∃ qs F', Gr Non F1 H1 F' H' ∧ (Dl :: qs).Nodup ∧ (∀ a ∈ Dl :: qs, F' a = none ∧ H1 a = none) ∧ H' Dl = some (.lst (qs.map V.ref)) ∧ GrA H' qs (rows.take k) ∧ qs.length = k
  refine ⟨fun i m H' => m = (rows.map rowD).length - i ∧ i ≤ (rows.map rowD).length ∧ Inv i H', ⟨_, rfl, Nat.zero_le _, [], F1, Gr.heap p1.wa.gr.fh (same_upd hD), by simp, fun a ha => ?_, upd_same, trivial, rfl⟩, ?_⟩
  · have e : a = Dl := by simpa using ha
    rw [e]
    exact ⟨nF1, hD⟩
  rintro i m H' ⟨rfl, hi, qs, F', g, nd, fn, hl, hg, ql⟩
  by_cases hlt : i < (rows.map rowD).length
  · refine .inr ⟨it.go i H' (g.ff.trans g.fh) hlt, fun H2 => Inv (i + 1) H2, fun H2 k => ⟨(rows.map rowD).length - (i + 1), by omega, rfl, hlt, k⟩, fun x H2 y => ?_⟩
    obtain ⟨d, F2, e, gr, rx⟩ := it.yld i H' x H2 F' g.ff g.fh y hlt
    rw [List.getElem?_map] at e
    obtain ⟨row, ex, rfl⟩ : ∃ row, rows[i]? = some row ∧ rowD row = d := by
      cases hx : rows[i]? with
      | none => rw [hx] at e; cases e
      | some a => rw [hx] at e; exact ⟨a, rfl, Option.some.inj e⟩
    obtain ⟨p, xs, rfl, h1, h2⟩ := rx.lst_inv
    have hxs := ovs_inv h2
    subst hxs
    have g2 : Gr Non F1 H1 F2 H2 := g.trans gr (fun _ _ z => z) fun _ _ z => z
    have alive : ∀ a ∈ Dl :: qs, H' a ≠ none := fun a ha => by
      rcases List.mem_cons.mp ha with rfl | ha
      · rw [hl]; intro z; cases z
      · exact hg.mem a ha
    have hl2 : H2 Dl = some (.lst (qs.map V.ref)) := gr.kp _ _ hl id
    have hg2 : GrA H2 qs (rows.take i) := hg.keep fun a _ o e => gr.kp a o e id
    refine ⟨?_, ?_⟩
    · rw [wipe_set (by simp), wipe_twice]
    show tCB (rList K) (tCons (tVar r) tNil) _ H2 _
    refine ⟨_, List.getElem?_set_self (by rw [wipe_length]; exact hrs), p, row.map ov, rfl, .inl (sqL_rd h1 gr.fh), fun l hl0 => ?_⟩
    have ne : l ≠ Dl := fun z => by rw [z, hl2] at hl0; cases hl0
    have lout : ∀ a ∈ Dl :: qs, a ≠ l := fun a ha z => gr.al a (alive a ha) (by rw [z]; exact hl0)
    have F2l : F2 l = none := by
      cases q : F2 l with
      | none => rfl
      | some o => rw [g2.fh l o q] at hl0; cases hl0
    have H1l : H1 l = none := by
      cases q : H1 l with
      | none => rfl
      | some o => exact absurd hl0 (g2.al l (by rw [q]; intro z; cases z))
    have F2D : ∀ a ∈ Dl :: qs, F2 a = none := fun a ha => gr.fr a (alive a ha) (fn a ha).1
    refine ⟨qs.map V.ref, by rw [upd_ne (Ne.symm ne)]; exact hl2, ?_, ?_⟩
    · rw [List.length_map, ql]
      have : i < rows.length := by rw [List.length_map] at hlt; exact hlt
      exact Nat.lt_trans (Nat.lt_trans this hz) (by decide)
    show Inv (i + 1) _
    have nf : ∀ a o, F2 a = some o → a ≠ l ∧ a ≠ Dl := fun a o e => ⟨(fun z => by rw [z, F2l] at e; cases e), (fun z => by rw [z, F2D Dl (by simp)] at e; cases e)⟩
    have n1 : ∀ a, H1 a ≠ none → a ≠ l ∧ a ≠ Dl := fun a e => ⟨fun z => e (by rw [z]; exact H1l), fun z => e (by rw [z]; exact hD)⟩
    refine ⟨qs ++ [l], F2, ⟨g2.ff, fun a o e => ?_, fun a o e m => ?_, fun a e => ?_, g2.fr⟩, ?_, ?_, ?_, ?_, by simp [ql]⟩
    · rw [upd_ne (nf a o e).2, upd_ne (nf a o e).1]
      exact g2.fh a o e
    · have na := n1 a (by rw [e]; intro z; cases z)
      rw [upd_ne na.2, upd_ne na.1]
      exact g2.kp a o e m
    · have na := n1 a e
      rw [upd_ne na.2, upd_ne na.1]
      exact g2.al a e
    · rw [List.nodup_cons] at nd ⊢
      refine ⟨fun m => ?_, ?_⟩
      · rcases List.mem_append.mp m with m | m
        · exact nd.1 m
        · exact ne (List.mem_singleton.mp m).symm
      · refine List.nodup_append.mpr ⟨nd.2, by simp, fun a ha b hb e => ?_⟩
        rw [List.mem_singleton.mp hb] at e
        exact lout a (by simp [ha]) e
    · intro a ha
      rcases List.mem_cons.mp ha with rfl | ha
      · exact ⟨F2D _ (by simp), hD⟩
      · rcases List.mem_append.mp ha with ha | ha
        · exact ⟨F2D a (by simp [ha]), (fn a (by simp [ha])).2⟩
        · rw [List.mem_singleton.mp ha]; exact ⟨F2l, H1l⟩
    · rw [upd_same, List.map_append]; rfl
    · rw [take_snoc' ex]
      refine GrA.out (fun m => ?_) (GrA.app upd_same (GrA.out (fun m => lout l (by simp [m]) rfl) hg2))
      rcases List.mem_append.mp m with m | m
      · exact (List.nodup_cons.mp nd).1 m
      · exact ne (List.mem_singleton.mp m).symm
  · have e : i = rows.length := by rw [List.length_map] at hlt hi; omega
    subst e
    rw [List.take_length] at hg
    exact .inl ⟨it.stop _ H' (g.ff.trans g.fh) (by rw [List.length_map]; exact Nat.le_refl _), z (.grd rows) Dl (Dl :: qs) ρ1 F1 H1 F' H' q p1 g ⟨qs, rfl, nd, hl, hg⟩ fn⟩
/-- x[a][b] of such a state -/
theorem ex_grd {i : Nat} {rows0 : List (List (Option Int))} {Q : D → Pu.Env → Prop} (h : ρ[i]? = some (.st (.grd rows0))) (k : EX tb ρ fun d ρ1 => ∃ a m rows1 r1, d = .int a ∧ ρ1[i]? = some (.st (.grd rows1)) ∧ ixN rows1.length a = some m ∧ rows1[m]? = some r1 ∧
    EX tc ρ1 fun e ρ2 => ∃ b rows r x, e = .int b ∧ ρ2[i]? = some (.st (.grd rows)) ∧ rows[m]? = some r ∧ atI r b = some x ∧ Q (optD x) ρ2) : EX (tOp (rIxA K) (tOp (rIxA K) (tVar i) tb) tc) ρ Q := fun B ad σ F H w Z z => by
  obtain ⟨s, k0, qs0, has0, _, _, _⟩ := w.sl i _ h
  refine ⟨_, k0, k B ad σ F H w _ fun d ρ1 y F1 H1 q1 p1 ry => ?_⟩
  obtain ⟨a, m, rows1, r1, rfl, h1, hm, hr1, q1⟩ := q1
  obtain ⟨s1, k1, qs1, has1, nd1, hs1, hg1⟩ := p1.wa.sl i _ h1
  rw [k0] at k1
  cases k1
  obtain ⟨q, hq, _⟩ := hg1.get hr1
  have hat : atI (qs1.map V.ref) a = some (V.ref q) := by
    unfold atI
    rw [List.length_map, hg1.len, hm]
    show (qs1.map V.ref)[m]? = _
    rw [List.getElem?_map, hq]
    rfl
  refine .inl ⟨s, qs1.map V.ref, a, .ref q, rfl, ry.int_inv, .inl (.inl hs1), hat, ?_⟩
  refine q1 B ad σ F1 H1 p1.wa _ fun e ρ2 u F2 H2 q2 p2 ru => ?_
  obtain ⟨b, rows, r, x, rfl, h2, hr, hx, q2⟩ := q2
  obtain ⟨s2, k2, qs2, has2, nd2, hs2, hg2⟩ := p2.wa.sl i _ h2
  rw [k0] at k2
  cases k2
  have eq : qs2 = qs1 := by
    have := has2.symm.trans has1
    simpa using this
  subst eq
  obtain ⟨q', hq', hH⟩ := hg2.get hr
  rw [hq] at hq'
  cases hq'
  have hx' : atI (r.map ov) b = some (ov x) := by
    unfold atI at hx ⊢
    rw [List.length_map]
    cases e : ixN r.length b with
    | none => rw [e] at hx; cases hx
    | some j =>
      rw [e] at hx
      show (r.map ov)[j]? = _
      rw [List.getElem?_map, show r[j]? = some x from hx]
      rfl
  exact .inl ⟨q, r.map ov, b, ov x, rfl, ru.int_inv, .inl (.inl hH), hx', z _ ρ2 _ F2 H2 q2 (p1.trans p2) (rp_ov F2 x)⟩
theorem ex_lenG {i : Nat} {rows : List (List (Option Int))} {Q : D → Pu.Env → Prop} (h : ρ[i]? = some (.st (.grd rows))) (q : Q (.int (rows.length : Int)) ρ) : EX (tCB (rLen K) (tCons (tVar i) tNil)) ρ Q := fun B ad σ F H w Z z => by
  obtain ⟨s, k0, qs, _, _, hs, hg⟩ := w.sl i _ h
  exact ⟨_, k0, _, rows.length, rfl, .inl ⟨qs.map V.ref, .inl (.inl hs), by rw [List.length_map, hg.len]⟩, z _ ρ _ F H q (Post.refl w) (.int _)⟩
theorem ex_lenG1 {i : Nat} {rows0 : List (List (Option Int))} {Q : D → Pu.Env → Prop} (h : ρ[i]? = some (.st (.grd rows0))) (k : EX tb ρ fun d ρ1 => ∃ a m rows r, d = .int a ∧ ρ1[i]? = some (.st (.grd rows)) ∧ ixN rows.length a = some m ∧ rows[m]? = some r ∧ Q (.int (r.length : Int)) ρ1) :
    EX (tCB (rLen K) (tCons (tOp (rIxA K) (tVar i) tb) tNil)) ρ Q := fun B ad σ F H w Z z => by
  obtain ⟨s, k0, qs0, has0, _, _, _⟩ := w.sl i _ h
  refine ⟨_, k0, k B ad σ F H w _ fun d ρ1 y F1 H1 q1 p1 ry => ?_⟩
  obtain ⟨a, m, rows1, r1, rfl, h1, hm, hr1, q1⟩ := q1
  obtain ⟨s1, k1, qs1, has1, nd1, hs1, hg1⟩ := p1.wa.sl i _ h1
  rw [k0] at k1
  cases k1
  obtain ⟨q, hq, hH⟩ := hg1.get hr1
  have hat : atI (qs1.map V.ref) a = some (V.ref q) := by
    unfold atI
    rw [List.length_map, hg1.len, hm]
    show (qs1.map V.ref)[m]? = _
    rw [List.getElem?_map, hq]
    rfl
  refine .inl ⟨s, qs1.map V.ref, a, .ref q, rfl, ry.int_inv, .inl (.inl hs1), hat, ?_⟩
  exact ⟨_, r1.length, rfl, .inl ⟨r1.map ov, .inl (.inl hH), by rw [List.length_map]⟩, z _ ρ1 _ F1 H1 q1 p1 (.int _)⟩
/-- x[a][b] = e -/
theorem sx_setG {i : Nat} (h : EX te ρ fun d ρ1 => ∃ x rows1, d = optD x ∧ ρ1[i]? = some (.st (.grd rows1)) ∧ EX tb ρ1 fun a' ρ2 => ∃ a m rows2 r2, a' = .int a ∧ ρ2[i]? = some (.st (.grd rows2)) ∧ ixN rows2.length a = some m ∧ rows2[m]? = some r2 ∧
    EX tc ρ2 fun b' ρ3 => ∃ b j rows r, b' = .int b ∧ ρ3[i]? = some (.st (.grd rows)) ∧ rows[m]? = some r ∧ ixN r.length b = some j ∧ NX P (ρ3.set i (.st (.grd (rows.set m (r.set j x)))))) :
    SX (tAsg te (gSub (tOp (rIxA K) (tVar i) tb) tc rSetL)) ρ P := fun B σ F H w Dn n rt bk ct => by
  obtain ⟨ad, w⟩ := w
  refine h B ad σ F H w _ fun d ρ1 v F1 H1 q1 p1 rv => ?_
  obtain ⟨x, rows1, rfl, h1, q1⟩ := q1
  have ev := ov_inv rv
  obtain ⟨s, k0, qs0, has0, _, _, _⟩ := p1.wa.sl i _ h1
  refine ⟨_, k0, q1 B ad σ F1 H1 p1.wa _ fun a' ρ2 y F2 H2 q2 p2 ry => ?_⟩
  obtain ⟨a, m, rows2, r2, rfl, h2, hm, hr2, q2⟩ := q2
  obtain ⟨s1, k1, qs1, has1, nd1, hs1, hg1⟩ := p2.wa.sl i _ h2
  rw [k0] at k1
  cases k1
  obtain ⟨q, hq, _⟩ := hg1.get hr2
  have hat : atI (qs1.map V.ref) a = some (V.ref q) := by
    unfold atI
    rw [List.length_map, hg1.len, hm]
    show (qs1.map V.ref)[m]? = _
    rw [List.getElem?_map, hq]
    rfl
  refine .inl ⟨s, qs1.map V.ref, a, .ref q, rfl, ry.int_inv, .inl (.inl hs1), hat, ?_⟩
  refine q2 B ad σ F2 H2 p2.wa _ fun b' ρ3 u F3 H3 q3 p3 ru => ?_
  obtain ⟨b, j, rows, r, rfl, h3, hr, hj, ρ', l, q3⟩ := q3
  have st3 := p3.wa.sl i _ h3
  obtain ⟨s2, k2, qs2, has2, nd2, hs2, hg2⟩ := st3
  rw [k0] at k2
  cases k2
  have eq : qs2 = qs1 := by
    have := has2.symm.trans has1
    simpa using this
  subst eq
  obtain ⟨q', hq', hH⟩ := hg2.get hr
  rw [hq] at hq'
  cases hq'
  have hqm : q ∈ qs2 := List.mem_of_getElem? hq
  have hqa : q ∈ ad i := by rw [has2]; simp [hqm]
  have hFq : F3 q = none := (p3.wa.fz i q hqa).1
  have hsq : s ≠ q := fun e => (List.nodup_cons.mp nd2).1 (by rw [e]; exact hqm)
  refine ⟨q, r.map ov, b, j, rfl, ru.int_inv, hH, by rw [List.length_map]; exact hj, ?_⟩
  have eset : (r.map ov).set j v = (r.set j x).map ov := by rw [ev, List.map_set]
  rw [eset]
  have g : Gr (· ∈ ad i) F3 H3 F3 (upd H3 q (.lst ((r.set j x).map ov))) := ⟨Same.refl F3, fun a o e => by
      rw [upd_ne (fun z => by rw [z, hFq] at e; cases e)]
      exact p3.wa.gr.fh a o e, fun a o e mm => by
      rw [upd_ne (fun z => mm (by rw [z]; exact hqa))]
      exact e, fun a e => by
      by_cases ha : a = q
      · rw [ha, upd_same]; intro z; cases z
      · rw [upd_ne ha]; exact e, fun _ _ z => z⟩
  refine n ρ' σ F3 _ q3 (W.weak ⟨ad, p3.wa.stp (S' := .grd (rows.set m (r.set j x))) h3 k0 g ⟨qs2, has2, nd2, ?_, ?_⟩ fun a ha => (p3.wa.fz i a ha).1⟩ l)
  · rw [upd_ne hsq]; exact hs2
  · exact GrA.set (List.nodup_cons.mp nd2).2 hg2 hq
/-- the lists are data from now on -/
theorem rpa_grd {F : Hp} : ∀ {qs : List Addr} {rows : List (List (Option Int))}, GrA F qs rows → RpA F (qs.map V.ref) (rows.map rowD)
  | [], [], _ => .nil
  | q :: qs, r :: rows, h => .cons (.lst (.inl h.1) (rpa_ov F r)) (rpa_grd h.2)
  | [], _ :: _, h => h.elim
  | _ :: _, [], h => h.elim
theorem sx_frzG (i : Nat) (h00 : i ≠ 0) {rows : List (List (Option Int))} (h : ρ[i]? = some (.st (.grd rows))) (k : SX t (ρ.set i (.val (.list (rows.map rowD)))) P) : SX t ρ P := fun B σ F H w => by
  obtain ⟨ad, w⟩ := w
  obtain ⟨s, k0, qs, has, nd, hs, hg⟩ := w.sl i _ h
  have hn : ∀ p ∈ ad i, B.H0 p = none := fun p m => by
    rcases (w.fz i p m).2 with q | q
    · exact q
    · exact absurd q.2 h00
  have up : Same F (fun a => if a ∈ ad i then H a else F a) := fun a o e => by
    have : a ∉ ad i := fun m => by rw [(w.fz i a m).1] at e; cases e
    show (if a ∈ ad i then H a else F a) = some o
    rw [if_neg this]; exact e
  have at1 : ∀ a ∈ ad i, (if a ∈ ad i then H a else F a) = H a := fun a m => if_pos m
  refine k B σ (fun a => if a ∈ ad i then H a else F a) H ⟨fun j => if j = i then [] else ad j, ⟨w.gr.ff.trans up, fun a o e => ?_, w.gr.kp, w.gr.al, fun a e z => ?_⟩, by rw [List.length_set]; exact w.len, fun j sl e => ?_, fun j q m => ?_, fun j1 j2 q m1 m2 => ?_, fun j e => ?_, w.pin.to fun S2 e => by
    rcases get_set e with ⟨e0, _⟩ | ⟨hj, e⟩
    · exact absurd e0.symm h00
    · exact ⟨⟨S2, e⟩, rfl, if_neg hj⟩⟩
  · have e : (if a ∈ ad i then H a else F a) = some o := e
    by_cases m : a ∈ ad i
    · rw [at1 a m] at e; exact e
    · skip
      rw [if_neg m] at e; exact w.gr.fh a o e
  · have m : a ∉ ad i := fun m => e (hn a m)
    show (if a ∈ ad i then H a else F a) = none
    rw [if_neg m]
    exact w.gr.fr a e z
  · rcases get_set e with ⟨rfl, rfl⟩ | ⟨hj, e⟩
    · refine ⟨if_pos rfl, .ref s, k0, .lst (xs := qs.map V.ref) (.inl ?_) (rpa_grd (hg.keep fun q hq o e => ?_))⟩
      · exact (at1 s (by rw [has]; simp)).trans hs
      · exact (at1 q (by rw [has]; simp [hq])).trans e
    · rw [if_neg hj]
      have k := w.sl j sl e
      cases sl with
      | emp => exact k
      | val d =>
        obtain ⟨k, v, e, r⟩ := k
        exact ⟨k, v, e, r.up up⟩
      | own es =>
        obtain ⟨q, ws, a1, a2, a3, a4, a5⟩ := k
        exact ⟨q, ws, a1, a2, a3, a4, a5.up up⟩
      | st S2 =>
        obtain ⟨s2, a1, a2⟩ := k
        exact ⟨s2, a1, a2.keep up fun _ _ _ e => e⟩
  · by_cases hj : j = i
    · simp only [if_pos hj] at m; cases m
    · simp only [if_neg hj] at m
      have : q ∉ ad i := fun m' => hj (w.dj j i q m m')
      refine ⟨?_, (w.fz j q m).2⟩
      show (if q ∈ ad i then H q else F q) = none
      rw [if_neg this]
      exact (w.fz j q m).1
  · by_cases h1 : j1 = i
    · simp only [if_pos h1] at m1; cases m1
    · by_cases h2 : j2 = i
      · simp only [if_pos h2] at m2; cases m2
      · simp only [if_neg h1] at m1
        simp only [if_neg h2] at m2
        exact w.dj j1 j2 q m1 m2
  · show (if j = i then [] else ad j) = []
    by_cases hj : j = i
    · rw [if_pos hj]
    · rw [if_neg hj]; exact w.out j (get_set' e)
/-- a, b, c = (an own list), (data), (a state): a tuple that nobody keeps -/
theorem sx_parOVN {K : PySem.W.Frag} {a b c : Nat} {te1 te2 te3 : TE} (h00 : c ≠ 0) (h : EO te1 ρ fun ds1 ρ1 => EX te2 ρ1 fun d2 ρ2 => EN te3 ρ2 fun S ρ3 => NX P (((ρ3.set a (.own ds1)).set b (.val d2)).set c (.st S))) :
    SX (tAsg (tTup (tCons te1 (tCons te2 (tCons te3 tNil)))) (gTup K 3 (gCons (gName a) (gCons (gName b) (gCons (gName c) gNil))))) ρ P := fun B σ F H w Dn n r bk ct => by
  obtain ⟨ad, w⟩ := w
  refine h B ad σ F H w _ fun ds1 ρ1 p1 vs1 F1 H1 q1 P1 hF1 hH1 hp1 rv1 => ?_
  refine q1 B ad σ F1 H1 P1.wa _ fun d2 ρ2 v2 F2 H2 q2 P2 rv2 => ?_
  refine q2 B ad σ F2 H2 P2.wa _ fun S s as ρ3 F4 H4 F3 H3 q3 P4 g st fn => ?_
  obtain ⟨ρ', l, q⟩ := q3
  refine ⟨by show 3 ≤ sizeLine; decide, fun T hT => ?_⟩
  have P3 := P4.trans (Post.of P4.wa g)
  have n1 := w.newp hH1
  have nms : ∀ (ρ2 : Pu.Env), ¬ MS ad ρ2 p1 := fun ρ2 ⟨j, S, _, m⟩ => n1.2.2 j m
  have hp2 : H2 p1 = some (.lst vs1) := P2.gr.kp p1 _ hp1 (nms _)
  have hp4 : H4 p1 = some (.lst vs1) := P4.gr.kp p1 _ hp2 (nms _)
  have hp1' : H3 p1 = some (.lst vs1) := P3.gr.kp p1 _ hp2 (nms _)
  have hF1' : F3 p1 = none := P3.gr.fr p1 (by rw [hp2]; intro z; cases z) (P2.gr.fr p1 (by rw [hp1]; intro z; cases z) hF1)
  have nT := P3.wa.newp hT
  have ne1 : p1 ≠ T := fun e => by rw [e, hT] at hp1'; cases hp1'
  have nas : ∀ x ∈ as, x ≠ T := fun x hx e => (st.mem.2 x hx) (by rw [e]; exact hT)
  have nap : ∀ x ∈ as, x ≠ p1 := fun x hx e => by have := (fn x hx).2; rw [e, hp4] at this; cases this
  have w4 := P3.wa.updD (o := .tup [.ref p1, v2, .ref s]) nT.2.1 nT.2.2 nT.1
  have w5 := w4.setOwn2 a hF1' n1.2.1 n1.2.2 (by rw [upd_ne ne1]; exact hp1') (rv1.up (P2.gr.ff.trans P3.gr.ff))
  have w6 := w5.setVal2 b (rv2.up P3.gr.ff)
  have w7 := w6.setSt2 c (S := S) (s := s) (as := as) h00 (st.keep (Same.refl _) fun x hx o e => by rw [upd_ne (nas x hx)]; exact e) (fun x hx => (fn x hx).1) fun x hx => ⟨(P4.wa.newp (fn x hx).2).2.1, fun i m => by
    by_cases hb : i = b
    · simp only [if_pos hb] at m; cases m
    · simp only [if_neg hb] at m
      by_cases ha : i = a
      · simp only [if_pos ha] at m
        split at m
        · exact nap x hx (List.mem_singleton.mp m)
        · cases m
      · simp only [if_neg ha] at m
        exact (P4.wa.newp (fn x hx).2).2.2 i m⟩
  refine ⟨T, [.ref p1, v2, .ref s], rfl, .inl (.inl upd_same), rfl, _, _, rfl, _, _, rfl, _, _, rfl, rfl, ?_⟩
  exact n ρ' _ F3 _ q (W.weak ⟨_, w7⟩ l)
/-- a, b, c = (an own list), (data), (a state), plain local names -/
theorem sx_par3N {a b c : Nat} {te1 te2 te3 : TE} (h00 : c ≠ 0) (h : EO te1 ρ fun ds1 ρ1 => EX te2 ρ1 fun d2 ρ2 => EN te3 ρ2 fun S ρ3 => NX P (((ρ3.set a (.own ds1)).set b (.val d2)).set c (.st S))) :
    SX (tPar3 a b c (tCons te1 (tCons te2 (tCons te3 tNil)))) ρ P := fun B σ F H w Dn n r bk ct => by
  obtain ⟨ad, w⟩ := w
  refine h B ad σ F H w _ fun ds1 ρ1 p1 vs1 F1 H1 q1 P1 hF1 hH1 hp1 rv1 => ?_
  refine q1 B ad σ F1 H1 P1.wa _ fun d2 ρ2 v2 F2 H2 q2 P2 rv2 => ?_
  refine q2 B ad σ F2 H2 P2.wa _ fun S s as ρ3 F4 H4 F3 H3 q3 P4 g st fn => ?_
  obtain ⟨ρ', l, q⟩ := q3
  have P3 := P4.trans (Post.of P4.wa g)
  have n1 := w.newp hH1
  have nms : ∀ (ρ2 : Pu.Env), ¬ MS ad ρ2 p1 := fun ρ2 ⟨j, S, _, m⟩ => n1.2.2 j m
  have hp2 : H2 p1 = some (.lst vs1) := P2.gr.kp p1 _ hp1 (nms _)
  have hp4 : H4 p1 = some (.lst vs1) := P4.gr.kp p1 _ hp2 (nms _)
  have hp1' : H3 p1 = some (.lst vs1) := P3.gr.kp p1 _ hp2 (nms _)
  have hF1' : F3 p1 = none := P3.gr.fr p1 (by rw [hp2]; intro z; cases z) (P2.gr.fr p1 (by rw [hp1]; intro z; cases z) hF1)
  have nap : ∀ x ∈ as, x ≠ p1 := fun x hx e => by have := (fn x hx).2; rw [e, hp4] at this; cases this
  have w5 := P3.wa.setOwn2 a hF1' n1.2.1 n1.2.2 hp1' (rv1.up (P2.gr.ff.trans P3.gr.ff))
  have w6 := w5.setVal2 b (rv2.up P3.gr.ff)
  have w7 := w6.setSt2 c (S := S) (s := s) (as := as) h00 st (fun x hx => (fn x hx).1) fun x hx => ⟨(P4.wa.newp (fn x hx).2).2.1, fun i m => by
    by_cases hb : i = b
    · simp only [if_pos hb] at m; cases m
    · simp only [if_neg hb] at m
      by_cases ha : i = a
      · simp only [if_pos ha] at m
        split at m
        · exact nap x hx (List.mem_singleton.mp m)
        · cases m
      · simp only [if_neg ha] at m
        exact (P4.wa.newp (fn x hx).2).2.2 i m⟩
  refine ⟨.ref p1, v2, .ref s, rfl, ?_⟩
  exact n ρ' _ F3 _ q (W.weak ⟨_, w7⟩ l)
theorem eo_if {tt : TT} {ta tb : TE} {Q : List D → Pu.Env → Prop} (h : ET tt ρ fun b ρ1 => (b = true → EO ta ρ1 Q) ∧ (b = false → EO tb ρ1 Q)) : EO (tIf tt ta tb) ρ Q := fun B ad σ F H w Z z =>
  h B ad σ F H w _ fun b ρ1 F1 H1 q1 p1 => by
    have up : ∀ p, H1 p = none → H p = none := fun p h => by
      cases q : H p with
      | none => rfl
      | some o => exact absurd h (p1.gr.al p (by rw [q]; intro z; cases z))
    cases b with
    | true =>
      show ta σ H1 Z
      exact q1.1 rfl B ad σ F1 H1 p1.wa Z fun ds ρ' p vs F' H' q pp a b c r => z ds ρ' p vs F' H' q (p1.trans pp) a (up p b) c r
    | false =>
      show tb σ H1 Z
      exact q1.2 rfl B ad σ F1 H1 p1.wa Z fun ds ρ' p vs F' H' q pp a b c r => z ds ρ' p vs F' H' q (p1.trans pp) a (up p b) c r
end
/-- l, l - 1, .., n of them -/
def dnI (l : Int) (n : Nat) : List Int := (List.range n).map fun k : Nat => l - (k : Int)
theorem dnI_len (l : Int) (n : Nat) : (dnI l n).length = n := by simp [dnI]
theorem dnI_get {l : Int} {n k : Nat} (h : k < n) : (dnI l n)[k]? = some (l - (k : Int)) := by simp [dnI, h]
theorem itd_dn {F : Hp} (l : Int) (n : Nat) : ItD (Itc l (-1) n) F ((dnI l n).map .int) where
  go := fun i H _ h => by rw [List.length_map, dnI_len] at h; exact h
  stop := fun i H _ h => by rw [List.length_map, dnI_len] at h; exact h
  yld := fun i H x H' F1 _ e2 y h => by
    rw [List.length_map, dnI_len] at h
    obtain ⟨rfl, rfl⟩ := y
    refine ⟨.int (l - (i : Int)), F1, by rw [List.getElem?_map, dnI_get h]; rfl, Gr.refl e2, ?_⟩
    have e : l + ((i : Nat) : Int) * (-1) = l - (i : Int) := by omega
    rw [e]
    exact .int _
theorem ei_rngD {ρ : Pu.Env} {t : TA} {Q : List D → Pu.Env → Prop} (h : EA t ρ fun ds ρ1 => ∃ l n, ds = [.int l, .int n, .int (-1)] ∧ (-1000000000000 ≤ l ∧ l ≤ 1000000000000 ∧ -1000000000000 ≤ n ∧ n ≤ 1000000000000) ∧ Q ((dnI l (l - n).toNat).map .int) ρ1) : EI (iRng3 t) ρ Q := fun B ad σ F H w R z =>
  h B ad σ F H w _ fun ds ρ1 vs F1 H1 q p r => by
    obtain ⟨l, n, rfl, ⟨hl1, hl2, hn1, hn2⟩, q⟩ := q
    cases r with
    | cons r1 r =>
      cases r with
      | cons r2 r =>
        cases r with
        | cons r3 r =>
          cases r
          exact ⟨l, n, -1, (l - n).toNat, by rw [r1.int_inv, r2.int_inv, r3.int_inv], RgC.neg (by omega) (by omega) (by omega) (by omega), z _ ρ1 _ F1 H1 q p (itd_dn l _)⟩
end Pu
/-! PuU: set(a list of ints), sorted and len of it; all and any of a list of truth values. -/
namespace Pu
open PySem PySem.Spec PyProof.Rows L2
abbrev newSet (w : World) : Obj := { cls := .type "set", dict := none, data := .set #[] 0 (.fresh 0 0 (!w.params.followText "set-order")) }
section
variable {P : Program} {w : World} {A : Around} {E : Value → Shared → Prop} {s : Shared}
set_option maxHeartbeats 8000000 in
theorem call_set_lstI {l : Addr} {items : Array Value} (ns : List Int) {Q : Value → Shared → Prop} (hh : A.handled = none) (hl : s.heap.IsList l items) (hit : IntsAre items.toList ns) (hb : ns.length + 1 < scanBound)
    (h : ∀ (h' : Heap) (tk c : Nat), SetR w h' s.heap.objs.size (fun j => decide (j ∈ ns)) c → c ≤ ns.length → (∀ b o, s.heap.get? b = some o → h'.get? b = some o) → Q (.ref s.heap.objs.size) { s with heap := h', toks := tk }) :
    wpAny (model P w) A (call (.type "set") [.ref l]) Q E s := by
  have hisz : items.size = ns.length := by
    have q := IntsAre.length hit
    rwa [Array.length_toList] at q
  obtain ⟨c, tl, hmro⟩ := F.called_set.mro
  have hmade := F.called_set.made
  have hsub := F.called_set.sub
  refine wpAny_call (codeAny_of_tree ?_)
  show wpAny _ _ (callAny (.type "set") _) _ _ _
  refine wpAny_pure ⟨Code.quiet_builtin _ (by decide +kernel), codeAny_builtin F.entry_type_call ?_⟩
  rw [Around.under_plain (weight_type_call_type "set" [.ref l] []) rfl]
  have h1 := F.called_set.notType
  have h2 := F.called_set.canCreate
  have hct := F.typeCall_set_1 (.ref l)
  repeat (any_goals (first | assumption | wp_step))

  refine codeAny_mono (code_set_led1 (.ref l) (E := E) (Q₁ := fun obj s₁ => obj = .ref s.heap.objs.size ∧ s₁ = { s with heap := s.heap.push (newSet w) }) ⟨rfl, rfl⟩) fun r s₁ hr => ?_
  cases r with
  | error e => exact hr
  | ok fl =>
    cases fl with
    | ret obj =>
      obtain ⟨rfl, rfl⟩ := hr
      have hS : (s.heap.push (newSet w)).get? s.heap.objs.size = some (newSet w) := Heap.get?_push_size _ rfl
      have hT : Shared.TypeIs { s with heap := s.heap.push (newSet w) } (.ref s.heap.objs.size) "set" := ⟨_, hS, rfl⟩
      have hli := F.called_set.init.lookup
      have hbi := F.called_set.init.bind (.ref s.heap.objs.size)
      repeat (any_goals (first | assumption | wp_step))

      refine codeAny_mono (codeAny_call_builtin (R := wants (fun r s₂ => r = .none ∧ ∃ h' tk c, s₂ = { s with heap := h', toks := tk } ∧ SetR w h' s.heap.objs.size (fun j => decide (j ∈ ns)) c ∧ c ≤ ns.length ∧
          (∀ b o, s.heap.get? b = some o → h'.get? b = some o)) E) F.called_set.init.plain F.entry_set_init (check_set_init_1 hT ?_)) fun r₂ s₂ hr₂ => ?_
      · obtain ⟨ol, hol, hcl, nl, hdl⟩ := hl
        obtain ⟨ocls, odict, odata, oslots⟩ := ol
        simp only at hcl hdl
        subst hcl; subst hdl
        have hol' : (s.heap.push (newSet w)).get? l = some { cls := .type "list", dict := odict, data := .seq items nl, slots := oslots } := Heap.get?_push_of_some _ hol
        have hsls := F.sub_list_set
        have hslf := F.sub_list_frozenset
        have hne : (Value.type "list" == Value.type "dict") = false := by decide
        have hl1 : (s.heap.push (newSet w)).IsList l items := ⟨_, hol', rfl, nl, rfl⟩
        unfold Builtin.«set.__init__» noKeywords Builtin.Frozenset.updateFrom
        generalize hPI : pyIter = PI
        wp_walk
        subst hPI

        refine wpAny_pyIter_list hl1 ?_
        refine wpAny_bind (wpAny_runValue ?_)
        have hlS : l < s.heap.objs.size := Heap.lt_size hol
        have hh3 : A.in1.in1.in1.handled = none := by simp [hh]
        have hneI : l ≠ (s.heap.push (newSet w)).objs.size := by
          rw [Heap.size_push]; exact Nat.ne_of_lt (Nat.lt_succ_of_lt hlS)
        have hSf : s.heap.objs.size ∉ [(s.heap.push (newSet w)).objs.size, l] := by
          rw [Heap.size_push]; simp only [List.mem_cons, List.not_mem_nil, or_false, not_or]
          exact ⟨Nat.ne_of_lt (Nat.lt_succ_self _), Nat.ne_of_gt hlS⟩
        have hval : ∀ (i : Nat) (v : Value), items[i]? = some v → ∃ k t, ns[i]? = some k ∧ v = .int k t := fun i v hv => by
          have hi : i < ns.length := by rw [← hisz]; exact (Array.getElem?_eq_some_iff.mp hv).1
          obtain ⟨t, e⟩ := PyProof.Rows.IntsAre.int_at hit i v (by rw [Array.getElem?_toList]; exact hv)
          refine ⟨ns[i], t, List.getElem?_eq_getElem hi, ?_⟩
          rw [e, List.getD_eq_getElem?_getD, List.getElem?_eq_getElem hi] <;> rfl
        refine set_update_ints ((Walks.list hh3 _ l hneI items).toS) s.heap.objs.size hSf ns hisz hb hval (items.size - 0) 0 _ (by omega) (Nat.zero_le _) ⟨⟨_, Heap.get?_push_size _ rfl, rfl, rfl⟩, (hl1.push _)⟩ ⟨0, Nat.le_refl 0, setR_new_at (Heap.get?_push_of_some _ hS)⟩ ?_
        intro s' c' hm hc' hS'
        obtain ⟨h', g2, d', tk', os'⟩ := s'
        have eg : g2 = s.gens := hm.gens
        have ed : d' = s.drawn := hm.drawn
        have eo : os' = s.os := hm.os
        subst eg; subst ed; subst eo
        show wpAny _ _ _ _ _ _
        refine wpAny_pure ?_
        show wpAny _ _ (ret Value.none) _ _ _
        rw [hisz] at hc'
        refine wpAny_pure ⟨rfl, h', tk', c', rfl, hS', hc', fun b o e => ?_⟩
        have hb0 : b < s.heap.objs.size := Heap.lt_size e
        have hb1 : b ≠ s.heap.objs.size := Nat.ne_of_lt hb0
        have hb2 : b ≠ (s.heap.push (newSet w)).objs.size := by
          rw [Heap.size_push]; exact Nat.ne_of_lt (Nat.lt_succ_of_lt hb0)
        exact hm.heap b o (by simp only [List.mem_cons, List.not_mem_nil, or_false, not_or]; exact ⟨hb1, hb2⟩) (Heap.get?_push_of_some _ (Heap.get?_push_of_some _ e))

      · cases r₂ with
        | error e => exact hr₂
        | ok fl₂ =>
          cases fl₂ with
          | ret r =>
            obtain ⟨rfl, h', tk, c', rfl, hS', hc', hk'⟩ := hr₂
            repeat (any_goals (first | assumption | wp_step))
            exact h _ _ _ hS' hc' hk'
          | _ => exact hr₂.elim
    | _ => exact hr.elim
end
theorem few_in : ∀ (m : Nat) {l : List Int} {lo : Int}, l.Nodup → (∀ x ∈ l, lo ≤ x ∧ x < lo + (m : Int)) → l.length ≤ m
  | 0, l, lo, _, h => by
    cases l with
    | nil => exact Nat.le_refl _
    | cons x l => have := h x (by simp); omega
  | m + 1, l, lo, nd, h => by
    have k := few_in m (l := l.erase (lo + (m : Int))) (lo := lo) (nd.erase _) fun x hx => by
      have q := (List.Nodup.mem_erase_iff nd).mp hx
      have := h x q.2
      have := q.1
      omega
    rw [List.length_erase] at k
    split at k <;> omega
theorem setR_few {w : World} {h : Heap} {a : Addr} {ns : List Int} {c : Nat} (R : SetR w h a (fun j => decide (j ∈ ns)) c) (hc : c ≤ ns.length) (hb : ns.length < 64 ∨ ∃ lo : Int, ∀ x ∈ ns, lo ≤ x ∧ x < lo + 63) : c < 64 := by
  rcases hb with hb | ⟨lo, hb⟩
  · omega
  · obtain ⟨o, es, ep, t, _, _, _, _, nd, hm, _, _, hs, _⟩ := R
    have k := few_in 63 (lo := lo) nd fun x hx => by
      have := (hm x).mpr hx
      rw [decide_eq_true_eq] at this
      exact hb x this
    rw [List.length_map, Array.length_toList] at k
    omega
section
variable {X : Cx}
/-- sorted(set(a list of ints)): a new list -/
def tSS (K : PySem.W.Frag) (te : TE) : TE := fun σ H Q => te σ H fun x H1 => ∃ (a : Addr) (ns : List Int), x = .ref a ∧ SqL K H1 a (ns.map V.int) ∧ (ns.length < 4000 ∧ (ns.length < 64 ∨ ∃ lo : Int, ∀ x ∈ ns, lo ≤ x ∧ x < lo + 63)) ∧
  ∀ (us : List Int) (H2 : Hp) (p : Addr), us.Pairwise (· < ·) → (∀ k, k ∈ us ↔ k ∈ ns) → us.length ≤ ns.length → Same H1 H2 → H2 p = none → Q (.ref p) (upd H2 p (.lst (us.map V.int)))
theorem pe_sortSet {a : Expr} {ta : TE} {p p2 q pos : Pos} (hc : X.calm = true) (hg : Gl X "sorted") (hm : X.mg "sorted" = none) (hg2 : Gl X "set") (hm2 : X.mg "set" = none) (ha : PE X a ta)
    (na : starEach [a] X.env = (false, eval a X.env) :: starEach [] X.env := by rfl) : PE X (.Call (.Name "sorted" p) [.Call (.Name "set" p2) [a] [] q] [] pos) (tSS X.K ta) := by
  refine ⟨fun pins s σ H Q I h => ?_⟩
  refine Call_ (ld_blt I hg hm boot_sorted ?_)
  refine PyProof.Rows.callWith_builtin1 (PyProof.Rows.args_cons ?_ rfl) rfl rfl
  refine Call_ (ld_blt I hg2 hm2 PyProof.Rows.boot_set ?_)
  refine PyProof.Rows.callWith_type1 (PyProof.Rows.args_cons (thn (ha.run pins s σ H _ I h) fun v s1 ⟨x, H1, I1, r1, q1⟩ => PyProof.Rows.args_nil ?_) na) na rfl
  obtain ⟨l, ns, rfl, hq, ⟨hl, hfew⟩, q1⟩ := q1
  cases r1
  obtain ⟨its, rv, hil, hzl⟩ := I1.list hq
  have hi : IntsAre its.toArray.toList ns := ints_of_vals rv
  refine call_set_lstI ns (I1.ok.hd hc) hil.isList hi (by unfold scanBound; omega) fun h' tk c R hcn k => PyProof.Rows.args_nil ?_
  have I2 : Inv X pins σ H1 { s1 with heap := h', toks := tk } := I1.kept k
  refine sorted_set R (I2.ok.hd hc) (setR_few R hcn hfew) fun s' p out c2 us k2 g o hp hg hus hs hm hul => ?_
  have hlen : (us.map V.int).length ≤ sizeLine := by rw [List.length_map, hul, sizeLine_eq]; omega
  have hn : H1 p = none := I2.hok.fresh hp
  have J : Inv X pins σ (upd H1 p (.lst (us.map V.int))) { { s1 with heap := h', toks := tk } with heap := s'.heap, gens := s'.gens, drawn := s'.drawn, toks := s'.toks } :=
    I2.call (ch := []) (Un.laid k2 hp hn) (I2.hok.laid k2 hp ⟨hlen, out.toList, c2, vals_of_ints hus, hg⟩) (by rw [g]; exact I2.bare) (fun _ z => nomatch z)
  have e : s' = { { s1 with heap := h', toks := tk } with heap := s'.heap, gens := s'.gens, drawn := s'.drawn, toks := s'.toks } := by
    cases s'
    cases s1
    cases o
    rfl
  rw [e]
  exact ⟨.ref p, _, J, rfl, q1 us H1 p hs (fun k => by rw [hm k, decide_eq_true_eq]) (by omega) (fun _ _ z => z) hn⟩
theorem eo_sortSetB {K : PySem.W.Frag} {ρ : Pu.Env} {te : TE} {Q : List D → Pu.Env → Prop} (h : EX te ρ fun d ρ1 => ∃ ns : List Int, d = .list (ns.map .int) ∧ (ns.length < 4000 ∧ (ns.length < 64 ∨ ∃ lo : Int, ∀ x ∈ ns, lo ≤ x ∧ x < lo + 63)) ∧ ∀ us : List Int, us.Pairwise (· < ·) → (∀ k, k ∈ us ↔ k ∈ ns) → us.length ≤ ns.length → Q (us.map .int) ρ1) : EO (tSS K te) ρ Q := fun B ad σ F H w Z z =>
  h B ad σ F H w _ fun d ρ1 v F1 H1 q1 p1 rv => by
    obtain ⟨ns, rfl, hl, q⟩ := q1
    obtain ⟨a, xs, rfl, h1, h2⟩ := rv.lst_inv
    have e := h2.ints_inv
    subst e
    refine ⟨a, ns, rfl, sqL_rd h1 p1.wa.gr.fh, hl, fun us H2 p hs hm hle sm hp => ?_⟩
    have hH1 : H1 p = none := by
      cases e : H1 p with
      | none => rfl
      | some o => rw [sm p o e] at hp; cases hp
    have hH : H p = none := by
      cases e : H p with
      | none => rfl
      | some o => exact absurd hH1 (p1.gr.al p (by rw [e]; intro z; cases z))
    have g : Same H1 (upd H2 p (.lst (us.map V.int))) := sm.trans (same_upd hp)
    exact z (us.map .int) ρ1 p (us.map V.int) F1 _ (q us hs hm hle) (p1.trans (Post.of p1.wa (Gr.heap p1.wa.gr.fh g))) (p1.wa.newp hH1).1 hH upd_same (RpA.ints us)
theorem eo_sortSet {K : PySem.W.Frag} {ρ : Pu.Env} {te : TE} {Q : List D → Pu.Env → Prop} (h : EX te ρ fun d ρ1 => ∃ ns : List Int, d = .list (ns.map .int) ∧ ns.length < 64 ∧ ∀ us : List Int, us.Pairwise (· < ·) → (∀ k, k ∈ us ↔ k ∈ ns) → us.length ≤ ns.length → Q (us.map .int) ρ1) : EO (tSS K te) ρ Q :=
  eo_sortSetB (h.imp fun d ρ1 q => by
    obtain ⟨ns, e, hl, q⟩ := q
    exact ⟨ns, e, ⟨by omega, .inl hl⟩, q⟩)
/-- all, any of truth values -/
def rAllB (K : PySem.W.Frag) : List V → Hp → VK → Prop := fun vs H Q => ∃ (F : Hp) (a : Addr) (xs : List V) (bs : List Bool), vs = [.ref a] ∧ Same F H ∧ Rd F a (.lst xs) ∧ RpA F xs (bs.map .bool) ∧ Q (.bl (bs.all id)) H
def rAnyB (K : PySem.W.Frag) : List V → Hp → VK → Prop := fun vs H Q => ∃ (F : Hp) (a : Addr) (xs : List V) (bs : List Bool), vs = [.ref a] ∧ Same F H ∧ Rd F a (.lst xs) ∧ RpA F xs (bs.map .bool) ∧ Q (.bl (bs.any id)) H
theorem plain_bools : ∀ bs : List Bool, PyData.plainAll (bs.map PyData.bool) = true
  | [] => rfl
  | b :: bs => by rw [List.map_cons, PyData.plainAll, plain_bools bs]; rfl
theorem cb_all (hc : X.calm = true) : CallR X (.builtin "all") (rAllB X.K) := by
  rintro pins s σ H vs us Q I r ⟨F, a, xs, bs, rfl, e, ha, ra, q⟩
  obtain ⟨its, rv, hl, hzl⟩ := I.list (sqL_rd (K := X.K) ha e)
  obtain ⟨as, rr⟩ := rpa_reads I e ra rv
  rw [Vals.ref1 r]
  refine PySem.W.all_list_data (I.ok.hd hc) hl.isList (by simpa using rr) (plain_bools bs) (fun x hx => by
    obtain ⟨b, _, rfl⟩ := List.mem_map.mp hx
    exact trivial) fun h' tk k => ?_
  refine ⟨.bl (bs.all id), H, I.kept k, ?_, q⟩
  rw [List.all_map]
  rfl
theorem cb_any (hc : X.calm = true) : CallR X (.builtin "any") (rAnyB X.K) := by
  rintro pins s σ H vs us Q I r ⟨F, a, xs, bs, rfl, e, ha, ra, q⟩
  obtain ⟨its, rv, hl, hzl⟩ := I.list (sqL_rd (K := X.K) ha e)
  obtain ⟨as, rr⟩ := rpa_reads I e ra rv
  rw [Vals.ref1 r]
  refine PySem.W.any_list_data (I.ok.hd hc) hl.isList (by simpa using rr) (plain_bools bs) (fun x hx => by
    obtain ⟨b, _, rfl⟩ := List.mem_map.mp hx
    exact trivial) fun h' tk k => ?_
  refine ⟨.bl (bs.any id), H, I.kept k, ?_, q⟩
  rw [List.any_map]
  rfl
theorem cbd_all {K : PySem.W.Frag} {bs : List Bool} {Q : D → Prop} (k : Q (.bool (bs.all id))) : CbD (rAllB K) [.list (bs.map .bool)] Q := fun F H vs e r Z z => by
  obtain ⟨v, rfl, rv⟩ := r.one
  obtain ⟨a, xs, rfl, h1, h2⟩ := rv.lst_inv
  exact ⟨F, a, xs, bs, rfl, e, h1, h2, z _ _ F H k (Gr.refl e) (.bl _)⟩
theorem cbd_any {K : PySem.W.Frag} {bs : List Bool} {Q : D → Prop} (k : Q (.bool (bs.any id))) : CbD (rAnyB K) [.list (bs.map .bool)] Q := fun F H vs e r Z z => by
  obtain ⟨v, rfl, rv⟩ := r.one
  obtain ⟨a, xs, rfl, h1, h2⟩ := rv.lst_inv
  exact ⟨F, a, xs, bs, rfl, e, h1, h2, z _ _ F H k (Gr.refl e) (.bl _)⟩
end
/-- two rising lists with the same members are one -/
theorem ris_eq : ∀ {xs ys : List Int}, xs.Pairwise (· < ·) → ys.Pairwise (· < ·) → (∀ k, k ∈ xs ↔ k ∈ ys) → xs = ys
  | [], [], _, _, _ => rfl
  | [], y :: ys, _, _, h => absurd ((h y).mpr (by simp)) (by simp)
  | x :: xs, [], _, _, h => absurd ((h x).mp (by simp)) (by simp)
  | x :: xs, y :: ys, hx, hy, h => by
    rw [List.pairwise_cons] at hx hy
    have e : x = y := by
      rcases List.mem_cons.mp ((h x).mp (by simp)) with q | q
      · exact q
      · rcases List.mem_cons.mp ((h y).mpr (by simp)) with q2 | q2
        · exact q2.symm
        · have := hx.1 y q2
          have := hy.1 x q
          omega
    subst e
    refine congrArg (x :: ·) (ris_eq hx.2 hy.2 fun k => ?_)
    constructor
    · intro hk
      rcases List.mem_cons.mp ((h k).mp (List.mem_cons_of_mem _ hk)) with q | q
      · have := hx.1 k hk; omega
      · exact q
    · intro hk
      rcases List.mem_cons.mp ((h k).mpr (List.mem_cons_of_mem _ hk)) with q | q
      · have := hy.1 k hk; omega
      · exact q
end Pu
/-! PuV: list(range(..)); (a, b) = a list; [list(x) for x in tuples] as a state. -/
namespace Pu
open PySem L2
def rowT (row : List (Option Int)) : D := .tuple (row.map optD)
section
variable {ρ : Pu.Env} {P : Po} {te ta tb tc : TE} {t : TS} {K : PySem.W.Frag}
/-- list(range(n)), list(range(a, b)) -/
theorem rgV_is (i j : Int) : rgV i j = (rngI i (j - i).toNat).map V.int := by
  unfold rgV rngI
  rw [List.map_map]
  rfl
theorem eo_listRg {te : St → Hp → (Int → Int → Hp → Prop) → Prop} {Q : List D → Pu.Env → Prop} (h : ∀ B ad σ F H, WA B ad ρ σ F H → ∀ Z : Int → Int → Hp → Prop, (∀ i j ρ' F' H', ((-1000000 ≤ i ∧ i ≤ 1000000 ∧ -1000000 ≤ j ∧ j ≤ 1000000) ∧ Q ((rngI i (j - i).toNat).map .int) ρ') → Post B ad σ ρ F H ρ' F' H' → Z i j H') → te σ H Z) : EO (tLstRg te) ρ Q := fun B ad σ F H w Z z =>
  h B ad σ F H w _ fun i j ρ' F' H' q p => by
    obtain ⟨⟨b1, b2, b3, b4⟩, q⟩ := q
    refine ⟨⟨by omega, by omega, by omega, by omega, by omega⟩, fun l hl => ?_⟩
    have hH : H l = none := by
      cases e : H l with
      | none => rfl
      | some o => exact absurd hl (p.gr.al l (by rw [e]; intro z; cases z))
    rw [rgV_is]
    exact z _ ρ' l _ F' _ q (p.trans (Post.of p.wa (Gr.heap p.wa.gr.fh (same_upd hl)))) (p.wa.newp hl).1 hH upd_same (RpA.ints _)
theorem eo_listRg1 {Q : List D → Pu.Env → Prop} (h : EX ta ρ fun d ρ1 => ∃ n, d = .int n ∧ (-1000000 ≤ n ∧ n ≤ 1000000) ∧ Q ((rngI 0 n.toNat).map .int) ρ1) : EO (tLstRg (tRg1 ta)) ρ Q := eo_listRg fun B ad σ F H w Z z =>
  h B ad σ F H w _ fun d ρ1 v F1 H1 q p rv => by
    obtain ⟨n, rfl, ⟨h1, h2⟩, q⟩ := q
    exact ⟨n, rv.int_inv, z 0 n ρ1 F1 H1 ⟨⟨by omega, by omega, h1, h2⟩, by rw [Int.sub_zero]; exact q⟩ p⟩
theorem eo_listRg2 {Q : List D → Pu.Env → Prop} (h : EX ta ρ fun d ρ1 => EX tb ρ1 fun e ρ2 => ∃ i j, d = .int i ∧ e = .int j ∧ (-1000000 ≤ i ∧ i ≤ 1000000 ∧ -1000000 ≤ j ∧ j ≤ 1000000) ∧ Q ((rngI i (j - i).toNat).map .int) ρ2) : EO (tLstRg (tRg2 ta tb)) ρ Q := eo_listRg fun B ad σ F H w Z z =>
  h B ad σ F H w _ fun d ρ1 v F1 H1 q1 p1 rv => q1 B ad σ F1 H1 p1.wa _ fun e ρ2 u F2 H2 q2 p2 ru => by
    obtain ⟨i, j, rfl, rfl, hb, q⟩ := q2
    exact ⟨i, j, rv.int_inv, ru.int_inv, z i j ρ2 F2 H2 ⟨hb, q⟩ (p1.trans p2)⟩
/-- (a, b) = a list -/
theorem sg_unl {J : List Nat} {n : Nat} {gs : TGs} {ds : List D} {Qn : Pu.Env → Prop} (hn : ds.length = n) (h : SGs J gs ds ρ Qn) : SG J (gUnl K n gs) (.list ds) ρ Qn := fun B ad σ F H v w hJ r Z z => by
  obtain ⟨a, xs, rfl, h1, h2⟩ := r.lst_inv
  exact ⟨a, xs, rfl, sqL_rd h1 w.gr.fh, h2.len.trans hn, h B ad σ F H xs w hJ h2 Z z⟩
/-- the same over tuples -/
theorem en_gridT {r : Nat} {Q : Stt → Pu.Env → Prop} (h : EX te ρ fun d ρ1 => ∃ rows, d = .list (rows.map rowT) ∧ rows.length < 1000000 ∧ r < ρ1.length ∧ Q (.grd rows) ρ1) :
    EN (tLc (iList K te) (gName r) tYes (tCB (rList K) (tCons (tVar r) tNil)) [r]) ρ Q := fun B ad σ F H w Z z => by
  have hi : EI (iList K te) ρ fun ds ρ1 => ∃ rows : List (List (Option Int)), ds = rows.map rowT ∧ rows.length < 1000000 ∧ r < ρ1.length ∧ Q (.grd rows) ρ1 := ei_list (h.imp fun d ρ1 e => by
    obtain ⟨rows, e, k⟩ := e
    exact ⟨_, e, rows, rfl, k⟩)
  refine hi B ad σ F H w _ fun ds ρ1 J F1 H1 q1 p1 it => ?_
  obtain ⟨rows, rfl, hz, hr, q⟩ := q1
  intro Dl hD
  have hrs : r < σ.length := by rw [p1.wa.len]; exact hr
  have nF1 : F1 Dl = none := (p1.wa.newp hD).1
  let Inv := fun (k : Nat) (H' : Hp) => ∃ qs F', Gr Non F1 H1 F' H' ∧ (Dl :: qs).Nodup ∧ (∀ a ∈ Dl :: qs, F' a = none ∧ H1 a = none) ∧ H' Dl = some (.lst (qs.map V.ref)) ∧ GrA H' qs (rows.take k) ∧ qs.length = k
  refine ⟨fun i m H' => m = (rows.map rowT).length - i ∧ i ≤ (rows.map rowT).length ∧ Inv i H', ⟨_, rfl, Nat.zero_le _, [], F1, Gr.heap p1.wa.gr.fh (same_upd hD), by simp, fun a ha => ?_, upd_same, trivial, rfl⟩, ?_⟩
  · have e : a = Dl := by simpa using ha
    rw [e]
    exact ⟨nF1, hD⟩
  rintro i m H' ⟨rfl, hi, qs, F', g, nd, fn, hl, hg, ql⟩
  by_cases hlt : i < (rows.map rowT).length
  · refine .inr ⟨it.go i H' (g.ff.trans g.fh) hlt, fun H2 => Inv (i + 1) H2, fun H2 k => ⟨(rows.map rowT).length - (i + 1), by omega, rfl, hlt, k⟩, fun x H2 y => ?_⟩
    obtain ⟨d, F2, e, gr, rx⟩ := it.yld i H' x H2 F' g.ff g.fh y hlt
    rw [List.getElem?_map] at e
    obtain ⟨row, ex, rfl⟩ : ∃ row, rows[i]? = some row ∧ rowT row = d := by
      cases hx : rows[i]? with
      | none => rw [hx] at e; cases e
      | some a => rw [hx] at e; exact ⟨a, rfl, Option.some.inj e⟩
    obtain ⟨p, xs, rfl, h1, h2⟩ := rx.tup_inv
    have hxs := ovs_inv h2
    subst hxs
    have g2 : Gr Non F1 H1 F2 H2 := g.trans gr (fun _ _ z => z) fun _ _ z => z
    have alive : ∀ a ∈ Dl :: qs, H' a ≠ none := fun a ha => by
      rcases List.mem_cons.mp ha with rfl | ha
      · rw [hl]; intro z; cases z
      · exact hg.mem a ha
    have hl2 : H2 Dl = some (.lst (qs.map V.ref)) := gr.kp _ _ hl id
    have hg2 : GrA H2 qs (rows.take i) := hg.keep fun a _ o e => gr.kp a o e id
    refine ⟨?_, ?_⟩
    · rw [wipe_set (by simp), wipe_twice]
    show tCB (rList K) (tCons (tVar r) tNil) _ H2 _
    refine ⟨_, List.getElem?_set_self (by rw [wipe_length]; exact hrs), p, row.map ov, rfl, .inr (sqT_rd h1 gr.fh), fun l hl0 => ?_⟩
    have ne : l ≠ Dl := fun z => by rw [z, hl2] at hl0; cases hl0
    have lout : ∀ a ∈ Dl :: qs, a ≠ l := fun a ha z => gr.al a (alive a ha) (by rw [z]; exact hl0)
    have F2l : F2 l = none := by
      cases q : F2 l with
      | none => rfl
      | some o => rw [g2.fh l o q] at hl0; cases hl0
    have H1l : H1 l = none := by
      cases q : H1 l with
      | none => rfl
      | some o => exact absurd hl0 (g2.al l (by rw [q]; intro z; cases z))
    have F2D : ∀ a ∈ Dl :: qs, F2 a = none := fun a ha => gr.fr a (alive a ha) (fn a ha).1
    refine ⟨qs.map V.ref, by rw [upd_ne (Ne.symm ne)]; exact hl2, ?_, ?_⟩
    · rw [List.length_map, ql]
      have : i < rows.length := by rw [List.length_map] at hlt; exact hlt
      exact Nat.lt_trans (Nat.lt_trans this hz) (by decide)
    show Inv (i + 1) _
    have nf : ∀ a o, F2 a = some o → a ≠ l ∧ a ≠ Dl := fun a o e => ⟨(fun z => by rw [z, F2l] at e; cases e), (fun z => by rw [z, F2D Dl (by simp)] at e; cases e)⟩
    have n1 : ∀ a, H1 a ≠ none → a ≠ l ∧ a ≠ Dl := fun a e => ⟨fun z => e (by rw [z]; exact H1l), fun z => e (by rw [z]; exact hD)⟩
    refine ⟨qs ++ [l], F2, ⟨g2.ff, fun a o e => ?_, fun a o e m => ?_, fun a e => ?_, g2.fr⟩, ?_, ?_, ?_, ?_, by simp [ql]⟩
    · rw [upd_ne (nf a o e).2, upd_ne (nf a o e).1]
      exact g2.fh a o e
    · have na := n1 a (by rw [e]; intro z; cases z)
      rw [upd_ne na.2, upd_ne na.1]
      exact g2.kp a o e m
    · have na := n1 a e
      rw [upd_ne na.2, upd_ne na.1]
      exact g2.al a e
    · rw [List.nodup_cons] at nd ⊢
      refine ⟨fun m => ?_, ?_⟩
      · rcases List.mem_append.mp m with m | m
        · exact nd.1 m
        · exact ne (List.mem_singleton.mp m).symm
      · refine List.nodup_append.mpr ⟨nd.2, by simp, fun a ha b hb e => ?_⟩
        rw [List.mem_singleton.mp hb] at e
        exact lout a (by simp [ha]) e
    · intro a ha
      rcases List.mem_cons.mp ha with rfl | ha
      · exact ⟨F2D _ (by simp), hD⟩
      · rcases List.mem_append.mp ha with ha | ha
        · exact ⟨F2D a (by simp [ha]), (fn a (by simp [ha])).2⟩
        · rw [List.mem_singleton.mp ha]; exact ⟨F2l, H1l⟩
    · rw [upd_same, List.map_append]; rfl
    · rw [take_snoc' ex]
      refine GrA.out (fun m => ?_) (GrA.app upd_same (GrA.out (fun m => lout l (by simp [m]) rfl) hg2))
      rcases List.mem_append.mp m with m | m
      · exact (List.nodup_cons.mp nd).1 m
      · exact ne (List.mem_singleton.mp m).symm
  · have e : i = rows.length := by rw [List.length_map] at hlt hi; omega
    subst e
    rw [List.take_length] at hg
    exact .inl ⟨it.stop _ H' (g.ff.trans g.fh) (by rw [List.length_map]; exact Nat.le_refl _), z (.grd rows) Dl (Dl :: qs) ρ1 F1 H1 F' H' q p1 g ⟨qs, rfl, nd, hl, hg⟩ fn⟩

/-! sorted lists of pairs -/
def leP (a b : Int × Int) : Bool := !ltP b a
theorem sortD_P (xs : List (Int × Int)) : sortD (xs.map encP) = (xs.mergeSort leP).map encP := by
  have e := PySem.W.sort_maps (r := leP) (s := PySem.W.dataLe false id) encP (l := xs) (fun a _ b _ => by
    show (!ltP b a) = (!PySem.W.dataLt (encP b) (encP a))
    rw [dataLt_P])
  exact e.symm
theorem alike_PP (xs : List (Int × Int)) : PySem.W.AllAlike (xs.map encP) := fun x hx y hy => by
  obtain ⟨a, _, rfl⟩ := List.mem_map.mp hx
  obtain ⟨b, _, rfl⟩ := List.mem_map.mp hy
  rfl
theorem sortable_P (xs : List (Int × Int)) : PySem.W.Sortable (xs.map encP) := .inl fun x hx => by
  obtain ⟨a, _, rfl⟩ := List.mem_map.mp hx
  exact ⟨_, _, rfl⟩
theorem deep_P (xs : List (Int × Int)) : PyData.depthAll (xs.map encP) ≤ 60 := depthAll_le (dpn_map fun x _ => dpn_tup (dpn_cons dpn_int (dpn_cons dpn_int dpn_nil)))
theorem cbd_sortP {xs : List (Int × Int)} {Q : D → Prop} (k : Q (.list ((xs.mergeSort leP).map encP))) : CbD (rSrD K) [.list (xs.map encP)] Q := cbd_sortD (alike_PP xs) (sortable_P xs) (deep_P xs) (by rw [sortD_P]; exact k)
theorem leP_trans (a b c : Int × Int) (h1 : leP a b = true) (h2 : leP b c = true) : leP a c = true := by
  simp only [leP, ltP, Bool.not_eq_true', decide_eq_false_iff_not] at *
  omega
theorem leP_total (a b : Int × Int) : (leP a b || leP b a) = true := by
  simp only [leP, ltP, Bool.or_eq_true, Bool.not_eq_true', decide_eq_false_iff_not]
  omega
theorem rng_nodup (n : Nat) : (rngI 0 n).Nodup := by
  unfold rngI
  exact List.pairwise_map.mpr (List.nodup_range.imp fun h e => h (by omega))
/-! one item less, one more -/
theorem getD_setN {α : Type} {l : List α} {i j : Nat} {x a : α} (hi : i < l.length) : (l.set i x).getD j a = if j = i then x else l.getD j a := by
  rw [List.getD_eq_getElem?_getD, List.getD_eq_getElem?_getD]
  by_cases e : j = i
  · rw [if_pos e, e, List.getElem?_set_self hi]; rfl
  · rw [if_neg e, List.getElem?_set_ne (Ne.symm e)]
theorem sum_setI : ∀ {P : List Int} {k : Nat} {x : Int}, k < P.length → (P.set k x).sum = P.sum - P.getD k 0 + x
  | p :: P, 0, x, _ => by simp; omega
  | p :: P, k + 1, x, h => by
    have := sum_setI (P := P) (k := k) (x := x) (by simpa using h)
    simp only [List.set_cons_succ, List.sum_cons, List.getD_cons_succ]
    omega
/-! rows of two as a state -/
def tab2 (n : Nat) (f : Nat → Int × Int) : List (List (Option Int)) := (List.range n).map fun k => [some (f k).1, some (f k).2]
theorem tab2_len (n : Nat) (f : Nat → Int × Int) : (tab2 n f).length = n := by unfold tab2; simp
theorem tab2_at {n : Nat} {f : Nat → Int × Int} {k : Nat} (h : k < n) : (tab2 n f)[k]? = some [some (f k).1, some (f k).2] := by
  unfold tab2
  rw [List.getElem?_map, List.getElem?_range h]; rfl
theorem tab2_set {n : Nat} {f g : Nat → Int × Int} {k : Nat} {r : List (Option Int)} (h : k < n) (hr : r = [some (g k).1, some (g k).2]) (ho : ∀ j, j < n → j ≠ k → f j = g j) : (tab2 n f).set k r = tab2 n g := by
  apply List.ext_getElem?
  intro j
  by_cases hj : j < n
  · by_cases e : j = k
    · subst e
      rw [List.getElem?_set_self (by rw [tab2_len]; exact hj), tab2_at hj, hr]
    · rw [List.getElem?_set_ne (Ne.symm e), tab2_at hj, tab2_at hj, ho j hj e]
  · rw [List.getElem?_eq_none (by rw [List.length_set, tab2_len]; omega), List.getElem?_eq_none (by rw [tab2_len]; omega)]
theorem tab2_congr {n : Nat} {f g : Nat → Int × Int} (h : ∀ j, j < n → f j = g j) : tab2 n f = tab2 n g := by
  unfold tab2
  refine List.map_congr_left fun k hk => ?_
  rw [h k (List.mem_range.mp hk)]
theorem ixN_nat {n k : Nat} (h : k < n) : ixN n (k : Int) = some k := by
  unfold ixN
  rw [if_pos (by omega), if_pos (by omega), Int.toNat_natCast]

/-! an own list lent to what makes a new list of scalars or tuples of these -/
mutual
def flatD : D → Bool
  | .none => true
  | .bool _ => true
  | .int _ => true
  | .str _ => true
  | .tuple ds => flatAll ds
  | _ => false
def flatAll : List D → Bool
  | [] => true
  | d :: ds => flatD d && flatAll ds
end
def cutF (F : Hp) (p : Addr) : Hp := fun q => if q = p then none else F q
mutual
theorem flat_rp {F : Hp} {p : Addr} {ws : List V} (hp : F p = some (.lst ws)) : ∀ (d : D) {v : V}, flatD d = true → Rp F v d → Rp (cutF F p) v d
  | .none, _, _, h => by cases h; exact .non
  | .bool b, _, _, h => by cases h; exact .bl b
  | .int i, _, _, h => by cases h; exact .int i
  | .str x, _, _, h => by cases h; exact .str x
  | .list ds, _, f, _ => by simp [flatD] at f
  | .dict _, _, f, _ => by simp [flatD] at f
  | .tuple ds, _, f, h => by
    cases h with
    | @tup a xs _ h1 h2 =>
      have ne : a ≠ p := fun e => by rw [e, hp] at h1; cases h1
      exact .tup (show cutF F p a = _ by unfold cutF; rw [if_neg ne]; exact h1) (flat_rpa hp ds (by simpa [flatD] using f) h2)
theorem flat_rpa {F : Hp} {p : Addr} {ws : List V} (hp : F p = some (.lst ws)) : ∀ (ds : List D) {vs : List V}, flatAll ds = true → RpA F vs ds → RpA (cutF F p) vs ds
  | [], _, _, h => by cases h; exact .nil
  | d :: ds, _, f, h => by
    cases h with
    | cons h1 h2 =>
      simp only [flatAll, Bool.and_eq_true] at f
      exact .cons (flat_rp hp d f.1 h1) (flat_rpa hp ds f.2 h2)
end
theorem WA.back2 {B : Base} {ad : Nat → List Addr} {σ : St} {F H F' H' : Hp} (w : WA B ad ρ σ F H) {i : Nat} {ds : List D} (h : ρ[i]? = some (.own ds)) {p : Addr} {vs : List V} (hp : ad i = [p]) (hF : F p = none) (hHp : H p = some (.lst vs)) (h0 : B.H0 p = none) {ad1 : Nat → List Addr} {ρ1 : Pu.Env} (e1 : ρ1 = ρ.set i (.val (.list ds))) (ea : ad1 = fun k => if k = i then [] else ad k)
    (P : Post B ad1 σ ρ1 (upd F p (.lst vs)) H ρ1 F' H') (no : NoOb ρ) : Post B ad σ ρ F H ρ (cutF F' p) H' := by
  subst e1 ea
  have ms : ∀ a, MS (fun k => if k = i then [] else ad k) (ρ.set i (.val (.list ds))) a → MS ad ρ a := fun a ⟨j, S, e, m⟩ => by
    rcases get_set e with ⟨_, q⟩ | ⟨hj, e⟩
    · cases q
    · simp only [if_neg hj] at m
      exact ⟨j, S, e, m⟩
  have ff : Same F (cutF F' p) := fun q o e => by
    have ne : q ≠ p := fun z => by rw [z, hF] at e; cases e
    unfold cutF
    rw [if_neg ne]
    exact P.gr.ff q o (by rw [upd_ne ne]; exact e)
  have fh : Same (cutF F' p) H' := fun q o e => by
    unfold cutF at e
    by_cases ne : q = p
    · rw [if_pos ne] at e; cases e
    · rw [if_neg ne] at e; exact P.gr.fh q o e
  have cutn : ∀ q, F' q = none → cutF F' p q = none := fun q e => by
    unfold cutF
    split
    · rfl
    · exact e
  have frq : ∀ a, H a ≠ none → F a = none → cutF F' p a = none := fun a e z => by
    by_cases ne : a = p
    · unfold cutF; rw [if_pos ne]
    · exact cutn a (P.gr.fr a e (by rw [upd_ne ne]; exact z))
  have nms : ∀ j q, q ∈ ad j → (∀ S, ρ[j]? ≠ some (Slot.st S)) → ¬ MS ad ρ q := fun j q m hj ⟨j', S, e, m'⟩ => by
    have := w.dj j j' q m m'
    subst this
    exact hj S e
  refine ⟨⟨⟨w.gr.ff.trans ff, fh, P.wa.gr.kp, P.wa.gr.al, fun a e z => frq a (w.gr.al a e) (w.gr.fr a e z)⟩, w.len, fun j s e => ?_, fun j q m => ⟨frq q (w.lv m) (w.fz j q m).1, (w.fz j q m).2⟩, w.dj, w.out, w.pin⟩, ⟨ff, fh, fun a o e m => P.gr.kp a o e fun z => m (ms a z), P.gr.al, frq⟩, fun j S e => ⟨S, e⟩⟩
  have k := w.sl j s e
  cases s with
  | emp => exact k
  | val d =>
    obtain ⟨k, v, e, r⟩ := k
    exact ⟨k, v, e, r.up ff⟩
  | own es =>
    obtain ⟨q, ws, k, k0, k1, k2, r⟩ := k
    exact ⟨q, ws, k, k0, k1, P.gr.kp q _ k2 fun z => nms j q (by rw [k]; simp) (fun S z => by rw [e] at z; cases z) (ms q z), r.up ff⟩
  | st S =>
    have hj : j ≠ i := fun z => by subst z; rw [h] at e; cases e
    have k' := P.wa.sl j (.st S) (by rw [List.getElem?_set_ne (Ne.symm hj)]; exact e)
    simp only [if_neg hj] at k'
    obtain ⟨s, k1, k2⟩ := k'
    exact ⟨s, k1, k2.down (no _ (List.mem_of_getElem? e))⟩
theorem eo_lend (i : Nat) {ds : List D} {Q : List D → Pu.Env → Prop} (h : ρ[i]? = some (.own ds)) (k : EO te (ρ.set i (.val (.list ds))) fun es ρ' => ρ' = ρ.set i (.val (.list ds)) ∧ flatAll es = true ∧ Q es ρ) (no : NoOb ρ := by first | (refine noob_of ?_; simp only [noObP, and_true]; done) | (refine noob_of ?_; simp only [noObP, and_true]; rfl) | (refine noob_of ?_; simp only [noObP, and_true]; exact Ok2.nob (by assumption)) | (refine noob_of ?_; simp only [noObP, and_true]; exact Ok.nob (by assumption))) : EO te ρ Q := fun B ad σ F H w Z z => by
  obtain ⟨p, vs, k1, k2, k3, k4, k5, k6, w2⟩ := w.lend h
  refine k B _ σ _ H w2 Z fun es ρ' q us F' H' hq P hF hH hl r => ?_
  obtain ⟨rfl, fl, hq⟩ := hq
  have hp : F' p = some (.lst vs) := P.gr.ff p _ upd_same
  exact z es ρ q us (cutF F' p) H' hq (w.back2 h k1 k2 k3 k5 rfl rfl P no) (by
    unfold cutF
    split
    · rfl
    · exact hF) hH hl (flat_rpa hp es fl r)
/-! items of rows of two -/
theorem ex_tabA {i n : Nat} {f : Nat → Int × Int} {Q : D → Pu.Env → Prop} (m : Nat) (h : ρ[i]? = some (.st (.grd (tab2 n f)))) (hm : m < n) (k : EX tb ρ fun d ρ1 => d = .int (m : Int) ∧ ρ1 = ρ) (q : Q (.int (f m).1) ρ) : EX (tOp (rIxA K) (tOp (rIxA K) (tVar i) tb) (tC (.int 0))) ρ Q :=
  ex_grd h (k.imp fun d ρ1 ⟨e1, e2⟩ => by
    subst e1 e2
    exact ⟨_, m, _, _, rfl, h, by rw [tab2_len]; exact ixN_nat hm, tab2_at hm, ex_int ⟨_, _, _, _, rfl, h, tab2_at hm, rfl, q⟩⟩)
theorem ex_tabB {i n : Nat} {f : Nat → Int × Int} {Q : D → Pu.Env → Prop} (m : Nat) (h : ρ[i]? = some (.st (.grd (tab2 n f)))) (hm : m < n) (k : EX tb ρ fun d ρ1 => d = .int (m : Int) ∧ ρ1 = ρ) (q : Q (.int (f m).2) ρ) : EX (tOp (rIxA K) (tOp (rIxA K) (tVar i) tb) (tC (.int 1))) ρ Q :=
  ex_grd h (k.imp fun d ρ1 ⟨e1, e2⟩ => by
    subst e1 e2
    exact ⟨_, m, _, _, rfl, h, by rw [tab2_len]; exact ixN_nat hm, tab2_at hm, ex_int ⟨_, _, _, _, rfl, h, tab2_at hm, rfl, q⟩⟩)
theorem sx_tabA {i n : Nat} {f : Nat → Int × Int} (m : Nat) (x : Int) (h : ρ[i]? = some (.st (.grd (tab2 n f)))) (hm : m < n) (e : EX te ρ fun d ρ1 => d = .int x ∧ ρ1 = ρ) (k : EX tb ρ fun d ρ1 => d = .int (m : Int) ∧ ρ1 = ρ) (q : NX P (ρ.set i (.st (.grd (tab2 n fun j => if j = m then (x, (f j).2) else f j))))) :
    SX (tAsg te (gSub (tOp (rIxA K) (tVar i) tb) (tC (.int 0)) rSetL)) ρ P := sx_setG (e.imp fun d ρ1 ⟨e1, e2⟩ => by
  subst e1 e2
  refine ⟨some x, _, rfl, h, k.imp fun d ρ1 ⟨e1, e2⟩ => ?_⟩
  subst e1 e2
  refine ⟨_, m, _, _, rfl, h, by rw [tab2_len]; exact ixN_nat hm, tab2_at hm, ex_int ⟨_, 0, _, _, rfl, h, tab2_at hm, rfl, ?_⟩⟩
  rw [tab2_set (g := fun j => if j = m then (x, (f j).2) else f j) hm (by simp) fun j _ hj => by rw [if_neg hj]]
  exact q)
theorem sx_tabB {i n : Nat} {f : Nat → Int × Int} (m : Nat) (x : Int) (h : ρ[i]? = some (.st (.grd (tab2 n f)))) (hm : m < n) (e : EX te ρ fun d ρ1 => d = .int x ∧ ρ1 = ρ) (k : EX tb ρ fun d ρ1 => d = .int (m : Int) ∧ ρ1 = ρ) (q : NX P (ρ.set i (.st (.grd (tab2 n fun j => if j = m then ((f j).1, x) else f j))))) :
    SX (tAsg te (gSub (tOp (rIxA K) (tVar i) tb) (tC (.int 1)) rSetL)) ρ P := sx_setG (e.imp fun d ρ1 ⟨e1, e2⟩ => by
  subst e1 e2
  refine ⟨some x, _, rfl, h, k.imp fun d ρ1 ⟨e1, e2⟩ => ?_⟩
  subst e1 e2
  refine ⟨_, m, _, _, rfl, h, by rw [tab2_len]; exact ixN_nat hm, tab2_at hm, ex_int ⟨_, 1, _, _, rfl, h, tab2_at hm, rfl, ?_⟩⟩
  rw [tab2_set (g := fun j => if j = m then ((f j).1, x) else f j) hm (by simp) fun j _ hj => by rw [if_neg hj]]
  exact q)
/-! small words -/
theorem last_M {α : Type} {f : α → D} {xs : List α} (a : α) (h : 0 < xs.length) : atI (xs.map f) (-1) = some (f (xs.getD (xs.length - 1) a)) := by
  have e : ixN (xs.map f).length (-1) = some (xs.length - 1) := by
    rw [List.length_map]
    unfold ixN
    rw [if_neg (by omega), if_pos (by omega)]
    congr 1
    omega
  unfold atI
  rw [e]
  show (xs.map f)[xs.length - 1]? = _
  rw [List.getElem?_map, get_D (a := a) (by omega)]
  rfl
theorem opd_int {gs : List Int} {k : Nat} {Q : D → Prop} (h : k < gs.length) (q : Q (.int (gs.getD k 0))) : OpD (rIxA K) (.list (gs.map .int)) (.int (k : Int)) Q := opd_ixM (f := PyData.int) 0 (by omega) (by omega) (by rw [Int.toNat_natCast]; exact q)
theorem cut_n {α : Type} (f : α → D) (xs : List α) (n : Nat) : cutD (xs.map f) none (some (n : Int)) = (xs.take n).map f := by
  unfold cutD
  simp only [HT.sIx]
  rw [if_neg (by omega), List.length_map, List.map_take]
  show List.take (min ((n : Int)).toNat xs.length - 0) (List.map f xs) = _
  rw [Nat.sub_zero, Int.toNat_natCast]
  by_cases h : n ≤ xs.length
  · rw [Nat.min_eq_left h]
  · rw [Nat.min_eq_right (by omega), List.take_of_length_le (by rw [List.length_map]; exact Nat.le_refl _), List.take_of_length_le (by rw [List.length_map]; omega)]
theorem cut_drop {α : Type} (f : α → D) (xs : List α) (n : Nat) : cutD (xs.map f) (some (n : Int)) none = (xs.drop n).map f := by
  unfold cutD
  rw [List.length_map, List.map_drop]
  simp only [HT.sIx]
  rw [if_neg (by omega), Int.toNat_natCast]
  rcases Nat.lt_or_ge xs.length n with q | q
  · rw [Nat.min_eq_right (by omega), Nat.sub_self, List.take_zero, List.drop_of_length_le (by rw [List.length_map]; omega)]
  · rw [Nat.min_eq_left q]
    exact List.take_of_length_le (by rw [List.length_drop, List.length_map]; omega)
theorem zip_enc : ∀ (ls hs : List Int), List.zipWith (fun d f => PyData.tuple [d, f]) (ls.map PyData.int) (hs.map PyData.int) = (ls.zip hs).map encP
  | [], _ => by simp
  | _ :: _, [] => by simp
  | a :: ls, b :: hs => by
    simp only [List.map_cons, List.zipWith_cons_cons, List.zip_cons_cons, zip_enc ls hs]
    rfl
theorem opd_neB {a b : Bool} {Q : D → Prop} (k : Q (.bool (!decide (a = b)))) : OpD (rNeP K) (.bool a) (.bool b) Q := opd_neP (min_l (by simp [PyData.depth])) (by
  have e : PyData.eqv (.bool a) (.bool b) = decide (a = b) := by cases a <;> cases b <;> rfl
  rw [e]; exact k)
theorem dec_lt (a b : Nat) : decide ((a : Int) < (b : Int)) = decide (a < b) := by
  by_cases h : a < b
  · rw [decide_eq_true h, decide_eq_true (by omega)]
  · rw [decide_eq_false h, decide_eq_false (by omega)]
theorem dec_0 (a : Nat) : decide ((a : Int) = 0) = decide (a = 0) := by
  by_cases h : a = 0
  · rw [decide_eq_true h, decide_eq_true (by omega)]
  · rw [decide_eq_false h, decide_eq_false (by omega)]
theorem dec_p (a : Nat) : decide (0 < (a : Int)) = decide (0 < a) := by
  by_cases h : 0 < a
  · rw [decide_eq_true h, decide_eq_true (by omega)]
  · rw [decide_eq_false h, decide_eq_false (by omega)]
theorem SX.into {t : TS} {X : Pu.Env → Prop} (h : SX t ρ { nx := X, rt := fun _ _ => False }) (k : ∀ ρ', X ρ' → P.nx ρ') : SX t ρ P := fun B σ F H w Dn n r b c =>
  h B σ F H w Dn (fun ρ' σ' F' H' q w' => n ρ' σ' F' H' (k ρ' q) w') (fun _ _ _ _ _ _ q _ _ => q.elim) (fun _ _ _ _ q _ => q.elim) (fun _ _ _ _ q _ => q.elim)
/-- a comprehension over data, no filter -/
theorem filt_all {α β : Type} (xs : List α) (g : α → β) : (xs.filter fun _ => true).map g = xs.map g := by rw [List.filter_eq_self.mpr (fun _ _ => rfl)]
end
end Pu
/-! PuW: data >= data; triples of whole numbers, sorted -/
namespace Pu
open PySem L2
section
variable {X : Cx} {K : PySem.W.Frag} {d1 d2 : D} {Q : D → Prop}
def rGeD (K : PySem.W.Frag) : R2 := fun x y H Q => ∃ d e, Dp K H x d ∧ Dp K H y e ∧ PySem.W.alike d e = true ∧ d ≠ .none ∧ min d.depth e.depth ≤ 60 ∧ Q (.bl (!PySem.W.dataLt d e)) H
theorem op_geD (hu : X.A.units + 64 < cLine) : OpR X (compareOp .GtE) (rGeD X.K) := by
  rintro pins s σ H x y v u Q I rx ry ⟨d, e, hd, he, pd, pe, hz, q⟩
  obtain ⟨as, r1⟩ := Dp.reads I d x v hd rx
  obtain ⟨bs, r2⟩ := Dp.reads I e y u he ry
  exact PySem.W.ge_data r1 r2 pd pe (by omega) ⟨.bl _, H, I, rfl, q⟩
theorem opd_geD (al : PySem.W.alike d1 d2 = true) (hn : d1 ≠ .none) (h : min d1.depth d2.depth ≤ 60) (k : Q (.bool (!PySem.W.dataLt d1 d2))) : OpD (rGeD K) d1 d2 Q := fun F H x y e rx ry Z z => ⟨d1, d2, rx.dp e, ry.dp e, al, hn, h, z _ _ F H k (Gr.refl e) (.bl _)⟩
theorem opd_geP {p q : Int × Int} (k : Q (.bool (!ltP p q))) : OpD (rGeD K) (encP p) (encP q) Q := opd_geD rfl (by unfold encP; simp) (min_l (by simp [encP, PyData.depth, PyData.depthAll])) (by rw [dataLt_P]; exact k)
abbrev Rw := Int × Int × Int
def encR (r : Rw) : D := .tuple [.int r.1, .int r.2.1, .int r.2.2]
def ltR (a b : Rw) : Bool := decide (a.1 < b.1 ∨ a.1 = b.1 ∧ (a.2.1 < b.2.1 ∨ a.2.1 = b.2.1 ∧ a.2.2 < b.2.2))
theorem dataLt_R (a b : Rw) : PySem.W.dataLt (encR a) (encR b) = ltR a b := by
  unfold encR ltR
  rw [PySem.W.dataLt_tuple, PySem.W.dataLt_cons rfl, PySem.W.dataLt_cons rfl, PySem.W.dataLt_cons rfl]
  have e : PyProof.Rows.lexLt PyProof.Rows.itemOrd (PySem.W.keyToksAll []) (PySem.W.keyToksAll []) = false := PyProof.Rows.lex_irrefl _
  rw [e]
  simp only [PyData.eqv, PySem.W.dataLt_int, beq_iff_eq]
  by_cases h : a.1 = b.1 <;> by_cases h2 : a.2.1 = b.2.1 <;> by_cases h3 : a.2.2 = b.2.2 <;> simp [h, h2, h3]
def leR (a b : Rw) : Bool := !ltR b a
theorem sortD_R (xs : List Rw) : sortD (xs.map encR) = (xs.mergeSort leR).map encR := by
  have e := PySem.W.sort_maps (r := leR) (s := PySem.W.dataLe false id) encR (l := xs) (fun a _ b _ => by
    show (!ltR b a) = (!PySem.W.dataLt (encR b) (encR a))
    rw [dataLt_R])
  exact e.symm
theorem alike_RR (xs : List Rw) : PySem.W.AllAlike (xs.map encR) := fun x hx y hy => by
  obtain ⟨a, _, rfl⟩ := List.mem_map.mp hx
  obtain ⟨b, _, rfl⟩ := List.mem_map.mp hy
  rfl
theorem sortable_R (xs : List Rw) : PySem.W.Sortable (xs.map encR) := .inl fun x hx => by
  obtain ⟨a, _, rfl⟩ := List.mem_map.mp hx
  exact ⟨_, _, rfl⟩
theorem deep_R (xs : List Rw) : PyData.depthAll (xs.map encR) ≤ 60 := depthAll_le (dpn_map fun x _ => dpn_tup (dpn_cons dpn_int (dpn_cons dpn_int (dpn_cons dpn_int dpn_nil))))
theorem cbd_sortR {xs : List Rw} {Q : D → Prop} (k : Q (.list ((xs.mergeSort leR).map encR))) : CbD (rSrD K) [.list (xs.map encR)] Q := cbd_sortD (alike_RR xs) (sortable_R xs) (deep_R xs) (by rw [sortD_R]; exact k)
theorem leR_trans (a b c : Rw) (h1 : leR a b = true) (h2 : leR b c = true) : leR a c = true := by
  unfold leR ltR at *
  simp only [Bool.not_eq_true', decide_eq_false_iff_not] at *
  omega
theorem leR_total (a b : Rw) : (leR a b || leR b a) = true := by
  unfold leR ltR
  simp only [Bool.or_eq_true, Bool.not_eq_true', decide_eq_false_iff_not]
  omega
/-! a if c else b, as a test; range of three -/
def tIfT (t ta tb : TT) : TT := fun σ H Q => t σ H fun c H1 => if c = true then ta σ H1 Q else tb σ H1 Q
theorem pt_ifExp {a b c : Expr} {pos : Pos} {tA tB tC : TT} (hc : PT X c tA) (ha : PT X a tB) (hb : PT X b tC) : PT X (.IfExp c a b pos) (tIfT tA tB tC) := by
  refine ⟨fun pins s σ H Q I h => ?_⟩
  refine PyProof.Rows.isTrue_IfExp (L2.thn (hc.run pins s σ H _ I h) fun d s1 ⟨H1, I1, q1⟩ => ?_)
  cases d with
  | true => exact ha.run pins s1 σ H1 Q I1 q1
  | false => exact hb.run pins s1 σ H1 Q I1 q1
theorem et_ifT {ρ : Pu.Env} {tt tu tv : TT} {Q : Bool → Pu.Env → Prop} (h : ET tt ρ fun b ρ1 => (b = true → ET tu ρ1 Q) ∧ (b = false → ET tv ρ1 Q)) : ET (tIfT tt tu tv) ρ Q := fun B ad σ F H w Z z =>
  h B ad σ F H w _ fun b ρ1 F1 H1 q1 p1 => by
    cases b with
    | true =>
      show tu σ H1 Z
      exact q1.1 rfl B ad σ F1 H1 p1.wa Z fun b ρ' F' H' q p => z b ρ' F' H' q (p1.trans p)
    | false =>
      show tv σ H1 Z
      exact q1.2 rfl B ad σ F1 H1 p1.wa Z fun b ρ' F' H' q p => z b ρ' F' H' q (p1.trans p)
def stpI (l c : Int) (n : Nat) : List Int := (List.range n).map fun k : Nat => l + (k : Int) * c
theorem stpI_len (l c : Int) (n : Nat) : (stpI l c n).length = n := by simp [stpI]
theorem stpI_get {l c : Int} {n k : Nat} (h : k < n) : (stpI l c n)[k]? = some (l + (k : Int) * c) := by simp [stpI, h]
theorem itd_stp {F : Hp} (l c : Int) (n : Nat) : ItD (Itc l c n) F ((stpI l c n).map .int) where
  go := fun i H _ h => by rw [List.length_map, stpI_len] at h; exact h
  stop := fun i H _ h => by rw [List.length_map, stpI_len] at h; exact h
  yld := fun i H x H' F1 _ e2 y h => by
    rw [List.length_map, stpI_len] at h
    obtain ⟨rfl, rfl⟩ := y
    exact ⟨.int (l + (i : Int) * c), F1, by rw [List.getElem?_map, stpI_get h]; rfl, Gr.refl e2, .int _⟩
theorem ei_rng3 {ρ : Pu.Env} {t : TA} {Q : List D → Pu.Env → Prop} (h : EA t ρ fun ds ρ1 => ∃ l n c m, ds = [.int l, .int n, .int c] ∧ RgC l n c m ∧ Q ((stpI l c m).map .int) ρ1) : EI (iRng3 t) ρ Q := fun B ad σ F H w R z =>
  h B ad σ F H w _ fun ds ρ1 vs F1 H1 q p r => by
    obtain ⟨l, n, c, m, rfl, rg, q⟩ := q
    cases r with
    | cons r1 r =>
      cases r with
      | cons r2 r =>
        cases r with
        | cons r3 r =>
          cases r
          exact ⟨l, n, c, m, by rw [r1.int_inv, r2.int_inv, r3.int_inv], rg, z _ ρ1 _ F1 H1 q p (itd_stp l c m)⟩
end
end Pu
/-! PuX: xs.remove(n), xs an own list of ints -/
namespace Pu
open PySem L2
section
variable {ρ : Pu.Env} {te : TE} {K : PySem.W.Frag} {P : Po}
theorem erase_find : ∀ (ns : List Int) (x : Int), x ∈ ns → ∃ j : Nat, ns[j]? = some x ∧ (∀ m : Nat, m < j → ns[m]? ≠ some x) ∧ ns.eraseIdx j = ns.erase x
  | n :: ns, x, h => by
    by_cases c : n = x
    · subst c
      exact ⟨0, rfl, fun m hm => absurd hm (Nat.not_lt_zero _), by simp⟩
    · obtain ⟨j, h1, h2, h3⟩ := erase_find ns x ((List.mem_cons.mp h).resolve_left fun e => c e.symm)
      refine ⟨j + 1, by simpa using h1, fun m hm => ?_, ?_⟩
      · cases m with
        | zero => simpa using c
        | succ m => simpa using h2 m (by omega)
      · rw [List.eraseIdx_cons_succ, h3, List.erase_cons_tail (by simpa using c)]
/-- xs.remove(n), xs an own list of ints -/
theorem sx_rem {i : Nat} {es : List D} (h : ρ[i]? = some (.own es)) (k : EX te ρ fun d ρ1 => ∃ (ns : List Int) (x : Int), ρ1[i]? = some (.own (ns.map .int)) ∧ d = .int x ∧ x ∈ ns ∧ NX P (ρ1.set i (.own ((ns.erase x).map .int)))) : SX (tDrop (tBM K "list" rRemI (tVar i) (tCons te tNil))) ρ P := fun B σ F H w Dn n r b c => by
  obtain ⟨ad, w⟩ := w
  obtain ⟨p0, vs0, _, _, k1, k0, _⟩ := w.sl i _ h
  refine ⟨_, k1, .inl ⟨rfl, _, .inl (.inl k0)⟩, k B ad σ F H w _ fun d ρ1 v F1 H1 q1 p1 r1 => ?_⟩
  obtain ⟨ns, x, h1, rfl, hx, ρ', l, q⟩ := q1
  obtain ⟨p, vs, _, _, k2, k3, rr⟩ := p1.wa.sl i _ h1
  have e := k1.symm.trans k2
  cases e
  have ev := rr.ints_inv
  subst ev
  have ex := r1.int_inv
  subst ex
  obtain ⟨j, j1, j2, j3⟩ := erase_find ns x hx
  refine ⟨_, ns, x, j, rfl, rfl, k3, j1, j2, ?_⟩
  rw [j3]
  exact n ρ' σ F1 _ q ((p1.wa.mut h1 k2 (RpA.ints _)).weak l)
end
end Pu
/-! PuY: a dict {k: True for k in ints}, k in it; a op b op c op d as a value; data < data -/
namespace Pu
open PySem L2 PyProof.Rows
/-! ### a op b op c op d, as a value -/
section
def tChain3 (r r' r'' : R2) (ta tb tc td : TE) : TE := fun σ H Q => ta σ H fun x H1 => tb σ H1 fun y H2 => r x y H2 fun z H3 => ∃ k, z = .bl k ∧
  (if k = true then tc σ H3 fun x3 H4 => r' y x3 H4 fun z2 H5 => ∃ k2, z2 = .bl k2 ∧ (if k2 = true then td σ H5 fun x4 H6 => r'' x3 x4 H6 Q else Q (.bl false) H5) else Q (.bl false) H3)
theorem pe_chain3 {X : Cx} {a b c d : Expr} {ta tb tc td : TE} {pos : Pos} {op op' op'' : CmpOp} {r r' r'' : R2} (ho : OpR X (compareOp op) r) (ho' : OpR X (compareOp op') r') (ho'' : OpR X (compareOp op'') r'') (ha : PE X a ta) (hb : PE X b tb) (hc : PE X c tc) (hd : PE X d td)
    (hm : lastMarks [op, op', op''] [b, c, d] = false := by with_unfolding_all rfl) : PE X (.Compare a [op, op', op''] [b, c, d] pos) (tChain3 r r' r'' ta tb tc td) := by
  refine ⟨fun pins s σ H Q I h => ?_⟩
  refine Compare_chain (thn (ha.run pins s σ H _ I h) fun v s1 ⟨x, H1, I1, r1, q1⟩ => chain_link (thn (hb.run pins s1 σ H1 _ I1 q1) fun u s2 ⟨y, H2, I2, r2, q2⟩ =>
    thn (ho pins s2 σ H2 x y v u _ I2 r1 r2 q2) fun d s3 ⟨z, H3, I3, r3, k, e, q3⟩ => ?_)) hm
  subst e
  cases r3
  refine wpAny_truthy_bool ?_
  cases k with
  | false => exact ite_ff ⟨.bl false, H3, I3, rfl, q3⟩
  | true =>
    refine ite_tt (chain_link (thn (hc.run pins s3 σ H3 _ I3 q3) fun u3 s4 ⟨x3, H4, I4, r4, q4⟩ => thn (ho' pins s4 σ H4 y x3 u u3 _ I4 r2 r4 q4) fun _ s5 ⟨z2, H5, I5, r5, k2, e2, q5⟩ => ?_))
    subst e2
    cases r5
    refine wpAny_truthy_bool ?_
    cases k2 with
    | false => exact ite_ff ⟨.bl false, H5, I5, rfl, q5⟩
    | true => exact ite_tt (chain_last (thn (hd.run pins s5 σ H5 _ I5 q5) fun u4 s6 ⟨x4, H6, I6, r6, q6⟩ => ho'' pins s6 σ H6 x3 x4 u3 u4 Q I6 r4 r6 q6))
theorem ex_ch3 {ρ : Pu.Env} {r r' r'' : R2} {ta tb tc td : TE} {Q : D → Pu.Env → Prop} (h : EX ta ρ fun d1 ρ1 => EX tb ρ1 fun d2 ρ2 => OpD r d1 d2 fun d => ∃ b, d = .bool b ∧ (b = true → EX tc ρ2 fun d3 ρ3 => OpD r' d2 d3 fun d => ∃ b2, d = .bool b2 ∧
    (b2 = true → EX td ρ3 fun d4 ρ4 => OpD r'' d3 d4 fun d => Q d ρ4) ∧ (b2 = false → Q (.bool false) ρ3)) ∧ (b = false → Q (.bool false) ρ2)) : EX (tChain3 r r' r'' ta tb tc td) ρ Q := fun B ad σ F H w Z z =>
  h B ad σ F H w _ fun d1 ρ1 x F1 H1 q1 p1 r1 => q1 B ad σ F1 H1 p1.wa _ fun d2 ρ2 y F2 H2 q2 p2 r2 => q2 F2 H2 x y p2.wa.gr.fh (r1.up p2.gr.ff) r2 _ fun d v F3 H3 kd g rv => by
    obtain ⟨b, rfl, k1, k2⟩ := kd
    refine ⟨b, rv.bl_inv, ?_⟩
    have p3 := (p1.trans p2).trans (Post.of p2.wa g)
    cases b with
    | false => exact z _ ρ2 _ F3 H3 (k2 rfl) p3 (.bl false)
    | true =>
      show tc σ H3 _
      refine k1 rfl B ad σ F3 H3 p3.wa _ fun d3 ρ3 u F4 H4 q4 p4 r4 => q4 F4 H4 y u p4.wa.gr.fh ((r2.up g.ff).up p4.gr.ff) r4 _ fun d v F5 H5 kd2 g2 rv2 => ?_
      obtain ⟨b2, rfl, m1, m2⟩ := kd2
      refine ⟨b2, rv2.bl_inv, ?_⟩
      have p5 := (p3.trans p4).trans (Post.of p4.wa g2)
      cases b2 with
      | false => exact z _ ρ3 _ F5 H5 (m2 rfl) p5 (.bl false)
      | true =>
        show td σ H5 _
        refine m1 rfl B ad σ F5 H5 p5.wa _ fun d4 ρ4 u4 F6 H6 q6 p6 r6 => q6 F6 H6 u u4 p6.wa.gr.fh ((r4.up g2.ff).up p6.gr.ff) r6 _ fun d v F7 H7 kd3 g3 rv3 => ?_
        exact z d ρ4 v F7 H7 kd3 ((p5.trans p6).trans (Post.of p6.wa g3)) rv3
end
/-! ### data < data -/
section
variable {X : Cx} {K : PySem.W.Frag} {d1 d2 : D} {Q : D → Prop}
def rLtD (K : PySem.W.Frag) : R2 := fun x y H Q => ∃ d e, Dp K H x d ∧ Dp K H y e ∧ PySem.W.alike d e = true ∧ d ≠ .none ∧ min d.depth e.depth ≤ 60 ∧ Q (.bl (PySem.W.dataLt d e)) H
theorem op_ltD (hu : X.A.units + 64 < cLine) : OpR X (compareOp .Lt) (rLtD X.K) := by
  rintro pins s σ H x y v u Q I rx ry ⟨d, e, hd, he, pd, pe, hz, q⟩
  obtain ⟨as, r1⟩ := Dp.reads I d x v hd rx
  obtain ⟨bs, r2⟩ := Dp.reads I e y u he ry
  exact PySem.W.lt_data r1 r2 pd pe (by omega) ⟨.bl _, H, I, rfl, q⟩
theorem opd_ltD (al : PySem.W.alike d1 d2 = true) (hn : d1 ≠ .none) (h : min d1.depth d2.depth ≤ 60) (k : Q (.bool (PySem.W.dataLt d1 d2))) : OpD (rLtD K) d1 d2 Q := fun F H x y e rx ry Z z => ⟨d1, d2, rx.dp e, ry.dp e, al, hn, h, z _ _ F H k (Gr.refl e) (.bl _)⟩
end
/-! ### {k: True for k in ints} -/
section
variable {X : Cx}
theorem ps_setDc {i : Nat} {y : Str} {py : Pos} {kx vx tg iter : Expr} {ifs : List Expr} {scope : Scope} {own : List (Str × Nat)} {pos spos : Pos} {wi : TI} {g : TG} {tt : TT} {tk tv : TE} (hc : X.calm = true) (hN : X.N.Nodup) (hy : X.N[i]? = some y) (hyl : X.env.scope.names.lookup y = some .local)
    (hsw : swapsWith (.DictComp kx vx [⟨tg, iter, ifs, 0⟩] scope pos) (some (.Name y py)) spos.line X.env = pure true) (hi : PI X tg iter wi) (ok : BlkOk X.N X.env.scope scope own)
    (hg : ∀ (s : Shared) (H : Hp) (C : Addr) (cl : List (Str × Addr)) (fp : List Addr), PG (X.blk s H scope (compEnvC scope cl C X.env) fp) tg g) (ht : ∀ (s : Shared) (H : Hp) (C : Addr) (cl : List (Str × Addr)) (fp : List Addr), PTs (X.blk s H scope (compEnvC scope cl C X.env) fp) ifs tt)
    (hk : ∀ (s : Shared) (H : Hp) (C : Addr) (cl : List (Str × Addr)) (fp : List Addr), PE (X.blk s H scope (compEnvC scope cl C X.env) fp) kx tk)
    (he : ∀ (s : Shared) (H : Hp) (C : Addr) (cl : List (Str × Addr)) (fp : List Addr), PE (X.blk s H scope (compEnvC scope cl C X.env) fp) vx tv) (hs : ∀ x, foldedSetIterable iter X.env x = pure x := by intro _; rfl) :
    PS X (.Assign [.Name y py] (.DictComp kx vx [⟨tg, iter, ifs, 0⟩] scope pos) spos) (tAsg (tDc wi g tt tk tv (own.map (·.2))) (gName i)) := by
  refine ⟨fun pins s σ H D I h => ?_⟩
  rw [exec_Assign_Name_used _ _ _ _ hsw]
  refine wpAny_bind (wpAny_standAt (wpAny_bind ?_))
  show wpAny _ X.A (do let _ ← comprehension (.DictComp kx vx [⟨tg, iter, ifs, 0⟩] scope pos) scope X.env (firstIterPos [⟨tg, iter, ifs, 0⟩] pos) newDict false (eval iter X.env) (some (assign (.Name y py) X.env))) _ _ s
  have h : tDc wi g tt tk tv (own.map (·.2)) σ H (fun x H1 => gName i x σ H1 D.nx) := h
  refine wpAny_bind (thn (dc_core (Qf := fun _ s' => SP X pins D .next s') hc hN I hi ok hg ht hk he hs h fun L C s' m H' I' q hn f => ?_) fun _ s' hq => wpAny_pure (wpAny_pure hq))
  show wpAny _ _ (assign (.Name y py) X.env (.ref L)) _ _ _
  refine wpAny_assign_Name (store_ok2 (v := V.ref L) I' hN hy (.inl hyl) rfl (fun s2 I2 ⟨a, sb, ha⟩ => ?_) (.inr hyl))
  obtain ⟨f0, f1, f2, f3, f4, f5⟩ := f
  have haC : C ≠ a := by
    rcases ha with z | z
    · rw [z]; exact f1
    · exact fun e => f4 y a z e.symm
  refine ⟨m, hn.sameBut sb haC, fun h3 sb3 => ?_⟩
  exact ⟨_, H', I2.turned (t' := s2.toks) (fun b o hb e => (sb3.2 b hb).trans e) f0 f1 f3 f4 f5, q⟩
theorem sw_trueD {kx vx : Expr} {gs : List Comprehension} {scope : Scope} {pos py : Pos} {y : Str} {l : Nat} {env : PySem.Env} (hk : env.scope.kind = .function) (hy : env.scope.names.lookup y = some .local) (hl : (py.line == pos.line) = true)
    (ha : (scope.names.any fun (n, k) => n == y && (k == .local || k == .cell)) = false) : swapsWith (.DictComp kx vx gs scope pos) (some (.Name y py)) l env = pure true := by
  have ky : env.kindOf y = some .local := hy
  have hb : env.blockKind = .function := by unfold Env.blockKind; rw [hk]; rfl
  unfold swapsWith
  simp only [hb, ky, ha, Expr.pos, hl]
  rfl
end
section
variable {ρ : Pu.Env} {P : Po} {wi : TI} {g : TG} {tt : TT} {tk tv : TE} {vs : List Nat} {i : Nat}
def kb (x : Int) : Key × V := ((.inl x : Key), V.bl true)
theorem put_kb {xs : List Int} {x : Int} (h : x ∉ xs) : putK (xs.map kb) (.inl x : Key) (V.bl true) = (xs ++ [x]).map kb := by
  have e1 : ((xs.map kb).any fun kv => decide (kv.1 = (.inl x : Key))) = false := by
    rw [List.any_eq_false]
    intro y hy
    obtain ⟨q, hq, rfl⟩ := List.mem_map.mp hy
    simp only [decide_eq_true_eq, kb, Sum.inl.injEq]
    exact fun e => h (e ▸ hq)
  unfold putK
  rw [e1, if_neg Bool.false_ne_true]
  simp [kb]
theorem sx_dcSet (h00 : i ≠ 0) (h : EI wi ρ fun ds ρ1 => ∃ xs : List Int, ds = xs.map .int ∧ xs.Nodup ∧ xs.length < 1000000 ∧ Plain ρ1 vs ∧
    (∀ x ∈ xs, SG vs g (.int x) (wipeE ρ1 vs) fun ρ2 => unw vs ρ1 ρ2 = ρ1 ∧ ET tt ρ2 fun b ρ3 => b = true ∧ ρ3 = ρ2 ∧ EX tk ρ2 fun e ρ4 => e = .int x ∧ ρ4 = ρ2 ∧ EX tv ρ2 fun e ρ5 => e = .bool true ∧ ρ5 = ρ2) ∧ NX P (ρ1.set i (.st (.dbl xs)))) : SX (tAsg (tDc wi g tt tk tv vs) (gName i)) ρ P := fun B σ F H w Dn n r bk ct => by
  obtain ⟨ad, w⟩ := w
  refine h B ad σ F H w _ fun ds ρ1 J F1 H1 q1 p1 it => ?_
  obtain ⟨xs, rfl, nd, hz, pl, turn, done⟩ := q1
  intro Dl hD
  have nw := p1.wa.newp hD
  have lenX : (xs.map PyData.int).length = xs.length := List.length_map _
  let Inv := fun (i : Nat) (H' : Hp) => ∃ F', Post B ad σ ρ1 F1 H1 ρ1 F' H' ∧ F' Dl = none ∧ H' Dl = some (.dK ((xs.take i).map kb))
  refine ⟨fun i m H' => m = xs.length - i ∧ i ≤ xs.length ∧ Inv i H', ⟨_, rfl, Nat.zero_le _, F1, Post.of p1.wa (Gr.heap p1.wa.gr.fh (same_upd hD)), nw.1, upd_same⟩, ?_⟩
  rintro i m H' ⟨rfl, hi, F', P', hF, hH⟩
  by_cases hlt : i < xs.length
  · refine .inr ⟨it.go i H' (P'.gr.ff.trans P'.wa.gr.fh) (by rw [lenX]; exact hlt), fun H2 => Inv (i + 1) H2, fun H2 k => ⟨xs.length - (i + 1), by omega, rfl, hlt, k⟩, fun x H2 y => ?_⟩
    obtain ⟨d, F2, e, gr, rx⟩ := it.yld i H' x H2 F' P'.gr.ff P'.wa.gr.fh y (by rw [lenX]; exact hlt)
    rw [List.getElem?_map, List.getElem?_eq_getElem hlt] at e
    cases e
    have hx : xs[i] ∈ xs := List.getElem_mem hlt
    have hnx : xs[i] ∉ xs.take i := fun hm => by
      obtain ⟨j, hj⟩ := List.getElem?_of_mem hm
      have hj2 := (List.getElem?_eq_some_iff.mp hj).1
      rw [List.length_take] at hj2
      rw [List.getElem?_take] at hj
      split at hj
      · have := (List.getElem?_eq_some_iff.mp hj).2
        have := (List.getElem_inj nd).mp this
        omega
      · cases hj
    have P2 := P'.trans (Post.of P'.wa gr)
    have w2 := P'.wa.grow gr
    have hF2 : F2 Dl = none := gr.fr Dl (by rw [hH]; intro z; cases z) hF
    have hH2 : H2 Dl = some (.dK ((xs.take i).map kb)) := gr.kp Dl _ hH id
    have nms : ∀ (ρ2 : Env), ¬ MS ad ρ2 Dl := fun ρ2 ⟨j, S, _, m⟩ => nw.2.2 j m
    refine turn _ hx B ad (wipe σ vs) F2 H2 x (w2.wiped pl) (pl.ad w2) rx _ fun ρ2 σ2 q wb e2 fr => ?_
    obtain ⟨eu, q⟩ := q
    have e2' : wipe σ2 vs = wipe σ vs := by
      rw [e2]
      apply List.ext_getElem?
      intro j
      rw [wipe_get, wipe_get, wipe_length]
      split
      · rfl
      · first | rfl | rw [wipe_get, if_neg (by assumption)]
    refine ⟨e2', q B ad σ2 F2 H2 wb _ fun b ρ3 F3 H3 q3 p3 => ?_⟩
    obtain ⟨rfl, rfl, q3⟩ := q3
    show tk σ2 H3 _
    refine q3 B ad σ2 F3 H3 p3.wa _ fun e ρ4 v F4 H4 q4 p4 rv => ?_
    obtain ⟨rfl, rfl, q4⟩ := q4
    have ev := rv.int_inv
    subst ev
    refine q4 B ad σ2 F4 H4 p4.wa _ fun e ρ5 v F5 H5 q5 p5 rv2 => ?_
    obtain ⟨rfl, rfl⟩ := q5
    have ev2 := rv2.bl_inv
    subst ev2
    have p34 := (p3.trans p4).trans p5
    have pu := Post.unwiped w2 pl e2' fr wb p34
    rw [eu] at pu
    have hH4 : H5 Dl = some (.dK ((xs.take i).map kb)) := p34.gr.kp Dl _ hH2 (nms _)
    have hF4 : F5 Dl = none := p34.gr.fr Dl (by rw [hH2]; intro z; cases z) hF2
    refine ⟨_, (.inl xs[i] : Key), rfl, hH4, Nat.lt_of_lt_of_le (by rw [List.length_map, List.length_take]; omega) (show 1000000 ≤ sizeLine by decide), F5, ?_, hF4, ?_⟩
    · have pt := P2.trans pu
      have ne1 : ∀ a o, H1 a = some o → a ≠ Dl := fun a o q z => by rw [z, hD] at q; cases q
      have neF : ∀ a o, F5 a = some o → a ≠ Dl := fun a o q z => by rw [z, hF4] at q; cases q
      refine ⟨⟨⟨pt.wa.gr.ff, fun a o q => by rw [upd_ne (neF a o q)]; exact pt.wa.gr.fh a o q, fun a o q m => ?_, fun a q => ?_, pt.wa.gr.fr⟩, pt.wa.len, fun j s q => ?_, pt.wa.fz, pt.wa.dj, pt.wa.out, pt.wa.pin⟩, ⟨pt.gr.ff, fun a o q => by rw [upd_ne (neF a o q)]; exact pt.gr.fh a o q, fun a o q m => by rw [upd_ne (ne1 a o q)]; exact pt.gr.kp a o q m, fun a q => ?_, pt.gr.fr⟩, pt.sh⟩
      · rw [upd_ne (fun z => by rw [z, nw.2.1] at q; cases q)]
        exact pt.wa.gr.kp a o q m
      · by_cases ha : a = Dl
        · rw [ha, upd_same]; intro z; cases z
        · rw [upd_ne ha]; exact pt.wa.gr.al a q
      · have k := pt.wa.sl j s q
        cases s with
        | emp => exact k
        | val d => exact k
        | own es =>
          obtain ⟨p, ws, a1, a2, a3, a4, a5⟩ := k
          refine ⟨p, ws, a1, a2, a3, ?_, a5⟩
          rw [upd_ne (fun z => nw.2.2 j (by rw [a1, z]; simp))]
          exact a4
        | st S =>
          obtain ⟨s, a1, a2⟩ := k
          exact ⟨s, a1, a2.keep (Same.refl _) fun a m o e => by
            rw [upd_ne (fun z => nw.2.2 j (by rw [← z]; exact m))]
            exact e⟩
      · by_cases ha : a = Dl
        · rw [ha, upd_same]; intro z; cases z
        · rw [upd_ne ha]; exact pt.gr.al a q
    · rw [upd_same, put_kb hnx, List.take_add_one, List.getElem?_eq_getElem hlt]
      rfl
  · have e : i = xs.length := by omega
    subst e
    refine .inl ⟨it.stop _ H' (P'.gr.ff.trans P'.wa.gr.fh) (by rw [lenX]; exact Nat.le_refl _), ?_⟩
    rw [List.take_length] at hH
    obtain ⟨ρ2, l, q⟩ := done
    have wf := P'.wa
    refine n ρ2 _ F' H' q (W.weak ⟨fun k => if k = i then (if i < ρ1.length then [Dl] else []) else ad k, wf.gr, by rw [List.length_set, List.length_set]; exact wf.len, fun j sl e => ?_, fun j q m => ?_, fun j1 j2 q m1 m2 => ?_, fun j e => ?_, wf.pin.to fun S2 e => by
      rcases get_set e with ⟨e0, _⟩ | ⟨hj, e⟩
      · exact absurd e0.symm h00
      · exact ⟨⟨S2, e⟩, List.getElem?_set_ne (Ne.symm hj), if_neg hj⟩⟩ l)
    · rcases get_set e with ⟨rfl, rfl⟩ | ⟨hj, e'⟩
      · have hi : j < ρ1.length := by
          have := (List.getElem?_eq_some_iff.mp e).1
          rwa [List.length_set] at this
        exact ⟨Dl, List.getElem?_set_self (by rw [wf.len]; exact hi), by rw [if_pos rfl, if_pos hi]; exact ⟨rfl, hH⟩⟩
      · rw [if_neg hj, List.getElem?_set_ne (Ne.symm hj)]
        exact wf.sl j sl e'
    · by_cases hj : j = i
      · simp only [if_pos hj] at m
        by_cases hi : i < ρ1.length
        · simp only [if_pos hi] at m
          have eq : q = Dl := by simpa using m
          rw [eq]
          exact ⟨hF, .inl nw.2.1⟩
        · simp [if_neg hi] at m
      · simp only [if_neg hj] at m
        exact wf.fz j q m
    · have g : ∀ j, q ∈ (if j = i then (if i < ρ1.length then [Dl] else []) else ad j) → (j = i ∧ q = Dl) ∨ (j ≠ i ∧ q ∈ ad j) := fun j m => by
        by_cases hj : j = i
        · simp only [if_pos hj] at m
          by_cases hi : i < ρ1.length
          · simp only [if_pos hi] at m
            exact .inl ⟨hj, by simpa using m⟩
          · simp [if_neg hi] at m
        · simp only [if_neg hj] at m
          exact .inr ⟨hj, m⟩
      rcases g j1 m1 with ⟨a1, b1⟩ | ⟨a1, b1⟩ <;> rcases g j2 m2 with ⟨a2, b2⟩ | ⟨a2, b2⟩
      · rw [a1, a2]
      · exact absurd b2 (by rw [b1]; exact nw.2.2 j2)
      · exact absurd b1 (by rw [b2]; exact nw.2.2 j1)
      · exact wf.dj j1 j2 q b1 b2
    · show (if j = i then (if i < ρ1.length then [Dl] else []) else ad j) = []
      have e' := get_set' e
      by_cases hj : j = i
      · subst hj
        rw [if_pos rfl, if_neg (by rw [List.getElem?_eq_none_iff] at e'; omega)]
      · rw [if_neg hj]
        exact wf.out j e'
/-- k in such a dict -/
theorem val_kb : ∀ (ks : List Int) (k : Int), (valV (ks.map kb) (.inl k : Key)).isSome = decide (k ∈ ks)
  | [], k => rfl
  | a :: ks, k => by
    by_cases c : a = k
    · subst c
      rw [List.map_cons, show valV (kb a :: ks.map kb) (.inl a : Key) = some (V.bl true) from valV_pos (p := kb a) rfl]
      simp
    · rw [List.map_cons, valV_neg (by simp [kb, c]), val_kb ks k]
      have : k ≠ a := fun e => c e.symm
      by_cases h : k ∈ ks <;> simp [h, this]
theorem ex_inDbl {ty : TE} {Q : D → Pu.Env → Prop} {j : Nat} (h : EX ty ρ fun d ρ1 => ∃ k ks, d = .int k ∧ ρ1[j]? = some (.st (.dbl ks)) ∧ Q (.bool (decide (k ∈ ks))) ρ1) : EX (tDIn ty (tVar j)) ρ Q := fun B ad σ F H w Z z => by
  refine h B ad σ F H w _ fun d ρ1 y F1 H1 q1 p1 r1 => ?_
  obtain ⟨k, ks, rfl, h1, q⟩ := q1
  obtain ⟨s1, k1, st1⟩ := p1.wa.sl j _ h1
  have ey := r1.int_inv
  subst ey
  refine ⟨_, k1, s1, _, rfl, DGet.k (k := (.inl k : Key)) st1.2, ?_⟩
  have e := val_kb ks k
  show Z (.bl (valV (ks.map kb) (.inl k : Key)).isSome) H1
  rw [e]
  exact z _ ρ1 _ F1 H1 q p1 (.bl _)
end
end Pu
/-! PuO: instances of own classes whose attributes are data -/
namespace Pu
open PySem L2 PyProof.Rows
/-! ### attributes by name -/
def putD (f : Str) (d : D) : List (Str × D) → List (Str × D)
  | [] => [(f, d)]
  | (g, x) :: r => if g = f then (g, d) :: r else (g, x) :: putD f d r
theorem putD_nil (f : Str) (d : D) : putD f d [] = [(f, d)] := rfl
theorem putD_eq (f : Str) (d x : D) (r : List (Str × D)) : putD f d ((f, x) :: r) = (f, d) :: r := if_pos rfl
theorem putD_ne {f g : Str} (h : ¬ g = f) (d x : D) (r : List (Str × D)) : putD f d ((g, x) :: r) = (g, x) :: putD f d r := if_neg h
theorem lk_nil (f : Str) : List.lookup f ([] : List (Str × D)) = none := rfl
theorem lk_eq {α : Type} (f : Str) (x : α) (r : List (Str × α)) : List.lookup f ((f, x) :: r) = some x := by simp [List.lookup]
theorem lk_ne {α : Type} {f g : Str} (h : ¬ g = f) (x : α) (r : List (Str × α)) : List.lookup f ((g, x) :: r) = List.lookup f r := by
  have hb : (f == g) = false := beq_eq_false_iff_ne.mpr fun e => h e.symm
  simp only [List.lookup, hb]
section
variable {F : Hp}
theorem FldA.get : ∀ {vs : List (Str × V)} {fs : List (Str × D)} {f : Str} {d : D}, FldA F vs fs → fs.lookup f = some d → ∃ v, vs.lookup f = some v ∧ Rp F v d
  | [], [], _, _, _, e => by cases e
  | (g, v) :: vs, (g', x) :: fs, f, d, h, e => by
    obtain ⟨rfl, r, h⟩ := h
    by_cases q : g = f
    · subst q
      rw [lk_eq] at e
      cases e
      exact ⟨v, lk_eq _ _ _, r⟩
    · rw [lk_ne q] at e
      obtain ⟨u, a, b⟩ := FldA.get h e
      exact ⟨u, by rw [lk_ne q]; exact a, b⟩
  | [], _ :: _, _, _, h, _ => h.elim
  | _ :: _, [], _, _, h, _ => h.elim
theorem FldA.no : ∀ {vs : List (Str × V)} {fs : List (Str × D)} {f : Str}, FldA F vs fs → fs.lookup f = none → vs.lookup f = none
  | [], [], _, _, _ => rfl
  | (g, v) :: vs, (g', x) :: fs, f, h, e => by
    obtain ⟨rfl, r, h⟩ := h
    by_cases q : g = f
    · subst q
      rw [lk_eq] at e
      cases e
    · rw [lk_ne q] at e ⊢
      exact FldA.no h e
  | [], _ :: _, _, h, _ => h.elim
  | _ :: _, [], _, h, _ => h.elim
theorem FldA.len : ∀ {vs : List (Str × V)} {fs : List (Str × D)}, FldA F vs fs → vs.length = fs.length
  | [], [], _ => rfl
  | (g, v) :: vs, (g', x) :: fs, h => by rw [List.length_cons, List.length_cons, FldA.len h.2.2]
  | [], _ :: _, h => h.elim
  | _ :: _, [], h => h.elim
theorem FldA.put : ∀ {vs : List (Str × V)} {fs : List (Str × D)} {f : Str} {v : V} {d : D}, FldA F vs fs → Rp F v d → FldA F (putF f v vs) (putD f d fs)
  | [], [], f, v, d, _, r => ⟨rfl, r, trivial⟩
  | (g, u) :: vs, (g', x) :: fs, f, v, d, h, r => by
    obtain ⟨rfl, ru, h⟩ := h
    unfold putF putD
    by_cases q : g = f
    · rw [if_pos q, if_pos q]; exact ⟨rfl, r, h⟩
    · rw [if_neg q, if_neg q]; exact ⟨rfl, ru, FldA.put h r⟩
  | [], _ :: _, _, _, _, h, _ => h.elim
  | _ :: _, [], _, _, _, h, _ => h.elim
end
/-! ### readings and rules -/
/-- what of the text an object's class must have: C is plain, none of the names is the class's own -/
structure ObF (K : PySem.W.Frag) (C : Addr) (ns : List Str) : Prop where
  cl : Cls K C
  no : ∀ f ∈ ns, NoAttr K C f
/-- o.f -/
def tFldC (C : Addr) (ta : TE) (f : Str) : TE := fun σ H Q => ta σ H fun x H1 => ∃ a dx fs v, x = .ref a ∧ H1 a = some (.ins C dx fs) ∧ fs.lookup f = some v ∧ Q v H1
/-- o.f = value -/
def sFldC (C : Addr) (ta tv : TE) (f : Str) : TS := fun D σ H => tv σ H fun y H1 => ta σ H1 fun x H2 => ∃ a dx fs, x = .ref a ∧ H2 a = some (.ins C dx fs) ∧ fs.length < 1000 ∧ D.nx σ (upd H2 a (.ins C dx (putF f y fs)))
section
variable {X : Cx} {o e value : Expr} {f : Str} {pos pos' : Pos} {ta tv : TE} {C : Addr} {ns : List Str}
theorem pe_fldC (c : ObF X.K C ns) (hf : f ∈ ns) (he : PE X e ta) (hb : attributeBase e f X.env (eval e X.env) = eval e X.env) : PE X (.Attribute e f pos) (tFldC C ta f) := by
  refine ⟨fun pins s σ H Q I h => ?_⟩
  refine attr_of hb (thn (he.run pins s σ H _ I h) fun u s1 ⟨x, H1, I1, rx, a, dx, fs, v, ex, ea, l, q⟩ => ?_)
  subst ex
  obtain rfl : u = Value.ref a := rx
  exact getattr_ok I1 ea c.cl (c.no f hf) l fun u' s2 I2 ru => ⟨v, H1, I2, ru, q⟩
theorem ps_fldC (c : ObF X.K C ns) (hf : f ∈ ns) (ha : PE X o ta) (hv : PE X value tv) (hs : swapsWith value (some (.Attribute o f pos')) pos.line X.env = pure false) : PS X (.Assign [.Attribute o f pos'] value pos) (sFldC C ta tv f) := by
  refine ⟨fun pins s σ H D I h => ?_⟩
  refine plainObj_wpAny_Assign_Attribute (thn (hv.run pins s σ H _ I h) fun u s1 ⟨y, H1, I1, ry, q⟩ => thn (ha.run pins s1 σ H1 _ I1 q) fun ov s2 ⟨x, H2, I2, rx, a, dx, fs, ex, ea, l, q2⟩ => ?_) hs
  subst ex
  obtain rfl : ov = Value.ref a := rx
  exact setattr_ok I2 ea c.cl (c.no f hf) l ry fun s3 I3 => ⟨σ, _, I3, q2⟩
end
/-- a method that keeps a promise -/
inductive CalM (P : Program) (w : World) (K : PySem.W.Frag) (mg : Str → Option Value) (base : Heap) (C : Addr) (m : Str) (ps : List Str) (sp : Sp) (k : Nat) : Prop
  | mk (f : Addr) (fd : FuncData) (ok : FnOk P w K mg base CX0 k f fd ps sp) (hm : Meth K C m f) (bd : Binds K fd ps []) : CalM P w K mg base C m ps sp k
/-- a class whose __init__ keeps a promise -/
inductive CalC (P : Program) (w : World) (K : PySem.W.Frag) (mg : Str → Option Value) (base : Heap) (C : Addr) (x : Str) (ps : List Str) (sp : Sp) (k : Nat) : Prop
  | mk (f : Addr) (fd : FuncData) (ok : FnOk P w K mg base CX0 k f fd ps sp) (hm : mg x = some (.ref C)) (mk : Mk K C f) (bd : Binds K fd ps []) : CalC P w K mg base C x ps sp k
section
variable {X : Cx} {k : Nat} {C : Addr} {ns : List Str} {ps : List Str} {sp : Sp} {x m : Str} {p pos apos : Pos} {e o : Expr} {es : List Expr} {t : TA} {ta : TE}
theorem pe_calM {pl : Sem Bool} (M : CalM X.prog X.w X.K X.mg X.base C m ps sp k) (c : ObF X.K C ns) (hr : Room k X.A) (he : PE X o ta) (ha : PA X (e :: es) t)
    (hst : starEach (e :: es) X.env = (false, eval e X.env) :: starEach es X.env := by rfl) (hpl : (backTo pos (starEach es X.env)).any (·.1) = false := by rfl)
    (ht : eval (.Call (.Attribute o m apos) (e :: es) [] pos) X.env = (do
      let ov ← eval o X.env
      standAt apos.atName
      let (f, first) ← holding [ov] (getMethod ov m pl)
      callWith pos f first (backTo pos (starEach (e :: es) X.env)) (backToKw pos (keywordEach [] X.env))) := by rfl) :
    PE X (.Call (.Attribute o m apos) (e :: es) [] pos) (tMeth C m sp [] E0 ta t) := by
  obtain ⟨f, fd, ok, hm, bd⟩ := M
  exact pe_meth he c.cl hm ok hr bd .nil pass0 ha hst hpl ht
theorem pe_calM0 {pl : Sem Bool} (M : CalM X.prog X.w X.K X.mg X.base C m ps sp k) (c : ObF X.K C ns) (hr : Room k X.A) (he : PE X o ta)
    (ht : eval (.Call (.Attribute o m apos) [] [] pos) X.env = (do
      let ov ← eval o X.env
      standAt apos.atName
      let (f, first) ← holding [ov] (getMethod ov m pl)
      callWith pos f first (backTo pos (starEach [] X.env)) (backToKw pos (keywordEach [] X.env))) := by rfl) :
    PE X (.Call (.Attribute o m apos) [] [] pos) (tMeth C m sp [] E0 ta tNil) := by
  obtain ⟨f, fd, ok, hm, bd⟩ := M
  exact pe_meth0 he c.cl hm ok hr bd .nil pass0 ht
theorem pe_mkC (M : CalC X.prog X.w X.K X.mg X.base C x ps sp k) (hr : Room (k + 1) X.A) (hg : Gl X x) (ha : PA X (e :: es) t) (hdb : (x == ("__debug__" : Str)) = false := by decide)
    (he : starEach (e :: es) X.env = (false, eval e X.env) :: starEach es X.env := by rfl) (hpl : (backTo pos (starEach es X.env)).any (·.1) = false := by rfl) :
    PE X (.Call (.Name x p) (e :: es) [] pos) (tMake C sp [] E0 t) := by
  obtain ⟨f, fd, ok, hm, mk, bd⟩ := M
  exact pe_make mk ok hr hg hm bd .nil pass0 ha hdb he hpl
end
/-! ### over slots -/
section
variable {ρ : Pu.Env} {i : Nat} {C : Addr} {f m : Str} {t : TA} {tv : TE} {E : XK} {P : Po}
theorem ex_fld {fs : List (Str × D)} {d : D} {Q : D → Pu.Env → Prop} (h : ρ[i]? = some (.st (.obj C fs))) (hl : fs.lookup f = some d) (k : Q d ρ) : EX (tFldC C (tVar i) f) ρ Q := fun B ad σ F H w Z z => by
  obtain ⟨s, k0, dx, vs, has, hs, hf⟩ := w.sl i _ h
  obtain ⟨v, hv, r⟩ := hf.get hl
  exact ⟨_, k0, s, dx, vs, v, rfl, hs, hv, z d ρ v F H k (Post.refl w) r⟩
theorem sx_fld {fs0 : List (Str × D)} (h0 : ρ[i]? = some (.st (.obj C fs0))) (h : EX tv ρ fun d ρ1 => ∃ fs, ρ1[i]? = some (.st (.obj C fs)) ∧ fs.length < 1000 ∧ NX P (ρ1.set i (.st (.obj C (putD f d fs))))) : SX (sFldC C (tVar i) tv f) ρ P := fun B σ F H w Dn n r b c => by
  obtain ⟨ad, w⟩ := w
  refine h B ad σ F H w _ fun d ρ1 v F1 H1 q p rv => ?_
  obtain ⟨fs, h1, hlen, ρ2, l, q⟩ := q
  obtain ⟨s, k0, dx, vs, has, hs, hf⟩ := p.wa.sl i _ h1
  refine ⟨_, k0, s, dx, vs, rfl, hs, by rw [hf.len]; exact hlen, ?_⟩
  have fs0 : F1 s = none := (p.wa.fz i s (by rw [has]; simp)).1
  have neF : ∀ a o, F1 a = some o → a ≠ s := fun a o e z => by rw [z, fs0] at e; cases e
  have w2 := p.wa.stp (S' := .obj C (putD f d fs)) (F' := F1) (H' := upd H1 s (.ins C dx (putF f v vs))) h1 k0 ⟨Same.refl F1, fun a o e => by rw [upd_ne (neF a o e)]; exact p.wa.gr.fh a o e, fun a o e ha => by rw [upd_ne (fun z => ha (by rw [has, z]; simp))]; exact e, fun a e => by
    by_cases z : a = s
    · rw [z, upd_same]; intro q; cases q
    · rw [upd_ne z]; exact e, fun a e z => z⟩ (by rw [has]; exact ⟨dx, _, rfl, upd_same, hf.put rv⟩) (fun a ha => (p.wa.fz i a ha).1)
  exact n ρ2 _ F1 _ q (W.weak ⟨_, w2⟩ l)
theorem ex_meth {R : Stt → List D → (D → Stt → Prop) → Prop} {fs : List (Str × D)} {Q : D → Pu.Env → Prop} (h0 : ρ[i]? = some (.st (.obj C fs))) (hm : fs.lookup m = none) (h : EA t ρ fun ds ρ1 => ∃ S, ρ1[i]? = some (.st S) ∧ R S ds fun d S' => Q d (ρ1.set i (.st S'))) :
    EX (tMeth C m (spS R) [] E (tVar i) t) ρ Q := fun B ad σ F H w Z z => by
  obtain ⟨s, k0, dx, vs, has, hs, hf⟩ := w.sl i _ h0
  obtain ⟨v, e, q⟩ := (ex_callS (E := E) h0 h B ad σ F H w Z z : tCall (spS R) [] E (tCons (tVar i) t) σ H Z)
  rw [k0] at e
  cases e
  exact ⟨_, k0, s, dx, vs, rfl, hs, hf.no hm, q⟩
theorem sx_make {R : Stt → List D → (D → Stt → Prop) → Prop} (h00 : i ≠ 0) (h : EA t ρ fun ds ρ1 => R (.obj C []) ds fun d S => d = .none ∧ NX P (ρ1.set i (.st S))) : SX (tAsg (tMake C (spS R) [] E t) (gName i)) ρ P := fun B σ F H w Dn n r b c => by
  obtain ⟨ad, w⟩ := w
  refine h B ad σ F H w _ fun ds ρ1 vs F1 H1 q p rv => ?_
  intro x dx hx hdx ne
  rw [List.append_nil]
  have nx := p.wa.newp hx
  have keep : ∀ a o, H1 a = some o → upd (upd H1 dx (.own x)) x (.ins C dx []) a = some o := fun a o e => by rw [upd_ne (ne_of_none e hx), upd_ne (ne_of_none e hdx)]; exact e
  refine ⟨F1, x, [x], .obj C [], vs, ds, _, rfl, fun a o e => keep a o (p.wa.gr.fh a o e), ⟨dx, [], rfl, upd_same, trivial⟩, fun a ha => by rw [List.mem_singleton.mp ha]; exact nx.1, rv, q, fun d S v F' H' zd g st fn rv' => ?_⟩
  obtain ⟨rfl, ρ2, l, q⟩ := zd
  refine ⟨rv'.non_inv, ?_⟩
  have some_of : ∀ a, H1 a ≠ none → ∃ o, H1 a = some o := fun a e => by
    cases q : H1 a with
    | none => exact absurd q e
    | some o => exact ⟨o, rfl⟩
  have up : ∀ a, H1 a ≠ none → upd (upd H1 dx (.own x)) x (.ins C dx []) a ≠ none := fun a e => by
    obtain ⟨o, ho⟩ := some_of a e
    rw [keep a o ho]; intro z; cases z
  have g2 : Gr Non F1 H1 F' H' := ⟨g.ff, g.fh, fun a o e _ => g.kp a o (keep a o e) (fun z => by
    rw [List.mem_singleton.mp z, hx] at e; cases e), fun a e => g.al a (up a e), fun a e z => g.fr a (up a e) z⟩
  have w2 := (p.wa.grow g2).setSt2 i h00 st fn fun a ha => by rw [List.mem_singleton.mp ha]; exact nx.2
  exact n ρ2 _ F' H' q (W.weak ⟨_, w2⟩ l)
end
end Pu
/-! PuZ: a dict whose keys are pairs of ints; data <= data; min(xs, default=d) -/
namespace Pu
open PySem L2 PyProof.Rows
abbrev Kt := (Int × Int) × Int
def getT (kvs : List Kt) (k : Int × Int) : Option Int := (kvs.find? fun p => decide (p.1 = k)).map (·.2)
def putT (kvs : List Kt) (k : Int × Int) (n : Int) : List Kt := if (kvs.any fun p => decide (p.1 = k)) = true then kvs.map (fun p => if p.1 = k then (p.1, n) else p) else kvs ++ [(k, n)]
def kt (p : Kt) : List Key × V := (([.inl p.1.1, .inl p.1.2] : List Key), V.int p.2)
theorem kt_key (p : Kt) (a b : Int) : ((kt p).1 = ([.inl a, .inl b] : List Key)) ↔ p.1 = (a, b) := by
  obtain ⟨⟨x, y⟩, n⟩ := p
  simp [kt]
theorem getT_nil (k : Int × Int) : getT [] k = none := rfl
theorem getT_put (kvs : List Kt) (k j : Int × Int) (n : Int) : getT (putT kvs k n) j = if j = k then some n else getT kvs j := by
  unfold putT
  split
  · rename_i h
    unfold getT
    induction kvs with
    | nil => simp at h
    | cons p kvs ih =>
      rw [List.map_cons, List.find?_cons, List.find?_cons]
      by_cases e : p.1 = k
      · rw [if_pos e]
        by_cases ej : j = k
        · subst ej
          simp [e]
        · have e1 : ¬ p.1 = j := fun z => ej (by rw [← z, e])
          simp only [decide_eq_false e1]
          rw [if_neg ej]
          have key : ∀ l : List Kt, ((l.map fun p => if p.1 = k then (p.1, n) else p).find? fun p => decide (p.1 = j)).map (·.2) = (l.find? fun p => decide (p.1 = j)).map (·.2) := by
            intro l
            induction l with
            | nil => rfl
            | cons q l ihl =>
              rw [List.map_cons, List.find?_cons, List.find?_cons]
              by_cases eq : q.1 = k
              · have e2 : ¬ q.1 = j := fun z => ej (by rw [← z, eq])
                rw [if_pos eq]
                simp only [decide_eq_false e2]
                exact ihl
              · rw [if_neg eq]
                by_cases e3 : q.1 = j
                · simp [e3]
                · simp only [decide_eq_false e3]
                  exact ihl
          exact key kvs
      · rw [if_neg e]
        have h' : (kvs.any fun p => decide (p.1 = k)) = true := by simpa [e] using h
        by_cases ej : p.1 = j
        · have : ¬ j = k := fun z => e (by rw [ej, z])
          simp [ej, this]
        · simp only [decide_eq_false ej]
          exact ih h'
  · rename_i h
    have hn : ∀ p ∈ kvs, ¬ p.1 = k := fun p hp e => h (by rw [List.any_eq_true]; exact ⟨p, hp, decide_eq_true e⟩)
    unfold getT
    rw [List.find?_append]
    by_cases ej : j = k
    · subst ej
      have : kvs.find? (fun p => decide (p.1 = j)) = none := List.find?_eq_none.mpr fun p hp => by simpa using hn p hp
      rw [this]
      simp
    · rw [if_neg ej]
      cases hf : kvs.find? (fun p => decide (p.1 = j)) with
      | some q => simp
      | none =>
        have : ¬ k = j := fun z => ej z.symm
        simp [this]
theorem putT_len (kvs : List Kt) (k : Int × Int) (n : Int) : (putT kvs k n).length ≤ kvs.length + 1 := by
  unfold putT
  split
  · rw [List.length_map]; omega
  · rw [List.length_append, List.length_singleton]; omega
theorem val_kt (kvs : List Kt) (a b : Int) : valV (kvs.map kt) ([.inl a, .inl b] : List Key) = (getT kvs (a, b)).map V.int := by
  unfold valV getT
  induction kvs with
  | nil => rfl
  | cons p kvs ih =>
    rw [List.map_cons, List.find?_cons, List.find?_cons]
    by_cases e : p.1 = (a, b)
    · rw [decide_eq_true ((kt_key p a b).mpr e), decide_eq_true e]
      rfl
    · rw [decide_eq_false (fun z => e ((kt_key p a b).mp z)), decide_eq_false e]
      exact ih
theorem put_kt (kvs : List Kt) (a b n : Int) : putK (kvs.map kt) ([.inl a, .inl b] : List Key) (V.int n) = (putT kvs (a, b) n).map kt := by
  have e1 : ((kvs.map kt).any fun kv => decide (kv.1 = ([.inl a, .inl b] : List Key))) = kvs.any fun p => decide (p.1 = (a, b)) := by
    induction kvs with
    | nil => rfl
    | cons p kvs ih =>
      rw [List.map_cons, List.any_cons, List.any_cons, ih]
      congr 1
      by_cases e : p.1 = (a, b)
      · rw [decide_eq_true ((kt_key p a b).mpr e), decide_eq_true e]
      · rw [decide_eq_false (fun z => e ((kt_key p a b).mp z)), decide_eq_false e]
  unfold putK putT
  rw [e1]
  split
  · rw [List.map_map, List.map_map]
    refine List.map_congr_left fun p _ => ?_
    simp only [Function.comp]
    by_cases e : p.1 = (a, b)
    · rw [if_pos ((kt_key p a b).mpr e), if_pos e]
      rfl
    · rw [if_neg (fun z => e ((kt_key p a b).mp z)), if_neg e]
  · rw [List.map_append]
    rfl
section
variable {ρ : Pu.Env} {P : Po} {i : Nat} {tk tv ty tx : TE}
theorem sx_dnewT (h00 : i ≠ 0) (k : NX P (ρ.set i (.st (.dtt [])))) : SX (tAsg tDNewT (gName i)) ρ P := fun B σ F H w Dn n r b c => by
  obtain ⟨ad, w⟩ := w
  intro p hp
  have nw := w.newp hp
  obtain ⟨ρ2, l, q⟩ := k
  have w1 := w.updD (o := .dT []) nw.2.1 nw.2.2 nw.1
  have w2 := w1.setSt2 (S := .dtt []) (s := p) (as := [p]) i h00 ⟨rfl, upd_same⟩ (fun a ha => by rw [List.mem_singleton.mp ha]; exact nw.1) fun a ha => by rw [List.mem_singleton.mp ha]; exact nw.2
  exact n ρ2 _ F _ q (W.weak ⟨_, w2⟩ l)
theorem Rp.pair_inv {F : Hp} {v : V} {a b : Int} (h : Rp F v (.tuple [.int a, .int b])) : ∃ t, v = .ref t ∧ F t = some (.tup [.int a, .int b]) := by
  obtain ⟨t, xs, rfl, ht, ra⟩ := h.tup_inv
  obtain ⟨u, v, rfl, r1, r2⟩ := ra.two
  rw [r1.int_inv, r2.int_inv] at ht
  exact ⟨t, rfl, ht⟩
theorem sx_dputT {kvs0 : List Kt} (h0 : ρ[i]? = some (.st (.dtt kvs0))) (h : EX tv ρ fun d ρ1 => EX tk ρ1 fun e ρ2 => ∃ n a b kvs, d = .int n ∧ e = .tuple [.int a, .int b] ∧ ρ2[i]? = some (.st (.dtt kvs)) ∧ kvs.length < 1000000 ∧ NX P (ρ2.set i (.st (.dtt (putT kvs (a, b) n))))) :
    SX (sDPut (tVar i) tk tv) ρ P := fun B σ F H w Dn n r b c => by
  obtain ⟨ad, w⟩ := w
  obtain ⟨s0, k0, _⟩ := w.sl i _ h0
  refine h B ad σ F H w _ fun d ρ1 v F1 H1 q1 p1 r1 => ?_
  refine ⟨_, k0, q1 B ad σ F1 H1 p1.wa _ fun e ρ2 y F2 H2 q2 p2 r2 => ?_⟩
  obtain ⟨m, a, b', kvs, rfl, rfl, h1, hz, ρ', l, q⟩ := q2
  obtain ⟨s, k1, has, st⟩ := p2.wa.sl i _ h1
  rw [k0] at k1
  cases k1
  have ev := r1.int_inv
  subst ev
  obtain ⟨t, rfl, ht⟩ := r2.pair_inv
  have fs0 : F2 s0 = none := (p2.wa.fz i s0 (by rw [has]; simp)).1
  have neF : ∀ a o, F2 a = some o → a ≠ s0 := fun a o e z => by rw [z, fs0] at e; cases e
  refine ⟨s0, _, rfl, DPut.t (k := ([.inl a, .inl b'] : List Key)) st (p2.wa.gr.fh _ _ ht) (by rw [List.length_map]; exact Nat.lt_of_lt_of_le hz (by decide)), ?_⟩
  rw [show (kvs.map fun p => (([.inl p.1.1, .inl p.1.2] : List Key), V.int p.2)) = kvs.map kt from rfl, put_kt]
  have w2 := p2.wa.stp (S' := .dtt (putT kvs (a, b') m)) (F' := F2) (H' := upd H2 s0 (.dT ((putT kvs (a, b') m).map kt))) h1 k0 ⟨Same.refl F2, fun a o e => by rw [upd_ne (neF a o e)]; exact p2.wa.gr.fh a o e, fun a o e ha => by rw [upd_ne (fun z => ha (by rw [has, z]; simp))]; exact e, fun a e => by
    by_cases z : a = s0
    · rw [z, upd_same]; intro q; cases q
    · rw [upd_ne z]; exact e, fun a e z => z⟩ ⟨has, upd_same⟩ (fun a ha => (p2.wa.fz i a ha).1)
  exact n ρ' _ F2 _ q (W.weak ⟨_, w2⟩ l)
theorem ex_dgetT {kvs0 : List Kt} {Q : D → Pu.Env → Prop} (h0 : ρ[i]? = some (.st (.dtt kvs0))) (h : EX ty ρ fun e ρ1 => EX tx ρ1 fun d ρ2 => ∃ n a b kvs, d = .int n ∧ e = .tuple [.int a, .int b] ∧ ρ2[i]? = some (.st (.dtt kvs)) ∧ Q (.int ((getT kvs (a, b)).getD n)) ρ2) :
    EX (tDGet2 (tVar i) ty tx) ρ Q := fun B ad σ F H w Z z => by
  obtain ⟨s0, k0, has0, st0⟩ := w.sl i _ h0
  refine ⟨_, k0, s0, rfl, .inr ⟨_, .inl st0⟩, h B ad σ F H w _ fun e ρ1 y F1 H1 q1 p1 r1 => q1 B ad σ F1 H1 p1.wa _ fun d ρ2 v F2 H2 q2 p2 r2 => ?_⟩
  obtain ⟨m, a, b', kvs, rfl, rfl, h1, q⟩ := q2
  obtain ⟨s, k1, has, st⟩ := p2.wa.sl i _ h1
  rw [k0] at k1
  cases k1
  have ev := r2.int_inv
  subst ev
  obtain ⟨t, rfl, ht⟩ := (r1.up p2.gr.ff).pair_inv
  refine ⟨_, DGet.t (k := ([.inl a, .inl b'] : List Key)) st (p2.wa.gr.fh _ _ ht), ?_⟩
  rw [show (kvs.map fun p => (([.inl p.1.1, .inl p.1.2] : List Key), V.int p.2)) = kvs.map kt from rfl, val_kt]
  have e : ((getT kvs (a, b')).map V.int).getD (V.int m) = V.int ((getT kvs (a, b')).getD m) := by cases getT kvs (a, b') <;> rfl
  rw [e]
  exact z _ ρ2 _ F2 H2 q (p1.trans p2) (.int _)
end
/-! ### data <= data -/
section
variable {X : Cx} {K : PySem.W.Frag} {d1 d2 : D} {Q : D → Prop}
def rLeD (K : PySem.W.Frag) : R2 := fun x y H Q => ∃ d e, Dp K H x d ∧ Dp K H y e ∧ PySem.W.alike d e = true ∧ d ≠ .none ∧ min d.depth e.depth ≤ 60 ∧ Q (.bl (!PySem.W.dataLt e d)) H
theorem op_leD (hu : X.A.units + 64 < cLine) : OpR X (compareOp .LtE) (rLeD X.K) := by
  rintro pins s σ H x y v u Q I rx ry ⟨d, e, hd, he, pd, pe, hz, q⟩
  obtain ⟨as, r1⟩ := Dp.reads I d x v hd rx
  obtain ⟨bs, r2⟩ := Dp.reads I e y u he ry
  exact PySem.W.le_data r1 r2 pd pe (by omega) ⟨.bl _, H, I, rfl, q⟩
theorem opd_leD (al : PySem.W.alike d1 d2 = true) (hn : d1 ≠ .none) (h : min d1.depth d2.depth ≤ 60) (k : Q (.bool (!PySem.W.dataLt d2 d1))) : OpD (rLeD K) d1 d2 Q := fun F H x y e rx ry Z z => ⟨d1, d2, rx.dp e, ry.dp e, al, hn, h, z _ _ F H k (Gr.refl e) (.bl _)⟩
theorem opd_leP {p q : Int × Int} (k : Q (.bool (!ltP q p))) : OpD (rLeD K) (encP p) (encP q) Q := opd_leD rfl (by unfold encP; simp) (min_l (by simp [encP, PyData.depth, PyData.depthAll])) (by rw [dataLt_P]; exact k)
end
/-! ### min(ints, default=n) -/
section
variable {X : Cx}
def rMnDf (K : PySem.W.Frag) : List V → List V → Hp → VK → Prop := fun vs zs H Q => ∃ (F : Hp) (a : Addr) (xs : List V) (ns : List Int) (n : Int), vs = [.ref a] ∧ zs = [.int n] ∧ Same F H ∧ Rd F a (.lst xs) ∧ RpA F xs (ns.map .int) ∧ Q (.int (if ns.isEmpty then n else foldMin ns)) H
theorem cb_minDf (hc : X.calm = true) (hu : X.A.units + 64 < cLine) : CallRK X (.builtin "min") ["default"] (rMnDf X.K) := by
  rintro pins s σ H vs zs us ws Q I r rz ⟨F, a, xs, ns, n, rfl, rfl, e, ha, ra, q⟩
  obtain ⟨its, rv, hl, _⟩ := I.list (sqL_rd (K := X.K) ha e)
  obtain ⟨as, rr⟩ := rpa_reads I e ra rv
  rw [Vals.ref1 r]
  obtain ⟨w, rfl, rw1⟩ : ∃ w, ws = [w] ∧ RelV (.int n) w := by
    cases rz with
    | cons h t => cases t; exact ⟨_, rfl, h⟩
  have hz : PyData.depthAll (ns.map PyData.int) ≤ 60 := by
    clear q ra rr
    induction ns with
    | nil => simp [PyData.depthAll]
    | cons m ns ih => rw [List.map_cons]; simp only [PyData.depthAll, PyData.depth]; omega
  refine PySem.W.min_list_default (I.ok.hd hc) hl.isList (by simpa using rr) (alike_ints ns) (by omega) (fun h0 h' tk hk => ?_) fun y ys i v h' tk bs hxs hi rd hk => ?_
  · have : ns = [] := by simpa using h0
    subst this
    exact ⟨_, H, I.kept hk, rw1, q⟩
  · cases ns with
    | nil => cases hxs
    | cons m ns =>
      have e1 : PyData.int m = y := (List.cons.inj hxs).1
      have e2 : ns.map PyData.int = ys := (List.cons.inj hxs).2
      subst e1 e2
      have al := alike_ints (m :: ns)
      obtain ⟨y, ry, rp⟩ := pick_rp I e ra rv al (minD_mem (.int m) (ns.map .int)) hi rd hk
      rw [PySem.W.minD_ints] at rp
      rw [rp.int_inv] at ry
      exact ⟨_, H, I.kept hk, ry, q⟩
theorem ex_minDf {K : PySem.W.Frag} {ρ : Pu.Env} {te tk : TE} {Q : D → Pu.Env → Prop} (h : EX te ρ fun d ρ1 => ∃ ns : List Int, d = .list (ns.map .int) ∧ EX tk ρ1 fun e ρ2 => ∃ n, e = .int n ∧ Q (.int (if ns.isEmpty then n else foldMin ns)) ρ2) :
    EX (tCKw (rMnDf K) (tCons te tNil) (tCons tk tNil)) ρ Q := fun B ad σ F H w Z z => by
  refine h B ad σ F H w _ fun d ρ1 v F1 H1 q1 p1 r1 => ?_
  obtain ⟨ns, rfl, q1⟩ := q1
  refine q1 B ad σ F1 H1 p1.wa _ fun e ρ2 u F2 H2 q2 p2 r2 => ?_
  obtain ⟨n, rfl, q⟩ := q2
  obtain ⟨a, xs, rfl, ha, ra⟩ := (r1.up p2.gr.ff).lst_inv
  have ev := r2.int_inv
  subst ev
  exact ⟨F2, a, xs, ns, n, rfl, rfl, p2.wa.gr.fh, ha, ra, z _ ρ2 _ F2 H2 q (p1.trans p2) (.int _)⟩
end
end Pu
/-! readings of the defs of law_k41_whole_spots: printed by gen.py -/
namespace Law_k41
open PySem L2 Pu

/-- met: slots demand 0, taken 1, option 2 -/
abbrev N_met : List Str := ["demand", "taken", "option"]
def T_met (K : PySem.W.Frag) : TS :=
    (tRet (tCB (rAnyB K) (tCons (tLc (iList K (tVar 0)) (gName 2) tYes (tOp (rInP K) (tVar 2) (tVar 1)) [2]) tNil)))
/-- laid: slots problem 0, taken 1, left 2, costs 3, demands 4, rest 5, rows 6, total 7, option 8, at 9, demand 10, open_ones 11, size 12; own: rest, rows -/
abbrev N_laid : List Str := ["problem", "taken", "left", "costs", "demands", "rest", "rows", "total", "option", "at", "demand", "open_ones", "size"]
def T_laid (K : PySem.W.Frag) (R_met : List D → (D → Prop) → Prop) : TS :=
    (tSeq (tAsg (tVar 0) (gTup K 2 (gCons (gName 3) (gCons (gName 4) gNil))))
    (tSeq (tAsg (tCB (rList K) (tCons (tVar 3) tNil)) (gName 5))
    (tSeq (tAsg (tLst tNil) (gName 6))
    (tSeq (tAsg (tCB (rSum K) (tCons (tLc (iList K (tVar 1)) (gName 8) tYes (tOp (rIxA K) (tVar 3) (tVar 8)) [8]) tNil)) (gName 7))
    (tSeq (tFor (iEnum K (tCons (tVar 4) tNil)) (gTup K 2 (gCons (gName 9) (gCons (gName 10) gNil)))
      (tSeq (tAsg (tLc (iList K (tVar 10)) (gName 8) (tTest (tOp (rNinP K) (tVar 8) (tVar 2))) (tVar 8) [8]) (gName 11))
    (tIfS (tAnd (tNot (tB (tCall (spP R_met) [] E0 (tCons (tVar 10) (tCons (tVar 1) tNil))))) (tTru K (tVar 11)))
      (tSeq (tAsg (tCB (rMnD K) (tCons (tLc (iList K (tVar 11)) (gName 8) tYes (tOp (rIxA K) (tVar 5) (tVar 8)) [8]) tNil)) (gName 12))
    (tSeq (tAsg (tOp (rPlus K) (tVar 7) (tVar 12)) (gName 7))
    (tFor (iList K (tVar 11)) (gName 8)
      (tIfS (tTest (tOp (rI0 fun i j => .bl (decide (j < i))) (tVar 12) (tC (.int 0))))
      (tSeq (tDrop (tBM K "list" rAppend (tVar 6) (tCons (tTup (tCons (tVar 9) (tCons (tVar 8) (tCons (tVar 12) tNil)))) tNil)))
    (tAsg (tOp (rI0 fun i j => .int (i - j)) (tOp (rIxA K) (tVar 5) (tVar 8)) (tVar 12)) (gSub (tVar 5) (tVar 8) rSetL)))
      tNext))))
      tNext)))
    (tRet (tTup (tCons (tVar 6) (tCons (tVar 7) tNil)))))))))
/-- first_open: slots problem 0, taken 1, left 2, rows 3, at 4, demand 5, option 6; own: rows -/
abbrev N_first_open : List Str := ["problem", "taken", "left", "rows", "at", "demand", "option"]
def T_first_open (K : PySem.W.Frag) (R_met : List D → (D → Prop) → Prop) : TS :=
    (tSeq (tAsg (tLst tNil) (gName 3))
    (tSeq (tFor (iEnum K (tCons (tOp (rIxA K) (tVar 0) (tC (.int 1))) tNil)) (gTup K 2 (gCons (gName 4) (gCons (gName 5) gNil)))
      (tIfS (tNot (tB (tCall (spP R_met) [] E0 (tCons (tVar 5) (tCons (tVar 1) tNil)))))
      (tDrop (tBM K "list" rAppend (tVar 3) (tCons (tTup (tCons (tCB (Pu.rLen K) (tCons (tLc (iList K (tVar 5)) (gName 6) (tTest (tOp (rNinP K) (tVar 6) (tVar 2))) (tVar 6) [6]) tNil)) (tCons (tVar 4) tNil))) tNil)))
      tNext))
    (tRet (tIf (tTru K (tVar 3)) (tOp (rIxA K) (tCB (rMnD K) (tCons (tVar 3) tNil)) (tC (.int 1))) (tC .non)))))
/-- cover: slots problem 0, search 1, tree 2 -/
abbrev N_cover : List Str := ["problem", "search", "tree"]
def T_cover (K : PySem.W.Frag) (C_Cover : Addr) (R_Cover_init : Stt → List D → (D → Stt → Prop) → Prop) (R_Cover_go : Stt → List D → (D → Stt → Prop) → Prop) (R_Cover_prove : Stt → List D → (D → Stt → Prop) → Prop) : TS :=
    (tSeq (tAsg (tMake C_Cover (spS R_Cover_init) [] E0 (tCons (tVar 0) tNil)) (gName 1))
    (tSeq (tDrop (tMeth C_Cover "go" (spS R_Cover_go) [] E0 (tVar 1) (tCons (tLst tNil) (tCons (tLst tNil) tNil))))
    (tSeq (tAsg (tMeth C_Cover "prove" (spS R_Cover_prove) [] E0 (tVar 1) (tCons (tLst tNil) (tCons (tLst tNil) tNil))) (gName 2))
    (tRet (tIf (tTest (tOp (rIs) (tFldC C_Cover (tVar 1) "best") (tC .non))) (tTup (tCons (tC (.str "none")) (tCons (tVar 2) tNil))) (tTup (tCons (tC (.str "least")) (tCons (tFldC C_Cover (tVar 1) "best") (tCons (tFldC C_Cover (tVar 1) "cost") (tCons (tVar 2) tNil))))))))))
/-- shares_right: slots problem 0, taken 1, left 2, bound 3, rows 4, costs 5, demands 6, rest 7, gains 8, last 9, at 10, option 11, size 12, total 13, demand 14, open_ones 15; own: gains, rest -/
abbrev N_shares_right : List Str := ["problem", "taken", "left", "bound", "rows", "costs", "demands", "rest", "gains", "last", "at", "option", "size", "total", "demand", "open_ones"]
def T_shares_right (K : PySem.W.Frag) (R_met : List D → (D → Prop) → Prop) : TS :=
    (tSeq (tAsg (tVar 0) (gTup K 2 (gCons (gName 5) (gCons (gName 6) gNil))))
    (tSeq (tAsg (tCB (rList K) (tCons (tVar 5) tNil)) (gName 7))
    (tSeq (tAsg tDNewT (gName 8))
    (tSeq (tAsg (tTup (tCons (tUn (rU fun i => .int (-i)) (tC (.int 1))) (tCons (tUn (rU fun i => .int (-i)) (tC (.int 1))) tNil))) (gName 9))
    (tSeq (tFor (iList K (tVar 4)) (gTup K 3 (gCons (gName 10) (gCons (gName 11) (gCons (gName 12) gNil))))
      (tSeq (tIfS (tOr (tNot (tTest (tChain (rI0 fun i j => .bl (decide (i ≤ j))) (rI0 fun i j => .bl (decide (i < j))) (tC (.int 0)) (tVar 10) (tCB (Pu.rLen K) (tCons (tVar 6) tNil))))) (tOr (tNot (tTest (tChain (rI0 fun i j => .bl (decide (i ≤ j))) (rI0 fun i j => .bl (decide (i < j))) (tC (.int 0)) (tVar 11) (tCB (Pu.rLen K) (tCons (tVar 5) tNil))))) (tOr (tTest (tOp (rI0 fun i j => .bl (decide (i < j))) (tVar 12) (tC (.int 1)))) (tTest (tOp (rLeD K) (tTup (tCons (tVar 10) (tCons (tVar 11) tNil))) (tVar 9))))))
      (tRet (tC (.bl false)))
      tNext)
    (tSeq (tAsg (tTup (tCons (tVar 10) (tCons (tVar 11) tNil))) (gName 9))
    (tSeq (tAsg (tOp (rI0 fun i j => .int (i - j)) (tOp (rIxA K) (tVar 7) (tVar 11)) (tVar 12)) (gSub (tVar 7) (tVar 11) rSetL))
    (sDPut (tVar 8) (tTup (tCons (tVar 10) (tCons (tVar 11) tNil))) (tVar 12))))))
    (tSeq (tIfS (tB (tCB (rAnyB K) (tCons (tLc (iRng1 (tCons (tCB (Pu.rLen K) (tCons (tVar 5) tNil)) tNil)) (gName 11) tYes (tAndV (tOp (rI0 fun i j => .bl (decide (i < j))) (tOp (rIxA K) (tVar 7) (tVar 11)) (tC (.int 0))) (tOp (rNinP K) (tVar 11) (tVar 2))) [11]) tNil)))
      (tRet (tC (.bl false)))
      tNext)
    (tSeq (tAsg (tCB (rSum K) (tCons (tLc (iList K (tVar 1)) (gName 11) tYes (tOp (rIxA K) (tVar 5) (tVar 11)) [11]) tNil)) (gName 13))
    (tSeq (tFor (iEnum K (tCons (tVar 6) tNil)) (gTup K 2 (gCons (gName 10) (gCons (gName 14) gNil)))
      (tSeq (tAsg (tLc (iList K (tVar 14)) (gName 11) (tTest (tOp (rNinP K) (tVar 11) (tVar 2))) (tVar 11) [11]) (gName 15))
    (tIfS (tNot (tB (tCall (spP R_met) [] E0 (tCons (tVar 14) (tCons (tVar 1) tNil)))))
      (tAsg (tOp (rPlus K) (tVar 13) (tCKw (rMnDf K) (tCons (tLc (iList K (tVar 15)) (gName 11) tYes (tDGet2 (tVar 8) (tTup (tCons (tVar 10) (tCons (tVar 11) tNil))) (tC (.int 0))) [11]) tNil) (tCons (tC (.int 0)) tNil))) (gName 13))
      tNext)))
    (tRet (tOp (rI0 fun i j => .bl (decide (j ≤ i))) (tVar 13) (tVar 3)))))))))))
/-- fault_at: slots problem 0, taken 1, left 2, path 3, bound 4, tree 5, demands 6, right 7, open_ones 8, option 9, turn 10, below 11, fault 12 -/
abbrev N_fault_at : List Str := ["problem", "taken", "left", "path", "bound", "tree", "demands", "right", "open_ones", "option", "turn", "below", "fault"]
def T_fault_at (K : PySem.W.Frag) (R_met : List D → (D → Prop) → Prop) (R_fault_at : List D → (D → Prop) → Prop) (R_shares_right : List D → (D → Prop) → Prop) : TS :=
    (tSeq (tAsg (tOp (rIxA K) (tVar 0) (tC (.int 1))) (gName 6))
    (tSeq (tIfS (tTest (tOp (rEqP K) (tOp (rIxA K) (tVar 5) (tC (.int 0))) (tC (.str "shares"))))
      (tSeq (tAsg (tAndV (tOp (rIsnt) (tVar 4) (tC .non)) (tCall (spP R_shares_right) [] E0 (tCons (tVar 0) (tCons (tVar 1) (tCons (tVar 2) (tCons (tVar 4) (tCons (tOp (rIxA K) (tVar 5) (tC (.int 1))) tNil))))))) (gName 7))
    (tRet (tIf (tB (tVar 7)) (tC .non) (tTup (tCons (tC (.str "shares")) (tCons (tVar 3) tNil))))))
      tNext)
    (tSeq (tIfS (tNot (tTest (tChain (rI0 fun i j => .bl (decide (i ≤ j))) (rI0 fun i j => .bl (decide (i < j))) (tC (.int 0)) (tOp (rIxA K) (tVar 5) (tC (.int 1))) (tCB (Pu.rLen K) (tCons (tVar 6) tNil)))))
      (tRet (tTup (tCons (tOp (rIxA K) (tVar 5) (tC (.int 0))) (tCons (tVar 3) tNil))))
      tNext)
    (tSeq (tAsg (tLc (iList K (tOp (rIxA K) (tVar 6) (tOp (rIxA K) (tVar 5) (tC (.int 1))))) (gName 9) (tTest (tOp (rNinP K) (tVar 9) (tVar 2))) (tVar 9) [9]) (gName 8))
    (tSeq (tIfS (tTest (tOp (rEqP K) (tOp (rIxA K) (tVar 5) (tC (.int 0))) (tC (.str "blocked"))))
      (tRet (tIf (tAnd (tNot (tTru K (tVar 8))) (tNot (tB (tCall (spP R_met) [] E0 (tCons (tOp (rIxA K) (tVar 6) (tOp (rIxA K) (tVar 5) (tC (.int 1)))) (tCons (tVar 1) tNil)))))) (tC .non) (tTup (tCons (tC (.str "blocked")) (tCons (tVar 3) tNil)))))
      tNext)
    (tSeq (tIfS (tOr (tB (tCall (spP R_met) [] E0 (tCons (tOp (rIxA K) (tVar 6) (tOp (rIxA K) (tVar 5) (tC (.int 1)))) (tCons (tVar 1) tNil)))) (tTest (tOp (rNeP K) (tCB (Pu.rLen K) (tCons (tOp (rIxA K) (tVar 5) (tC (.int 2))) tNil)) (tCB (Pu.rLen K) (tCons (tVar 8) tNil)))))
      (tRet (tTup (tCons (tC (.str "split")) (tCons (tVar 3) tNil))))
      tNext)
    (tSeq (tFor (iEnum K (tCons (tVar 8) tNil)) (gTup K 2 (gCons (gName 10) (gCons (gName 9) gNil)))
      (tSeq (tAsg (tOp (rPlus K) (tVar 3) (tLst (tCons (tTup (tCons (tOp (rIxA K) (tVar 5) (tC (.int 1))) (tCons (tVar 9) tNil))) tNil))) (gName 11))
    (tSeq (tAsg (tCall (spP R_fault_at) [] E0 (tCons (tVar 0) (tCons (tOp (rPlus K) (tVar 1) (tLst (tCons (tVar 9) tNil))) (tCons (tOp (rPlus K) (tVar 2) (tSl (rSl K) (tVar 8) tNoPart (tPart (tVar 10)))) (tCons (tVar 11) (tCons (tVar 4) (tCons (tOp (rIxA K) (tOp (rIxA K) (tVar 5) (tC (.int 2))) (tVar 10)) tNil))))))) (gName 12))
    (tIfS (tTest (tOp (rIsnt) (tVar 12) (tC .non)))
      (tRet (tVar 12))
      tNext))))
    (tRet (tC .non)))))))))
/-- cover_fault: slots problem 0, told 1, costs 2, demands 3, fault 4, word 5, options 6, cost 7, tree 8, rising 9, at 10, option 11, demand 12 -/
abbrev N_cover_fault : List Str := ["problem", "told", "costs", "demands", "fault", "word", "options", "cost", "tree", "rising", "at", "option", "demand"]
def T_cover_fault (K : PySem.W.Frag) (R_fault_at : List D → (D → Prop) → Prop) (R_met : List D → (D → Prop) → Prop) : TS :=
    (tSeq (tAsg (tVar 0) (gTup K 2 (gCons (gName 2) (gCons (gName 3) gNil))))
    (tSeq (tIfS (tTest (tOp (rEqP K) (tOp (rIxA K) (tVar 1) (tC (.int 0))) (tC (.str "none"))))
      (tSeq (tAsg (tCall (spP R_fault_at) [] E0 (tCons (tVar 0) (tCons (tLst tNil) (tCons (tLst tNil) (tCons (tLst tNil) (tCons (tC .non) (tCons (tOp (rIxA K) (tVar 1) (tC (.int 1))) tNil))))))) (gName 4))
    (tRet (tIf (tTest (tOp (rIs) (tVar 4) (tC .non))) (tC .non) (tTup (tCons (tC (.str "tree")) (tCons (tVar 4) tNil))))))
      tNext)
    (tSeq (tAsg (tVar 1) (gTup K 4 (gCons (gName 5) (gCons (gName 6) (gCons (gName 7) (gCons (gName 8) gNil))))))
    (tSeq (tAsg (tCB (rAllB K) (tCons (tLc (iRng1 (tCons (tOp (rI0 fun i j => .int (i - j)) (tCB (Pu.rLen K) (tCons (tVar 6) tNil)) (tC (.int 1))) tNil)) (gName 10) tYes (tOp (rI0 fun i j => .bl (decide (i < j))) (tOp (rIxA K) (tVar 6) (tVar 10)) (tOp (rIxA K) (tVar 6) (tOp (rPlus K) (tVar 10) (tC (.int 1))))) [10]) tNil)) (gName 9))
    (tSeq (tIfS (tOr (tNot (tB (tVar 9))) (tNot (tB (tCB (rAllB K) (tCons (tLc (iList K (tVar 6)) (gName 11) tYes (tChain (rI0 fun i j => .bl (decide (i ≤ j))) (rI0 fun i j => .bl (decide (i < j))) (tC (.int 0)) (tVar 11) (tCB (Pu.rLen K) (tCons (tVar 2) tNil))) [11]) tNil)))))
      (tRet (tTup (tCons (tC (.str "options")) tNil)))
      tNext)
    (tSeq (tFor (iEnum K (tCons (tVar 3) tNil)) (gTup K 2 (gCons (gName 10) (gCons (gName 12) gNil)))
      (tIfS (tNot (tB (tCall (spP R_met) [] E0 (tCons (tVar 12) (tCons (tVar 6) tNil)))))
      (tRet (tTup (tCons (tC (.str "demand")) (tCons (tVar 10) tNil))))
      tNext))
    (tSeq (tIfS (tTest (tOp (rNeP K) (tCB (rSum K) (tCons (tLc (iList K (tVar 6)) (gName 11) tYes (tOp (rIxA K) (tVar 2) (tVar 11)) [11]) tNil)) (tVar 7)))
      (tRet (tTup (tCons (tC (.str "cost")) tNil)))
      tNext)
    (tSeq (tAsg (tCall (spP R_fault_at) [] E0 (tCons (tVar 0) (tCons (tLst tNil) (tCons (tLst tNil) (tCons (tLst tNil) (tCons (tVar 7) (tCons (tVar 8) tNil))))))) (gName 4))
    (tRet (tIf (tTest (tOp (rIs) (tVar 4) (tC .non))) (tC .non) (tTup (tCons (tC (.str "tree")) (tCons (tVar 4) tNil)))))))))))))
/-- way: slots one 0, other 1 -/
abbrev N_way : List Str := ["one", "other"]
def T_way (K : PySem.W.Frag) : TS :=
    (tRet (tOp (rPlus K) (tCB (rAbs) (tCons (tOp (rI0 fun i j => .int (i - j)) (tOp (rIxA K) (tVar 0) (tC (.int 0))) (tOp (rIxA K) (tVar 1) (tC (.int 0)))) tNil)) (tCB (rAbs) (tCons (tOp (rI0 fun i j => .int (i - j)) (tOp (rIxA K) (tVar 0) (tC (.int 1))) (tOp (rIxA K) (tVar 1) (tC (.int 1)))) tNil))))
/-- spot_problem: slots spots 0, racks 1, reach 2, demands 3, at 4, spot 5, rack 6 -/
abbrev N_spot_problem : List Str := ["spots", "racks", "reach", "demands", "at", "spot", "rack"]
def T_spot_problem (K : PySem.W.Frag) (R_way : List D → (D → Prop) → Prop) : TS :=
    (tSeq (tAsg (tLc (iList K (tVar 1)) (gName 6) tYes (tLc (iEnum K (tCons (tVar 0) tNil)) (gTup K 2 (gCons (gName 4) (gCons (gName 5) gNil))) (tTest (tOp (rI0 fun i j => .bl (decide (i ≤ j))) (tCall (spP R_way) [] E0 (tCons (tVar 5) (tCons (tVar 6) tNil))) (tVar 2))) (tVar 4) [4, 5]) [6]) (gName 3))
    (tRet (tTup (tCons (tOp (rRepR) (tLst (tCons (tC (.int 1)) tNil)) (tCB (Pu.rLen K) (tCons (tVar 0) tNil))) (tCons (tVar 3) tNil)))))
/-- fewest_spots: slots spots 0, racks 1, reach 2, problem 3, told 4 -/
abbrev N_fewest_spots : List Str := ["spots", "racks", "reach", "problem", "told"]
def T_fewest_spots (K : PySem.W.Frag) (R_spot_problem : List D → (D → Prop) → Prop) (R_cover : List D → (D → Prop) → Prop) : TS :=
    (tSeq (tAsg (tCall (spP R_spot_problem) [] E0 (tCons (tVar 0) (tCons (tVar 1) (tCons (tVar 2) tNil)))) (gName 3))
    (tSeq (tIfS (tTest (tOp (rInP K) (tLst tNil) (tOp (rIxA K) (tVar 3) (tC (.int 1)))))
      (tRet (tTup (tCons (tC (.str "far")) (tCons (tBM K "list" (rIndexD K) (tOp (rIxA K) (tVar 3) (tC (.int 1))) (tCons (tLst tNil) tNil)) tNil))))
      tNext)
    (tSeq (tAsg (tCall (spP R_cover) [] E0 (tCons (tVar 3) tNil)) (gName 4))
    (tRet (tTup (tCons (tC (.str "spots")) (tCons (tOp (rIxA K) (tVar 4) (tC (.int 1))) (tCons (tOp (rIxA K) (tVar 4) (tC (.int 3))) tNil))))))))
/-- fewest_spots_fault: slots spots 0, racks 1, reach 2, told 3, problem 4, right 5 -/
abbrev N_fewest_spots_fault : List Str := ["spots", "racks", "reach", "told", "problem", "right"]
def T_fewest_spots_fault (K : PySem.W.Frag) (R_spot_problem : List D → (D → Prop) → Prop) (R_cover_fault : List D → (D → Prop) → Prop) : TS :=
    (tSeq (tAsg (tCall (spP R_spot_problem) [] E0 (tCons (tVar 0) (tCons (tVar 1) (tCons (tVar 2) tNil)))) (gName 4))
    (tSeq (tIfS (tTest (tOp (rEqP K) (tOp (rIxA K) (tVar 3) (tC (.int 0))) (tC (.str "far"))))
      (tSeq (tAsg (tAndV (tChain (rI0 fun i j => .bl (decide (i ≤ j))) (rI0 fun i j => .bl (decide (i < j))) (tC (.int 0)) (tOp (rIxA K) (tVar 3) (tC (.int 1))) (tCB (Pu.rLen K) (tCons (tVar 1) tNil))) (tOp (rEqP K) (tOp (rIxA K) (tOp (rIxA K) (tVar 4) (tC (.int 1))) (tOp (rIxA K) (tVar 3) (tC (.int 1)))) (tLst tNil))) (gName 5))
    (tRet (tIf (tB (tVar 5)) (tC .non) (tTup (tCons (tC (.str "far")) tNil)))))
      tNext)
    (tSeq (tIfS (tTest (tOp (rInP K) (tLst tNil) (tOp (rIxA K) (tVar 4) (tC (.int 1)))))
      (tRet (tTup (tCons (tC (.str "rack")) (tCons (tBM K "list" (rIndexD K) (tOp (rIxA K) (tVar 4) (tC (.int 1))) (tCons (tLst tNil) tNil)) tNil))))
      tNext)
    (tRet (tCall (spP R_cover_fault) [] E0 (tCons (tVar 4) (tCons (tTup (tCons (tC (.str "least")) (tCons (tOp (rIxA K) (tVar 3) (tC (.int 1))) (tCons (tCB (Pu.rLen K) (tCons (tOp (rIxA K) (tVar 3) (tC (.int 1))) tNil)) (tCons (tOp (rIxA K) (tVar 3) (tC (.int 2))) tNil))))) tNil)))))))
/-- reaches: slots spots 0, racks 1, spot 2, rack 3 -/
abbrev N_reaches : List Str := ["spots", "racks", "spot", "rack"]
def T_reaches (K : PySem.W.Frag) (R_way : List D → (D → Prop) → Prop) : TS :=
    (tRet (tSS K (tLc2 (iList K (tVar 0)) (gName 2) tYes (iList K (tVar 1)) (gName 3) tYes (tCall (spP R_way) [] E0 (tCons (tVar 2) (tCons (tVar 3) tNil))) [2, 3] [3])))
/-- least_reach: slots spots 0, racks 1, count 2, rows 3, low 4, high 5, middle 6, told 7, why 8 -/
abbrev N_least_reach : List Str := ["spots", "racks", "count", "rows", "low", "high", "middle", "told", "why"]
def T_least_reach (K : PySem.W.Frag) (R_reaches : List D → (D → Prop) → Prop) (R_fewest_spots : List D → (D → Prop) → Prop) : TS :=
    (tSeq (tAsg (tCall (spP R_reaches) [] E0 (tCons (tVar 0) (tCons (tVar 1) tNil))) (gName 3))
    (tSeq (tPar 4 5 (tCons (tUn (rU fun i => .int (-i)) (tC (.int 1))) (tCons (tOp (rI0 fun i j => .int (i - j)) (tCB (Pu.rLen K) (tCons (tVar 3) tNil)) (tC (.int 1))) tNil)))
    (tSeq (tWhile (tTest (tOp (rI0 fun i j => .bl (decide (i < j))) (tOp (rPlus K) (tVar 4) (tC (.int 1))) (tVar 5)))
      (tSeq (tAsg (tOp (rI CDiv fun i j => .int (i / j)) (tOp (rPlus K) (tVar 4) (tVar 5)) (tC (.int 2))) (gName 6))
    (tSeq (tAsg (tCall (spP R_fewest_spots) [] E0 (tCons (tVar 0) (tCons (tVar 1) (tCons (tOp (rIxA K) (tVar 3) (tVar 6)) tNil)))) (gName 7))
    (tIfS (tAnd (tTest (tOp (rEqP K) (tOp (rIxA K) (tVar 7) (tC (.int 0))) (tC (.str "spots")))) (tTest (tOp (rI0 fun i j => .bl (decide (i ≤ j))) (tCB (Pu.rLen K) (tCons (tOp (rIxA K) (tVar 7) (tC (.int 1))) tNil)) (tVar 2))))
      (tAsg (tVar 6) (gName 5))
      (tAsg (tVar 6) (gName 4))))))
    (tSeq (tAsg (tIf (tTest (tOp (rEqP K) (tVar 5) (tC (.int 0)))) (tC .non) (tCall (spP R_fewest_spots) [] E0 (tCons (tVar 0) (tCons (tVar 1) (tCons (tOp (rIxA K) (tVar 3) (tOp (rI0 fun i j => .int (i - j)) (tVar 5) (tC (.int 1)))) tNil))))) (gName 8))
    (tRet (tTup (tCons (tOp (rIxA K) (tVar 3) (tVar 5)) (tCons (tCall (spP R_fewest_spots) [] E0 (tCons (tVar 0) (tCons (tVar 1) (tCons (tOp (rIxA K) (tVar 3) (tVar 5)) tNil)))) (tCons (tVar 8) tNil)))))))))
/-- least_reach_fault: slots spots 0, racks 1, count 2, told 3, reach 4, here 5, why 6, rows 7, less 8 -/
abbrev N_least_reach_fault : List Str := ["spots", "racks", "count", "told", "reach", "here", "why", "rows", "less"]
def T_least_reach_fault (K : PySem.W.Frag) (R_reaches : List D → (D → Prop) → Prop) (R_fewest_spots_fault : List D → (D → Prop) → Prop) : TS :=
    (tSeq (tAsg (tVar 3) (gTup K 3 (gCons (gName 4) (gCons (gName 5) (gCons (gName 6) gNil)))))
    (tSeq (tAsg (tCall (spP R_reaches) [] E0 (tCons (tVar 0) (tCons (tVar 1) tNil))) (gName 7))
    (tSeq (tIfS (tTest (tOp (rNinP K) (tVar 4) (tVar 7)))
      (tRet (tTup (tCons (tC (.str "reach")) tNil)))
      tNext)
    (tSeq (tIfS (tOr (tTest (tOp (rNeP K) (tOp (rIxA K) (tVar 5) (tC (.int 0))) (tC (.str "spots")))) (tOr (tTest (tOp (rI0 fun i j => .bl (decide (j < i))) (tCB (Pu.rLen K) (tCons (tOp (rIxA K) (tVar 5) (tC (.int 1))) tNil)) (tVar 2))) (tTest (tOp (rIsnt) (tCall (spP R_fewest_spots_fault) [] E0 (tCons (tVar 0) (tCons (tVar 1) (tCons (tVar 4) (tCons (tVar 5) tNil))))) (tC .non)))))
      (tRet (tTup (tCons (tC (.str "spots")) tNil)))
      tNext)
    (tSeq (tIfS (tTest (tOp (rEqP K) (tVar 4) (tOp (rIxA K) (tVar 7) (tC (.int 0)))))
      (tRet (tIf (tTest (tOp (rIs) (tVar 6) (tC .non))) (tC .non) (tTup (tCons (tC (.str "why")) tNil))))
      tNext)
    (tSeq (tIfS (tOr (tTest (tOp (rIs) (tVar 6) (tC .non))) (tAnd (tTest (tOp (rEqP K) (tOp (rIxA K) (tVar 6) (tC (.int 0))) (tC (.str "spots")))) (tTest (tOp (rI0 fun i j => .bl (decide (i ≤ j))) (tCB (Pu.rLen K) (tCons (tOp (rIxA K) (tVar 6) (tC (.int 1))) tNil)) (tVar 2)))))
      (tRet (tTup (tCons (tC (.str "why")) tNil)))
      tNext)
    (tSeq (tAsg (tOp (rIxA K) (tVar 7) (tOp (rI0 fun i j => .int (i - j)) (tBM K "list" (rIndexD K) (tVar 7) (tCons (tVar 4) tNil)) (tC (.int 1)))) (gName 8))
    (tRet (tIf (tTest (tOp (rIs) (tCall (spP R_fewest_spots_fault) [] E0 (tCons (tVar 0) (tCons (tVar 1) (tCons (tVar 8) (tCons (tVar 6) tNil))))) (tC .non))) (tC .non) (tTup (tCons (tC (.str "why")) tNil)))))))))))
/-- nearest_spots: slots spots 0, racks 1, chosen 2, found 3, rack 4, at 5; own: found -/
abbrev N_nearest_spots : List Str := ["spots", "racks", "chosen", "found", "rack", "at"]
def T_nearest_spots (K : PySem.W.Frag) (R_way : List D → (D → Prop) → Prop) : TS :=
    (tSeq (tAsg (tLst tNil) (gName 3))
    (tSeq (tFor (iList K (tVar 1)) (gName 4)
      (tDrop (tBM K "list" rAppend (tVar 3) (tCons (tOp (rIxA K) (tCB (rMnD K) (tCons (tLc (iList K (tVar 2)) (gName 5) tYes (tTup (tCons (tCall (spP R_way) [] E0 (tCons (tOp (rIxA K) (tVar 0) (tVar 5)) (tCons (tVar 4) tNil))) (tCons (tVar 5) tNil))) [5]) tNil)) (tC (.int 1))) tNil))))
    (tRet (tVar 3))))
/-- middle_spot: slots racks 0, xs 1, rack 2, ys 3, place 4 -/
abbrev N_middle_spot : List Str := ["racks", "xs", "rack", "ys", "place"]
def T_middle_spot (K : PySem.W.Frag) (R_way : List D → (D → Prop) → Prop) : TS :=
    (tSeq (tAsg (tCB (rSrD K) (tCons (tLc (iList K (tVar 0)) (gName 2) tYes (tOp (rIxA K) (tVar 2) (tC (.int 0))) [2]) tNil)) (gName 1))
    (tSeq (tAsg (tCB (rSrD K) (tCons (tLc (iList K (tVar 0)) (gName 2) tYes (tOp (rIxA K) (tVar 2) (tC (.int 1))) [2]) tNil)) (gName 3))
    (tSeq (tAsg (tTup (tCons (tOp (rIxA K) (tVar 1) (tOp (rI CDiv fun i j => .int (i / j)) (tOp (rI0 fun i j => .int (i - j)) (tCB (Pu.rLen K) (tCons (tVar 1) tNil)) (tC (.int 1))) (tC (.int 2)))) (tCons (tOp (rIxA K) (tVar 3) (tOp (rI CDiv fun i j => .int (i / j)) (tOp (rI0 fun i j => .int (i - j)) (tCB (Pu.rLen K) (tCons (tVar 3) tNil)) (tC (.int 1))) (tC (.int 2)))) tNil))) (gName 4))
    (tRet (tTup (tCons (tVar 4) (tCons (tCB (rSum K) (tCons (tLc (iList K (tVar 0)) (gName 2) tYes (tCall (spP R_way) [] E0 (tCons (tVar 4) (tCons (tVar 2) tNil))) [2]) tNil)) tNil)))))))
/-- _law_draw: slots state 0, script 1, size 2, cell 3, mixed 4, digit 5; own: state -/
abbrev N_l_draw : List Str := ["state", "script", "size", "cell", "mixed", "digit"]
def T_l_draw (K : PySem.W.Frag) : TS :=
    (tSeq (tIfS (tTest (tOp (rEqP K) (tOp (rIxA K) (tVar 0) (tC (.int 1))) (tC (.int 0))))
      (tSeq (tAsg (tC (.int 0)) (gName 3))
    (tSeq (tIfS (tTest (tOp (rI0 fun i j => .bl (decide (j < i))) (tCB (Pu.rLen K) (tCons (tVar 1) tNil)) (tC (.int 0))))
      (tAsg (tOp (rIxA K) (tVar 1) (tOp (rI (fun _ j => 0 < j) fun i j => .int (i % j)) (tOp (rIxA K) (tVar 0) (tC (.int 0))) (tCB (Pu.rLen K) (tCons (tVar 1) tNil)))) (gName 3))
      tNext)
    (tSeq (tIfS (tTest (tOp (rI0 fun i j => .bl (decide (i < j))) (tVar 3) (tC (.int 0))))
      (tAsg (tOp (rI0 fun i j => .int (i - j)) (tC (.int 1)) (tOp (rI CMul fun i j => .int (i * j)) (tC (.int 2)) (tVar 3))) (gName 3))
      tNext)
    (tSeq (tAsg (tOp (rI (fun _ j => 0 < j) fun i j => .int (i % j)) (tCB (rInt) (tCons (tOp (rI CMul fun i j => .int (i * j)) (tOp (rPlus K) (tOp (rPlus K) (tVar 3) (tOp (rI CMul fun i j => .int (i * j)) (tOp (rIxA K) (tVar 0) (tC (.int 0))) (tC (.int 7919)))) (tC (.int 1))) (tC (.int 48271))) tNil)) (tC (.int 2147483647))) (gName 4))
    (tSeq (tAsg (tOp (rI (fun _ j => 0 < j) fun i j => .int (i % j)) (tCB (rInt) (tCons (tOp (rPlus K) (tOp (rI CMul fun i j => .int (i * j)) (tVar 4) (tC (.int 69621))) (tOp (rI CMul fun i j => .int (i * j)) (tOp (rIxA K) (tVar 0) (tC (.int 0))) (tC (.int 104729)))) tNil)) (tC (.int 4294967291))) (gSub (tVar 0) (tC (.int 1)) rSetL))
    (tSeq (tIfS (tAnd (tTest (tOp (rI0 fun i j => .bl (decide (j ≤ i))) (tVar 3) (tOp (rI CPow fun i j => .int (i ^ j.toNat)) (tC (.int 10)) (tC (.int 18))))) (tTest (tOp (rI0 fun i j => .bl (decide (i < j))) (tOp (rIxA K) (tVar 0) (tC (.int 0))) (tCB (Pu.rLen K) (tCons (tVar 1) tNil)))))
      (tAsg (tVar 3) (gSub (tVar 0) (tC (.int 1)) rSetL))
      tNext)
    (tAsg (tOp (rPlus K) (tOp (rIxA K) (tVar 0) (tC (.int 0))) (tC (.int 1))) (gSub (tVar 0) (tC (.int 0)) rSetL))))))))
      tNext)
    (tSeq (tAsg (tOp (rI (fun _ j => 0 < j) fun i j => .int (i % j)) (tCB (rInt) (tCons (tOp (rIxA K) (tVar 0) (tC (.int 1))) tNil)) (tVar 2)) (gName 5))
    (tSeq (tAsg (tOp (rI CDiv fun i j => .int (i / j)) (tOp (rIxA K) (tVar 0) (tC (.int 1))) (tVar 2)) (gSub (tVar 0) (tC (.int 1)) rSetL))
    (tRet (tVar 5)))))
/-- _law_pick: slots state 0, script 1, items 2 -/
abbrev N_l_pick : List Str := ["state", "script", "items"]
def T_l_pick (K : PySem.W.Frag) (R_l_draw : Stt → List D → (D → Stt → Prop) → Prop) : TS :=
    (tRet (tOp (rIxA K) (tVar 2) (tCall (spS R_l_draw) [] E0 (tCons (tVar 0) (tCons (tVar 1) (tCons (tCB (Pu.rLen K) (tCons (tVar 2) tNil)) tNil))))))
/-- _law_way: slots one 0, other 1 -/
abbrev N_l_way : List Str := ["one", "other"]
def T_l_way (K : PySem.W.Frag) : TS :=
    (tRet (tOp (rPlus K) (tCB (rAbs) (tCons (tOp (rI0 fun i j => .int (i - j)) (tOp (rIxA K) (tVar 0) (tC (.int 0))) (tOp (rIxA K) (tVar 1) (tC (.int 0)))) tNil)) (tCB (rAbs) (tCons (tOp (rI0 fun i j => .int (i - j)) (tOp (rIxA K) (tVar 0) (tC (.int 1))) (tOp (rIxA K) (tVar 1) (tC (.int 1)))) tNil))))
/-- _law_problem: slots spots 0, racks 1, reach 2, demands 3, rack 4, k 5; own: demands -/
abbrev N_l_problem : List Str := ["spots", "racks", "reach", "demands", "rack", "k"]
def T_l_problem (K : PySem.W.Frag) (R_l_way : List D → (D → Prop) → Prop) : TS :=
    (tSeq (tAsg (tLst tNil) (gName 3))
    (tSeq (tFor (iList K (tVar 1)) (gName 4)
      (tDrop (tBM K "list" rAppend (tVar 3) (tCons (tLc (iRng1 (tCons (tCB (Pu.rLen K) (tCons (tVar 0) tNil)) tNil)) (gName 5) (tTest (tOp (rI0 fun i j => .bl (decide (i ≤ j))) (tCall (spP R_l_way) [] E0 (tCons (tOp (rIxA K) (tVar 0) (tVar 5)) (tCons (tVar 4) tNil))) (tVar 2))) (tVar 5) [5]) tNil))))
    (tRet (tTup (tCons (tOp (rRepR) (tLst (tCons (tC (.int 1)) tNil)) (tCB (Pu.rLen K) (tCons (tVar 0) tNil))) (tCons (tVar 3) tNil))))))
/-- _law_fault: slots spots 0, racks 1, reach 2, told 3, problem 4, bare 5, k 6 -/
abbrev N_l_fault : List Str := ["spots", "racks", "reach", "told", "problem", "bare", "k"]
def T_l_fault (K : PySem.W.Frag) (R_l_problem : List D → (D → Prop) → Prop) (R_cover_fault : List D → (D → Prop) → Prop) : TS :=
    (tSeq (tAsg (tCall (spP R_l_problem) [] E0 (tCons (tVar 0) (tCons (tVar 1) (tCons (tVar 2) tNil)))) (gName 4))
    (tSeq (tAsg (tLc (iRng1 (tCons (tCB (Pu.rLen K) (tCons (tVar 1) tNil)) tNil)) (gName 6) (tTest (tOp (rEqP K) (tOp (rIxA K) (tOp (rIxA K) (tVar 4) (tC (.int 1))) (tVar 6)) (tLst tNil))) (tVar 6) [6]) (gName 5))
    (tSeq (tIfS (tTest (tOp (rEqP K) (tOp (rIxA K) (tVar 3) (tC (.int 0))) (tC (.str "far"))))
      (tRet (tOp (rIxA K) (tLst (tCons (tTup (tCons (tC (.str "far")) tNil)) (tCons (tC .non) tNil))) (tCB (rInt) (tCons (tOp (rInP K) (tOp (rIxA K) (tVar 3) (tC (.int 1))) (tVar 5)) tNil))))
      tNext)
    (tSeq (tIfS (tTest (tOp (rNeP K) (tVar 5) (tLst tNil)))
      (tRet (tTup (tCons (tC (.str "rack")) (tCons (tOp (rIxA K) (tVar 5) (tC (.int 0))) tNil))))
      tNext)
    (tRet (tCall (spP R_cover_fault) [] E0 (tCons (tVar 4) (tCons (tTup (tCons (tC (.str "least")) (tCons (tOp (rIxA K) (tVar 3) (tC (.int 1))) (tCons (tCB (Pu.rLen K) (tCons (tOp (rIxA K) (tVar 3) (tC (.int 1))) tNil)) (tCons (tOp (rIxA K) (tVar 3) (tC (.int 2))) tNil))))) tNil))))))))
/-- _law_least: slots spots 0, racks 1, reach 2, sets 3, k 4, row 5, demands 6, fits 7, demand 8 -/
abbrev N_l_least : List Str := ["spots", "racks", "reach", "sets", "k", "row", "demands", "fits", "demand"]
def T_l_least (K : PySem.W.Frag) (R_l_problem : List D → (D → Prop) → Prop) : TS :=
    (tSeq (tAsg (tLst (tCons (tLst tNil) tNil)) (gName 3))
    (tSeq (tFor (iRng1 (tCons (tCB (Pu.rLen K) (tCons (tVar 0) tNil)) tNil)) (gName 4)
      (tAsg (tOp (rPlus K) (tVar 3) (tLc (iList K (tVar 3)) (gName 5) tYes (tOp (rPlus K) (tVar 5) (tLst (tCons (tVar 4) tNil))) [5])) (gName 3)))
    (tSeq (tAsg (tOp (rIxA K) (tCall (spP R_l_problem) [] E0 (tCons (tVar 0) (tCons (tVar 1) (tCons (tVar 2) tNil)))) (tC (.int 1))) (gName 6))
    (tSeq (tAsg (tLc (iList K (tVar 3)) (gName 5) (tTest (tOp (rEqP K) (tCB (Pu.rLen K) (tCons (tLc (iList K (tVar 6)) (gName 8) (tTest (tOp (rEqP K) (tCB (Pu.rLen K) (tCons (tLc (iList K (tVar 8)) (gName 4) (tTest (tOp (rInP K) (tVar 4) (tVar 5))) (tVar 4) [4]) tNil)) (tC (.int 0)))) (tVar 8) [8]) tNil)) (tC (.int 0)))) (tCB (Pu.rLen K) (tCons (tVar 5) tNil)) [5]) (gName 7))
    (tRet (tCB (rMnD K) (tCons (tOp (rPlus K) (tVar 7) (tLst (tCons (tC (.int 99)) tNil))) tNil)))))))
/-- _law_reaches: slots spots 0, racks 1, found 2, spot 3, rack 4, number 5 -/
abbrev N_l_reaches : List Str := ["spots", "racks", "found", "spot", "rack", "number"]
def T_l_reaches (K : PySem.W.Frag) (R_l_way : List D → (D → Prop) → Prop) : TS :=
    (tSeq (tAsg (tLst tNil) (gName 2))
    (tSeq (tFor (iList K (tVar 0)) (gName 3)
      (tAsg (tOp (rPlus K) (tVar 2) (tLc (iList K (tVar 1)) (gName 4) tYes (tCall (spP R_l_way) [] E0 (tCons (tVar 3) (tCons (tVar 4) tNil))) [4])) (gName 2)))
    (tRet (tLc (iRng1 (tCons (tC (.int 40)) tNil)) (gName 5) (tTest (tOp (rInP K) (tVar 5) (tVar 2))) (tVar 5) [5]))))
/-- _law_reach_fault: slots spots 0, racks 1, count 2, told 3, reach 4, here 5, why 6, rows 7, less 8 -/
abbrev N_l_reach_fault : List Str := ["spots", "racks", "count", "told", "reach", "here", "why", "rows", "less"]
def T_l_reach_fault (K : PySem.W.Frag) (R_l_reaches : List D → (D → Prop) → Prop) (R_l_fault : List D → (D → Prop) → Prop) : TS :=
    (tSeq (tAsg (tVar 3) (gTup K 3 (gCons (gName 4) (gCons (gName 5) (gCons (gName 6) gNil)))))
    (tSeq (tAsg (tCall (spP R_l_reaches) [] E0 (tCons (tVar 0) (tCons (tVar 1) tNil))) (gName 7))
    (tSeq (tIfS (tTest (tOp (rNinP K) (tVar 4) (tVar 7)))
      (tRet (tTup (tCons (tC (.str "reach")) tNil)))
      tNext)
    (tSeq (tIfS (tOr (tTest (tOp (rNeP K) (tOp (rIxA K) (tVar 5) (tC (.int 0))) (tC (.str "spots")))) (tOr (tTest (tOp (rI0 fun i j => .bl (decide (j < i))) (tCB (Pu.rLen K) (tCons (tOp (rIxA K) (tVar 5) (tC (.int 1))) tNil)) (tVar 2))) (tTest (tOp (rIsnt) (tCall (spP R_l_fault) [] E0 (tCons (tVar 0) (tCons (tVar 1) (tCons (tVar 4) (tCons (tVar 5) tNil))))) (tC .non)))))
      (tRet (tTup (tCons (tC (.str "spots")) tNil)))
      tNext)
    (tSeq (tIfS (tTest (tOp (rEqP K) (tVar 4) (tOp (rIxA K) (tVar 7) (tC (.int 0)))))
      (tRet (tOp (rIxA K) (tLst (tCons (tTup (tCons (tC (.str "why")) tNil)) (tCons (tC .non) tNil))) (tCB (rInt) (tCons (tOp (rIs) (tVar 6) (tC .non)) tNil))))
      tNext)
    (tSeq (tIfS (tOr (tTest (tOp (rIs) (tVar 6) (tC .non))) (tAnd (tTest (tOp (rEqP K) (tOp (rIxA K) (tVar 6) (tC (.int 0))) (tC (.str "spots")))) (tTest (tOp (rI0 fun i j => .bl (decide (i ≤ j))) (tCB (Pu.rLen K) (tCons (tOp (rIxA K) (tVar 6) (tC (.int 1))) tNil)) (tVar 2)))))
      (tRet (tTup (tCons (tC (.str "why")) tNil)))
      tNext)
    (tSeq (tAsg (tOp (rIxA K) (tVar 7) (tOp (rI0 fun i j => .int (i - j)) (tBM K "list" (rIndexD K) (tVar 7) (tCons (tVar 4) tNil)) (tC (.int 1)))) (gName 8))
    (tRet (tOp (rIxA K) (tLst (tCons (tTup (tCons (tC (.str "why")) tNil)) (tCons (tC .non) tNil))) (tCB (rInt) (tCons (tOp (rIs) (tCall (spP R_l_fault) [] E0 (tCons (tVar 0) (tCons (tVar 1) (tCons (tVar 8) (tCons (tVar 6) tNil))))) (tC .non)) tNil)))))))))))
/-- law: slots script 0, state 1, spots 2, _ 3, racks 4, kept 5, reach 6, least 7, told 8, bents 9, bent 10, count 11, rows 12, fits 13, number 14, best 15, chosen 16, k 17, near 18, rack 19, ways 20, sums 21, x 22, y 23; own: near -/
abbrev N_law : List Str := ["script", "state", "spots", "_", "racks", "kept", "reach", "least", "told", "bents", "bent", "count", "rows", "fits", "number", "best", "chosen", "k", "near", "rack", "ways", "sums", "x", "y"]
def T_law (K : PySem.W.Frag) (R_l_draw : Stt → List D → (D → Stt → Prop) → Prop) (R_l_least : List D → (D → Prop) → Prop) (R_fewest_spots : List D → (D → Prop) → Prop) (R_l_reaches : List D → (D → Prop) → Prop) (R_least_reach : List D → (D → Prop) → Prop) (R_nearest_spots : List D → (D → Prop) → Prop) (R_l_fault : List D → (D → Prop) → Prop) (R_fewest_spots_fault : List D → (D → Prop) → Prop) (R_l_reach_fault : List D → (D → Prop) → Prop) (R_least_reach_fault : List D → (D → Prop) → Prop) (R_l_way : List D → (D → Prop) → Prop) (R_middle_spot : List D → (D → Prop) → Prop) : TS :=
    (tSeq (tAsg (tLst (tCons (tC (.int 0)) (tCons (tC (.int 0)) tNil))) (gName 1))
    (tSeq (tAsg (tLc (iRng1 (tCons (tOp (rPlus K) (tC (.int 1)) (tCall (spS R_l_draw) [] E0 (tCons (tVar 1) (tCons (tVar 0) (tCons (tC (.int 5)) tNil))))) tNil)) (gName 3) tYes (tTup (tCons (tCall (spS R_l_draw) [] E0 (tCons (tVar 1) (tCons (tVar 0) (tCons (tC (.int 10)) tNil)))) (tCons (tCall (spS R_l_draw) [] E0 (tCons (tVar 1) (tCons (tVar 0) (tCons (tC (.int 10)) tNil)))) tNil))) [3]) (gName 2))
    (tSeq (tAsg (tLc (iRng1 (tCons (tOp (rPlus K) (tC (.int 1)) (tCall (spS R_l_draw) [] E0 (tCons (tVar 1) (tCons (tVar 0) (tCons (tC (.int 5)) tNil))))) tNil)) (gName 3) tYes (tTup (tCons (tCall (spS R_l_draw) [] E0 (tCons (tVar 1) (tCons (tVar 0) (tCons (tC (.int 10)) tNil)))) (tCons (tCall (spS R_l_draw) [] E0 (tCons (tVar 1) (tCons (tVar 0) (tCons (tC (.int 10)) tNil)))) tNil))) [3]) (gName 4))
    (tSeq (tAsg (tCB (rRepr K) (tCons (tLst (tCons (tVar 2) (tCons (tVar 4) tNil))) tNil)) (gName 5))
    (tSeq (tAsg (tCall (spS R_l_draw) [] E0 (tCons (tVar 1) (tCons (tVar 0) (tCons (tC (.int 12)) tNil)))) (gName 6))
    (tSeq (tAsg (tCall (spP R_l_least) [] E0 (tCons (tVar 2) (tCons (tVar 4) (tCons (tVar 6) tNil)))) (gName 7))
    (tSeq (tAsg (tCall (spP R_fewest_spots) [] E0 (tCons (tVar 2) (tCons (tVar 4) (tCons (tVar 6) tNil)))) (gName 8))
    (tSeq (tIfS (tOr (tTest (tOp (rNeP K) (tOp (rIxA K) (tVar 8) (tC (.int 0))) (tOp (rIxA K) (tLst (tCons (tC (.str "spots")) (tCons (tC (.str "far")) tNil))) (tCB (rInt) (tCons (tOp (rEqP K) (tVar 7) (tC (.int 99))) tNil))))) (tAnd (tTest (tOp (rEqP K) (tOp (rIxA K) (tVar 8) (tC (.int 0))) (tC (.str "spots")))) (tTest (tOp (rNeP K) (tCB (Pu.rLen K) (tCons (tOp (rIxA K) (tVar 8) (tC (.int 1))) tNil)) (tVar 7)))))
      (tRet (tC (.bl false)))
      tNext)
    (tSeq (tIfS (tOr (tTest (tOp (rIsnt) (tCall (spP R_l_fault) [] E0 (tCons (tVar 2) (tCons (tVar 4) (tCons (tVar 6) (tCons (tVar 8) tNil))))) (tC .non))) (tTest (tOp (rIsnt) (tCall (spP R_fewest_spots_fault) [] E0 (tCons (tVar 2) (tCons (tVar 4) (tCons (tVar 6) (tCons (tVar 8) tNil))))) (tC .non))))
      (tRet (tC (.bl false)))
      tNext)
    (tSeq (tIfS (tTest (tOp (rEqP K) (tOp (rIxA K) (tVar 8) (tC (.int 0))) (tC (.str "spots"))))
      (tAsg (tLst (tCons (tTup (tCons (tC (.str "spots")) (tCons (tSl (rSl K) (tOp (rIxA K) (tVar 8) (tC (.int 1))) (tPart (tC (.int 1))) tNoPart) (tCons (tOp (rIxA K) (tVar 8) (tC (.int 2))) tNil)))) (tCons (tTup (tCons (tC (.str "spots")) (tCons (tLstRg (tRg1 (tCB (Pu.rLen K) (tCons (tVar 2) tNil)))) (tCons (tOp (rIxA K) (tVar 8) (tC (.int 2))) tNil)))) (tCons (tTup (tCons (tC (.str "far")) (tCons (tC (.int 0)) tNil))) (tCons (tTup (tCons (tC (.str "spots")) (tCons (tOp (rIxA K) (tVar 8) (tC (.int 1))) (tCons (tTup (tCons (tC (.str "blocked")) (tCons (tC (.int 0)) tNil))) tNil)))) tNil))))) (gName 9))
      (tAsg (tLst (tCons (tTup (tCons (tC (.str "far")) (tCons (tOp (rPlus K) (tOp (rIxA K) (tVar 8) (tC (.int 1))) (tC (.int 1))) tNil))) (tCons (tTup (tCons (tC (.str "far")) (tCons (tC (.int 9)) tNil))) (tCons (tTup (tCons (tC (.str "spots")) (tCons (tLst (tCons (tC (.int 0)) tNil)) (tCons (tTup (tCons (tC (.str "blocked")) (tCons (tC (.int 0)) tNil))) tNil)))) tNil)))) (gName 9)))
    (tSeq (tFor (iList K (tVar 9)) (gName 10)
      (tIfS (tTest (tOp (rNeP K) (tCB (rRepr K) (tCons (tCall (spP R_fewest_spots_fault) [] E0 (tCons (tVar 2) (tCons (tVar 4) (tCons (tVar 6) (tCons (tVar 10) tNil))))) tNil)) (tCB (rRepr K) (tCons (tCall (spP R_l_fault) [] E0 (tCons (tVar 2) (tCons (tVar 4) (tCons (tVar 6) (tCons (tVar 10) tNil))))) tNil))))
      (tRet (tC (.bl false)))
      tNext))
    (tSeq (tAsg (tOp (rPlus K) (tC (.int 1)) (tCall (spS R_l_draw) [] E0 (tCons (tVar 1) (tCons (tVar 0) (tCons (tC (.int 3)) tNil))))) (gName 11))
    (tSeq (tAsg (tCall (spP R_l_reaches) [] E0 (tCons (tVar 2) (tCons (tVar 4) tNil))) (gName 12))
    (tSeq (tAsg (tLc (iList K (tVar 12)) (gName 14) (tTest (tOp (rI0 fun i j => .bl (decide (i ≤ j))) (tCall (spP R_l_least) [] E0 (tCons (tVar 2) (tCons (tVar 4) (tCons (tVar 14) tNil)))) (tVar 11))) (tVar 14) [14]) (gName 13))
    (tSeq (tAsg (tCall (spP R_least_reach) [] E0 (tCons (tVar 2) (tCons (tVar 4) (tCons (tVar 11) tNil)))) (gName 15))
    (tSeq (tIfS (tOr (tTest (tOp (rNeP K) (tOp (rIxA K) (tVar 15) (tC (.int 0))) (tOp (rIxA K) (tVar 13) (tC (.int 0))))) (tOr (tTest (tOp (rIsnt) (tCall (spP R_l_reach_fault) [] E0 (tCons (tVar 2) (tCons (tVar 4) (tCons (tVar 11) (tCons (tVar 15) tNil))))) (tC .non))) (tTest (tOp (rIsnt) (tCall (spP R_least_reach_fault) [] E0 (tCons (tVar 2) (tCons (tVar 4) (tCons (tVar 11) (tCons (tVar 15) tNil))))) (tC .non)))))
      (tRet (tC (.bl false)))
      tNext)
    (tSeq (tAsg (tLst (tCons (tOp (rPlus K) (tTup (tCons (tOp (rPlus K) (tOp (rIxA K) (tVar 15) (tC (.int 0))) (tC (.int 1))) tNil)) (tSl (rSl K) (tVar 15) (tPart (tC (.int 1))) tNoPart)) (tCons (tTup (tCons (tOp (rIxA K) (tVar 15) (tC (.int 0))) (tCons (tOp (rIxA K) (tVar 15) (tC (.int 1))) (tCons (tC .non) tNil)))) (tCons (tTup (tCons (tOp (rIxA K) (tVar 15) (tC (.int 0))) (tCons (tVar 8) (tCons (tOp (rIxA K) (tVar 15) (tC (.int 2))) tNil)))) (tCons (tTup (tCons (tOp (rIxA K) (tVar 15) (tC (.int 0))) (tCons (tOp (rIxA K) (tVar 15) (tC (.int 1))) (tCons (tOp (rIxA K) (tVar 15) (tC (.int 1))) tNil)))) (tCons (tTup (tCons (tC (.int 99)) (tCons (tOp (rIxA K) (tVar 15) (tC (.int 1))) (tCons (tOp (rIxA K) (tVar 15) (tC (.int 2))) tNil)))) (tCons (tTup (tCons (tOp (rIxA K) (tVar 15) (tC (.int 0))) (tCons (tOp (rIxA K) (tVar 15) (tC (.int 1))) (tCons (tTup (tCons (tC (.str "far")) (tCons (tC (.int 0)) tNil))) tNil)))) tNil))))))) (gName 9))
    (tSeq (tFor (iList K (tVar 9)) (gName 10)
      (tIfS (tTest (tOp (rNeP K) (tCB (rRepr K) (tCons (tCall (spP R_least_reach_fault) [] E0 (tCons (tVar 2) (tCons (tVar 4) (tCons (tVar 11) (tCons (tVar 10) tNil))))) tNil)) (tCB (rRepr K) (tCons (tCall (spP R_l_reach_fault) [] E0 (tCons (tVar 2) (tCons (tVar 4) (tCons (tVar 11) (tCons (tVar 10) tNil))))) tNil))))
      (tRet (tC (.bl false)))
      tNext))
    (tSeq (tAsg (tOrT K (tLc (iRng1 (tCons (tCB (Pu.rLen K) (tCons (tVar 2) tNil)) tNil)) (gName 17) (tTest (tOp (rEqP K) (tCall (spS R_l_draw) [] E0 (tCons (tVar 1) (tCons (tVar 0) (tCons (tC (.int 2)) tNil)))) (tC (.int 0)))) (tVar 17) [17]) (tLst (tCons (tC (.int 0)) tNil))) (gName 16))
    (tSeq (tAsg (tLst tNil) (gName 18))
    (tSeq (tFor (iList K (tVar 4)) (gName 19)
      (tSeq (tAsg (tLc (iList K (tVar 16)) (gName 17) tYes (tCall (spP R_l_way) [] E0 (tCons (tOp (rIxA K) (tVar 2) (tVar 17)) (tCons (tVar 19) tNil))) [17]) (gName 20))
    (tDrop (tBM K "list" rAppend (tVar 18) (tCons (tOp (rIxA K) (tVar 16) (tBM K "list" (rIndexD K) (tVar 20) (tCons (tCB (rMnD K) (tCons (tVar 20) tNil)) tNil))) tNil)))))
    (tSeq (tIfS (tTest (tOp (rNeP K) (tCall (spP R_nearest_spots) [] E0 (tCons (tVar 2) (tCons (tVar 4) (tCons (tVar 16) tNil)))) (tVar 18)))
      (tRet (tC (.bl false)))
      tNext)
    (tSeq (tAsg (tLst tNil) (gName 21))
    (tSeq (tFor (iRng1 (tCons (tC (.int 10)) tNil)) (gName 22)
      (tAsg (tOp (rPlus K) (tVar 21) (tLc (iRng1 (tCons (tC (.int 10)) tNil)) (gName 23) tYes (tTup (tCons (tCB (rSum K) (tCons (tLc (iList K (tVar 4)) (gName 19) tYes (tCall (spP R_l_way) [] E0 (tCons (tTup (tCons (tVar 22) (tCons (tVar 23) tNil))) (tCons (tVar 19) tNil))) [19]) tNil)) (tCons (tTup (tCons (tVar 22) (tCons (tVar 23) tNil))) tNil))) [23])) (gName 21)))
    (tRet (tAndV (tOp (rEqP K) (tCall (spP R_middle_spot) [] E0 (tCons (tVar 4) tNil)) (tTup (tCons (tOp (rIxA K) (tCB (rMnD K) (tCons (tVar 21) tNil)) (tC (.int 1))) (tCons (tOp (rIxA K) (tCB (rMnD K) (tCons (tVar 21) tNil)) (tC (.int 0))) tNil)))) (tOp (rEqP K) (tCB (rRepr K) (tCons (tLst (tCons (tVar 2) (tCons (tVar 4) tNil))) tNil)) (tVar 5))))))))))))))))))))))))))))
/-- Cover.__init__: slots self 0, problem 1 -/
abbrev N_Cover_init : List Str := ["self", "problem"]
def T_Cover_init (K : PySem.W.Frag) (C_Cover : Addr) : TS :=
    (tSeq (sFldC C_Cover (tVar 0) (tVar 1) "problem")
    (tSeq (sFldC C_Cover (tVar 0) (tC .non) "best")
    (sFldC C_Cover (tVar 0) (tC .non) "cost")))
/-- Cover.go: slots self 0, taken 1, left 2, rows 3, bound 4, at 5, option 6, ahead 7 -/
abbrev N_Cover_go : List Str := ["self", "taken", "left", "rows", "bound", "at", "option", "ahead"]
def T_Cover_go (K : PySem.W.Frag) (C_Cover : Addr) (R_laid : List D → (D → Prop) → Prop) (R_first_open : List D → (D → Prop) → Prop) (R_Cover_go : Stt → List D → (D → Stt → Prop) → Prop) : TS :=
    (tSeq (tAsg (tCall (spP R_laid) [] E0 (tCons (tFldC C_Cover (tVar 0) "problem") (tCons (tVar 1) (tCons (tVar 2) tNil)))) (gTup K 2 (gCons (gName 3) (gCons (gName 4) gNil))))
    (tSeq (tIfS (tAnd (tTest (tOp (rIsnt) (tFldC C_Cover (tVar 0) "cost") (tC .non))) (tTest (tOp (rI0 fun i j => .bl (decide (j ≤ i))) (tVar 4) (tFldC C_Cover (tVar 0) "cost"))))
      tRetN
      tNext)
    (tSeq (tAsg (tCall (spP R_first_open) [] E0 (tCons (tFldC C_Cover (tVar 0) "problem") (tCons (tVar 1) (tCons (tVar 2) tNil)))) (gName 5))
    (tSeq (tIfS (tTest (tOp (rIs) (tVar 5) (tC .non)))
      (tSeq (sFldC C_Cover (tVar 0) (tCB (rSrD K) (tCons (tVar 1) tNil)) "best")
    (tSeq (sFldC C_Cover (tVar 0) (tCB (rSum K) (tCons (tLc (iList K (tVar 1)) (gName 6) tYes (tOp (rIxA K) (tOp (rIxA K) (tFldC C_Cover (tVar 0) "problem") (tC (.int 0))) (tVar 6)) [6]) tNil)) "cost")
    tRetN))
      tNext)
    (tSeq (tAsg (tLst tNil) (gName 7))
    (tFor (iList K (tOp (rIxA K) (tOp (rIxA K) (tFldC C_Cover (tVar 0) "problem") (tC (.int 1))) (tVar 5))) (gName 6)
      (tIfS (tTest (tOp (rNinP K) (tVar 6) (tVar 2)))
      (tSeq (tDrop (tMeth C_Cover "go" (spS R_Cover_go) [] E0 (tVar 0) (tCons (tOp (rPlus K) (tVar 1) (tLst (tCons (tVar 6) tNil))) (tCons (tOp (rPlus K) (tVar 2) (tVar 7)) tNil))))
    (tAsg (tOp (rPlus K) (tVar 7) (tLst (tCons (tVar 6) tNil))) (gName 7)))
      tNext)))))))
/-- Cover.prove: slots self 0, taken 1, left 2, at 3, demand 4, option 5, rows 6, bound 7, trees 8, ahead 9; own: trees -/
abbrev N_Cover_prove : List Str := ["self", "taken", "left", "at", "demand", "option", "rows", "bound", "trees", "ahead"]
def T_Cover_prove (K : PySem.W.Frag) (C_Cover : Addr) (R_laid : List D → (D → Prop) → Prop) (R_first_open : List D → (D → Prop) → Prop) (R_Cover_prove : Stt → List D → (D → Stt → Prop) → Prop) (R_met : List D → (D → Prop) → Prop) : TS :=
    (tSeq (tFor (iEnum K (tCons (tOp (rIxA K) (tFldC C_Cover (tVar 0) "problem") (tC (.int 1))) tNil)) (gTup K 2 (gCons (gName 3) (gCons (gName 4) gNil)))
      (tIfS (tAnd (tNot (tB (tCall (spP R_met) [] E0 (tCons (tVar 4) (tCons (tVar 1) tNil))))) (tB (tCB (rAllB K) (tCons (tLc (iList K (tVar 4)) (gName 5) tYes (tOp (rInP K) (tVar 5) (tVar 2)) [5]) tNil))))
      (tRet (tTup (tCons (tC (.str "blocked")) (tCons (tVar 3) tNil))))
      tNext))
    (tSeq (tAsg (tCall (spP R_laid) [] E0 (tCons (tFldC C_Cover (tVar 0) "problem") (tCons (tVar 1) (tCons (tVar 2) tNil)))) (gTup K 2 (gCons (gName 6) (gCons (gName 7) gNil))))
    (tSeq (tIfS (tAnd (tTest (tOp (rIsnt) (tFldC C_Cover (tVar 0) "cost") (tC .non))) (tTest (tOp (rI0 fun i j => .bl (decide (j ≤ i))) (tVar 7) (tFldC C_Cover (tVar 0) "cost"))))
      (tRet (tTup (tCons (tC (.str "shares")) (tCons (tVar 6) tNil))))
      tNext)
    (tSeq (tAsg (tCall (spP R_first_open) [] E0 (tCons (tFldC C_Cover (tVar 0) "problem") (tCons (tVar 1) (tCons (tVar 2) tNil)))) (gName 3))
    (tSeq (tAsg (tLst tNil) (gName 8))
    (tSeq (tAsg (tLst tNil) (gName 9))
    (tSeq (tFor (iList K (tOp (rIxA K) (tOp (rIxA K) (tFldC C_Cover (tVar 0) "problem") (tC (.int 1))) (tVar 3))) (gName 5)
      (tIfS (tTest (tOp (rNinP K) (tVar 5) (tVar 2)))
      (tSeq (tDrop (tBM K "list" rAppend (tVar 8) (tCons (tMeth C_Cover "prove" (spS R_Cover_prove) [] E0 (tVar 0) (tCons (tOp (rPlus K) (tVar 1) (tLst (tCons (tVar 5) tNil))) (tCons (tOp (rPlus K) (tVar 2) (tVar 9)) tNil))) tNil)))
    (tAsg (tOp (rPlus K) (tVar 9) (tLst (tCons (tVar 5) tNil))) (gName 9)))
      tNext))
    (tRet (tTup (tCons (tC (.str "split")) (tCons (tVar 3) (tCons (tVar 8) tNil))))))))))))
end Law_k41
namespace Law_k41
open Pu
/-! the cheapest options -/
abbrev Pr := Int × Int
def cst (cs : List Int) (o : Nat) : Int := cs.getD o 0
def costT (cs : List Int) (t : List Nat) : Int := (t.map (cst cs)).sum
def metB (d t : List Nat) : Bool := d.any fun o => decide (o ∈ t)
def opn (d l : List Nat) : List Nat := d.filter fun o => decide (o ∉ l)
def dAt (ds : List (List Nat)) (k : Nat) : List Nat := ds.getD k []
structure Pb (cs : List Int) (ds : List (List Nat)) : Prop where
  c0 : ∀ c ∈ cs, 0 ≤ c
  asc : ∀ d ∈ ds, d.Pairwise (· < ·)
  lt : ∀ d ∈ ds, ∀ o ∈ d, o < cs.length
theorem cst_nn {cs : List Int} (h : ∀ c ∈ cs, 0 ≤ c) (o : Nat) : 0 ≤ cst cs o := by
  unfold cst
  rw [List.getD_eq_getElem?_getD]
  cases e : cs[o]? with
  | none => simp
  | some c => exact h c (List.mem_of_getElem? e)
theorem met_iff {d t : List Nat} : metB d t = true ↔ ∃ o ∈ d, o ∈ t := by unfold metB; simp
theorem opn_mem {d l : List Nat} {o : Nat} : o ∈ opn d l ↔ o ∈ d ∧ o ∉ l := by unfold opn; simp
theorem dAt_mem {ds : List (List Nat)} {k : Nat} (h : k < ds.length) : dAt ds k ∈ ds := by
  unfold dAt
  rw [List.getD_eq_getElem?_getD, List.getElem?_eq_getElem h]
  exact List.getElem_mem h
/-! shares -/
structure LS where
  rest : List Int
  rows : List Rw
  tot : Int
def takeO (rest : List Int) (os : List Nat) (z : Int) : List Int := os.foldl (fun r o => r.set o (r.getD o 0 - z)) rest
def sizeO (rest : List Int) (os : List Nat) : Int := foldMin (os.map fun o => rest.getD o 0)
def lStep (t l : List Nat) (s : LS) (k : Nat) (d : List Nat) : LS :=
  if metB d t = false ∧ opn d l ≠ [] then
    (if 0 < sizeO s.rest (opn d l) then ⟨takeO s.rest (opn d l) (sizeO s.rest (opn d l)), s.rows ++ (opn d l).map fun o : Nat => ((k : Int), (o : Int), sizeO s.rest (opn d l)), s.tot + sizeO s.rest (opn d l)⟩
     else ⟨s.rest, s.rows, s.tot + sizeO s.rest (opn d l)⟩)
  else s
def laidK (cs : List Int) (ds : List (List Nat)) (t l : List Nat) : Nat → LS
  | 0 => ⟨cs, [], costT cs t⟩
  | k + 1 => lStep t l (laidK cs ds t l k) k (dAt ds k)
def laidF (cs : List Int) (ds : List (List Nat)) (t l : List Nat) : LS := laidK cs ds t l ds.length
theorem set_getD {xs : List Int} {i j : Nat} {v : Int} (h : i < xs.length) : (xs.set i v).getD j 0 = if j = i then v else xs.getD j 0 := by
  rw [List.getD_eq_getElem?_getD, List.getD_eq_getElem?_getD, List.getElem?_set]
  by_cases e : i = j
  · subst e; simp [h]
  · have : ¬ j = i := fun z => e z.symm
    simp [e, this]
theorem take_ok : ∀ (os : List Nat) (rest : List Int) (z : Int), os.Nodup → (∀ o ∈ os, o < rest.length) → (takeO rest os z).length = rest.length ∧ ∀ j, (takeO rest os z).getD j 0 = rest.getD j 0 - if j ∈ os then z else 0
  | [], rest, z, _, _ => ⟨rfl, fun j => by simp [takeO]⟩
  | o :: os, rest, z, nd, h => by
    have nx := List.nodup_cons.mp nd
    have ho := h o (by simp)
    obtain ⟨a, b⟩ := take_ok os (rest.set o (rest.getD o 0 - z)) z nx.2 fun x hx => by rw [List.length_set]; exact h x (by simp [hx])
    have e : takeO rest (o :: os) z = takeO (rest.set o (rest.getD o 0 - z)) os z := rfl
    rw [e]
    refine ⟨by rw [a, List.length_set], fun j => ?_⟩
    rw [b j, set_getD ho]
    by_cases c : j = o
    · subst c
      simp [nx.1]
    · simp [c]
/-- what is known of a way of shares -/
structure Sat (cs : List Int) (ds : List (List Nat)) (t l : List Nat) (R : Nat → Bool) : Prop where
  sub : ∀ o ∈ t, R o = true
  no : ∀ o ∈ l, R o = false
  hit : ∀ d ∈ ds, ∃ o ∈ d, R o = true
structure Tk (cs : List Int) (t l : List Nat) : Prop where
  nd : t.Nodup
  lt : ∀ o ∈ t, o < cs.length
  dj : ∀ o ∈ t, o ∉ l
def sumS (n : Nat) (f : Nat → Int) (S : Nat → Bool) : Int := (((List.range n).filter S).map f).sum
def costR (cs : List Int) (R : Nat → Bool) : Int := sumS cs.length (cst cs) R
theorem sum_perm {xs ys : List Int} (h : xs.Perm ys) : xs.sum = ys.sum := by
  induction h with
  | nil => rfl
  | cons x _ ih => rw [List.sum_cons, List.sum_cons, ih]
  | swap x y l => simp only [List.sum_cons]; omega
  | trans _ _ a b => exact a.trans b
theorem sum_nn : ∀ {xs : List Int}, (∀ x ∈ xs, 0 ≤ x) → 0 ≤ xs.sum
  | [], _ => by simp
  | x :: xs, h => by
    have := sum_nn (xs := xs) fun y hy => h y (by simp [hy])
    have := h x (by simp)
    rw [List.sum_cons]; omega
theorem cost_split {cs : List Int} {t l : List Nat} (tk : Tk cs t l) {R : Nat → Bool} (sub : ∀ o ∈ t, R o = true) : costR cs R = costT cs t + sumS cs.length (cst cs) fun o => R o && decide (o ∉ t) := by
  have p : ((List.range cs.length).filter R).Perm (t ++ (List.range cs.length).filter fun o => R o && decide (o ∉ t)) := by
    refine (List.perm_ext_iff_of_nodup (List.nodup_range.filter _) ?_).mpr fun o => ?_
    · refine List.nodup_append.mpr ⟨tk.nd, List.nodup_range.filter _, fun a ha b hb e => ?_⟩
      subst e
      have := (List.mem_filter.mp hb).2
      simp [ha] at this
    · rw [List.mem_filter, List.mem_append, List.mem_filter, List.mem_range]
      by_cases h : o ∈ t
      · simp [h, tk.lt o h, sub o h]
      · simp [h]
  unfold costR sumS costT
  rw [sum_perm (p.map (cst cs)), List.map_append, List.sum_append]
theorem sum_less {f g : Nat → Int} {z : Int} (hz : 0 ≤ z) (hg : ∀ x, g x ≤ f x) {o : Nat} (ho : g o ≤ f o - z) : ∀ xs : List Nat, o ∈ xs → (xs.map g).sum ≤ (xs.map f).sum - z
  | x :: xs, h => by
    rw [List.map_cons, List.map_cons, List.sum_cons, List.sum_cons]
    have hx := hg x
    have all : (xs.map g).sum ≤ (xs.map f).sum := by
      clear h
      induction xs with
      | nil => simp
      | cons y ys ih =>
        have := hg y
        rw [List.map_cons, List.map_cons, List.sum_cons, List.sum_cons]; omega
    by_cases e : x = o
    · subst e; omega
    · have := sum_less hz hg ho xs ((List.mem_cons.mp h).resolve_left fun q => e q.symm)
      omega
structure LI (cs : List Int) (ds : List (List Nat)) (t l : List Nat) (k : Nat) (s : LS) : Prop where
  len : s.rest.length = cs.length
  nn : ∀ o, 0 ≤ s.rest.getD o 0
  low : ∀ R, Sat cs ds t l R → s.tot + sumS cs.length (fun o => s.rest.getD o 0) (fun o => R o && decide (o ∉ t)) ≤ costR cs R
theorem size_nn {rest : List Int} (h : ∀ o, 0 ≤ rest.getD o 0) {os : List Nat} (ne : os ≠ []) : 0 ≤ sizeO rest os ∧ ∀ o ∈ os, sizeO rest os ≤ rest.getD o 0 := by
  unfold sizeO
  have l : 0 < (os.map fun o => rest.getD o 0).length := by rw [List.length_map]; exact List.length_pos_iff.mpr ne
  refine ⟨?_, fun o ho => foldMin_le (List.mem_map.mpr ⟨o, ho, rfl⟩)⟩
  obtain ⟨o, _, e⟩ := List.mem_map.mp (foldMin_mem l)
  rw [← e]
  exact h o
theorem opn_nd {cs : List Int} {ds : List (List Nat)} (pb : Pb cs ds) {d : List Nat} (hd : d ∈ ds) (l : List Nat) : (opn d l).Nodup := ((pb.asc d hd).imp fun h => by omega : d.Nodup).filter _
theorem opn_asc {cs : List Int} {ds : List (List Nat)} (pb : Pb cs ds) {d : List Nat} (hd : d ∈ ds) (l : List Nat) : (opn d l).Pairwise (· < ·) := (pb.asc d hd).filter _
theorem step_rest {cs : List Int} {ds : List (List Nat)} (pb : Pb cs ds) {d : List Nat} (hd : d ∈ ds) {l : List Nat} {rest : List Int} (hl : rest.length = cs.length) (z : Int) : (takeO rest (opn d l) z).length = cs.length ∧ ∀ j, (takeO rest (opn d l) z).getD j 0 = rest.getD j 0 - if j ∈ opn d l then z else 0 := by
  obtain ⟨a, b⟩ := take_ok (opn d l) rest z (opn_nd pb hd l) fun o ho => by rw [hl]; exact pb.lt d hd o (opn_mem.mp ho).1
  exact ⟨by rw [a, hl], b⟩
theorem laid_inv {cs : List Int} {ds : List (List Nat)} (pb : Pb cs ds) {t l : List Nat} (tk : Tk cs t l) : ∀ k, k ≤ ds.length → LI cs ds t l k (laidK cs ds t l k)
  | 0, _ => ⟨rfl, cst_nn pb.c0, fun R hR => by
    rw [cost_split tk hR.sub]
    exact Int.le_refl _⟩
  | k + 1, hk => by
    have I := laid_inv pb tk k (by omega)
    have hd := dAt_mem (ds := ds) (k := k) (by omega)
    show LI cs ds t l (k + 1) (lStep t l (laidK cs ds t l k) k (dAt ds k))
    generalize laidK cs ds t l k = s at I
    unfold lStep
    split
    · rename_i h
      obtain ⟨z0, z1⟩ := size_nn I.nn h.2
      generalize sizeO s.rest (opn (dAt ds k) l) = z at z0 z1
      obtain ⟨r1, r2⟩ := step_rest pb hd (l := l) I.len z
      have low : ∀ R, Sat cs ds t l R → (s.tot + z) + sumS cs.length (fun o => s.rest.getD o 0 - if o ∈ opn (dAt ds k) l then z else 0) (fun o => R o && decide (o ∉ t)) ≤ costR cs R := fun R hR => by
        have old := I.low R hR
        obtain ⟨o, ho, hr⟩ := hR.hit _ hd
        have hot : o ∉ t := fun q => by
          have : metB (dAt ds k) t = true := met_iff.mpr ⟨o, ho, q⟩
          rw [h.1] at this; cases this
        have hol : o ∉ l := fun q => by have := hR.no o q; rw [hr] at this; cases this
        have hop := opn_mem.mpr ⟨ho, hol⟩
        have := sum_less (f := fun o => s.rest.getD o 0) (g := fun o => s.rest.getD o 0 - if o ∈ opn (dAt ds k) l then z else 0) z0 (fun x => by split <;> omega) (o := o) (by rw [if_pos hop]; exact Int.le_refl _) ((List.range cs.length).filter fun o => R o && decide (o ∉ t)) (List.mem_filter.mpr ⟨List.mem_range.mpr (pb.lt _ hd o ho), by simp [hr, hot]⟩)
        unfold sumS at old ⊢
        omega
      split
      · refine ⟨r1, fun o => ?_, fun R hR => ?_⟩
        · show 0 ≤ (takeO s.rest (opn (dAt ds k) l) z).getD o 0
          rw [r2 o]
          by_cases c : o ∈ opn (dAt ds k) l
          · have := z1 o c; rw [if_pos c]; omega
          · have := I.nn o; rw [if_neg c]; omega
        · have := low R hR
          show (s.tot + z) + sumS cs.length (fun o => (takeO s.rest (opn (dAt ds k) l) z).getD o 0) _ ≤ _
          rw [show (fun o => (takeO s.rest (opn (dAt ds k) l) z).getD o 0) = fun o => s.rest.getD o 0 - if o ∈ opn (dAt ds k) l then z else 0 from funext r2]
          exact this
      · rename_i hz
        have e : z = 0 := by omega
        subst e
        refine ⟨I.len, I.nn, fun R hR => ?_⟩
        have := I.low R hR
        simp only [Int.add_zero]
        exact this
    · exact ⟨I.len, I.nn, I.low⟩
theorem laid_low {cs : List Int} {ds : List (List Nat)} (pb : Pb cs ds) {t l : List Nat} (tk : Tk cs t l) {R : Nat → Bool} (h : Sat cs ds t l R) : (laidF cs ds t l).tot ≤ costR cs R := by
  have I := laid_inv pb tk ds.length (Nat.le_refl _)
  have := I.low R h
  have nn : 0 ≤ sumS cs.length (fun o => (laidK cs ds t l ds.length).rest.getD o 0) (fun o => R o && decide (o ∉ t)) := sum_nn fun x hx => by
    obtain ⟨o, _, rfl⟩ := List.mem_map.mp hx
    exact I.nn o
  unfold laidF
  omega
theorem laid_met {cs : List Int} {ds : List (List Nat)} {t l : List Nat} (h : ∀ d ∈ ds, metB d t = true) : ∀ k, k ≤ ds.length → laidK cs ds t l k = ⟨cs, [], costT cs t⟩
  | 0, _ => rfl
  | k + 1, hk => by
    have hd := h _ (dAt_mem (ds := ds) (k := k) (by omega))
    show lStep t l (laidK cs ds t l k) k (dAt ds k) = _
    rw [laid_met h k (by omega)]
    unfold lStep
    rw [if_neg (by rw [hd]; simp)]
/-! the first open demand -/
def foRows (ds : List (List Nat)) (t l : List Nat) (k : Nat) : List Pr := ((List.range k).filter fun j => !metB (dAt ds j) t).map fun j => (((opn (dAt ds j) l).length : Int), (j : Int))
def foS (ds : List (List Nat)) (t l : List Nat) : Option Nat := if (foRows ds t l ds.length).isEmpty then none else some (minPs (foRows ds t l ds.length)).2.toNat
theorem minPs_mem : ∀ {ps : List Pr}, ps ≠ [] → minPs ps ∈ ps
  | p :: ps, _ => by
    show ps.foldl (fun a y => if ltP y a = true then y else a) p ∈ p :: ps
    have key : ∀ (qs : List Pr) (a : Pr), qs.foldl (fun a y => if ltP y a = true then y else a) a ∈ a :: qs := by
      intro qs
      induction qs with
      | nil => intro a; simp
      | cons q qs ih =>
        intro a
        rw [List.foldl_cons]
        have := ih (if ltP q a = true then q else a)
        rcases List.mem_cons.mp this with e | e
        · rw [e]; split <;> simp
        · exact List.mem_cons_of_mem _ (List.mem_cons_of_mem _ e)
    exact key ps p
theorem fo_some {ds : List (List Nat)} {t l : List Nat} {a : Nat} (h : foS ds t l = some a) : a < ds.length ∧ metB (dAt ds a) t = false := by
  unfold foS at h
  split at h
  · cases h
  · rename_i hne
    cases h
    have := minPs_mem (ps := foRows ds t l ds.length) fun e => hne (by rw [e]; rfl)
    unfold foRows at this
    obtain ⟨j, hj, e⟩ := List.mem_map.mp this
    obtain ⟨h1, h2⟩ := List.mem_filter.mp hj
    unfold foRows
    rw [← e]
    simp only [Int.toNat_natCast]
    exact ⟨List.mem_range.mp h1, by simpa using h2⟩
theorem fo_none {ds : List (List Nat)} {t l : List Nat} (h : foS ds t l = none) : ∀ d ∈ ds, metB d t = true := by
  unfold foS at h
  split at h
  · rename_i he
    intro d hd
    obtain ⟨k, hk, e⟩ := List.getElem_of_mem hd
    have he := List.isEmpty_iff.mp he
    unfold foRows at he
    have := List.map_eq_nil_iff.mp he
    have := List.filter_eq_nil_iff.mp this k (List.mem_range.mpr hk)
    have dk : dAt ds k = d := by unfold dAt; rw [List.getD_eq_getElem?_getD, List.getElem?_eq_getElem hk, ← e]; rfl
    rw [dk] at this
    simpa using this
  · cases h
/-! the search -/
abbrev Bst := Option (List Nat × Int)
def bst (n : Nat) (t : List Nat) : List Nat := (List.range n).filter fun o => decide (o ∈ t)
def cutB (st : Bst) (tot : Int) : Bool := match st with
  | none => false
  | some b => decide (b.2 ≤ tot)
def gStep (f : List Nat → List Nat → Bst → Bst) (t l : List Nat) (s : List Nat × Bst) (o : Nat) : List Nat × Bst := (s.1 ++ [o], f (t ++ [o]) (l ++ s.1) s.2)
def goF (cs : List Int) (ds : List (List Nat)) : Nat → List Nat → List Nat → Bst → Bst
  | 0, _, _, st => st
  | f + 1, t, l, st => if cutB st (laidF cs ds t l).tot = true then st else match foS ds t l with
    | none => some (bst cs.length t, costT cs t)
    | some a => ((opn (dAt ds a) l).foldl (gStep (goF cs ds f) t l) ([], st)).2
def GoodB (cs : List Int) (ds : List (List Nat)) : Bst → Prop
  | none => True
  | some b => b.1.Pairwise (· < ·) ∧ (∀ o ∈ b.1, o < cs.length) ∧ (∀ d ∈ ds, metB d b.1 = true) ∧ b.2 = costT cs b.1
def LeB : Bst → Bst → Prop
  | _, none => True
  | some a, some b => a.2 ≤ b.2
  | none, some _ => False
theorem LeB.refl (a : Bst) : LeB a a := by cases a <;> simp [LeB]
theorem LeB.trans {a b c : Bst} (h1 : LeB a b) (h2 : LeB b c) : LeB a c := by
  cases c with
  | none => cases a <;> trivial
  | some c => cases b with
    | none => exact h2.elim
    | some b => cases a with
      | none => exact h1.elim
      | some a => exact Int.le_trans h1 h2
def Und (st : Bst) (c : Int) : Prop := ∃ b, st = some b ∧ b.2 ≤ c
theorem Und.le {a b : Bst} {c : Int} (h : LeB a b) (u : Und b c) : Und a c := by
  obtain ⟨q, rfl, hq⟩ := u
  cases a with
  | none => exact h.elim
  | some a => exact ⟨a, rfl, Int.le_trans h hq⟩
theorem bst_perm {n : Nat} {t : List Nat} (nd : t.Nodup) (lt : ∀ o ∈ t, o < n) : (bst n t).Perm t := (List.perm_ext_iff_of_nodup (List.nodup_range.filter _) nd).mpr fun o => by
  rw [List.mem_filter, decide_eq_true_eq, List.mem_range]
  exact ⟨fun h => h.2, fun h => ⟨lt o h, h⟩⟩
theorem tk_child {cs : List Int} {ds : List (List Nat)} (pb : Pb cs ds) {t l ah : List Nat} (tk : Tk cs t l) {d : List Nat} (hd : d ∈ ds) (um : metB d t = false) {o : Nat} (ho : o ∈ opn d l) (ha : ∀ x ∈ ah, x ∈ d) (hoa : o ∉ ah) : Tk cs (t ++ [o]) (l ++ ah) := by
  obtain ⟨o1, o2⟩ := opn_mem.mp ho
  have nt : ∀ x ∈ d, x ∉ t := fun x hx q => by
    have : metB d t = true := met_iff.mpr ⟨x, hx, q⟩
    rw [um] at this; cases this
  refine ⟨List.nodup_append.mpr ⟨tk.nd, by simp, fun a h1 b h2 e => ?_⟩, fun x hx => ?_, fun x hx => ?_⟩
  · rw [List.mem_singleton.mp h2] at e; subst e; exact nt _ o1 h1
  · rcases List.mem_append.mp hx with q | q
    · exact tk.lt x q
    · rw [List.mem_singleton.mp q]; exact pb.lt d hd o o1
  · intro q
    rcases List.mem_append.mp hx with h | h
    · rcases List.mem_append.mp q with q | q
      · exact tk.dj x h q
      · exact nt x (ha x q) h
    · rw [List.mem_singleton.mp h] at q
      rcases List.mem_append.mp q with q | q
      · exact o2 q
      · exact hoa q
theorem fold_fst (f : List Nat → List Nat → Bst → Bst) (t l : List Nat) : ∀ (os : List Nat) (s : List Nat × Bst), (os.foldl (gStep f t l) s).1 = s.1 ++ os
  | [], s => by simp
  | o :: os, s => by rw [List.foldl_cons, fold_fst f t l os]; simp [gStep]
/-- the search's promise -/
structure GoP (cs : List Int) (ds : List (List Nat)) (t l : List Nat) (st st' : Bst) : Prop where
  good : GoodB cs ds st'
  le : LeB st' st
  und : ∀ R, Sat cs ds t l R → Und st' (costR cs R)
theorem tk_len {cs : List Int} {t l : List Nat} (tk : Tk cs t l) : t.length ≤ cs.length := by
  have key : ∀ (n : Nat) (t : List Nat), t.Nodup → (∀ o ∈ t, o < n) → t.length ≤ n := by
    intro n t nd lt
    have p := bst_perm nd lt
    rw [← p.length_eq]
    have := List.length_filter_le (fun o => decide (o ∈ t)) (List.range n)
    rw [List.length_range] at this
    exact this
  exact key _ _ tk.nd tk.lt
theorem go_ok {cs : List Int} {ds : List (List Nat)} (pb : Pb cs ds) : ∀ (f : Nat) (t l : List Nat) (st : Bst), Tk cs t l → cs.length < f + t.length → GoodB cs ds st → GoP cs ds t l st (goF cs ds f t l st)
  | 0, t, l, st, tk, hf, _ => by have := tk_len tk; omega
  | f + 1, t, l, st, tk, hf, gd => by
    unfold goF
    split
    · rename_i hc
      refine ⟨gd, LeB.refl _, fun R hR => ?_⟩
      have low := laid_low pb tk hR
      cases st with
      | none => simp [cutB] at hc
      | some b =>
        simp only [cutB, decide_eq_true_eq] at hc
        exact ⟨b, rfl, by omega⟩
    · rename_i hc
      split
      · rename_i hfo
        have am := fo_none hfo
        have pm := bst_perm tk.nd tk.lt
        have ec : costT cs (bst cs.length t) = costT cs t := sum_perm (pm.map _)
        refine ⟨⟨List.pairwise_lt_range.filter _, fun o ho => List.mem_range.mp (List.mem_filter.mp ho).1, fun d hd => ?_, ec.symm⟩, ?_, fun R hR => ⟨_, rfl, ?_⟩⟩
        · obtain ⟨o, h1, h2⟩ := met_iff.mp (am d hd)
          exact met_iff.mpr ⟨o, h1, pm.mem_iff.mpr h2⟩
        · cases st with
          | none => trivial
          | some b =>
            have e : (laidF cs ds t l).tot = costT cs t := by unfold laidF; rw [laid_met am _ (Nat.le_refl _)]
            rw [e] at hc
            simp only [cutB, decide_eq_true_eq] at hc
            show costT cs t ≤ b.2
            omega
        · have e : (laidF cs ds t l).tot = costT cs t := by unfold laidF; rw [laid_met am _ (Nat.le_refl _)]
          have := laid_low pb tk hR
          show costT cs t ≤ costR cs R
          omega
      · rename_i a hfo
        obtain ⟨ha, um⟩ := fo_some hfo
        have hd := dAt_mem (ds := ds) ha
        have nd := opn_nd pb hd l
        have sub : ∀ o ∈ opn (dAt ds a) l, o ∈ dAt ds a := fun o ho => (opn_mem.mp ho).1
        have mem := fun o (ho : o ∈ opn (dAt ds a) l) => ho
        -- the loop
        have key : ∀ (os ah : List Nat) (st : Bst), (∀ o ∈ os, o ∈ opn (dAt ds a) l) → (∀ o ∈ ah, o ∈ dAt ds a) → (ah ++ os).Nodup → GoodB cs ds st →
            GoodB cs ds (os.foldl (gStep (goF cs ds f) t l) (ah, st)).2 ∧ LeB (os.foldl (gStep (goF cs ds f) t l) (ah, st)).2 st ∧
            ∀ R, Sat cs ds t l R → (∀ o ∈ ah, R o = false) → (∃ o ∈ os, R o = true) → Und (os.foldl (gStep (goF cs ds f) t l) (ah, st)).2 (costR cs R) := by
          intro os
          induction os with
          | nil => intro ah st _ _ _ gd; exact ⟨gd, LeB.refl _, fun R _ _ h => by obtain ⟨o, ho, _⟩ := h; cases ho⟩
          | cons o os ih =>
            intro ah st h1 h2 h3 gd
            have nda := List.nodup_append.mp h3
            have hoa : o ∉ ah := fun q => nda.2.2 o q o (by simp) rfl
            have ho := h1 o (by simp)
            have tk' := tk_child pb tk hd um ho h2 hoa
            have P := go_ok pb f (t ++ [o]) (l ++ ah) st tk' (by rw [List.length_append, List.length_singleton]; omega) gd
            obtain ⟨i1, i2, i3⟩ := ih (ah ++ [o]) (goF cs ds f (t ++ [o]) (l ++ ah) st) (fun x hx => h1 x (by simp [hx])) (fun x hx => by
              rcases List.mem_append.mp hx with q | q
              · exact h2 x q
              · rw [List.mem_singleton.mp q]; exact sub o ho) (by simpa using h3) P.good
            rw [List.foldl_cons]
            refine ⟨i1, i2.trans P.le, fun R hR hah hex => ?_⟩
            by_cases hro : R o = true
            · refine Und.le i2 (P.und R ⟨fun x hx => ?_, fun x hx => ?_, hR.hit⟩)
              · rcases List.mem_append.mp hx with q | q
                · exact hR.sub x q
                · rw [List.mem_singleton.mp q]; exact hro
              · rcases List.mem_append.mp hx with q | q
                · exact hR.no x q
                · exact hah x q
            · refine i3 R hR (fun x hx => ?_) ?_
              · rcases List.mem_append.mp hx with q | q
                · exact hah x q
                · rw [List.mem_singleton.mp q]; simpa using hro
              · obtain ⟨x, hx, hr⟩ := hex
                rcases List.mem_cons.mp hx with q | q
                · exact absurd (q ▸ hr) hro
                · exact ⟨x, q, hr⟩
        obtain ⟨k1, k2, k3⟩ := key (opn (dAt ds a) l) [] st mem (by simp) (by simpa using nd) gd
        refine ⟨k1, k2, fun R hR => k3 R hR (by simp) ?_⟩
        obtain ⟨o, h1, h2⟩ := hR.hit _ hd
        exact ⟨o, opn_mem.mpr ⟨h1, fun q => by have := hR.no o q; rw [h2] at this; cases this⟩, h2⟩
/-! trees and their judge -/
inductive Tr where
  | shares (rows : List Rw)
  | blocked (a : Int)
  | split (a : Int) (ts : List Tr)
def spentF (rows : List Rw) (o : Nat) : Int := ((rows.filter fun r => decide (r.2.1 = (o : Int))).map fun r => r.2.2).sum
def gD (rows : List Rw) : List Kt := rows.foldl (fun g r => putT g (r.1, r.2.1) r.2.2) []
def valB (cs : List Int) (ds : List (List Nat)) (r : Rw) : Bool := decide (0 ≤ r.1 ∧ r.1 < ds.length) && (decide (0 ≤ r.2.1 ∧ r.2.1 < cs.length) && decide (1 ≤ r.2.2))
def rAt (rows : List Rw) (k : Nat) : Rw := rows.getD k (0, 0, 0)
def lastP (rows : List Rw) : Nat → Int × Int
  | 0 => (-1, -1)
  | k + 1 => ((rAt rows k).1, (rAt rows k).2.1)
def okAt (cs : List Int) (ds : List (List Nat)) (rows : List Rw) (k : Nat) : Bool := valB cs ds (rAt rows k) && ltP (lastP rows k) ((rAt rows k).1, (rAt rows k).2.1)
def okB (cs : List Int) (ds : List (List Nat)) (rows : List Rw) : Bool := (List.range rows.length).all (okAt cs ds rows)
def capB (cs : List Int) (l : List Nat) (rows : List Rw) : Bool := (List.range cs.length).all fun o => decide (o ∈ l) || decide (spentF rows o ≤ cst cs o)
def mdf (xs : List Int) : Int := if xs.isEmpty then 0 else foldMin xs
def gainJ (ds : List (List Nat)) (t l : List Nat) (g : List Kt) (j : Nat) : Int := if metB (dAt ds j) t = true then 0 else mdf ((opn (dAt ds j) l).map fun o : Nat => (getT g ((j : Int), (o : Int))).getD 0)
def totK (cs : List Int) (ds : List (List Nat)) (t l : List Nat) (g : List Kt) : Nat → Int
  | 0 => costT cs t
  | k + 1 => totK cs ds t l g k + gainJ ds t l g k
def sharesB (cs : List Int) (ds : List (List Nat)) (t l : List Nat) (b : Int) (rows : List Rw) : Bool := okB cs ds rows && (capB cs l rows && decide (b ≤ totK cs ds t l (gD rows) ds.length))
abbrev Flt := Option (String × List Pr)
def inD (ds : List (List Nat)) (a : Int) : Bool := decide (0 ≤ a ∧ a < ds.length)
def shB (cs : List Int) (ds : List (List Nat)) (t l : List Nat) (b : Option Int) (rows : List Rw) : Bool := match b with
  | none => false
  | some c => sharesB cs ds t l c rows
def faultF (cs : List Int) (ds : List (List Nat)) : Nat → List Nat → List Nat → List Pr → Option Int → Tr → Flt
  | 0, _, _, _, _, _ => none
  | _ + 1, t, l, p, b, .shares rows => if shB cs ds t l b rows = true then none else some ("shares", p)
  | _ + 1, t, l, p, b, .blocked a => if inD ds a = true then (if (opn (dAt ds a.toNat) l).isEmpty = true ∧ metB (dAt ds a.toNat) t = false then none else some ("blocked", p)) else some ("blocked", p)
  | f + 1, t, l, p, b, .split a ts => if inD ds a = true then
      (if metB (dAt ds a.toNat) t = true ∨ ts.length ≠ (opn (dAt ds a.toNat) l).length then some ("split", p)
       else (List.range (opn (dAt ds a.toNat) l).length).findSome? fun k => faultF cs ds f (t ++ [(opn (dAt ds a.toNat) l).getD k 0]) (l ++ (opn (dAt ds a.toNat) l).take k) (p ++ [(a, ((opn (dAt ds a.toNat) l).getD k 0 : Int))]) b (ts.getD k (.blocked 0)))
    else some ("split", p)
/-! the tree that is told -/
def blkS (ds : List (List Nat)) (t l : List Nat) : Option Nat := (List.range ds.length).find? fun k => !metB (dAt ds k) t && (opn (dAt ds k) l).isEmpty
def pStep (f : List Nat → List Nat → Tr) (t l : List Nat) (s : List Nat × List Tr) (o : Nat) : List Nat × List Tr := (s.1 ++ [o], s.2 ++ [f (t ++ [o]) (l ++ s.1)])
def proveF (cs : List Int) (ds : List (List Nat)) (st : Bst) : Nat → List Nat → List Nat → Tr
  | 0, _, _ => .blocked 0
  | f + 1, t, l => match blkS ds t l with
    | some k => .blocked (k : Int)
    | none => if cutB st (laidF cs ds t l).tot = true then .shares (laidF cs ds t l).rows else match foS ds t l with
      | none => .blocked 0
      | some a => .split (a : Int) ((opn (dAt ds a) l).foldl (pStep (proveF cs ds st f) t l) ([], [])).2
theorem p_fold (f : List Nat → List Nat → Tr) (t l : List Nat) (os : List Nat) : os.foldl (pStep f t l) ([], []) = (os, (List.range os.length).map fun k => f (t ++ [os.getD k 0]) (l ++ os.take k)) := by
  have key : ∀ m, m ≤ os.length → (os.take m).foldl (pStep f t l) ([], []) = (os.take m, (List.range m).map fun k => f (t ++ [os.getD k 0]) (l ++ os.take k)) := by
    intro m
    induction m with
    | zero => intro _; simp
    | succ m ih =>
      intro hm
      have e : os.take (m + 1) = os.take m ++ [os.getD m 0] := by
        rw [List.take_add_one, List.getD_eq_getElem?_getD, List.getElem?_eq_getElem (show m < os.length by omega)]; rfl
      rw [e, List.foldl_append, ih (by omega), List.range_succ, List.map_append]
      rfl
  have := key os.length (Nat.le_refl _)
  rwa [List.take_length] at this
/-! what is laid, read by the judge -/
structure LR (cs : List Int) (ds : List (List Nat)) (t l : List Nat) (k : Nat) (s : LS) : Prop where
  sp : ∀ o : Nat, spentF s.rows o = cst cs o - s.rest.getD o 0
  vl : ∀ r ∈ s.rows, valB cs ds r = true ∧ r.1 < (k : Int)
  inc : s.rows.Pairwise fun a b => ltP (a.1, a.2.1) (b.1, b.2.1) = true
  tt : (∀ j, j < k → metB (dAt ds j) t = false → opn (dAt ds j) l ≠ []) → s.tot = totK cs ds t l (gD s.rows) k
theorem spent_app (a b : List Rw) (o : Nat) : spentF (a ++ b) o = spentF a o + spentF b o := by unfold spentF; rw [List.filter_append, List.map_append, List.sum_append]
theorem spent_news (k : Nat) (z : Int) (o : Nat) : ∀ os : List Nat, os.Nodup → spentF (os.map fun x : Nat => ((k : Int), (x : Int), z)) o = if o ∈ os then z else 0
  | [], _ => by simp [spentF]
  | x :: os, nd => by
    have nx := List.nodup_cons.mp nd
    have ih := spent_news k z o os nx.2
    rw [List.map_cons, show ∀ (r : Rw) (rs : List Rw), r :: rs = [r] ++ rs from fun _ _ => rfl, spent_app, ih]
    by_cases e : o = x
    · subst e
      simp [spentF, nx.1]
    · have e2 : ¬ ((x : Int) = (o : Int)) := by omega
      simp [spentF, e, e2]
theorem gD_app (a b : List Rw) : gD (a ++ b) = b.foldl (fun g r => putT g (r.1, r.2.1) r.2.2) (gD a) := by unfold gD; rw [List.foldl_append]
theorem get_no : ∀ (b : List Rw) (g : List Kt) (key : Int × Int), (∀ r ∈ b, ¬ (r.1, r.2.1) = key) → getT (b.foldl (fun g r => putT g (r.1, r.2.1) r.2.2) g) key = getT g key
  | [], _, _, _ => rfl
  | r :: b, g, key, h => by
    rw [List.foldl_cons, get_no b _ key fun q hq => h q (by simp [hq]), getT_put, if_neg fun e => h r (by simp) e.symm]
theorem get_news (k : Nat) (z : Int) (o : Nat) : ∀ (os : List Nat) (g : List Kt), getT ((os.map fun x : Nat => ((k : Int), (x : Int), z)).foldl (fun g r => putT g (r.1, r.2.1) r.2.2) g) ((k : Int), (o : Int)) = if o ∈ os then some z else getT g ((k : Int), (o : Int))
  | [], _ => by simp
  | x :: os, g => by
    rw [List.map_cons, List.foldl_cons, get_news k z o os, getT_put]
    by_cases c : o ∈ os
    · simp [c]
    · rw [if_neg c]
      by_cases e : o = x
      · subst e; simp
      · have : ¬ (((k : Int), (o : Int)) = ((k : Int), (x : Int))) := by simp; omega
        rw [if_neg this, if_neg (by simp [e, c])]
theorem tot_same {cs : List Int} {ds : List (List Nat)} {t l : List Nat} {g g' : List Kt} : ∀ k : Nat, (∀ j : Nat, j < k → ∀ o : Nat, getT g ((j : Int), (o : Int)) = getT g' ((j : Int), (o : Int))) → totK cs ds t l g k = totK cs ds t l g' k
  | 0, _ => rfl
  | k + 1, h => by
    have e : (fun o : Nat => (getT g ((k : Int), (o : Int))).getD 0) = fun o : Nat => (getT g' ((k : Int), (o : Int))).getD 0 := funext fun o => by rw [h k (by omega) o]
    rw [totK, totK, tot_same k fun j hj => h j (by omega)]
    unfold gainJ
    rw [e]
theorem get_lt {rows : List Rw} {k : Nat} (h : ∀ r ∈ rows, r.1 < (k : Int)) (j : Nat) (hj : k ≤ j) (o : Int) : getT (gD rows) ((j : Int), o) = none := by
  have := get_no rows [] ((j : Int), o) fun r hr e => by
    have := h r hr
    have e1 : r.1 = (j : Int) := congrArg Prod.fst e
    omega
  unfold gD
  rw [this]
  rfl
theorem const_min {z : Int} : ∀ {xs : List Int}, xs ≠ [] → (∀ x ∈ xs, x = z) → mdf xs = z
  | x :: xs, _, h => by
    unfold mdf
    rw [if_neg (by simp)]
    exact foldMin_is (by rw [h x (by simp)]; simp) fun y hy => by rw [h y hy]; exact Int.le_refl _
theorem laid_rd {cs : List Int} {ds : List (List Nat)} (pb : Pb cs ds) {t l : List Nat} (tk : Tk cs t l) : ∀ k, k ≤ ds.length → LR cs ds t l k (laidK cs ds t l k)
  | 0, _ => ⟨fun o => (by show spentF [] o = cst cs o - cst cs o; simp [spentF]), (fun r hr => by cases hr), List.Pairwise.nil, fun _ => rfl⟩
  | k + 1, hk => by
    have I := laid_rd pb tk k (by omega)
    have J := laid_inv pb tk k (by omega)
    have hd := dAt_mem (ds := ds) (k := k) (by omega)
    show LR cs ds t l (k + 1) (lStep t l (laidK cs ds t l k) k (dAt ds k))
    generalize laidK cs ds t l k = s at I J
    have lt' : ∀ r ∈ s.rows, r.1 < (k : Int) := fun r hr => (I.vl r hr).2
    unfold lStep
    split
    · rename_i h
      obtain ⟨z0, z1⟩ := size_nn J.nn h.2
      generalize sizeO s.rest (opn (dAt ds k) l) = z at z0 z1
      split
      · rename_i zp
        obtain ⟨r1, r2⟩ := step_rest pb hd (l := l) J.len z
        refine ⟨fun o => ?_, fun r hr => ?_, ?_, fun ho => ?_⟩
        · show spentF (s.rows ++ _) o = cst cs o - (takeO s.rest (opn (dAt ds k) l) z).getD o 0
          rw [spent_app, I.sp o, spent_news k z o _ (opn_nd pb hd l), r2 o]
          omega
        · rcases List.mem_append.mp hr with q | q
          · have := I.vl r q
            exact ⟨this.1, by omega⟩
          · obtain ⟨o, ho, rfl⟩ := List.mem_map.mp q
            have := pb.lt _ hd o (opn_mem.mp ho).1
            refine ⟨?_, by show (k : Int) < _; omega⟩
            simp only [valB, Bool.and_eq_true, decide_eq_true_eq]
            omega
        · refine List.pairwise_append.mpr ⟨I.inc, ?_, fun a ha b hb => ?_⟩
          · refine List.pairwise_map.mpr ((opn_asc pb hd l).imp fun {a b} h => ?_)
            exact decide_eq_true (.inr ⟨rfl, by show (a : Int) < (b : Int); omega⟩)
          · obtain ⟨o, ho, rfl⟩ := List.mem_map.mp hb
            have := lt' a ha
            exact decide_eq_true (.inl this)
        · show s.tot + z = totK cs ds t l (gD (s.rows ++ _)) (k + 1)
          rw [totK, I.tt fun j hj => ho j (by omega)]
          congr 1
          · refine tot_same k fun j hj o => ?_
            rw [gD_app, get_no]
            intro r hr e
            obtain ⟨x, _, rfl⟩ := List.mem_map.mp hr
            have e1 : (k : Int) = (j : Int) := congrArg Prod.fst e
            omega
          · unfold gainJ
            rw [if_neg (by rw [h.1]; simp)]
            refine (const_min (fun e => h.2 (List.map_eq_nil_iff.mp e)) fun x hx => ?_).symm
            obtain ⟨o, ho, rfl⟩ := List.mem_map.mp hx
            rw [gD_app, get_news, if_pos ho]
            rfl
      · rename_i zp
        have e : z = 0 := by omega
        subst e
        refine ⟨I.sp, fun r hr => ⟨(I.vl r hr).1, by have := lt' r hr; omega⟩, I.inc, fun ho => ?_⟩
        show s.tot + 0 = totK cs ds t l (gD s.rows) (k + 1)
        rw [totK, I.tt fun j hj => ho j (by omega)]
        congr 1
        unfold gainJ
        rw [if_neg (by rw [h.1]; simp)]
        refine (const_min (fun e => h.2 (List.map_eq_nil_iff.mp e)) fun x hx => ?_).symm
        obtain ⟨o, ho, rfl⟩ := List.mem_map.mp hx
        rw [get_lt lt' k (Nat.le_refl _)]
        rfl
    · rename_i h
      refine ⟨I.sp, fun r hr => ⟨(I.vl r hr).1, by have := lt' r hr; omega⟩, I.inc, fun ho => ?_⟩
      have hm : metB (dAt ds k) t = true := by
        cases hq : metB (dAt ds k) t with
        | true => rfl
        | false => exact absurd ⟨hq, ho k (by omega) hq⟩ h
      rw [totK, I.tt fun j hj => ho j (by omega)]
      unfold gainJ
      rw [if_pos hm, Int.add_zero]
theorem ok_of {cs : List Int} {ds : List (List Nat)} {rows : List Rw} (v : ∀ r ∈ rows, valB cs ds r = true) (p : rows.Pairwise fun a b => ltP (a.1, a.2.1) (b.1, b.2.1) = true) : okB cs ds rows = true := by
  unfold okB
  rw [List.all_eq_true]
  intro k hk
  have hk := List.mem_range.mp hk
  have er : rAt rows k = rows[k] := by unfold rAt; rw [List.getD_eq_getElem?_getD, List.getElem?_eq_getElem hk]; rfl
  have vk := v _ (List.getElem_mem hk)
  unfold okAt
  rw [er, vk, Bool.true_and]
  cases k with
  | zero =>
    simp only [valB, Bool.and_eq_true, decide_eq_true_eq] at vk
    exact decide_eq_true (.inl (by show (-1 : Int) < _; omega))
  | succ k =>
    have ek : rAt rows k = rows[k] := by unfold rAt; rw [List.getD_eq_getElem?_getD, List.getElem?_eq_getElem (show k < rows.length by omega)]; rfl
    rw [lastP, ek]
    exact List.pairwise_iff_getElem.mp p k (k + 1) (by omega) hk (by omega)
theorem shares_ok {cs : List Int} {ds : List (List Nat)} (pb : Pb cs ds) {t l : List Nat} (tk : Tk cs t l) (nb : blkS ds t l = none) {c : Int} (hc : c ≤ (laidF cs ds t l).tot) : sharesB cs ds t l c (laidF cs ds t l).rows = true := by
  have I := laid_rd pb tk ds.length (Nat.le_refl _)
  have J := laid_inv pb tk ds.length (Nat.le_refl _)
  have nb' : ∀ j, j < ds.length → metB (dAt ds j) t = false → opn (dAt ds j) l ≠ [] := fun j hj hm he => by
    have := List.find?_eq_none.mp nb j (List.mem_range.mpr hj)
    rw [hm, he] at this
    simp at this
  unfold sharesB
  unfold laidF at hc ⊢
  rw [ok_of (fun r hr => (I.vl r hr).1) I.inc, Bool.true_and, Bool.and_eq_true]
  refine ⟨?_, by rw [← I.tt nb']; exact decide_eq_true hc⟩
  unfold capB
  rw [List.all_eq_true]
  intro o _
  have := J.nn o
  rw [I.sp o, decide_eq_true (show cst cs o - (laidK cs ds t l ds.length).rest.getD o 0 ≤ cst cs o by omega)]
  simp
/-! the told tree is right -/
def cOf (st : Bst) : Option Int := st.map (·.2)
structure Fnl (cs : List Int) (ds : List (List Nat)) (st : Bst) : Prop where
  und : ∀ R, Sat cs ds [] [] R → Und st (costR cs R)
theorem prove_ok {cs : List Int} {ds : List (List Nat)} (pb : Pb cs ds) {st : Bst} (F : Fnl cs ds st) : ∀ (f : Nat) (t l : List Nat) (p : List Pr), Tk cs t l → cs.length < f + t.length → faultF cs ds f t l p (cOf st) (proveF cs ds st f t l) = none
  | 0, _, _, _, _, _ => rfl
  | f + 1, t, l, p, tk, hf => by
    unfold proveF
    cases hb : blkS ds t l with
    | some k =>
      have h1 := List.find?_some hb
      have hk := List.mem_range.mp (List.mem_of_find?_eq_some hb)
      simp only [Bool.and_eq_true, Bool.not_eq_true'] at h1
      simp only [faultF]
      rw [if_pos (by unfold inD; exact decide_eq_true (by omega)), Int.toNat_natCast, if_pos ⟨h1.2, h1.1⟩]
    | none =>
      simp only
      split
      · rename_i hc
        cases st with
        | none => simp [cutB] at hc
        | some b =>
          simp only [cutB, decide_eq_true_eq] at hc
          simp only [faultF]
          rw [if_pos]
          exact shares_ok pb tk hb hc
      · rename_i hc
        cases hfo : foS ds t l with
        | none =>
          exfalso
          have am := fo_none hfo
          have e : (laidF cs ds t l).tot = costT cs t := by unfold laidF; rw [laid_met am _ (Nat.le_refl _)]
          obtain ⟨b, rfl, hb2⟩ := F.und (fun o => decide (o ∈ t)) ⟨by simp, by simp, fun d hd => by
            obtain ⟨o, h1, h2⟩ := met_iff.mp (am d hd)
            exact ⟨o, h1, decide_eq_true h2⟩⟩
          have : costR cs (fun o => decide (o ∈ t)) = costT cs t := sum_perm ((bst_perm tk.nd tk.lt).map _)
          rw [e] at hc
          simp only [cutB, decide_eq_true_eq] at hc
          omega
        | some a =>
          obtain ⟨ha, um⟩ := fo_some hfo
          have hd := dAt_mem (ds := ds) ha
          have nd := opn_nd pb hd l
          simp only
          rw [p_fold]
          simp only [faultF]
          rw [if_pos (by unfold inD; exact decide_eq_true (by omega)), Int.toNat_natCast, if_neg (by rw [um]; simp)]
          refine List.findSome?_eq_none_iff.mpr fun k hk => ?_
          have hk := List.mem_range.mp hk
          have eg : (opn (dAt ds a) l).getD k 0 = (opn (dAt ds a) l)[k] := by rw [List.getD_eq_getElem?_getD, List.getElem?_eq_getElem hk]; rfl
          have et : ((List.range (opn (dAt ds a) l).length).map fun k => proveF cs ds st f (t ++ [(opn (dAt ds a) l).getD k 0]) (l ++ (opn (dAt ds a) l).take k)).getD k (.blocked 0) = proveF cs ds st f (t ++ [(opn (dAt ds a) l).getD k 0]) (l ++ (opn (dAt ds a) l).take k) := by
            rw [List.getD_eq_getElem?_getD, List.getElem?_map, List.getElem?_range hk]; rfl
          rw [et]
          refine prove_ok pb F f _ _ _ (tk_child pb tk hd um ?_ (fun x hx => (opn_mem.mp (List.mem_of_mem_take hx)).1) ?_) (by rw [List.length_append, List.length_singleton]; omega)
          · rw [eg]; exact List.getElem_mem hk
          · rw [eg]
            intro q
            obtain ⟨i, hi, e⟩ := List.getElem_of_mem q
            rw [List.getElem_take] at e
            rw [List.length_take] at hi
            exact absurd e (List.pairwise_iff_getElem.mp nd i k (by omega) hk (by omega))
/-! what is told -/
inductive Told where
  | least (row : List Nat) (cost : Int) (tree : Tr)
  | none (tree : Tr)
def coverF (cs : List Int) (ds : List (List Nat)) : Told := match goF cs ds (cs.length + 1) [] [] none with
  | some b => .least b.1 b.2 (proveF cs ds (some b) (cs.length + 1) [] [])
  | none => .none (proveF cs ds none (cs.length + 1) [] [])
def risB (n : Nat) (row : List Nat) : Bool := decide (row = (List.range n).filter fun o => decide (o ∈ row))
theorem tk_nil (cs : List Int) : Tk cs [] [] := ⟨List.nodup_nil, by simp, by simp⟩
theorem go_all {cs : List Int} {ds : List (List Nat)} (pb : Pb cs ds) : GoP cs ds [] [] none (goF cs ds (cs.length + 1) [] [] none) := go_ok pb _ [] [] none (tk_nil cs) (by simp) trivial
theorem asc_ris {n : Nat} {row : List Nat} (h : row.Pairwise (· < ·)) (lt : ∀ o ∈ row, o < n) : row = (List.range n).filter fun o => decide (o ∈ row) := by
  have p := (bst_perm (n := n) (h.imp fun h => by omega : row.Nodup) lt).symm
  exact p.eq_of_pairwise (le := fun a b : Nat => a < b) (fun a b _ _ h1 h2 => by omega) h (List.pairwise_lt_range.filter _)
theorem ris_iff {n : Nat} {row : List Nat} : row = (List.range n).filter (fun o => decide (o ∈ row)) ↔ row.Pairwise (· < ·) ∧ ∀ o ∈ row, o < n := by
  constructor
  · intro h
    refine ⟨by rw [h]; exact List.pairwise_lt_range.filter _, fun o ho => ?_⟩
    rw [h] at ho
    exact List.mem_range.mp (List.mem_filter.mp ho).1
  · rintro ⟨a, b⟩
    exact asc_ris a b
theorem sub_sat {cs : List Int} {ds : List (List Nat)} {row : List Nat} (m : ∀ d ∈ ds, metB d row = true) (nd : row.Nodup) (lt : ∀ o ∈ row, o < cs.length) : Sat cs ds [] [] (fun o => decide (o ∈ row)) ∧ costR cs (fun o => decide (o ∈ row)) = costT cs row :=
  ⟨⟨by simp, by simp, fun d hd => by
    obtain ⟨o, h1, h2⟩ := met_iff.mp (m d hd)
    exact ⟨o, h1, decide_eq_true h2⟩⟩, sum_perm ((bst_perm nd lt).map _)⟩
end Law_k41
namespace Law_k41
open PySem L2 Pu
local macro_rules | `(tactic| walk_at "e") => `(tactic| first
  | ((with_reducible refine nx_seq ?_); (try dsimp only [List.set_cons_succ, List.set_cons_zero]))
  | ((with_reducible refine ex_vr ?_); dsimp only [VQ, List.set_cons_succ, List.set_cons_zero, List.getElem?_cons_zero, List.getElem?_cons_succ]; (fail_if_success (with_reducible show False)))
  | (with_reducible refine sx_seq ?_)
  | (with_reducible refine sx_if ?_)
  | (with_reducible refine sx_next ?_)
  | (with_reducible refine sx_ret ?_)
  | ((fail_if_success (with_reducible refine sx_asgO (eo_lst ?_))); (with_reducible refine sx_asg ?_))
  | (with_reducible refine ex_int ?_)
  | (with_reducible refine ex_str ?_)
  | (with_reducible refine ex_bl ?_)
  | (with_reducible refine ex_non ?_)
  | (with_reducible refine ex_op ?_)
  | (with_reducible refine ex_un ?_)
  | (with_reducible refine ex_chain ?_)
  | (with_reducible refine ex_call ?_)
  | (with_reducible refine ex_isT ?_)
  | (with_reducible refine ex_cb ?_)
  | (with_reducible refine ex_sl ?_)
  | (with_reducible refine ex_tup ?_)
  | (with_reducible refine ex_if ?_)
  | (with_reducible refine ex_of (eo_lst ?_))
  | (with_reducible refine ex_notV ?_)
  | (with_reducible refine ea_nil ?_)
  | (with_reducible refine ea_cons ?_)
  | (with_reducible refine ep_no ?_)
  | (with_reducible refine ep_some ?_)
  | (with_reducible refine et_test ?_)
  | (with_reducible refine et_B ?_)
  | (with_reducible refine et_ch3 ?_)
  | (with_reducible refine et_and ?_)
  | (with_reducible refine et_or ?_)
  | (with_reducible refine et_not ?_)
  | (with_reducible refine et_yes ?_)
  | (with_reducible refine et_truL ?_)
  | (with_reducible refine opd_plusI ?_)
  | (with_reducible refine opd_I0 ?_)
  | (with_reducible refine opd_B0 ?_)
  | (with_reducible refine opd_eqI ?_)
  | (with_reducible refine opd_neI ?_)
  | (with_reducible refine opd_eqS ?_)
  | (with_reducible refine opd_neS ?_)
  | (with_reducible refine opd_is ?_)
  | (with_reducible refine opd_isnt ?_)
  | (with_reducible refine opd_ixT rfl ?_)
  | (with_reducible refine opd_ixL rfl ?_)
  | (with_reducible refine und_neg ?_)
  | (with_reducible refine cbd_lenL ?_)
  | (with_reducible refine cbd_lenT ?_)
  | (with_reducible refine cbd_min2 ?_)
  | (with_reducible refine cbd_max2 ?_)
  | (with_reducible refine cbd_abs ?_)
  | (with_reducible refine cbd_int ?_)
  | (with_reducible refine cbd_tupL ?_)
  | (with_reducible refine cbd_listL ?_)
  | (with_reducible refine cbd_listT ?_)
  | (with_reducible refine cbd_sum ?_)
  | (with_reducible refine sld_T ?_)
  | (with_reducible refine sld_L ?_)
  | (with_reducible refine ex_revL ?_)
  | (with_reducible refine ex_bmL ?_)
  | (with_reducible refine ex_andV ?_)
  | (with_reducible refine ei_list ?_)
  | (with_reducible refine ei_rng1 ?_)
  | (with_reducible refine ei_rng2 ?_)
  | (with_reducible refine ei_enum ?_)
  | (with_reducible refine ei_enumT ?_)
  | (with_reducible refine ei_zip ?_)
  | (with_reducible refine sx_par ?_)
  | (with_reducible refine Exists.intro _ (And.intro rfl ?_))
  | (with_reducible refine Exists.intro _ (Exists.intro _ (And.intro rfl ?_)))
  | ((with_reducible show EX (tCall (spS _) [] _ (tCons (tVar _) _)) _ _); refine ex_callS rfl ?_)
  | ((with_reducible refine And.intro (show (_ : Nat) ≤ 100000 from ?_) ?_); (focus (simp; done)))
  | ((with_reducible refine opd_I ?_ ?_); focus (first | omega | (show CDiv _ _; exact ⟨by omega, by omega⟩) | (show CMul _ _; first | exact Or.inl ⟨by omega, by omega⟩ | exact Or.inr ⟨by omega, by omega⟩))))
local macro_rules | `(tactic| walk_at "es") => `(tactic| repeat walk_at "e")
local macro_rules | `(tactic| walk_at "w") => `(tactic| try dsimp only [wipeE, List.foldl_cons, List.foldl_nil, List.set_cons_succ, List.set_cons_zero])
local macro_rules | `(tactic| walk_at "le") => `(tactic| repeat' first | exact LeE.nil | (refine LeE.eq rfl ?_) | (refine LeE.emp ?_) | (refine LeE.eq ?_ ?_))
local macro_rules | `(tactic| walk_at "no") => `(tactic| ((refine And.intro (fun hb => absurd hb ?_) (fun _ => ?_)); (focus (first | (exact Bool.false_ne_true) | (simp; done) | (simp; omega) | (simp only [decide_eq_true_eq]; omega)))))
local macro_rules | `(tactic| walk_at "yes") => `(tactic| ((refine And.intro (fun _ => ?_) (fun hb => absurd hb ?_)); (rotate_left); (focus (first | (exact Bool.noConfusion) | (simp; done) | (simp; omega) | (simp only [decide_eq_false_iff_not]; omega)))))
local macro_rules | `(tactic| walk_at "ei") => `(tactic| repeat ((fail_if_success (with_reducible show SX (tSeq (tIfS _ _ _) _) _ _)); (fail_if_success (with_reducible show SX (tIfS _ _ _) _ _)); (fail_if_success (with_reducible show SX (tSeq (tAsg (tIf _ _ _) _) _) _ _)); walk_at "e"))
local macro_rules | `(tactic| walk_at "tv") => `(tactic| repeat' first | walk_at "e" | ((with_reducible show (_ = true → _) ∧ (_ = false → _)); refine And.intro (fun _ => ?_) (fun _ => ?_)))
theorem filt_all {α : Type} (xs : List α) : (xs.filter fun _ => true) = xs := List.filter_eq_self.mpr fun _ _ => rfl
def nI (K : List Nat) : List Int := K.map fun k : Nat => (k : Int)
def natsD (r : List Nat) : D := .list (r.map fun k : Nat => .int (k : Int))
theorem natsD_eq (r : List Nat) : natsD r = .list ((nI r).map .int) := by
  unfold natsD nI
  rw [List.map_map]
  rfl
theorem nI_inj {a b : List Nat} (h : nI a = nI b) : a = b := by
  have := congrArg (List.map Int.toNat) h
  unfold nI at this
  rw [List.map_map, List.map_map] at this
  have e : ∀ l : List Nat, l.map (Int.toNat ∘ fun k : Nat => (k : Int)) = l := fun l => (List.map_congr_left fun k _ => by simp).trans (List.map_id _)
  rw [e, e] at this
  exact this
theorem eqv_intsL : ∀ (xs ys : List Int), PyData.eqvAll (xs.map PyData.int) (ys.map PyData.int) = decide (xs = ys)
  | [], [] => rfl
  | [], _ :: _ => rfl
  | _ :: _, [] => rfl
  | x :: xs, y :: ys => by
    rw [List.map_cons, List.map_cons, PyData.eqvAll, eqv_intsL xs ys]
    have e : PyData.eqv (.int x) (.int y) = decide (x = y) := by
      simp only [PyData.eqv]
      by_cases h : x = y <;> simp [h]
    rw [e]
    by_cases h1 : x = y <;> by_cases h2 : xs = ys <;> simp [h1, h2]
theorem ints_deep (xs : List Int) : (PyData.list (xs.map PyData.int)).depth ≤ 60 := by
  have h : DpN 2 (PyData.list (xs.map PyData.int)) := dpn_list (dpn_map fun x _ => dpn_int)
  exact Nat.le_trans h (by decide)
theorem eqv_nats (a b : List Nat) : PyData.eqv (natsD a) (natsD b) = decide (a = b) := by
  rw [natsD_eq, natsD_eq]
  have e : PyData.eqv (.list ((nI a).map PyData.int)) (.list ((nI b).map PyData.int)) = decide (nI a = nI b) := eqv_intsL _ _
  rw [e]
  by_cases h : a = b
  · rw [h]; simp
  · rw [decide_eq_false h, decide_eq_false fun q => h (nI_inj q)]
theorem any_lots (Ls : List (List Nat)) (l : List Nat) : ((Ls.map natsD).any fun y => PyData.eqv y (natsD l)) = decide (l ∈ Ls) := by
  induction Ls with
  | nil => rfl
  | cons k Ls ih =>
    rw [List.map_cons, List.any_cons, ih, eqv_nats]
    by_cases h : k = l
    · subst h; simp
    · have : ¬ l = k := fun e => h e.symm
      by_cases h2 : l ∈ Ls <;> simp [h, h2, this]
theorem any_nats (r : List Nat) (a : Nat) : ((r.map fun k : Nat => PyData.int (k : Int)).any fun y => PyData.eqv y (.int (a : Int))) = decide (a ∈ r) := by
  induction r with
  | nil => rfl
  | cons k r ih =>
    rw [List.map_cons, List.any_cons, ih]
    have e : PyData.eqv (.int (k : Int)) (.int (a : Int)) = decide (a = k) := by
      simp only [PyData.eqv]
      by_cases h : a = k
      · rw [decide_eq_true h]; simp [h]
      · rw [decide_eq_false h]
        simp
        omega
    rw [e]
    by_cases h : a = k <;> by_cases h2 : a ∈ r <;> simp [h, h2]
theorem rng_nats (f : Nat → Bool) (n : Nat) : (((rngI 0 n).filter fun k => f k.toNat).map fun k => PyData.int k) = ((List.range n).filter f).map fun k : Nat => PyData.int (k : Int) := by
  unfold rngI
  rw [List.filter_map, List.map_map]
  refine (List.map_congr_left fun k _ => ?_).trans (congrArg _ (List.filter_congr fun k _ => ?_))
  · simp only [Function.comp, Int.zero_add]
  · simp only [Function.comp, Int.zero_add, Int.toNat_natCast]
/-! ### how far -/
def sortI (xs : List Int) : List Int := xs.mergeSort fun a b => decide (a ≤ b)
theorem sortI_perm (xs : List Int) : (sortI xs).Perm xs := List.mergeSort_perm _ _
theorem sortD_I (xs : List Int) : sortD (xs.map PyData.int) = (sortI xs).map .int := by
  have e := PySem.W.sort_maps (r := fun a b : Int => decide (a ≤ b)) (s := PySem.W.dataLe false id) PyData.int (l := xs) (fun a _ b _ => by
    show decide (a ≤ b) = (!PySem.W.dataLt (.int b) (.int a))
    rw [PySem.W.dataLt_int]
    by_cases h : a ≤ b
    · rw [decide_eq_true h, decide_eq_false (by omega)]; rfl
    · rw [decide_eq_false h, decide_eq_true (by omega)]; rfl)
  exact e.symm
theorem cbd_sortI {K : PySem.W.Frag} {xs : List Int} {Q : D → Prop} (k : Q (.list ((sortI xs).map .int))) : CbD (rSrD K) [.list (xs.map .int)] Q := cbd_sortD (fun x hx y hy => by
    obtain ⟨a, _, rfl⟩ := List.mem_map.mp hx
    obtain ⟨b, _, rfl⟩ := List.mem_map.mp hy
    rfl) (.inr fun x hx => by
    obtain ⟨a, _, rfl⟩ := List.mem_map.mp hx
    exact ⟨by simp, by simp⟩) (depthAll_le (n := 1) (dpn_map fun x _ => dpn_int) |> fun h => Nat.le_trans h (by decide)) (by rw [sortD_I]; exact k)
theorem sort_asc {xs ys : List Int} (h : xs.Perm ys) (hs : ys.Pairwise (· < ·)) : sortI xs = ys := by
  have pw : (sortI xs).Pairwise fun a b => decide (a ≤ b) = true := List.pairwise_mergeSort (fun a b c h1 h2 => by
    have := of_decide_eq_true h1
    have := of_decide_eq_true h2
    exact decide_eq_true (by omega)) (fun a b => by
    rw [Bool.or_eq_true, decide_eq_true_eq, decide_eq_true_eq]
    omega) xs
  have pr : ys.Pairwise fun a b => decide (a ≤ b) = true := hs.imp fun h => decide_eq_true (by omega)
  exact (((sortI_perm xs).trans h).eq_of_pairwise (le := fun a b : Int => decide (a ≤ b) = true) (fun a b _ _ h1 h2 => by
    have := of_decide_eq_true h1
    have := of_decide_eq_true h2
    omega) pw pr)
theorem sort_bst {n : Nat} {t : List Nat} (nd : t.Nodup) (lt : ∀ o ∈ t, o < n) : sortI (nI t) = nI (bst n t) := by
  refine sort_asc ((bst_perm nd lt).symm.map _) ?_
  unfold nI bst
  rw [List.pairwise_map]
  exact (List.pairwise_lt_range.filter _).imp fun h => by omega
/-! ### met -/
def costsD (cs : List Int) : D := .list (cs.map .int)
def prD (cs : List Int) (ds : List (List Nat)) : D := .tuple [.list (cs.map .int), .list (ds.map natsD)]
def R_met : List D → (D → Prop) → Prop := fun vs Z => ∃ d t : List Nat, vs = [natsD d, natsD t] ∧ d.length ≤ 1000 ∧ Z (.bool (metB d t))
theorem met_D (d t : List Nat) : ((d.filter fun _ => true).map fun o => PyData.bool (decide (o ∈ t))) = (d.map fun o => decide (o ∈ t)).map .bool := by rw [filt_all, List.map_map]; rfl
theorem sx_met (K : PySem.W.Frag) (vs : List D) (Z : D → Prop) (h : R_met vs Z) : SX (T_met K) (startE N_met vs) { nx := fun _ => Z .none, rt := fun d _ => Z d } := by
  obtain ⟨d, t, rfl, hd, z⟩ := h
  show SX (T_met K) [.val (.list (d.map fun k : Nat => .int (k : Int))), .val (.list (t.map fun k : Nat => .int (k : Int))), .emp] _
  unfold T_met
  walk_at "es"
  refine ex_of (eo_lcP (α := Nat) (fun _ => true) (fun o => .bool (decide (o ∈ t))) (ei_list ?_))
  walk_at "es"
  refine ⟨by omega, fun i hi => by simp at hi; subst hi; rfl, fun o ho => sg_name (by simp) ⟨rfl, ?_⟩, ?_⟩
  · walk_at "w"
    refine et_yes ⟨rfl, rfl, fun _ => ?_⟩
    walk_at "es"
    refine opd_inL (Nat.le_trans (Nat.min_le_right _ _) (by simp [PyData.depth])) ?_
    rw [any_nats]
    exact ⟨rfl, rfl⟩
  rw [met_D]
  walk_at "es"
  refine cbd_any ?_
  rw [show (d.map fun o => decide (o ∈ t)).any id = metB d t by unfold metB; rw [List.any_map]; rfl]
  exact z
theorem opn_D (d l : List Nat) : ((d.filter fun o => !decide (o ∈ l)).map fun o : Nat => PyData.int (o : Int)) = (opn d l).map fun k : Nat => PyData.int (k : Int) := by
  unfold opn
  congr 1
  exact List.filter_congr fun o _ => by by_cases h : o ∈ l <;> simp [h]
theorem opn_len (d l : List Nat) : (opn d l).length ≤ d.length := List.length_filter_le _ _
/-! ### laid -/
structure Lim (cs : List Int) (ds : List (List Nat)) (t l : List Nat) : Prop where
  pb : Pb cs ds
  cn : cs.length ≤ 100
  dn : ds.length ≤ 100
  tl : ∀ o ∈ t, o < cs.length
  tn : t.length ≤ 1000
  ln : l.length ≤ 1000
theorem asc_len : ∀ (d : List Nat) (n : Nat), d.Pairwise (· < ·) → (∀ o ∈ d, o < n) → d.length ≤ n := fun d n h lt => by
  have p := bst_perm (n := n) (h.imp fun h => by omega : d.Nodup) lt
  rw [← p.length_eq]
  have := List.length_filter_le (fun o => decide (o ∈ d)) (List.range n)
  rw [List.length_range] at this
  exact this
theorem Lim.dl {cs : List Int} {ds : List (List Nat)} {t l : List Nat} (L : Lim cs ds t l) {d : List Nat} (h : d ∈ ds) : d.length ≤ cs.length := asc_len d _ (L.pb.asc d h) (L.pb.lt d h)
theorem cost_at {cs : List Int} {o : Nat} (h : o < cs.length) : atI (cs.map PyData.int) (o : Int) = some (.int (cst cs o)) := by rw [atI_map 0 (by omega) (by omega), Int.toNat_natCast]; rfl
theorem costT_D (cs : List Int) (t : List Nat) : ((t.filter fun _ => true).map fun o => PyData.int (cst cs o)) = (t.map (cst cs)).map .int := by rw [filt_all, List.map_map]; rfl
def R_laid : List D → (D → Prop) → Prop := fun vs Z => ∃ (cs : List Int) (ds : List (List Nat)) (t l : List Nat), vs = [prD cs ds, natsD t, natsD l] ∧ Lim cs ds t l ∧ Z (.tuple [.list ((laidF cs ds t l).rows.map encR), .int (laidF cs ds t l).tot])
theorem laid_rl {cs : List Int} {ds : List (List Nat)} {t l : List Nat} (L : Lim cs ds t l) : ∀ k, k ≤ ds.length → (laidK cs ds t l k).rest.length = cs.length ∧ (laidK cs ds t l k).rows.length ≤ k * 100
  | 0, _ => ⟨rfl, by simp [laidK]⟩
  | k + 1, hk => by
    obtain ⟨i1, i2⟩ := laid_rl L k (by omega)
    have hd := dAt_mem (ds := ds) (k := k) (by omega)
    have ol := opn_len (dAt ds k) l
    have dl := L.dl hd
    have cn := L.cn
    show (lStep t l (laidK cs ds t l k) k (dAt ds k)).rest.length = _ ∧ (lStep t l (laidK cs ds t l k) k (dAt ds k)).rows.length ≤ _
    generalize laidK cs ds t l k = s at i1 i2
    unfold lStep
    split
    · split
      · refine ⟨(step_rest L.pb hd i1 _).1, ?_⟩
        rw [List.length_append, List.length_map]
        omega
      · exact ⟨i1, by show s.rows.length ≤ _; omega⟩
    · exact ⟨i1, by omega⟩
theorem sx_laid (K : PySem.W.Frag) (vs : List D) (Z : D → Prop) (h : R_laid vs Z) : SX (T_laid K R_met) (startE N_laid vs) { nx := fun _ => Z .none, rt := fun d _ => Z d } := by
  obtain ⟨cs, ds, t, l, rfl, L, z⟩ := h
  show SX (T_laid K R_met) [.val (prD cs ds), .val (natsD t), .val (natsD l), .emp, .emp, .emp, .emp, .emp, .emp, .emp, .emp, .emp, .emp] _
  unfold T_laid
  obtain ⟨pb, cn, dn, tlt, tn, ln⟩ := id L
  refine sx_seq (sx_asgT (J := [3, 4]) ?_)
  walk_at "es"
  refine sg_tup rfl (sgs_cons (sg_name (by simp) (sgs_cons (sg_name (by simp) (sgs_nil ?_)))))
  walk_at "w"
  refine nx_seq ?_
  refine sx_seq (sx_asgO (eo_cb ?_))
  walk_at "es"
  refine cbo_listL ?_
  refine nx_seq ?_
  walk_at "w"
  refine sx_seq (sx_asgO (eo_lst ?_))
  walk_at "es"
  unfold natsD
  refine ex_of (eo_lcP (α := Nat) (fun _ => true) (fun o => .int (cst cs o)) (ei_list ?_))
  walk_at "es"
  refine ⟨by omega, fun i hi => by simp at hi; subst hi; rfl, fun o ho => sg_name (by simp) ⟨rfl, ?_⟩, ?_⟩
  · walk_at "w"
    refine et_yes ⟨rfl, rfl, fun _ => ?_⟩
    walk_at "es"
    refine opd_ixL (cost_at (tlt o ho)) ?_
    exact ⟨rfl, rfl⟩
  rw [costT_D]
  walk_at "es"
  refine sx_for (J := [9, 10]) (ei_enum ?_)
  walk_at "es"
  refine ⟨fun k ρ' => ρ' = [.val (prD cs ds), .val (natsD t), .val (natsD l), .val (.list (cs.map .int)), .val (.list (ds.map natsD)), .own ((laidK cs ds t l k).rest.map .int), .own ((laidK cs ds t l k).rows.map encR), .val (.int (laidK cs ds t l k).tot), .emp, .emp, .emp, .emp, .emp], rfl, ?_, ?_⟩
  · rintro k dd ρ' hd0 rfl
    obtain ⟨d, hd, rfl⟩ := enum_at hd0
    have hk := (List.getElem?_eq_some_iff.mp hd).1
    have ed : dAt ds k = d := by unfold dAt; rw [List.getD_eq_getElem?_getD, hd]; rfl
    have md := List.mem_of_getElem? hd
    have dl := L.dl md
    have ol := opn_len d l
    obtain ⟨rl, rw1⟩ := laid_rl L k (by omega)
    have sn : laidK cs ds t l (k + 1) = lStep t l (laidK cs ds t l k) k d := by rw [← ed]; rfl
    have lo := fun o (ho : o ∈ d) => pb.lt d md o ho
    unfold natsD
    refine sg_tup rfl (sgs_cons (sg_name (by simp) (sgs_cons (sg_name (by simp) (sgs_nil ?_)))))
    walk_at "w"
    refine sx_seq (sx_asg (ex_of (eo_lcP (α := Nat) (fun o => !decide (o ∈ l)) (fun o => .int (o : Int)) (ei_list ?_))))
    walk_at "es"
    refine ⟨by omega, fun i hi => by simp at hi; subst hi; rfl, fun o ho => sg_name (by simp) ⟨rfl, ?_⟩, ?_⟩
    · walk_at "w"
      walk_at "es"
      refine opd_ninL (Nat.le_trans (Nat.min_le_right _ _) (by simp [PyData.depth])) ?_
      rw [any_nats]
      refine ⟨_, rfl, rfl, rfl, fun _ => ?_⟩
      walk_at "es"
      exact ⟨rfl, rfl⟩
    rw [opn_D]
    refine nx_seq ?_
    walk_at "w"
    generalize eS : laidK cs ds t l k = s at sn rl rw1 ⊢
    have oo : ∀ o ∈ opn d l, o ∈ d := fun o ho => (opn_mem.mp ho).1
    refine sx_if (et_val (!metB d t && !(opn d l).isEmpty) ?_ ?_)
    · walk_at "es"
      refine ⟨d, t, rfl, by omega, ?_⟩
      walk_at "es"
      cases hm : metB d t with
      | true => exact ⟨(fun q => by cases q), fun _ => ⟨rfl, rfl⟩⟩
      | false =>
        refine ⟨fun _ => ?_, (fun q => by cases q)⟩
        walk_at "es"
        rw [List.isEmpty_map]
        exact ⟨rfl, rfl⟩
    refine ⟨fun hb => ?_, fun hb => ?_⟩
    · have hm : metB d t = false := by
        cases q : metB d t with
        | false => rfl
        | true => rw [q] at hb; cases hb
      have ne : opn d l ≠ [] := fun e => by rw [e] at hb; simp at hb
      unfold lStep at sn
      rw [if_pos ⟨hm, ne⟩] at sn
      refine sx_seq (sx_asg ?_)
      walk_at "es"
      refine ex_of (eo_lcP (α := Nat) (fun _ => true) (fun o => .int (s.rest.getD o 0)) (ei_list ?_))
      walk_at "es"
      refine ⟨by omega, fun i hi => by simp at hi; subst hi; rfl, fun o ho => sg_name (by simp) ⟨rfl, ?_⟩, ?_⟩
      · have := lo o (oo o ho)
        walk_at "w"
        refine et_yes ⟨rfl, rfl, fun _ => ?_⟩
        refine ex_ixO rfl ?_
        walk_at "es"
        exact ⟨_, (o : Int), .int (s.rest.getD o 0), rfl, rfl, by rw [atI_map 0 (by omega) (by omega), Int.toNat_natCast], rfl, rfl⟩
      rw [filt_all, show ((opn d l).map fun o => PyData.int (s.rest.getD o 0)) = ((opn d l).map fun o => s.rest.getD o 0).map .int by rw [List.map_map]; rfl]
      walk_at "es"
      refine cbd_minI (by rw [List.length_map]; exact List.length_pos_iff.mpr ne) ?_
      rw [show foldMin ((opn d l).map fun o => s.rest.getD o 0) = sizeO s.rest (opn d l) from rfl]
      generalize sizeO s.rest (opn d l) = zz at sn ⊢
      refine nx_seq ?_
      walk_at "w"
      walk_at "es"
      refine sx_for (J := [8]) (ei_list ?_)
      walk_at "es"
      by_cases zp : 0 < zz
      · rw [if_pos zp] at sn
        refine ⟨fun j ρ' => ρ' = [.val (prD cs ds), .val (natsD t), .val (natsD l), .val (.list (cs.map .int)), .val (.list (ds.map natsD)), .own ((takeO s.rest ((opn d l).take j) zz).map .int), .own ((s.rows ++ ((opn d l).take j).map fun o : Nat => ((k : Int), (o : Int), zz)).map encR), .val (.int (s.tot + zz)), .emp, .val (.int (k : Int)), .val (natsD d), .val (natsD (opn d l)), .val (.int zz)], ?_, ?_, ?_⟩
        · show _ = _
          rw [List.take_zero, List.map_nil, List.append_nil]
          rfl
        · rintro j dd ρ' hd0 rfl
          rw [List.getElem?_map] at hd0
          obtain ⟨o, ho, rfl⟩ := Option.map_eq_some_iff.mp hd0
          have hj := (List.getElem?_eq_some_iff.mp ho).1
          have mo := List.mem_of_getElem? ho
          have ol2 := lo o (oo o mo)
          have sno := take_snoc' ho
          have tk := (take_ok ((opn d l).take j) s.rest zz ((opn_nd pb md l).sublist (List.take_sublist _ _)) fun x hx => by rw [rl]; exact lo x (oo x (List.mem_of_mem_take hx))).1
          have tsn : takeO s.rest ((opn d l).take (j + 1)) zz = (takeO s.rest ((opn d l).take j) zz).set o ((takeO s.rest ((opn d l).take j) zz).getD o 0 - zz) := by
            rw [sno]
            unfold takeO
            rw [List.foldl_append]
            rfl
          rw [rl] at tk
          generalize takeO s.rest ((opn d l).take j) zz = rs at tk tsn ⊢
          refine sg_name (by simp) ?_
          walk_at "w"
          refine sx_if ?_
          walk_at "es"
          refine ⟨fun _ => ?_, fun q => absurd zp (of_decide_eq_false q)⟩
          refine sx_seq (sx_app rfl ?_)
          walk_at "es"
          have lt1 : ((opn d l).take j).length ≤ (opn d l).length := by rw [List.length_take]; omega
          refine ⟨by rw [List.length_map, List.length_append, List.length_map]; omega, ?_⟩
          refine nx_seq ?_
          walk_at "w"
          refine sx_setO (es := rs.map .int) (ex_op (ex_ixO rfl ?_))
          walk_at "es"
          refine ⟨_, (o : Int), .int (rs.getD o 0), rfl, rfl, by rw [atI_map 0 (by omega) (by omega), Int.toNat_natCast], ?_⟩
          walk_at "es"
          refine ⟨rfl, ?_⟩
          walk_at "es"
          refine ⟨_, (o : Int), o, rfl, rfl, by rw [List.length_map]; exact ixN_nat (by omega), ?_⟩
          walk_at "w"
          refine ⟨_, ?_, rfl⟩
          rw [tsn, sno, List.map_append, List.map_append, List.map_append, List.map_set]
          simp only [List.map_append, List.append_assoc]
          walk_at "le"
        rintro ρ' rfl
        rw [List.length_map, List.take_length]
        refine ⟨_, ?_, rfl⟩
        rw [sn]
        walk_at "le"
      · rw [if_neg zp] at sn
        refine ⟨fun j ρ' => ρ' = [.val (prD cs ds), .val (natsD t), .val (natsD l), .val (.list (cs.map .int)), .val (.list (ds.map natsD)), .own (s.rest.map .int), .own (s.rows.map encR), .val (.int (s.tot + zz)), .emp, .val (.int (k : Int)), .val (natsD d), .val (natsD (opn d l)), .val (.int zz)], rfl, ?_, ?_⟩
        · rintro j dd ρ' hd0 rfl
          rw [List.getElem?_map] at hd0
          obtain ⟨o, ho, rfl⟩ := Option.map_eq_some_iff.mp hd0
          refine sg_name (by simp) ?_
          walk_at "w"
          refine sx_if ?_
          walk_at "es"
          refine ⟨fun q => absurd (of_decide_eq_true q) zp, fun _ => ?_⟩
          exact sx_next ⟨_, by walk_at "le", rfl⟩
        rintro ρ' rfl
        refine ⟨_, ?_, rfl⟩
        rw [sn]
        walk_at "le"
    · have hn : ¬ (metB d t = false ∧ opn d l ≠ []) := fun ⟨a, b⟩ => by
        rw [a] at hb
        cases e : opn d l with
        | nil => exact b e
        | cons x xs => rw [e] at hb; cases hb
      unfold lStep at sn
      rw [if_neg hn] at sn
      refine sx_next ⟨_, ?_, rfl⟩
      rw [sn]
      walk_at "le"
  rintro ρ' rfl
  rw [enum_len]
  refine nx_seq (sx_freeze 6 rfl ?_)
  walk_at "w"
  walk_at "es"
  exact z
/-! ### the first open demand -/
def optN : Option Nat → D
  | none => .none
  | some k => .int (k : Int)
def R_fo : List D → (D → Prop) → Prop := fun vs Z => ∃ (cs : List Int) (ds : List (List Nat)) (t l : List Nat), vs = [prD cs ds, natsD t, natsD l] ∧ Lim cs ds t l ∧ Z (optN (foS ds t l))
theorem fo_snoc (ds : List (List Nat)) (t l : List Nat) (k : Nat) : foRows ds t l (k + 1) = if metB (dAt ds k) t = true then foRows ds t l k else foRows ds t l k ++ [(((opn (dAt ds k) l).length : Int), (k : Int))] := by
  unfold foRows
  rw [List.range_succ, List.filter_append, List.map_append]
  cases h : metB (dAt ds k) t <;> simp [h]
theorem fo_len (ds : List (List Nat)) (t l : List Nat) (k : Nat) : (foRows ds t l k).length ≤ k := by
  unfold foRows
  rw [List.length_map]
  have := List.length_filter_le (fun j => !metB (dAt ds j) t) (List.range k)
  rw [List.length_range] at this
  exact this
theorem fo_nn (ds : List (List Nat)) (t l : List Nat) (k : Nat) : ∀ p ∈ foRows ds t l k, 0 ≤ p.2 := fun p hp => by
  obtain ⟨j, _, rfl⟩ := List.mem_map.mp hp
  exact Int.natCast_nonneg j
theorem cbd_minP {K : PySem.W.Frag} {ps : List Pr} {Q : D → Prop} (h : ps ≠ []) (k : Q (encP (minPs ps))) : CbD (rMnD K) [.list (ps.map encP)] Q := by
  cases ps with
  | nil => exact absurd rfl h
  | cons p ps =>
    have al := alike_P (p :: ps)
    have dp : PyData.depthAll ((p :: ps).map encP) ≤ 60 := by
      have key : ∀ l : List Pr, PyData.depthAll (l.map encP) ≤ 60 := by
        intro l
        induction l with
        | nil => simp [PyData.depthAll]
        | cons q l ih => rw [List.map_cons]; simp only [PyData.depthAll, encP, PyData.depth]; omega
      exact key _
    rw [List.map_cons] at al dp ⊢
    refine cbd_minD al dp ?_
    rw [minD_P]
    exact k
theorem sx_first_open (K : PySem.W.Frag) (vs : List D) (Z : D → Prop) (h : R_fo vs Z) : SX (T_first_open K R_met) (startE N_first_open vs) { nx := fun _ => Z .none, rt := fun d _ => Z d } := by
  obtain ⟨cs, ds, t, l, rfl, L, z⟩ := h
  show SX (T_first_open K R_met) [.val (prD cs ds), .val (natsD t), .val (natsD l), .emp, .emp, .emp, .emp] _
  unfold T_first_open
  obtain ⟨pb, cn, dn, tlt, tn, ln⟩ := id L
  refine sx_seq (sx_asgO (eo_lst ?_))
  walk_at "es"
  unfold natsD
  refine sx_for (J := [4, 5]) (ei_enum ?_)
  walk_at "es"
  refine opd_ixT (d := .list (ds.map natsD)) rfl ?_
  walk_at "es"
  refine ⟨fun k ρ' => ρ' = [.val (prD cs ds), .val (natsD t), .val (natsD l), .own ((foRows ds t l k).map encP), .emp, .emp, .emp], rfl, ?_, ?_⟩
  · rintro k dd ρ' hd0 rfl
    obtain ⟨d, hd, rfl⟩ := enum_at hd0
    have hk := (List.getElem?_eq_some_iff.mp hd).1
    have ed : dAt ds k = d := by unfold dAt; rw [List.getD_eq_getElem?_getD, hd]; rfl
    have md := List.mem_of_getElem? hd
    have dl := L.dl md
    have ol := opn_len d l
    have sn := fo_snoc ds t l k
    have fl := fo_len ds t l k
    rw [ed] at sn
    unfold natsD
    refine sg_tup rfl (sgs_cons (sg_name (by simp) (sgs_cons (sg_name (by simp) (sgs_nil ?_)))))
    walk_at "w"
    refine sx_if ?_
    walk_at "es"
    refine ⟨d, t, rfl, by omega, ?_⟩
    refine ⟨_, rfl, ?_⟩
    refine ⟨fun hb => ?_, fun hb => ?_⟩
    · have hm : metB d t = false := by simpa using hb
      rw [if_neg (by rw [hm]; decide)] at sn
      refine sx_app rfl ?_
      walk_at "es"
      refine ex_of (eo_lcP (α := Nat) (fun o => !decide (o ∈ l)) (fun o => .int (o : Int)) (ei_list ?_))
      walk_at "es"
      refine ⟨by omega, fun i hi => by simp at hi; subst hi; rfl, fun o ho => sg_name (by simp) ⟨rfl, ?_⟩, ?_⟩
      · walk_at "w"
        walk_at "es"
        refine opd_ninL (Nat.le_trans (Nat.min_le_right _ _) (by simp [PyData.depth])) ?_
        rw [any_nats]
        refine ⟨_, rfl, rfl, rfl, fun _ => ?_⟩
        walk_at "es"
        exact ⟨rfl, rfl⟩
      rw [opn_D]
      walk_at "es"
      rw [show ((opn d l).map fun k : Nat => PyData.int (k : Int)).length = (opn d l).length from List.length_map _]
      refine ⟨by rw [List.length_map]; omega, ?_⟩
      walk_at "w"
      refine ⟨_, ?_, rfl⟩
      rw [sn, List.map_append]
      walk_at "le"
    · have hm : metB d t = true := by simpa using hb
      rw [if_pos hm] at sn
      refine sx_next ⟨_, ?_, rfl⟩
      rw [sn]
      walk_at "le"
  rintro ρ' rfl
  rw [enum_len]
  have nn := fo_nn ds t l ds.length
  unfold foS at z
  generalize foRows ds t l ds.length = ps at z nn ⊢
  refine nx_seq (sx_freeze 3 rfl ?_)
  walk_at "w"
  walk_at "es"
  cases ps with
  | nil =>
    refine ⟨(fun q => by cases q), fun _ => ?_⟩
    walk_at "es"
    exact z
  | cons p ps =>
    refine ⟨fun _ => ?_, (fun q => by cases q)⟩
    walk_at "es"
    refine cbd_minP (by simp) ?_
    have m := nn _ (minPs_mem (ps := p :: ps) (by simp))
    unfold encP
    walk_at "es"
    have e : (((minPs (p :: ps)).2.toNat : Nat) : Int) = (minPs (p :: ps)).2 := by omega
    have z : Z (.int (((minPs (p :: ps)).2.toNat : Nat) : Int)) := z
    rw [e] at z
    exact z
end Law_k41
namespace Law_k41
open PySem L2 Pu
local macro_rules | `(tactic| walk_at "e") => `(tactic| first
  | ((with_reducible refine nx_seq ?_); (try dsimp only [List.set_cons_succ, List.set_cons_zero]))
  | ((with_reducible refine ex_vr ?_); dsimp only [VQ, List.set_cons_succ, List.set_cons_zero, List.getElem?_cons_zero, List.getElem?_cons_succ]; (fail_if_success (with_reducible show False)))
  | (with_reducible refine sx_seq ?_)
  | (with_reducible refine sx_if ?_)
  | (with_reducible refine sx_next ?_)
  | (with_reducible refine sx_ret ?_)
  | ((fail_if_success (with_reducible refine sx_asgO (eo_lst ?_))); (with_reducible refine sx_asg ?_))
  | (with_reducible refine ex_int ?_)
  | (with_reducible refine ex_str ?_)
  | (with_reducible refine ex_bl ?_)
  | (with_reducible refine ex_non ?_)
  | (with_reducible refine ex_op ?_)
  | (with_reducible refine ex_un ?_)
  | (with_reducible refine ex_chain ?_)
  | (with_reducible refine ex_call ?_)
  | (with_reducible refine ex_isT ?_)
  | (with_reducible refine ex_cb ?_)
  | (with_reducible refine ex_sl ?_)
  | (with_reducible refine ex_tup ?_)
  | (with_reducible refine ex_if ?_)
  | (with_reducible refine ex_of (eo_lst ?_))
  | (with_reducible refine ex_notV ?_)
  | (with_reducible refine ea_nil ?_)
  | (with_reducible refine ea_cons ?_)
  | (with_reducible refine ep_no ?_)
  | (with_reducible refine ep_some ?_)
  | (with_reducible refine et_test ?_)
  | (with_reducible refine et_B ?_)
  | (with_reducible refine et_ch3 ?_)
  | (with_reducible refine et_and ?_)
  | (with_reducible refine et_or ?_)
  | (with_reducible refine et_not ?_)
  | (with_reducible refine et_yes ?_)
  | (with_reducible refine et_truL ?_)
  | (with_reducible refine opd_plusI ?_)
  | (with_reducible refine opd_I0 ?_)
  | (with_reducible refine opd_B0 ?_)
  | (with_reducible refine opd_eqI ?_)
  | (with_reducible refine opd_neI ?_)
  | (with_reducible refine opd_eqS ?_)
  | (with_reducible refine opd_neS ?_)
  | (with_reducible refine opd_is ?_)
  | (with_reducible refine opd_isnt ?_)
  | (with_reducible refine opd_ixT rfl ?_)
  | (with_reducible refine opd_ixL rfl ?_)
  | (with_reducible refine und_neg ?_)
  | (with_reducible refine cbd_lenL ?_)
  | (with_reducible refine cbd_lenT ?_)
  | (with_reducible refine cbd_min2 ?_)
  | (with_reducible refine cbd_max2 ?_)
  | (with_reducible refine cbd_abs ?_)
  | (with_reducible refine cbd_int ?_)
  | (with_reducible refine cbd_tupL ?_)
  | (with_reducible refine cbd_listL ?_)
  | (with_reducible refine cbd_listT ?_)
  | (with_reducible refine cbd_sum ?_)
  | (with_reducible refine sld_T ?_)
  | (with_reducible refine sld_L ?_)
  | (with_reducible refine ex_revL ?_)
  | (with_reducible refine ex_bmL ?_)
  | (with_reducible refine ex_andV ?_)
  | (with_reducible refine ei_list ?_)
  | (with_reducible refine ei_rng1 ?_)
  | (with_reducible refine ei_rng2 ?_)
  | (with_reducible refine ei_enum ?_)
  | (with_reducible refine ei_enumT ?_)
  | (with_reducible refine ei_zip ?_)
  | (with_reducible refine sx_par ?_)
  | (with_reducible refine Exists.intro _ (And.intro rfl ?_))
  | (with_reducible refine Exists.intro _ (Exists.intro _ (And.intro rfl ?_)))
  | ((with_reducible show EX (tCall (spS _) [] _ (tCons (tVar _) _)) _ _); refine ex_callS rfl ?_)
  | ((with_reducible refine And.intro (show (_ : Nat) ≤ 100000 from ?_) ?_); (focus (simp; done)))
  | ((with_reducible refine opd_I ?_ ?_); focus (first | omega | (show CDiv _ _; exact ⟨by omega, by omega⟩) | (show CMul _ _; first | exact Or.inl ⟨by omega, by omega⟩ | exact Or.inr ⟨by omega, by omega⟩))))
local macro_rules | `(tactic| walk_at "es") => `(tactic| repeat walk_at "e")
local macro_rules | `(tactic| walk_at "w") => `(tactic| try dsimp only [wipeE, List.foldl_cons, List.foldl_nil, List.set_cons_succ, List.set_cons_zero])
local macro_rules | `(tactic| walk_at "le") => `(tactic| repeat' first | exact LeE.nil | (refine LeE.eq rfl ?_) | (refine LeE.emp ?_) | (refine LeE.eq ?_ ?_))
local macro_rules | `(tactic| walk_at "no") => `(tactic| ((refine And.intro (fun hb => absurd hb ?_) (fun _ => ?_)); (focus (first | (exact Bool.false_ne_true) | (simp; done) | (simp; omega) | (simp only [decide_eq_true_eq]; omega)))))
local macro_rules | `(tactic| walk_at "yes") => `(tactic| ((refine And.intro (fun _ => ?_) (fun hb => absurd hb ?_)); (rotate_left); (focus (first | (exact Bool.noConfusion) | (simp; done) | (simp; omega) | (simp only [decide_eq_false_iff_not]; omega)))))
local macro_rules | `(tactic| walk_at "ei") => `(tactic| repeat ((fail_if_success (with_reducible show SX (tSeq (tIfS _ _ _) _) _ _)); (fail_if_success (with_reducible show SX (tIfS _ _ _) _ _)); (fail_if_success (with_reducible show SX (tSeq (tAsg (tIf _ _ _) _) _) _ _)); walk_at "e"))
local macro_rules | `(tactic| walk_at "tv") => `(tactic| repeat' first | walk_at "e" | ((with_reducible show (_ = true → _) ∧ (_ = false → _)); refine And.intro (fun _ => ?_) (fun _ => ?_)))
/-! ### the search -/
def covF (p b c : D) : List (Str × D) := [("problem", p), ("best", b), ("cost", c)]
theorem n_pb : ¬ (("problem" : Str) = "best") := by decide +kernel
theorem n_pc : ¬ (("problem" : Str) = "cost") := by decide +kernel
theorem n_bc : ¬ (("best" : Str) = "cost") := by decide +kernel
theorem n_pg : ¬ (("problem" : Str) = "go") := by decide +kernel
theorem n_bg : ¬ (("best" : Str) = "go") := by decide +kernel
theorem n_cg : ¬ (("cost" : Str) = "go") := by decide +kernel
theorem n_pp : ¬ (("problem" : Str) = "prove") := by decide +kernel
theorem n_bp : ¬ (("best" : Str) = "prove") := by decide +kernel
theorem n_cp : ¬ (("cost" : Str) = "prove") := by decide +kernel
section
variable (p b c d : D)
theorem lk_p : List.lookup ("problem" : Str) (covF p b c) = some p := lk_eq _ _ _
theorem lk_b : List.lookup ("best" : Str) (covF p b c) = some b := by unfold covF; rw [lk_ne n_pb, lk_eq]
theorem lk_c : List.lookup ("cost" : Str) (covF p b c) = some c := by unfold covF; rw [lk_ne n_pc, lk_ne n_bc, lk_eq]
theorem lk_go : List.lookup ("go" : Str) (covF p b c) = none := by unfold covF; rw [lk_ne n_pg, lk_ne n_bg, lk_ne n_cg, lk_nil]
theorem lk_pr : List.lookup ("prove" : Str) (covF p b c) = none := by unfold covF; rw [lk_ne n_pp, lk_ne n_bp, lk_ne n_cp, lk_nil]
theorem pt_b : putD "best" d (covF p b c) = covF p d c := by unfold covF; rw [putD_ne n_pb, putD_eq]
theorem pt_c : putD "cost" d (covF p b c) = covF p b d := by unfold covF; rw [putD_ne n_pc, putD_ne n_bc, putD_eq]
end
def bD : Bst → D
  | none => .none
  | some b => natsD b.1
def cD : Bst → D
  | none => .none
  | some b => .int b.2
def objS (C : Addr) (cs : List Int) (ds : List (List Nat)) (st : Bst) : Stt := .obj C (covF (prD cs ds) (bD st) (cD st))
def R_init (C : Addr) : Stt → List D → (D → Stt → Prop) → Prop := fun S vs Z => ∃ (cs : List Int) (ds : List (List Nat)), vs = [prD cs ds] ∧ S = .obj C [] ∧ Z .none (objS C cs ds none)
theorem sx_Cover_init (K : PySem.W.Frag) (C : Addr) (S : Stt) (vs : List D) (Z : D → Stt → Prop) (h : R_init C S vs Z) :
    SX (T_Cover_init K C) (.st S :: (vs.map .val ++ List.replicate (N_Cover_init.length - (vs.length + 1)) .emp)) { nx := fun ρ' => ∃ S', ρ'[0]? = some (.st S') ∧ Z .none S', rt := fun d ρ' => ∃ S', ρ'[0]? = some (.st S') ∧ Z d S' } := by
  obtain ⟨cs, ds, rfl, rfl, z⟩ := h
  show SX (T_Cover_init K C) [.st (.obj C []), .val (prD cs ds)] _
  unfold T_Cover_init
  refine sx_seq (sx_fld rfl ?_)
  walk_at "es"
  refine ⟨by simp, ?_⟩
  refine nx_seq ?_
  walk_at "w"
  refine sx_seq (sx_fld rfl ?_)
  walk_at "es"
  refine ⟨by simp [putD], ?_⟩
  refine nx_seq ?_
  walk_at "w"
  refine sx_fld rfl ?_
  walk_at "es"
  refine ⟨by rw [putD_nil, putD_ne n_pb]; simp [putD], ?_⟩
  refine nx_same ⟨_, rfl, ?_⟩
  rw [putD_nil, putD_ne n_pb, putD_nil, putD_ne n_pc, putD_ne n_bc, putD_nil]
  exact z
theorem natsD_app (a b : List Nat) : natsD (a ++ b) = .list ((a.map fun k : Nat => .int (k : Int)) ++ b.map fun k : Nat => .int (k : Int)) := by unfold natsD; rw [List.map_append]
theorem natsD_snoc (r : List Nat) (k : Nat) : natsD (r ++ [k]) = .list ((r.map fun k : Nat => PyData.int (k : Int)) ++ [.int (k : Int)]) := by unfold natsD; rw [List.map_append]; rfl
/-- what is left aside -/
structure Lo (cs : List Int) (l : List Nat) : Prop where
  nd : l.Nodup
  lt : ∀ o ∈ l, o < cs.length
theorem Lo.len {cs : List Int} {l : List Nat} (h : Lo cs l) : l.length ≤ cs.length := by
  rw [← (bst_perm h.nd h.lt).length_eq]
  have := List.length_filter_le (fun o => decide (o ∈ l)) (List.range cs.length)
  rw [List.length_range] at this
  exact this
theorem lo_child {cs : List Int} {ds : List (List Nat)} (pb : Pb cs ds) {l ah : List Nat} (lo : Lo cs l) {d : List Nat} (hd : d ∈ ds) (ha : ∀ x ∈ ah, x ∈ opn d l) (nd : ah.Nodup) : Lo cs (l ++ ah) := by
  refine ⟨List.nodup_append.mpr ⟨lo.nd, nd, fun a h1 b h2 e => ?_⟩, fun x hx => ?_⟩
  · subst e; exact (opn_mem.mp (ha a h2)).2 h1
  · rcases List.mem_append.mp hx with q | q
    · exact lo.lt x q
    · exact pb.lt d hd x (opn_mem.mp (ha x q)).1
structure Sc (cs : List Int) (ds : List (List Nat)) : Prop where
  pb : Pb cs ds
  cn : cs.length ≤ 100
  dn : ds.length ≤ 100
theorem lim_of {cs : List Int} {ds : List (List Nat)} {t l : List Nat} (s : Sc cs ds) (tk : Tk cs t l) (lo : Lo cs l) : Lim cs ds t l := by
  have a := tk_len tk
  have b := lo.len
  have c := s.cn
  exact ⟨s.pb, s.cn, s.dn, tk.lt, by omega, by omega⟩
def R_go (C : Addr) (lvl : Nat) : Stt → List D → (D → Stt → Prop) → Prop := fun S vs Z => ∃ (cs : List Int) (ds : List (List Nat)) (t l : List Nat) (st : Bst), vs = [natsD t, natsD l] ∧ S = objS C cs ds st ∧ Sc cs ds ∧ Tk cs t l ∧ Lo cs l ∧ cs.length < lvl + t.length ∧ Z .none (objS C cs ds (goF cs ds lvl t l st))
theorem no_go {C : Addr} : ∀ S vs Z, ¬ R_go C 0 S vs Z := by
  rintro S vs Z ⟨cs, ds, t, l, st, rfl, rfl, sc, tk, lo, h, z⟩
  have := tk_len tk
  omega
theorem take_opn {d l : List Nat} {j o : Nat} (h : d[j]? = some o) : opn (d.take (j + 1)) l = if o ∈ l then opn (d.take j) l else opn (d.take j) l ++ [o] := by
  unfold opn
  rw [take_snoc' h, List.filter_append]
  by_cases c : o ∈ l <;> simp [c]
theorem take_fresh {d : List Nat} (nd : d.Nodup) {j o : Nat} (h : d[j]? = some o) : o ∉ d.take j := fun q => by
  obtain ⟨i, hi, e⟩ := List.getElem_of_mem q
  obtain ⟨hj, ej⟩ := List.getElem?_eq_some_iff.mp h
  rw [List.getElem_take] at e
  rw [List.length_take] at hi
  exact List.pairwise_iff_getElem.mp nd i j (by omega) hj (by omega) (e.trans ej.symm)
theorem opn_take_mem {d l : List Nat} {j x : Nat} (h : x ∈ opn (d.take j) l) : x ∈ opn d l := opn_mem.mpr ⟨List.mem_of_mem_take (opn_mem.mp h).1, (opn_mem.mp h).2⟩
theorem sx_Cover_go (K : PySem.W.Frag) (C : Addr) (n : Nat) (S : Stt) (vs : List D) (Z : D → Stt → Prop) (h : R_go C (n + 1) S vs Z) :
    SX (T_Cover_go K C R_laid R_fo (R_go C n)) (.st S :: (vs.map .val ++ List.replicate (N_Cover_go.length - (vs.length + 1)) .emp)) { nx := fun ρ' => ∃ S', ρ'[0]? = some (.st S') ∧ Z .none S', rt := fun d ρ' => ∃ S', ρ'[0]? = some (.st S') ∧ Z d S' } := by
  obtain ⟨cs, ds, t, l, st, rfl, rfl, sc, tk, lo, hlv, z⟩ := h
  show SX (T_Cover_go K C R_laid R_fo (R_go C n)) [.st (.obj C (covF (prD cs ds) (bD st) (cD st))), .val (natsD t), .val (natsD l), .emp, .emp, .emp, .emp, .emp] _
  unfold T_Cover_go
  have L := lim_of sc tk lo
  have cn := sc.cn
  have tl := tk_len tk
  have ll := lo.len
  refine sx_seq (sx_asgT (J := [3, 4]) ?_)
  walk_at "es"
  refine ex_fld rfl (lk_p _ _ _) ?_
  walk_at "es"
  refine ⟨cs, ds, t, l, rfl, L, ?_⟩
  refine sg_tup rfl (sgs_cons (sg_name (by simp) (sgs_cons (sg_name (by simp) (sgs_nil ?_)))))
  walk_at "w"
  refine nx_seq ?_
  unfold goF at z
  refine sx_seq (sx_if (et_val (cutB st (laidF cs ds t l).tot) ?_ ?_))
  · walk_at "es"
    refine ex_fld rfl (lk_c _ _ _) ?_
    walk_at "es"
    cases st with
    | none => exact ⟨(fun q => by cases q), fun _ => ⟨rfl, rfl⟩⟩
    | some b =>
      refine ⟨fun _ => ?_, (fun q => by cases q)⟩
      walk_at "es"
      refine ex_fld rfl (lk_c _ _ _) ?_
      unfold cD
      walk_at "es"
      exact ⟨rfl, rfl⟩
  refine ⟨fun hb => ?_, fun hb => ?_⟩
  · rw [if_pos hb] at z
    exact sx_retN ⟨_, rfl, z⟩
  rw [if_neg (by rw [hb]; decide)] at z
  refine sx_next (nx_seq ?_)
  walk_at "es"
  refine ex_fld rfl (lk_p _ _ _) ?_
  walk_at "es"
  refine ⟨cs, ds, t, l, rfl, L, ?_⟩
  refine nx_seq ?_
  walk_at "w"
  cases hfo : foS ds t l with
  | none =>
    rw [hfo] at z
    unfold optN
    refine sx_seq (sx_if (et_val true ?_ ?_))
    · walk_at "es"
      exact ⟨rfl, rfl⟩
    walk_at "yes"
    refine sx_seq (sx_fld rfl ?_)
    walk_at "es"
    rw [natsD_eq]
    refine cbd_sortI ?_
    rw [sort_bst tk.nd tk.lt, ← natsD_eq]
    refine ⟨_, rfl, by simp [covF], ?_⟩
    rw [pt_b]
    refine nx_seq ?_
    walk_at "w"
    refine sx_seq (sx_fld rfl ?_)
    unfold natsD
    walk_at "es"
    refine ex_of (eo_lcP (α := Nat) (fun _ => true) (fun o => .int (cst cs o)) (ei_list ?_))
    walk_at "es"
    refine ⟨by omega, fun i hi => by simp at hi; subst hi; rfl, fun o ho => sg_name (by simp) ⟨rfl, ?_⟩, ?_⟩
    · have := tk.lt o ho
      walk_at "w"
      refine et_yes ⟨rfl, rfl, fun _ => ?_⟩
      walk_at "es"
      refine ex_fld rfl (lk_p _ _ _) ?_
      walk_at "es"
      refine opd_ixT (d := .list (cs.map .int)) rfl ?_
      walk_at "es"
      refine opd_ixL (cost_at this) ?_
      exact ⟨rfl, rfl⟩
    rw [costT_D]
    walk_at "es"
    refine ⟨by simp [covF], ?_⟩
    rw [pt_c]
    refine nx_seq ?_
    walk_at "w"
    have z : Z .none (.obj C (covF (prD cs ds) (natsD (bst cs.length t)) (.int (costT cs t)))) := z
    rw [natsD_eq] at z
    exact sx_retN ⟨_, rfl, z⟩
  | some a =>
    rw [hfo] at z
    obtain ⟨ha, um⟩ := fo_some hfo
    have md := dAt_mem (ds := ds) ha
    have z : Z .none (objS C cs ds ((opn (dAt ds a) l).foldl (gStep (goF cs ds n) t l) ([], st)).2) := z
    unfold optN
    refine sx_seq (sx_if (et_val false ?_ ?_))
    · walk_at "es"
      exact ⟨rfl, rfl⟩
    walk_at "no"
    refine sx_next (nx_seq ?_)
    have da : ds[a]? = some (dAt ds a) := by unfold dAt; rw [List.getD_eq_getElem?_getD, List.getElem?_eq_getElem ha]; rfl
    generalize dAt ds a = d at z um md da
    have nd : d.Nodup := (sc.pb.asc d md).imp fun h => by omega
    have dl := L.dl md
    refine sx_seq (sx_asg (ex_of (eo_lst ?_)))
    walk_at "es"
    refine sx_for (J := [6]) (ei_list ?_)
    walk_at "es"
    refine ex_fld rfl (lk_p _ _ _) ?_
    walk_at "es"
    refine opd_ixT (d := .list (ds.map natsD)) rfl ?_
    walk_at "es"
    refine opd_ixL (d := natsD d) ?_ ?_
    · rw [atI_map [] (by omega) (by omega), Int.toNat_natCast, List.getD_eq_getElem?_getD, da]; rfl
    unfold natsD
    walk_at "es"
    refine ⟨fun j ρ' => ρ' = [.st (objS C cs ds ((opn (d.take j) l).foldl (gStep (goF cs ds n) t l) ([], st)).2), .val (natsD t), .val (natsD l), .val (.list ((laidF cs ds t l).rows.map encR)), .val (.int (laidF cs ds t l).tot), .val (.int (a : Int)), .emp, .val (natsD (opn (d.take j) l))], rfl, ?_, ?_⟩
    · rintro j dd ρ' hd0 rfl
      rw [List.getElem?_map] at hd0
      obtain ⟨o, ho, rfl⟩ := Option.map_eq_some_iff.mp hd0
      have hj := (List.getElem?_eq_some_iff.mp ho).1
      have mo := List.mem_of_getElem? ho
      have sno := take_opn (l := l) ho
      have fr := take_fresh nd ho
      have ff := fold_fst (goF cs ds n) t l (opn (d.take j) l) ([], st)
      refine sg_name (by simp) ?_
      unfold natsD
      walk_at "w"
      refine sx_if ?_
      walk_at "es"
      refine opd_ninL (Nat.le_trans (Nat.min_le_right _ _) (by simp [PyData.depth])) ?_
      rw [any_nats]
      refine ⟨_, rfl, fun hq => ?_, fun hq => ?_⟩
      · have hq : o ∉ l := by simpa using hq
        rw [if_neg hq] at sno
        have hop := opn_mem.mpr ⟨mo, hq⟩
        have ah : ∀ x ∈ opn (d.take j) l, x ∈ opn d l := fun x hx => opn_take_mem hx
        have oah : o ∉ opn (d.take j) l := fun q => fr (opn_mem.mp q).1
        have tk' := tk_child sc.pb tk md um hop (fun x hx => (opn_mem.mp (ah x hx)).1) oah
        have lo' := lo_child sc.pb lo md ah ((nd.sublist (List.take_sublist j d)).filter _)
        have ol := opn_len (d.take j) l
        rw [List.length_take] at ol
        refine sx_seq (sx_drop (ex_meth rfl (lk_go _ _ _) ?_))
        walk_at "es"
        refine opd_plusL (by rw [List.length_map]; simp; omega) ?_
        rw [← natsD_snoc]
        walk_at "es"
        refine opd_plusL (by rw [List.length_map, List.length_map]; omega) ?_
        rw [← natsD_app]
        walk_at "es"
        refine ⟨cs, ds, t ++ [o], l ++ opn (d.take j) l, ((opn (d.take j) l).foldl (gStep (goF cs ds n) t l) ([], st)).2, rfl, rfl, sc, tk', lo', by rw [List.length_append, List.length_singleton]; omega, ?_⟩
        refine nx_seq ?_
        walk_at "w"
        walk_at "es"
        refine opd_plusL (by rw [List.length_map]; simp; omega) ?_
        refine ⟨_, ?_, rfl⟩
        have e2 : ((opn (d.take j) l ++ [o]).foldl (gStep (goF cs ds n) t l) ([], st)).2 = goF cs ds n (t ++ [o]) (l ++ opn (d.take j) l) ((opn (d.take j) l).foldl (gStep (goF cs ds n) t l) ([], st)).2 := by
          rw [List.foldl_append]
          show goF cs ds n (t ++ [o]) (l ++ ((opn (d.take j) l).foldl (gStep (goF cs ds n) t l) ([], st)).1) _ = _
          rw [ff]
          rfl
        rw [sno, e2, List.map_append]
        walk_at "le"
      · have hq : o ∈ l := by simpa using hq
        rw [if_pos hq] at sno
        refine sx_next ⟨_, ?_, rfl⟩
        rw [sno]
        walk_at "le"
    rintro ρ' rfl
    rw [List.length_map, List.take_length]
    exact nx_same ⟨_, rfl, z⟩
end Law_k41
namespace Law_k41
open PySem L2 Pu
local macro_rules | `(tactic| walk_at "e") => `(tactic| first
  | ((with_reducible refine nx_seq ?_); (try dsimp only [List.set_cons_succ, List.set_cons_zero]))
  | ((with_reducible refine ex_vr ?_); dsimp only [VQ, List.set_cons_succ, List.set_cons_zero, List.getElem?_cons_zero, List.getElem?_cons_succ]; (fail_if_success (with_reducible show False)))
  | (with_reducible refine sx_seq ?_)
  | (with_reducible refine sx_if ?_)
  | (with_reducible refine sx_next ?_)
  | (with_reducible refine sx_ret ?_)
  | ((fail_if_success (with_reducible refine sx_asgO (eo_lst ?_))); (with_reducible refine sx_asg ?_))
  | (with_reducible refine ex_int ?_)
  | (with_reducible refine ex_str ?_)
  | (with_reducible refine ex_bl ?_)
  | (with_reducible refine ex_non ?_)
  | (with_reducible refine ex_op ?_)
  | (with_reducible refine ex_un ?_)
  | (with_reducible refine ex_chain ?_)
  | (with_reducible refine ex_call ?_)
  | (with_reducible refine ex_isT ?_)
  | (with_reducible refine ex_cb ?_)
  | (with_reducible refine ex_sl ?_)
  | (with_reducible refine ex_tup ?_)
  | (with_reducible refine ex_if ?_)
  | (with_reducible refine ex_of (eo_lst ?_))
  | (with_reducible refine ex_notV ?_)
  | (with_reducible refine ea_nil ?_)
  | (with_reducible refine ea_cons ?_)
  | (with_reducible refine ep_no ?_)
  | (with_reducible refine ep_some ?_)
  | (with_reducible refine et_test ?_)
  | (with_reducible refine et_B ?_)
  | (with_reducible refine et_ch3 ?_)
  | (with_reducible refine et_and ?_)
  | (with_reducible refine et_or ?_)
  | (with_reducible refine et_not ?_)
  | (with_reducible refine et_yes ?_)
  | (with_reducible refine et_truL ?_)
  | (with_reducible refine opd_plusI ?_)
  | (with_reducible refine opd_I0 ?_)
  | (with_reducible refine opd_B0 ?_)
  | (with_reducible refine opd_eqI ?_)
  | (with_reducible refine opd_neI ?_)
  | (with_reducible refine opd_eqS ?_)
  | (with_reducible refine opd_neS ?_)
  | (with_reducible refine opd_is ?_)
  | (with_reducible refine opd_isnt ?_)
  | (with_reducible refine opd_ixT rfl ?_)
  | (with_reducible refine opd_ixL rfl ?_)
  | (with_reducible refine und_neg ?_)
  | (with_reducible refine cbd_lenL ?_)
  | (with_reducible refine cbd_lenT ?_)
  | (with_reducible refine cbd_min2 ?_)
  | (with_reducible refine cbd_max2 ?_)
  | (with_reducible refine cbd_abs ?_)
  | (with_reducible refine cbd_int ?_)
  | (with_reducible refine cbd_tupL ?_)
  | (with_reducible refine cbd_listL ?_)
  | (with_reducible refine cbd_listT ?_)
  | (with_reducible refine cbd_sum ?_)
  | (with_reducible refine sld_T ?_)
  | (with_reducible refine sld_L ?_)
  | (with_reducible refine ex_revL ?_)
  | (with_reducible refine ex_bmL ?_)
  | (with_reducible refine ex_andV ?_)
  | (with_reducible refine ei_list ?_)
  | (with_reducible refine ei_rng1 ?_)
  | (with_reducible refine ei_rng2 ?_)
  | (with_reducible refine ei_enum ?_)
  | (with_reducible refine ei_enumT ?_)
  | (with_reducible refine ei_zip ?_)
  | (with_reducible refine sx_par ?_)
  | (with_reducible refine Exists.intro _ (And.intro rfl ?_))
  | (with_reducible refine Exists.intro _ (Exists.intro _ (And.intro rfl ?_)))
  | ((with_reducible show EX (tCall (spS _) [] _ (tCons (tVar _) _)) _ _); refine ex_callS rfl ?_)
  | ((with_reducible refine And.intro (show (_ : Nat) ≤ 100000 from ?_) ?_); (focus (simp; done)))
  | ((with_reducible refine opd_I ?_ ?_); focus (first | omega | (show CDiv _ _; exact ⟨by omega, by omega⟩) | (show CMul _ _; first | exact Or.inl ⟨by omega, by omega⟩ | exact Or.inr ⟨by omega, by omega⟩))))
local macro_rules | `(tactic| walk_at "es") => `(tactic| repeat walk_at "e")
local macro_rules | `(tactic| walk_at "w") => `(tactic| try dsimp only [wipeE, List.foldl_cons, List.foldl_nil, List.set_cons_succ, List.set_cons_zero])
local macro_rules | `(tactic| walk_at "le") => `(tactic| repeat' first | exact LeE.nil | (refine LeE.eq rfl ?_) | (refine LeE.emp ?_) | (refine LeE.eq ?_ ?_))
local macro_rules | `(tactic| walk_at "no") => `(tactic| ((refine And.intro (fun hb => absurd hb ?_) (fun _ => ?_)); (focus (first | (exact Bool.false_ne_true) | (simp; done) | (simp; omega) | (simp only [decide_eq_true_eq]; omega)))))
local macro_rules | `(tactic| walk_at "yes") => `(tactic| ((refine And.intro (fun _ => ?_) (fun hb => absurd hb ?_)); (rotate_left); (focus (first | (exact Bool.noConfusion) | (simp; done) | (simp; omega) | (simp only [decide_eq_false_iff_not]; omega)))))
local macro_rules | `(tactic| walk_at "ei") => `(tactic| repeat ((fail_if_success (with_reducible show SX (tSeq (tIfS _ _ _) _) _ _)); (fail_if_success (with_reducible show SX (tIfS _ _ _) _ _)); (fail_if_success (with_reducible show SX (tSeq (tAsg (tIf _ _ _) _) _) _ _)); walk_at "e"))
local macro_rules | `(tactic| walk_at "tv") => `(tactic| repeat' first | walk_at "e" | ((with_reducible show (_ = true → _) ∧ (_ = false → _)); refine And.intro (fun _ => ?_) (fun _ => ?_)))
/-! ### the tree that is told -/
mutual
def encT : Tr → D
  | .shares rows => .tuple [.str (Str.ofString "shares"), .list (rows.map encR)]
  | .blocked a => .tuple [.str (Str.ofString "blocked"), .int a]
  | .split a ts => .tuple [.str (Str.ofString "split"), .int a, .list (encTs ts)]
def encTs : List Tr → List D
  | [] => []
  | t :: ts => encT t :: encTs ts
end
theorem encTs_map : ∀ ts : List Tr, encTs ts = ts.map encT
  | [] => by rw [encTs]; rfl
  | t :: ts => by rw [encTs, encTs_map ts]; rfl
theorem enc_sh (rows : List Rw) : encT (.shares rows) = .tuple [.str (Str.ofString "shares"), .list (rows.map encR)] := by rw [encT]
theorem enc_bl (a : Int) : encT (.blocked a) = .tuple [.str (Str.ofString "blocked"), .int a] := by rw [encT]
theorem enc_sp (a : Int) (ts : List Tr) : encT (.split a ts) = .tuple [.str (Str.ofString "split"), .int a, .list (ts.map encT)] := by rw [encT, encTs_map]
def R_prove (C : Addr) (lvl : Nat) : Stt → List D → (D → Stt → Prop) → Prop := fun S vs Z => ∃ (cs : List Int) (ds : List (List Nat)) (t l : List Nat) (st : Bst), vs = [natsD t, natsD l] ∧ S = objS C cs ds st ∧ Sc cs ds ∧ Tk cs t l ∧ Lo cs l ∧ cs.length < lvl + t.length ∧ Fnl cs ds st ∧ Z (encT (proveF cs ds st lvl t l)) (objS C cs ds st)
theorem no_prove {C : Addr} : ∀ S vs Z, ¬ R_prove C 0 S vs Z := by
  rintro S vs Z ⟨cs, ds, t, l, st, rfl, rfl, sc, tk, lo, h, _⟩
  have := tk_len tk
  omega
theorem all_in (d l : List Nat) : (d.map fun o => decide (o ∈ l)).all id = (opn d l).isEmpty := by
  unfold opn
  induction d with
  | nil => rfl
  | cons o d ih =>
    rw [List.map_cons, List.all_cons, ih, List.filter_cons]
    by_cases h : o ∈ l <;> simp [h]
theorem in_D (d l : List Nat) : ((d.filter fun _ => true).map fun o => PyData.bool (decide (o ∈ l))) = (d.map fun o => decide (o ∈ l)).map .bool := by rw [filt_all, List.map_map]; rfl
def blkB (ds : List (List Nat)) (t l : List Nat) (k : Nat) : Bool := !metB (dAt ds k) t && (opn (dAt ds k) l).isEmpty
theorem blk_first {ds : List (List Nat)} {t l : List Nat} {k : Nat} (hk : k < ds.length) (h1 : ∀ j, j < k → blkB ds t l j = false) (h2 : blkB ds t l k = true) : blkS ds t l = some k := by
  unfold blkS
  rw [List.find?_range_eq_some]
  exact ⟨h2, List.mem_range.mpr hk, fun j hj => by have := h1 j hj; unfold blkB at this; rw [this]; rfl⟩
theorem blk_no {ds : List (List Nat)} {t l : List Nat} (h1 : ∀ j, j < ds.length → blkB ds t l j = false) : blkS ds t l = none := by
  unfold blkS
  rw [List.find?_eq_none]
  intro j hj
  have := h1 j (List.mem_range.mp hj)
  unfold blkB at this
  rw [this]
  decide
theorem fo_isSome {cs : List Int} {ds : List (List Nat)} {st : Bst} (F : Fnl cs ds st) {t l : List Nat} (tk : Tk cs t l) (hc : cutB st (laidF cs ds t l).tot = false) : ∃ a, foS ds t l = some a := by
  cases hfo : foS ds t l with
  | some a => exact ⟨a, rfl⟩
  | none =>
    exfalso
    have am := fo_none hfo
    have e : (laidF cs ds t l).tot = costT cs t := by unfold laidF; rw [laid_met am _ (Nat.le_refl _)]
    obtain ⟨b, rfl, hb2⟩ := F.und (fun o => decide (o ∈ t)) ⟨by simp, by simp, fun d hd => by
      obtain ⟨o, h1, h2⟩ := met_iff.mp (am d hd)
      exact ⟨o, h1, decide_eq_true h2⟩⟩
    have : costR cs (fun o => decide (o ∈ t)) = costT cs t := sum_perm ((bst_perm tk.nd tk.lt).map _)
    rw [e] at hc
    simp only [cutB, decide_eq_false_iff_not] at hc
    omega
theorem sx_Cover_prove (K : PySem.W.Frag) (C : Addr) (n : Nat) (S : Stt) (vs : List D) (Z : D → Stt → Prop) (h : R_prove C (n + 1) S vs Z) :
    SX (T_Cover_prove K C R_laid R_fo (R_prove C n) R_met) (.st S :: (vs.map .val ++ List.replicate (N_Cover_prove.length - (vs.length + 1)) .emp)) { nx := fun ρ' => ∃ S', ρ'[0]? = some (.st S') ∧ Z .none S', rt := fun d ρ' => ∃ S', ρ'[0]? = some (.st S') ∧ Z d S' } := by
  obtain ⟨cs, ds, t, l, st, rfl, rfl, sc, tk, lo, hlv, F, z⟩ := h
  show SX (T_Cover_prove K C R_laid R_fo (R_prove C n) R_met) [.st (objS C cs ds st), .val (natsD t), .val (natsD l), .emp, .emp, .emp, .emp, .emp, .emp, .emp] _
  unfold T_Cover_prove
  have L := lim_of sc tk lo
  have cn := sc.cn
  have dn := sc.dn
  have tl := tk_len tk
  have ll := lo.len
  unfold proveF at z
  refine sx_seq (sx_for (J := [3, 4]) (ei_enum ?_))
  walk_at "es"
  refine ex_fld rfl (lk_p _ _ _) ?_
  walk_at "es"
  refine opd_ixT (d := .list (ds.map natsD)) rfl ?_
  walk_at "es"
  refine ⟨fun k ρ' => (∀ j, j < k → blkB ds t l j = false) ∧ ρ' = [.st (objS C cs ds st), .val (natsD t), .val (natsD l), .emp, .emp, .emp, .emp, .emp, .emp, .emp], ⟨fun j hj => by omega, rfl⟩, ?_, ?_⟩
  · rintro k dd ρ' hd0 ⟨hno, rfl⟩
    obtain ⟨d, hd, rfl⟩ := enum_at hd0
    have hk := (List.getElem?_eq_some_iff.mp hd).1
    have ed : dAt ds k = d := by unfold dAt; rw [List.getD_eq_getElem?_getD, hd]; rfl
    have md := List.mem_of_getElem? hd
    have dl := L.dl md
    have eb : blkB ds t l k = (!metB d t && (opn d l).isEmpty) := by unfold blkB; rw [ed]
    unfold natsD
    refine sg_tup rfl (sgs_cons (sg_name (by simp) (sgs_cons (sg_name (by simp) (sgs_nil ?_)))))
    walk_at "w"
    refine sx_if (et_val (blkB ds t l k) ?_ ?_)
    · rw [eb]
      walk_at "es"
      refine ⟨d, t, rfl, by omega, ?_⟩
      walk_at "es"
      cases hm : metB d t with
      | true => exact ⟨(fun q => by cases q), fun _ => ⟨rfl, rfl⟩⟩
      | false =>
        refine ⟨fun _ => ?_, (fun q => by cases q)⟩
        walk_at "es"
        refine ex_of (eo_lcP (α := Nat) (fun _ => true) (fun o => .bool (decide (o ∈ l))) (ei_list ?_))
        walk_at "es"
        refine ⟨by omega, fun i hi => by simp at hi; subst hi; rfl, fun o ho => sg_name (by simp) ⟨rfl, ?_⟩, ?_⟩
        · walk_at "w"
          refine et_yes ⟨rfl, rfl, fun _ => ?_⟩
          walk_at "es"
          refine opd_inL (Nat.le_trans (Nat.min_le_right _ _) (by simp [PyData.depth])) ?_
          rw [any_nats]
          exact ⟨rfl, rfl⟩
        rw [in_D]
        walk_at "es"
        refine cbd_all ?_
        rw [all_in]
        exact ⟨_, rfl, rfl, rfl⟩
    refine ⟨fun hb => ?_, fun hb => ?_⟩
    · rw [blk_first hk hno hb] at z
      walk_at "es"
      refine ⟨_, rfl, ?_⟩
      have z : Z (encT (.blocked (k : Int))) (objS C cs ds st) := z
      rw [enc_bl] at z
      exact z
    · exact sx_next ⟨_, by walk_at "le", fun j hj => by
        rcases (show j < k ∨ j = k by omega) with q | q
        · exact hno j q
        · rw [q]; exact hb, rfl⟩
  rintro ρ' ⟨hno, rfl⟩
  rw [enum_len] at hno
  rw [blk_no hno] at z
  simp only at z
  refine nx_seq ?_
  refine sx_seq (sx_asgT (J := [6, 7]) ?_)
  walk_at "es"
  refine ex_fld rfl (lk_p _ _ _) ?_
  walk_at "es"
  refine ⟨cs, ds, t, l, rfl, L, ?_⟩
  refine sg_tup rfl (sgs_cons (sg_name (by simp) (sgs_cons (sg_name (by simp) (sgs_nil ?_)))))
  walk_at "w"
  refine nx_seq ?_
  refine sx_seq (sx_if (et_val (cutB st (laidF cs ds t l).tot) ?_ ?_))
  · walk_at "es"
    refine ex_fld rfl (lk_c _ _ _) ?_
    walk_at "es"
    cases st with
    | none => exact ⟨(fun q => by cases q), fun _ => ⟨rfl, rfl⟩⟩
    | some b =>
      refine ⟨fun _ => ?_, (fun q => by cases q)⟩
      walk_at "es"
      refine ex_fld rfl (lk_c _ _ _) ?_
      unfold cD
      walk_at "es"
      exact ⟨rfl, rfl⟩
  refine ⟨fun hb => ?_, fun hb => ?_⟩
  · rw [if_pos hb, enc_sh] at z
    walk_at "es"
    exact ⟨_, rfl, z⟩
  rw [if_neg (by rw [hb]; decide)] at z
  obtain ⟨a, hfo⟩ := fo_isSome F tk hb
  obtain ⟨ha, um⟩ := fo_some hfo
  have md := dAt_mem (ds := ds) ha
  rw [hfo] at z
  have z : Z (encT (.split (a : Int) ((opn (dAt ds a) l).foldl (pStep (proveF cs ds st n) t l) ([], [])).2)) (objS C cs ds st) := z
  rw [enc_sp] at z
  refine sx_next (nx_seq ?_)
  walk_at "es"
  refine ex_fld rfl (lk_p _ _ _) ?_
  walk_at "es"
  refine ⟨cs, ds, t, l, rfl, L, ?_⟩
  rw [hfo]
  unfold optN
  refine nx_seq ?_
  walk_at "w"
  have da : ds[a]? = some (dAt ds a) := by unfold dAt; rw [List.getD_eq_getElem?_getD, List.getElem?_eq_getElem ha]; rfl
  generalize dAt ds a = d at z um md da
  have nd : d.Nodup := (sc.pb.asc d md).imp fun h => by omega
  have dl := L.dl md
  refine sx_seq (sx_asgO (eo_lst ?_))
  walk_at "es"
  refine sx_asg (ex_of (eo_lst ?_))
  walk_at "es"
  refine sx_for (J := [5]) (ei_list ?_)
  walk_at "es"
  refine ex_fld rfl (lk_p _ _ _) ?_
  walk_at "es"
  refine opd_ixT (d := .list (ds.map natsD)) rfl ?_
  walk_at "es"
  refine opd_ixL (d := natsD d) ?_ ?_
  · rw [atI_map [] (by omega) (by omega), Int.toNat_natCast, List.getD_eq_getElem?_getD, da]; rfl
  unfold natsD
  walk_at "es"
  refine ⟨fun j ρ' => ρ' = [.st (objS C cs ds st), .val (natsD t), .val (natsD l), .val (.int (a : Int)), .emp, .emp, .val (.list ((laidF cs ds t l).rows.map encR)), .val (.int (laidF cs ds t l).tot), .own (((opn (d.take j) l).foldl (pStep (proveF cs ds st n) t l) ([], [])).2.map encT), .val (natsD (opn (d.take j) l))], rfl, ?_, ?_⟩
  · rintro j dd ρ' hd0 rfl
    rw [List.getElem?_map] at hd0
    obtain ⟨o, ho, rfl⟩ := Option.map_eq_some_iff.mp hd0
    have hj := (List.getElem?_eq_some_iff.mp ho).1
    have mo := List.mem_of_getElem? ho
    have sno := take_opn (l := l) ho
    have fr := take_fresh nd ho
    have ff := p_fold (proveF cs ds st n) t l (opn (d.take j) l)
    have ol := opn_len (d.take j) l
    rw [List.length_take] at ol
    refine sg_name (by simp) ?_
    unfold natsD
    walk_at "w"
    refine sx_if ?_
    walk_at "es"
    refine opd_ninL (Nat.le_trans (Nat.min_le_right _ _) (by simp [PyData.depth])) ?_
    rw [any_nats]
    refine ⟨_, rfl, fun hq => ?_, fun hq => ?_⟩
    · have hq : o ∉ l := by simpa using hq
      rw [if_neg hq] at sno
      have hop := opn_mem.mpr ⟨mo, hq⟩
      have ah : ∀ x ∈ opn (d.take j) l, x ∈ opn d l := fun x hx => opn_take_mem hx
      have oah : o ∉ opn (d.take j) l := fun q => fr (opn_mem.mp q).1
      have tk' := tk_child sc.pb tk md um hop (fun x hx => (opn_mem.mp (ah x hx)).1) oah
      have lo' := lo_child sc.pb lo md ah ((nd.sublist (List.take_sublist j d)).filter _)
      have e2 : ((opn (d.take j) l ++ [o]).foldl (pStep (proveF cs ds st n) t l) ([], [])).2 = ((opn (d.take j) l).foldl (pStep (proveF cs ds st n) t l) ([], [])).2 ++ [proveF cs ds st n (t ++ [o]) (l ++ opn (d.take j) l)] := by
        rw [List.foldl_append]
        show ((opn (d.take j) l).foldl (pStep (proveF cs ds st n) t l) ([], [])).2 ++ [proveF cs ds st n (t ++ [o]) (l ++ ((opn (d.take j) l).foldl (pStep (proveF cs ds st n) t l) ([], [])).1)] = _
        rw [ff]
      have lts : ((opn (d.take j) l).foldl (pStep (proveF cs ds st n) t l) ([], [])).2.length = (opn (d.take j) l).length := by rw [ff]; simp
      refine sx_seq (sx_app rfl (ex_meth rfl (lk_pr _ _ _) ?_))
      walk_at "es"
      refine opd_plusL (by rw [List.length_map]; simp; omega) ?_
      rw [← natsD_snoc]
      walk_at "es"
      refine opd_plusL (by rw [List.length_map, List.length_map]; omega) ?_
      rw [← natsD_app]
      walk_at "es"
      refine ⟨cs, ds, t ++ [o], l ++ opn (d.take j) l, st, rfl, rfl, sc, tk', lo', by rw [List.length_append, List.length_singleton]; omega, F, ?_⟩
      refine ⟨_, rfl, by rw [List.length_map, lts]; omega, ?_⟩
      refine nx_seq ?_
      walk_at "w"
      walk_at "es"
      refine opd_plusL (by rw [List.length_map]; simp; omega) ?_
      refine ⟨_, ?_, rfl⟩
      rw [sno, e2, List.map_append, List.map_append]
      walk_at "le"
    · have hq : o ∈ l := by simpa using hq
      rw [if_pos hq] at sno
      refine sx_next ⟨_, ?_, rfl⟩
      rw [sno]
      walk_at "le"
  rintro ρ' rfl
  rw [List.length_map, List.take_length]
  refine nx_seq (sx_freeze 8 rfl ?_)
  walk_at "w"
  walk_at "es"
  exact z
/-! ### cover -/
def goA (cs : List Int) (ds : List (List Nat)) : Bst := goF cs ds 7 [] [] none
def prA (cs : List Int) (ds : List (List Nat)) : Tr := proveF cs ds (goA cs ds) 7 [] []
def leastD (row : List Nat) (cost : Int) (tree : Tr) : D := .tuple [.str (Str.ofString "least"), natsD row, .int cost, encT tree]
def noneD (tree : Tr) : D := .tuple [.str (Str.ofString "none"), encT tree]
def coverD (cs : List Int) (ds : List (List Nat)) : D := match goA cs ds with
  | none => noneD (prA cs ds)
  | some b => leastD b.1 b.2 (prA cs ds)
theorem goA_ok {cs : List Int} {ds : List (List Nat)} (pb : Pb cs ds) (h : cs.length < 7) : GoP cs ds [] [] none (goA cs ds) := go_ok pb 7 [] [] none (tk_nil cs) (by simp; omega) trivial
theorem goA_fnl {cs : List Int} {ds : List (List Nat)} (pb : Pb cs ds) (h : cs.length < 7) : Fnl cs ds (goA cs ds) := ⟨(goA_ok pb h).und⟩
def R_cover : List D → (D → Prop) → Prop := fun vs Z => ∃ (cs : List Int) (ds : List (List Nat)), vs = [prD cs ds] ∧ Sc cs ds ∧ cs.length < 7 ∧ Z (coverD cs ds)
theorem sx_cover (K : PySem.W.Frag) (C : Addr) (vs : List D) (Z : D → Prop) (h : R_cover vs Z) : SX (T_cover K C (R_init C) (R_go C 7) (R_prove C 7)) (startE N_cover vs) { nx := fun _ => Z .none, rt := fun d _ => Z d } := by
  obtain ⟨cs, ds, rfl, sc, h7, z⟩ := h
  show SX (T_cover K C (R_init C) (R_go C 7) (R_prove C 7)) [.val (prD cs ds), .emp, .emp] _
  unfold T_cover
  have ln : Lo cs [] := ⟨List.nodup_nil, by simp⟩
  refine sx_seq (sx_make (by decide) ?_)
  walk_at "es"
  refine ⟨cs, ds, rfl, rfl, rfl, ?_⟩
  refine nx_seq ?_
  walk_at "w"
  refine sx_seq (sx_drop (ex_meth rfl (lk_go _ _ _) ?_))
  walk_at "es"
  refine ⟨cs, ds, [], [], none, rfl, rfl, sc, tk_nil cs, ln, by simp; omega, ?_⟩
  rw [show goF cs ds 7 [] [] none = goA cs ds from rfl]
  have F := goA_fnl sc.pb h7
  refine nx_seq ?_
  walk_at "w"
  refine sx_seq (sx_asg (ex_meth rfl (lk_pr _ _ _) ?_))
  walk_at "es"
  refine ⟨cs, ds, [], [], goA cs ds, rfl, rfl, sc, tk_nil cs, ln, by simp; omega, F, ?_⟩
  rw [show proveF cs ds (goA cs ds) 7 [] [] = prA cs ds from rfl]
  refine nx_seq ?_
  walk_at "w"
  unfold coverD at z
  walk_at "es"
  refine ex_fld rfl (lk_b _ _ _) ?_
  generalize goA cs ds = st at z ⊢
  cases st with
  | none =>
    unfold bD
    walk_at "es"
    refine ⟨fun _ => ?_, (fun q => by cases q)⟩
    walk_at "es"
    exact z
  | some b =>
    unfold bD natsD
    walk_at "es"
    refine ⟨(fun q => by cases q), fun _ => ?_⟩
    walk_at "es"
    refine ex_fld rfl (lk_b _ _ _) ?_
    walk_at "es"
    refine ex_fld rfl (lk_c _ _ _) ?_
    walk_at "es"
    exact z
end Law_k41
namespace Law_k41
open PySem L2 Pu
local macro_rules | `(tactic| walk_at "e") => `(tactic| first
  | ((with_reducible refine nx_seq ?_); (try dsimp only [List.set_cons_succ, List.set_cons_zero]))
  | ((with_reducible refine ex_vr ?_); dsimp only [VQ, List.set_cons_succ, List.set_cons_zero, List.getElem?_cons_zero, List.getElem?_cons_succ]; (fail_if_success (with_reducible show False)))
  | (with_reducible refine sx_seq ?_)
  | (with_reducible refine sx_if ?_)
  | (with_reducible refine sx_next ?_)
  | (with_reducible refine sx_ret ?_)
  | ((fail_if_success (with_reducible refine sx_asgO (eo_lst ?_))); (with_reducible refine sx_asg ?_))
  | (with_reducible refine ex_int ?_)
  | (with_reducible refine ex_str ?_)
  | (with_reducible refine ex_bl ?_)
  | (with_reducible refine ex_non ?_)
  | (with_reducible refine ex_op ?_)
  | (with_reducible refine ex_un ?_)
  | (with_reducible refine ex_chain ?_)
  | (with_reducible refine ex_call ?_)
  | (with_reducible refine ex_isT ?_)
  | (with_reducible refine ex_cb ?_)
  | (with_reducible refine ex_sl ?_)
  | (with_reducible refine ex_tup ?_)
  | (with_reducible refine ex_if ?_)
  | (with_reducible refine ex_of (eo_lst ?_))
  | (with_reducible refine ex_notV ?_)
  | (with_reducible refine ea_nil ?_)
  | (with_reducible refine ea_cons ?_)
  | (with_reducible refine ep_no ?_)
  | (with_reducible refine ep_some ?_)
  | (with_reducible refine et_test ?_)
  | (with_reducible refine et_B ?_)
  | (with_reducible refine et_ch3 ?_)
  | (with_reducible refine et_and ?_)
  | (with_reducible refine et_or ?_)
  | (with_reducible refine et_not ?_)
  | (with_reducible refine et_yes ?_)
  | (with_reducible refine et_truL ?_)
  | (with_reducible refine opd_plusI ?_)
  | (with_reducible refine opd_I0 ?_)
  | (with_reducible refine opd_B0 ?_)
  | (with_reducible refine opd_eqI ?_)
  | (with_reducible refine opd_neI ?_)
  | (with_reducible refine opd_eqS ?_)
  | (with_reducible refine opd_neS ?_)
  | (with_reducible refine opd_is ?_)
  | (with_reducible refine opd_isnt ?_)
  | (with_reducible refine opd_ixT rfl ?_)
  | (with_reducible refine opd_ixL rfl ?_)
  | (with_reducible refine und_neg ?_)
  | (with_reducible refine cbd_lenL ?_)
  | (with_reducible refine cbd_lenT ?_)
  | (with_reducible refine cbd_min2 ?_)
  | (with_reducible refine cbd_max2 ?_)
  | (with_reducible refine cbd_abs ?_)
  | (with_reducible refine cbd_int ?_)
  | (with_reducible refine cbd_tupL ?_)
  | (with_reducible refine cbd_listL ?_)
  | (with_reducible refine cbd_listT ?_)
  | (with_reducible refine cbd_sum ?_)
  | (with_reducible refine sld_T ?_)
  | (with_reducible refine sld_L ?_)
  | (with_reducible refine ex_revL ?_)
  | (with_reducible refine ex_bmL ?_)
  | (with_reducible refine ex_andV ?_)
  | (with_reducible refine ei_list ?_)
  | (with_reducible refine ei_rng1 ?_)
  | (with_reducible refine ei_rng2 ?_)
  | (with_reducible refine ei_enum ?_)
  | (with_reducible refine ei_enumT ?_)
  | (with_reducible refine ei_zip ?_)
  | (with_reducible refine sx_par ?_)
  | (with_reducible refine Exists.intro _ (And.intro rfl ?_))
  | (with_reducible refine Exists.intro _ (Exists.intro _ (And.intro rfl ?_)))
  | ((with_reducible show EX (tCall (spS _) [] _ (tCons (tVar _) _)) _ _); refine ex_callS rfl ?_)
  | ((with_reducible refine And.intro (show (_ : Nat) ≤ 100000 from ?_) ?_); (focus (simp; done)))
  | ((with_reducible refine opd_I ?_ ?_); focus (first | omega | (show CDiv _ _; exact ⟨by omega, by omega⟩) | (show CMul _ _; first | exact Or.inl ⟨by omega, by omega⟩ | exact Or.inr ⟨by omega, by omega⟩))))
local macro_rules | `(tactic| walk_at "es") => `(tactic| repeat walk_at "e")
local macro_rules | `(tactic| walk_at "w") => `(tactic| try dsimp only [wipeE, List.foldl_cons, List.foldl_nil, List.set_cons_succ, List.set_cons_zero])
local macro_rules | `(tactic| walk_at "le") => `(tactic| repeat' first | exact LeE.nil | (refine LeE.eq rfl ?_) | (refine LeE.emp ?_) | (refine LeE.eq ?_ ?_))
local macro_rules | `(tactic| walk_at "no") => `(tactic| ((refine And.intro (fun hb => absurd hb ?_) (fun _ => ?_)); (focus (first | (exact Bool.false_ne_true) | (simp; done) | (simp; omega) | (simp only [decide_eq_true_eq]; omega)))))
local macro_rules | `(tactic| walk_at "yes") => `(tactic| ((refine And.intro (fun _ => ?_) (fun hb => absurd hb ?_)); (rotate_left); (focus (first | (exact Bool.noConfusion) | (simp; done) | (simp; omega) | (simp only [decide_eq_false_iff_not]; omega)))))
local macro_rules | `(tactic| walk_at "ei") => `(tactic| repeat ((fail_if_success (with_reducible show SX (tSeq (tIfS _ _ _) _) _ _)); (fail_if_success (with_reducible show SX (tIfS _ _ _) _ _)); (fail_if_success (with_reducible show SX (tSeq (tAsg (tIf _ _ _) _) _) _ _)); walk_at "e"))
local macro_rules | `(tactic| walk_at "tv") => `(tactic| repeat' first | walk_at "e" | ((with_reducible show (_ = true → _) ∧ (_ = false → _)); refine And.intro (fun _ => ?_) (fun _ => ?_)))
/-! ### shares, judged -/
def R_shares : List D → (D → Prop) → Prop := fun vs Z => ∃ (cs : List Int) (ds : List (List Nat)) (t l : List Nat) (b : Int) (rows : List Rw), vs = [prD cs ds, natsD t, natsD l, .int b, .list (rows.map encR)] ∧ Lim cs ds t l ∧ rows.length ≤ 10000 ∧ Z (.bool (sharesB cs ds t l b rows))
theorem rAt_eq {rows : List Rw} {k : Nat} {r : Rw} (h : rows[k]? = some r) : rAt rows k = r := by unfold rAt; rw [List.getD_eq_getElem?_getD, h]; rfl
theorem ok_eq (cs : List Int) (ds : List (List Nat)) {rows : List Rw} {k : Nat} {r : Rw} (h : rows[k]? = some r) : okAt cs ds rows k = (decide (0 ≤ r.1) && (decide (r.1 < (ds.length : Int)) && (decide (0 ≤ r.2.1) && (decide (r.2.1 < (cs.length : Int)) && (!decide (r.2.2 < 1) && ltP (lastP rows k) (r.1, r.2.1)))))) := by
  unfold okAt valB
  rw [rAt_eq h]
  by_cases a : 0 ≤ r.1 <;> by_cases b : r.1 < (ds.length : Int) <;> by_cases c : 0 ≤ r.2.1 <;> by_cases d : r.2.1 < (cs.length : Int) <;> by_cases e : r.2.2 < 1 <;> simp [a, b, c, d, e] <;> omega
theorem okB_no {cs : List Int} {ds : List (List Nat)} {rows : List Rw} {k : Nat} (hk : k < rows.length) (h : okAt cs ds rows k = false) : okB cs ds rows = false := by
  unfold okB
  rw [List.all_eq_false]
  exact ⟨k, List.mem_range.mpr hk, by rw [h]; decide⟩
theorem okB_yes {cs : List Int} {ds : List (List Nat)} {rows : List Rw} (h : ∀ j, j < rows.length → okAt cs ds rows j = true) : okB cs ds rows = true := by
  unfold okB
  rw [List.all_eq_true]
  exact fun j hj => h j (List.mem_range.mp hj)
theorem spent_snoc {rows : List Rw} {k : Nat} {r : Rw} (h : rows[k]? = some r) (o : Nat) : spentF (rows.take (k + 1)) o = spentF (rows.take k) o + if r.2.1 = (o : Int) then r.2.2 else 0 := by
  rw [take_snoc' h, spent_app]
  congr 1
  unfold spentF
  by_cases c : r.2.1 = (o : Int) <;> simp [c]
theorem gD_snoc {rows : List Rw} {k : Nat} {r : Rw} (h : rows[k]? = some r) : gD (rows.take (k + 1)) = putT (gD (rows.take k)) (r.1, r.2.1) r.2.2 := by rw [take_snoc' h, gD_app]; rfl
theorem gD_len : ∀ rows : List Rw, (gD rows).length ≤ rows.length := fun rows => by
  have key : ∀ (b : List Rw) (g : List Kt), (b.foldl (fun g r => putT g (r.1, r.2.1) r.2.2) g).length ≤ g.length + b.length := by
    intro b
    induction b with
    | nil => intro g; simp
    | cons r b ih =>
      intro g
      rw [List.foldl_cons, List.length_cons]
      have := ih (putT g (r.1, r.2.1) r.2.2)
      have := putT_len g (r.1, r.2.1) r.2.2
      omega
  have := key rows []
  simpa [gD] using this
theorem cap_any (cs : List Int) (l : List Nat) (rows : List Rw) (rs : List Int) (hr : ∀ o : Nat, rs.getD o 0 = cst cs o - spentF rows o) : (((rngI 0 cs.length).map fun o => decide (rs.getD o.toNat 0 < 0) && !decide (o.toNat ∈ l)).any id) = !capB cs l rows := by
  unfold capB rngI
  rw [List.map_map, List.any_map]
  have key : ∀ m, ((List.range m).any fun o => (id ∘ (fun o : Int => decide (rs.getD o.toNat 0 < 0) && !decide (o.toNat ∈ l)) ∘ fun k : Nat => (0 : Int) + (k : Int)) o) = !(List.range m).all fun o => decide (o ∈ l) || decide (spentF rows o ≤ cst cs o) := by
    intro m
    induction m with
    | zero => rfl
    | succ m ih =>
      rw [List.range_succ, List.any_append, List.all_append, ih]
      simp only [List.any_cons, List.any_nil, Bool.or_false, List.all_cons, List.all_nil, Bool.and_true, Bool.not_and, Function.comp, id, Int.zero_add, Int.toNat_natCast]
      congr 1
      rw [hr m]
      by_cases a : m ∈ l
      · simp [a]
      · by_cases b : spentF rows m ≤ cst cs m
        · have : ¬ (cst cs m - spentF rows m < 0) := by omega
          simp [a, b, this]
        · have : cst cs m - spentF rows m < 0 := by omega
          simp [a, b, this]
  exact key _
theorem steps_ok {f : Nat → Bool} {k : Nat} (h1 : ∀ j, j < k → f j = true) (h2 : f k = true) : ∀ j, j < k + 1 → f j = true := fun j hj => by
  rcases (show j < k ∨ j = k by omega) with q | q
  · exact h1 j q
  · rw [q]; exact h2
theorem sx_shares_right (K : PySem.W.Frag) (vs : List D) (Z : D → Prop) (h : R_shares vs Z) : SX (T_shares_right K R_met) (startE N_shares_right vs) { nx := fun _ => Z .none, rt := fun d _ => Z d } := by
  obtain ⟨cs, ds, t, l, b, rows, rfl, L, hr, z⟩ := h
  show SX (T_shares_right K R_met) [.val (prD cs ds), .val (natsD t), .val (natsD l), .val (.int b), .val (.list (rows.map encR)), .emp, .emp, .emp, .emp, .emp, .emp, .emp, .emp, .emp, .emp, .emp] _
  unfold T_shares_right
  obtain ⟨pb, cn, dn, tlt, tn, ln⟩ := id L
  refine sx_seq (sx_asgT (J := [5, 6]) ?_)
  walk_at "es"
  refine sg_tup rfl (sgs_cons (sg_name (by simp) (sgs_cons (sg_name (by simp) (sgs_nil ?_)))))
  walk_at "w"
  refine nx_seq ?_
  refine sx_seq (sx_asgO (eo_cb ?_))
  walk_at "es"
  refine cbo_listL ?_
  refine nx_seq ?_
  walk_at "w"
  refine sx_seq (sx_dnewT (by decide) ?_)
  refine nx_seq ?_
  walk_at "w"
  walk_at "es"
  refine sx_for (J := [10, 11, 12]) (ei_list ?_)
  walk_at "es"
  refine ⟨fun k ρ' => ∃ rs : List Int, rs.length = cs.length ∧ (∀ o : Nat, rs.getD o 0 = cst cs o - spentF (rows.take k) o) ∧ (∀ j, j < k → okAt cs ds rows j = true) ∧ ρ' = [.val (prD cs ds), .val (natsD t), .val (natsD l), .val (.int b), .val (.list (rows.map encR)), .val (.list (cs.map .int)), .val (.list (ds.map natsD)), .own (rs.map .int), .st (.dtt (gD (rows.take k))), .val (encP (lastP rows k)), .emp, .emp, .emp, .emp, .emp, .emp], ⟨cs, rfl, fun o => by simp [spentF, cst], fun j hj => by omega, rfl⟩, ?_, ?_⟩
  · rintro k dd ρ' hd0 ⟨rs, rl, rg, hok, rfl⟩
    obtain ⟨r, hk0, rfl⟩ := map_at hd0
    have hk := (List.getElem?_eq_some_iff.mp hk0).1
    have eok := ok_eq cs ds hk0
    refine sg_tup rfl (sgs_cons (sg_name (by simp) (sgs_cons (sg_name (by simp) (sgs_cons (sg_name (by simp) (sgs_nil ?_)))))))
    walk_at "w"
    refine sx_seq (sx_if (et_val (!okAt cs ds rows k) ?_ ?_))
    · rw [eok]
      walk_at "tv"
      all_goals (try (refine opd_leP (p := (r.1, r.2.1)) (q := lastP rows k) ⟨_, rfl, ?_⟩))
      all_goals (refine ⟨?_, rfl⟩; clear z hok rg eok hd0; simp_all)
      all_goals (intro q; omega)
    refine ⟨fun hb => ?_, fun hb => ?_⟩
    · have hf : okAt cs ds rows k = false := by simpa using hb
      have e : sharesB cs ds t l b rows = false := by unfold sharesB; rw [okB_no hk hf]; rfl
      rw [e] at z
      walk_at "es"
      exact z
    have hv : okAt cs ds rows k = true := by simpa using hb
    have hv2 := hv
    rw [eok] at hv2
    simp only [Bool.and_eq_true, decide_eq_true_eq, Bool.not_eq_true', decide_eq_false_iff_not] at hv2
    obtain ⟨v1, v2, v3, v4, v5, _⟩ := hv2
    obtain ⟨o, eo⟩ : ∃ o : Nat, r.2.1 = (o : Int) := ⟨r.2.1.toNat, by omega⟩
    rw [eo] at v4
    have ss := spent_snoc hk0
    have gs := gD_snoc hk0
    have gl := gD_len (rows.take k)
    rw [List.length_take] at gl
    have lp : lastP rows (k + 1) = (r.1, r.2.1) := by show ((rAt rows k).1, (rAt rows k).2.1) = _; rw [rAt_eq hk0]
    refine sx_next (nx_seq ?_)
    walk_at "es"
    rw [eo]
    refine sx_setO (es := rs.map .int) (ex_op (ex_ixO rfl ?_))
    walk_at "es"
    refine ⟨_, (o : Int), .int (rs.getD o 0), rfl, rfl, by rw [atI_map 0 (by omega) (by omega), Int.toNat_natCast], ?_⟩
    walk_at "es"
    refine ⟨rfl, ?_⟩
    walk_at "es"
    refine ⟨_, (o : Int), o, rfl, rfl, by rw [List.length_map]; exact ixN_nat (by omega), ?_⟩
    rw [← List.map_set]
    refine nx_seq ?_
    walk_at "w"
    refine sx_dputT rfl ?_
    walk_at "es"
    refine ⟨_, _, _, _, rfl, rfl, rfl, by omega, ?_⟩
    walk_at "w"
    refine ⟨_, ?_, rs.set o (rs.getD o 0 - r.2.2), by rw [List.length_set]; exact rl, fun j => ?_, steps_ok hok hv, rfl⟩
    · rw [gs, lp, eo]
      walk_at "le"
    · rw [set_getD (by omega), ss j, eo]
      by_cases c : j = o
      · subst c
        rw [if_pos rfl, if_pos rfl, rg j]
        omega
      · rw [if_neg c, if_neg (by omega), rg j]
        omega
  rintro ρ' ⟨rs, rl, rg, hok, rfl⟩
  rw [List.length_map] at hok
  rw [List.length_map, List.take_length]
  rw [List.length_map, List.take_length] at rg
  have okb := okB_yes hok
  have es : sharesB cs ds t l b rows = (capB cs l rows && decide (b ≤ totK cs ds t l (gD rows) ds.length)) := by unfold sharesB; rw [okb, Bool.true_and]
  rw [es] at z
  refine nx_seq ?_
  refine sx_seq (sx_if (et_val (!capB cs l rows) ?_ ?_))
  · walk_at "es"
    refine ex_of (eo_lcP (α := Int) (fun _ => true) (fun o => .bool (decide (rs.getD o.toNat 0 < 0) && !decide (o.toNat ∈ l))) (ei_rng1 ?_))
    walk_at "es"
    rw [List.length_map, Int.toNat_natCast]
    refine ⟨by omega, rngI 0 cs.length, _, rfl, by rw [rngI_len]; omega, fun i hi => by simp at hi; subst hi; rfl, fun x hx => sg_name (by simp) ⟨rfl, ?_⟩, ?_⟩
    · have hx := rngI_mem.mp hx
      obtain ⟨o, rfl⟩ : ∃ o : Nat, x = (o : Int) := ⟨x.toNat, by omega⟩
      rw [Int.toNat_natCast]
      walk_at "w"
      refine et_yes ⟨rfl, rfl, fun _ => ?_⟩
      refine ex_andV (ex_op (ex_ixO rfl ?_))
      walk_at "es"
      refine ⟨_, (o : Int), .int (rs.getD o 0), rfl, rfl, by rw [atI_map 0 (by omega) (by omega), Int.toNat_natCast], ?_⟩
      walk_at "es"
      refine ⟨fun a => ?_, fun a => ?_⟩
      · rw [a, Bool.true_and]
        walk_at "es"
        unfold natsD
        refine opd_ninL (Nat.le_trans (Nat.min_le_right _ _) (by simp [PyData.depth])) ?_
        rw [any_nats]
        exact ⟨rfl, rfl⟩
      · rw [a, Bool.false_and]
        exact ⟨rfl, rfl⟩
    rw [filt_all, show ((rngI 0 cs.length).map fun o => PyData.bool (decide (rs.getD o.toNat 0 < 0) && !decide (o.toNat ∈ l))) = ((rngI 0 cs.length).map fun o => decide (rs.getD o.toNat 0 < 0) && !decide (o.toNat ∈ l)).map .bool by rw [List.map_map]; rfl]
    walk_at "es"
    refine cbd_any ?_
    rw [cap_any cs l rows rs rg]
    exact ⟨_, rfl, rfl, rfl⟩
  refine ⟨fun hb => ?_, fun hb => ?_⟩
  · have hf : capB cs l rows = false := by simpa using hb
    rw [hf] at z
    walk_at "es"
    exact z
  have hf : capB cs l rows = true := by simpa using hb
  rw [hf, Bool.true_and] at z
  refine sx_next (nx_seq ?_)
  unfold natsD
  walk_at "es"
  refine ex_of (eo_lcP (α := Nat) (fun _ => true) (fun o => .int (cst cs o)) (ei_list ?_))
  walk_at "es"
  refine ⟨by omega, fun i hi => by simp at hi; subst hi; rfl, fun o ho => sg_name (by simp) ⟨rfl, ?_⟩, ?_⟩
  · walk_at "w"
    refine et_yes ⟨rfl, rfl, fun _ => ?_⟩
    walk_at "es"
    refine opd_ixL (cost_at (tlt o ho)) ?_
    exact ⟨rfl, rfl⟩
  rw [costT_D]
  walk_at "es"
  refine sx_for (J := [10, 14]) (ei_enum ?_)
  walk_at "es"
  refine ⟨fun k ρ' => ρ' = [.val (prD cs ds), .val (natsD t), .val (natsD l), .val (.int b), .val (.list (rows.map encR)), .val (.list (cs.map .int)), .val (.list (ds.map natsD)), .own (rs.map .int), .st (.dtt (gD rows)), .val (encP (lastP rows rows.length)), .emp, .emp, .emp, .val (.int (totK cs ds t l (gD rows) k)), .emp, .emp], rfl, ?_, ?_⟩
  · rintro k dd ρ' hd0 rfl
    obtain ⟨d, hd, rfl⟩ := enum_at hd0
    have hk := (List.getElem?_eq_some_iff.mp hd).1
    have ed : dAt ds k = d := by unfold dAt; rw [List.getD_eq_getElem?_getD, hd]; rfl
    have md := List.mem_of_getElem? hd
    have dl := L.dl md
    have ol := opn_len d l
    have sn : totK cs ds t l (gD rows) (k + 1) = totK cs ds t l (gD rows) k + gainJ ds t l (gD rows) k := rfl
    unfold gainJ at sn
    rw [ed] at sn
    unfold natsD
    refine sg_tup rfl (sgs_cons (sg_name (by simp) (sgs_cons (sg_name (by simp) (sgs_nil ?_)))))
    walk_at "w"
    refine sx_seq (sx_asg (ex_of (eo_lcP (α := Nat) (fun o => !decide (o ∈ l)) (fun o => .int (o : Int)) (ei_list ?_))))
    walk_at "es"
    refine ⟨by omega, fun i hi => by simp at hi; subst hi; rfl, fun o ho => sg_name (by simp) ⟨rfl, ?_⟩, ?_⟩
    · walk_at "w"
      walk_at "es"
      refine opd_ninL (Nat.le_trans (Nat.min_le_right _ _) (by simp [PyData.depth])) ?_
      rw [any_nats]
      refine ⟨_, rfl, rfl, rfl, fun _ => ?_⟩
      walk_at "es"
      exact ⟨rfl, rfl⟩
    rw [opn_D]
    refine nx_seq ?_
    walk_at "w"
    refine sx_if ?_
    walk_at "es"
    refine ⟨d, t, rfl, by omega, ?_⟩
    refine ⟨_, rfl, ?_⟩
    refine ⟨fun hb => ?_, fun hb => ?_⟩
    · have hm : metB d t = false := by simpa using hb
      rw [if_neg (by rw [hm]; decide)] at sn
      walk_at "es"
      refine ex_minDf ?_
      refine ex_of (eo_lcP (α := Nat) (fun _ => true) (fun o => .int ((getT (gD rows) ((k : Int), (o : Int))).getD 0)) (ei_list ?_))
      walk_at "es"
      refine ⟨by omega, fun i hi => by simp at hi; subst hi; rfl, fun o ho => sg_name (by simp) ⟨rfl, ?_⟩, ?_⟩
      · walk_at "w"
        refine et_yes ⟨rfl, rfl, fun _ => ?_⟩
        refine ex_dgetT rfl ?_
        walk_at "es"
        exact ⟨0, (k : Int), (o : Int), gD rows, rfl, rfl, rfl, rfl, rfl⟩
      rw [filt_all]
      refine ⟨(opn d l).map fun o : Nat => (getT (gD rows) ((k : Int), (o : Int))).getD 0, by rw [List.map_map]; rfl, ?_⟩
      walk_at "es"
      refine ⟨_, ?_, rfl⟩
      rw [sn]
      walk_at "le"
    · have hm : metB d t = true := by simpa using hb
      rw [if_pos hm, Int.add_zero] at sn
      refine sx_next ⟨_, ?_, rfl⟩
      rw [sn]
      walk_at "le"
  rintro ρ' rfl
  rw [enum_len]
  refine nx_seq ?_
  walk_at "es"
  exact z
end Law_k41
namespace Law_k41
open PySem L2 Pu
local macro_rules | `(tactic| walk_at "e") => `(tactic| first
  | ((with_reducible refine nx_seq ?_); (try dsimp only [List.set_cons_succ, List.set_cons_zero]))
  | ((with_reducible refine ex_vr ?_); dsimp only [VQ, List.set_cons_succ, List.set_cons_zero, List.getElem?_cons_zero, List.getElem?_cons_succ]; (fail_if_success (with_reducible show False)))
  | (with_reducible refine sx_seq ?_)
  | (with_reducible refine sx_if ?_)
  | (with_reducible refine sx_next ?_)
  | (with_reducible refine sx_ret ?_)
  | ((fail_if_success (with_reducible refine sx_asgO (eo_lst ?_))); (with_reducible refine sx_asg ?_))
  | (with_reducible refine ex_int ?_)
  | (with_reducible refine ex_str ?_)
  | (with_reducible refine ex_bl ?_)
  | (with_reducible refine ex_non ?_)
  | (with_reducible refine ex_op ?_)
  | (with_reducible refine ex_un ?_)
  | (with_reducible refine ex_chain ?_)
  | (with_reducible refine ex_call ?_)
  | (with_reducible refine ex_isT ?_)
  | (with_reducible refine ex_cb ?_)
  | (with_reducible refine ex_sl ?_)
  | (with_reducible refine ex_tup ?_)
  | (with_reducible refine ex_if ?_)
  | (with_reducible refine ex_of (eo_lst ?_))
  | (with_reducible refine ex_notV ?_)
  | (with_reducible refine ea_nil ?_)
  | (with_reducible refine ea_cons ?_)
  | (with_reducible refine ep_no ?_)
  | (with_reducible refine ep_some ?_)
  | (with_reducible refine et_test ?_)
  | (with_reducible refine et_B ?_)
  | (with_reducible refine et_ch3 ?_)
  | (with_reducible refine et_and ?_)
  | (with_reducible refine et_or ?_)
  | (with_reducible refine et_not ?_)
  | (with_reducible refine et_yes ?_)
  | (with_reducible refine et_truL ?_)
  | (with_reducible refine opd_plusI ?_)
  | (with_reducible refine opd_I0 ?_)
  | (with_reducible refine opd_B0 ?_)
  | (with_reducible refine opd_eqI ?_)
  | (with_reducible refine opd_neI ?_)
  | (with_reducible refine opd_eqS ?_)
  | (with_reducible refine opd_neS ?_)
  | (with_reducible refine opd_is ?_)
  | (with_reducible refine opd_isnt ?_)
  | (with_reducible refine opd_ixT rfl ?_)
  | (with_reducible refine opd_ixL rfl ?_)
  | (with_reducible refine und_neg ?_)
  | (with_reducible refine cbd_lenL ?_)
  | (with_reducible refine cbd_lenT ?_)
  | (with_reducible refine cbd_min2 ?_)
  | (with_reducible refine cbd_max2 ?_)
  | (with_reducible refine cbd_abs ?_)
  | (with_reducible refine cbd_int ?_)
  | (with_reducible refine cbd_tupL ?_)
  | (with_reducible refine cbd_listL ?_)
  | (with_reducible refine cbd_listT ?_)
  | (with_reducible refine cbd_sum ?_)
  | (with_reducible refine sld_T ?_)
  | (with_reducible refine sld_L ?_)
  | (with_reducible refine ex_revL ?_)
  | (with_reducible refine ex_bmL ?_)
  | (with_reducible refine ex_andV ?_)
  | (with_reducible refine ei_list ?_)
  | (with_reducible refine ei_rng1 ?_)
  | (with_reducible refine ei_rng2 ?_)
  | (with_reducible refine ei_enum ?_)
  | (with_reducible refine ei_enumT ?_)
  | (with_reducible refine ei_zip ?_)
  | (with_reducible refine sx_par ?_)
  | (with_reducible refine Exists.intro _ (And.intro rfl ?_))
  | (with_reducible refine Exists.intro _ (Exists.intro _ (And.intro rfl ?_)))
  | ((with_reducible show EX (tCall (spS _) [] _ (tCons (tVar _) _)) _ _); refine ex_callS rfl ?_)
  | ((with_reducible refine And.intro (show (_ : Nat) ≤ 100000 from ?_) ?_); (focus (simp; done)))
  | ((with_reducible refine opd_I ?_ ?_); focus (first | omega | (show CDiv _ _; exact ⟨by omega, by omega⟩) | (show CMul _ _; first | exact Or.inl ⟨by omega, by omega⟩ | exact Or.inr ⟨by omega, by omega⟩))))
local macro_rules | `(tactic| walk_at "es") => `(tactic| repeat walk_at "e")
local macro_rules | `(tactic| walk_at "w") => `(tactic| try dsimp only [wipeE, List.foldl_cons, List.foldl_nil, List.set_cons_succ, List.set_cons_zero])
local macro_rules | `(tactic| walk_at "le") => `(tactic| repeat' first | exact LeE.nil | (refine LeE.eq rfl ?_) | (refine LeE.emp ?_) | (refine LeE.eq ?_ ?_))
local macro_rules | `(tactic| walk_at "no") => `(tactic| ((refine And.intro (fun hb => absurd hb ?_) (fun _ => ?_)); (focus (first | (exact Bool.false_ne_true) | (simp; done) | (simp; omega) | (simp only [decide_eq_true_eq]; omega)))))
local macro_rules | `(tactic| walk_at "yes") => `(tactic| ((refine And.intro (fun _ => ?_) (fun hb => absurd hb ?_)); (rotate_left); (focus (first | (exact Bool.noConfusion) | (simp; done) | (simp; omega) | (simp only [decide_eq_false_iff_not]; omega)))))
local macro_rules | `(tactic| walk_at "ei") => `(tactic| repeat ((fail_if_success (with_reducible show SX (tSeq (tIfS _ _ _) _) _ _)); (fail_if_success (with_reducible show SX (tIfS _ _ _) _ _)); (fail_if_success (with_reducible show SX (tSeq (tAsg (tIf _ _ _) _) _) _ _)); walk_at "e"))
local macro_rules | `(tactic| walk_at "tv") => `(tactic| repeat' first | walk_at "e" | ((with_reducible show (_ = true → _) ∧ (_ = false → _)); refine And.intro (fun _ => ?_) (fun _ => ?_)))
theorem own_nil {d l : List Nat} : decide (opn d l = []) = (opn d l).isEmpty := by cases opn d l <;> simp
theorem hit_cnt (d t : List Nat) : decide (((((d.filter fun o => decide (o ∈ t)).map fun o : Nat => PyData.int (o : Int)).length : Nat) : Int) = 0) = !metB d t := by
  unfold metB
  induction d with
  | nil => rfl
  | cons o d ih =>
    rw [List.filter_cons, List.any_cons]
    by_cases h : o ∈ t
    · simp [h]; omega
    · simp only [h, decide_false, Bool.false_or]
      exact ih
theorem nats_nil (r : List Nat) : PyData.eqv (.list (r.map fun k : Nat => PyData.int (k : Int))) (.list []) = r.isEmpty := by
  cases r with
  | nil => rfl
  | cons k r => rfl
/-! ### the judges of trees -/
inductive Sane : Tr → Prop
  | sh (rows : List Rw) : rows.length ≤ 10000 → Sane (.shares rows)
  | bl (a : Int) : Sane (.blocked a)
  | sp (a : Int) (ts : List Tr) : ts.length ≤ 10000 → (∀ t ∈ ts, Sane t) → Sane (.split a ts)
theorem sane_sh {rows : List Rw} (h : Sane (.shares rows)) : rows.length ≤ 10000 := by cases h; assumption
theorem sane_sp {a : Int} {ts : List Tr} (h : Sane (.split a ts)) : ts.length ≤ 10000 ∧ ∀ t ∈ ts, Sane t := by cases h; exact ⟨by assumption, by assumption⟩
def fltD : Flt → D
  | none => .none
  | some f => .tuple [.str (Str.ofString f.1), .list (f.2.map encP)]
def R_fat (lvl : Nat) : List D → (D → Prop) → Prop := fun vs Z => ∃ (cs : List Int) (ds : List (List Nat)) (t l : List Nat) (p : List Pr) (b : Option Int) (tr : Tr), vs = [prD cs ds, natsD t, natsD l, .list (p.map encP), optD b, encT tr] ∧ Sc cs ds ∧ Tk cs t l ∧ Lo cs l ∧ p.length = t.length ∧ Sane tr ∧ cs.length < lvl + t.length ∧ Z (fltD (faultF cs ds lvl t l p b tr))
theorem no_fat : ∀ vs Z, ¬ R_fat 0 vs Z := by
  rintro vs Z ⟨cs, ds, t, l, p, b, tr, rfl, sc, tk, lo, pl, sn, h, _⟩
  have := tk_len tk
  omega
theorem w_bs : ¬ (("blocked" : Str) = "shares") := by decide +kernel
theorem w_ps : ¬ (("split" : Str) = "shares") := by decide +kernel
theorem w_pb : ¬ (("split" : Str) = "blocked") := by decide +kernel
section
variable {cs : List Int} {ds : List (List Nat)} {n : Nat} {t l : List Nat} {p : List Pr} {b : Option Int}
theorem f_sh {rows : List Rw} : faultF cs ds (n + 1) t l p b (.shares rows) = if shB cs ds t l b rows = true then none else some ("shares", p) := by simp only [faultF]
theorem f_blo {a : Int} (h : inD ds a = false) : faultF cs ds (n + 1) t l p b (.blocked a) = some ("blocked", p) := by simp only [faultF, h]; rfl
theorem f_bl {a : Nat} (h : inD ds a = true) : faultF cs ds (n + 1) t l p b (.blocked a) = if (opn (dAt ds a) l).isEmpty = true ∧ metB (dAt ds a) t = false then none else some ("blocked", p) := by simp only [faultF, h, Int.toNat_natCast]; rfl
theorem f_spo {a : Int} {ts : List Tr} (h : inD ds a = false) : faultF cs ds (n + 1) t l p b (.split a ts) = some ("split", p) := by simp only [faultF, h]; rfl
def cellF (cs : List Int) (ds : List (List Nat)) (n : Nat) (t l : List Nat) (p : List Pr) (b : Option Int) (a : Int) (os : List Nat) (ts : List Tr) (k : Nat) : Flt := faultF cs ds n (t ++ [os.getD k 0]) (l ++ os.take k) (p ++ [(a, (os.getD k 0 : Int))]) b (ts.getD k (.blocked 0))
theorem f_sp {a : Nat} {ts : List Tr} (h : inD ds a = true) : faultF cs ds (n + 1) t l p b (.split a ts) = if metB (dAt ds a) t = true ∨ ts.length ≠ (opn (dAt ds a) l).length then some ("split", p) else (List.range (opn (dAt ds a) l).length).findSome? (cellF cs ds n t l p b a (opn (dAt ds a) l) ts) := by simp only [faultF, h, Int.toNat_natCast]; rfl
end
theorem opn_fresh {d l : List Nat} (nd : d.Nodup) {k : Nat} (hk : k < (opn d l).length) : (opn d l).getD k 0 ∈ opn d l ∧ (opn d l).getD k 0 ∉ (opn d l).take k ∧ ∀ x ∈ (opn d l).take k, x ∈ opn d l := by
  have eg : (opn d l).getD k 0 = (opn d l)[k] := by rw [List.getD_eq_getElem?_getD, List.getElem?_eq_getElem hk]; rfl
  have nd2 : (opn d l).Nodup := nd.filter _
  refine ⟨by rw [eg]; exact List.getElem_mem hk, ?_, fun x hx => List.mem_of_mem_take hx⟩
  rw [eg]
  intro q
  obtain ⟨i, hi, e⟩ := List.getElem_of_mem q
  rw [List.getElem_take] at e
  rw [List.length_take] at hi
  exact absurd e (List.pairwise_iff_getElem.mp nd2 i k (by omega) hk (by omega))
theorem flt_snoc (p : List Pr) (a o : Int) : (p.map encP ++ [PyData.tuple [.int a, .int o]]) = (p ++ [(a, o)]).map encP := by rw [List.map_append]; rfl
theorem fltD_none : ∀ {f : Flt}, (fltD f = .none) = (f = none)
  | none => by simp [fltD]
  | some f => by simp [fltD]
theorem inD_nat {ds : List (List Nat)} {a : Int} (h : inD ds a = true) : ∃ m : Nat, a = (m : Int) ∧ m < ds.length := by
  unfold inD at h
  have := of_decide_eq_true h
  exact ⟨a.toNat, by omega, by omega⟩
theorem sx_fault_at (K : PySem.W.Frag) (n : Nat) (vs : List D) (Z : D → Prop) (h : R_fat (n + 1) vs Z) : SX (T_fault_at K R_met (R_fat n) R_shares) (startE N_fault_at vs) { nx := fun _ => Z .none, rt := fun d _ => Z d } := by
  obtain ⟨cs, ds, t, l, p, b, tr, rfl, sc, tk, lo, pl, sn, hlv, z⟩ := h
  show SX (T_fault_at K R_met (R_fat n) R_shares) [.val (prD cs ds), .val (natsD t), .val (natsD l), .val (.list (p.map encP)), .val (optD b), .val (encT tr), .emp, .emp, .emp, .emp, .emp, .emp, .emp] _
  unfold T_fault_at
  have L := lim_of sc tk lo
  have cn := sc.cn
  have dn := sc.dn
  have tl := tk_len tk
  have ll := lo.len
  refine sx_seq (sx_asg ?_)
  walk_at "es"
  refine opd_ixT (d := .list (ds.map natsD)) rfl ?_
  refine nx_seq ?_
  walk_at "w"
  cases tr with
  | shares rows =>
    have rn := sane_sh sn
    rw [f_sh] at z
    rw [enc_sh]
    refine sx_seq (sx_if (et_val true ?_ ?_))
    · walk_at "es"
      exact ⟨by simp, rfl⟩
    refine ⟨fun _ => ?_, (fun q => by cases q)⟩
    cases b with
    | none =>
      have z : Z (fltD (some ("shares", p))) := z
      unfold optD
      walk_at "es"
      refine ⟨(fun q => by cases q), fun _ => ?_⟩
      walk_at "es"
      refine ⟨(fun q => by cases q), fun _ => ?_⟩
      walk_at "es"
      exact z
    | some c =>
      have z : Z (fltD (if sharesB cs ds t l c rows = true then none else some ("shares", p))) := z
      unfold optD
      walk_at "es"
      refine ⟨fun _ => ?_, (fun q => by cases q)⟩
      walk_at "es"
      refine ⟨cs, ds, t, l, c, rows, rfl, L, rn, ?_⟩
      cases hs : sharesB cs ds t l c rows with
      | true =>
        rw [if_pos hs] at z
        walk_at "es"
        refine ⟨fun _ => ?_, (fun q => by cases q)⟩
        walk_at "es"
        exact z
      | false =>
        rw [if_neg (by rw [hs]; decide)] at z
        walk_at "es"
        refine ⟨(fun q => by cases q), fun _ => ?_⟩
        walk_at "es"
        exact z
  | blocked a =>
    rw [enc_bl]
    refine sx_seq (sx_if (et_val false ?_ ?_))
    · walk_at "es"
      exact ⟨decide_eq_false w_bs, rfl⟩
    refine ⟨(fun q => by cases q), fun _ => sx_next (nx_seq ?_)⟩
    refine sx_seq (sx_if (et_val (!inD ds a) ?_ ?_))
    · walk_at "es"
      refine ⟨fun h1 => ?_, fun h1 => ?_⟩
      · have h1 := of_decide_eq_true h1
        walk_at "es"
        refine ⟨?_, rfl⟩
        unfold inD
        rw [List.length_map]
        simp [h1]
      · have h1 := of_decide_eq_false h1
        refine ⟨_, rfl, ?_, rfl⟩
        unfold inD
        simp [h1]
    refine ⟨fun hb => ?_, fun hb => ?_⟩
    · have hf : inD ds a = false := by simpa using hb
      rw [f_blo hf] at z
      walk_at "es"
      exact z
    have hf : inD ds a = true := by simpa using hb
    obtain ⟨a, rfl, ha⟩ := inD_nat hf
    rw [f_bl hf] at z
    have ad : atI (ds.map natsD) (a : Int) = some (natsD (dAt ds a)) := by rw [atI_map [] (by omega) (by omega), Int.toNat_natCast]; rfl
    have md := dAt_mem (ds := ds) ha
    generalize dAt ds a = d at ad md z
    have dl := L.dl md
    have ol := opn_len d l
    refine sx_next (nx_seq ?_)
    unfold natsD at ad ⊢
    refine sx_seq (sx_asg (ex_of (eo_lcP (α := Nat) (fun o => !decide (o ∈ l)) (fun o => .int (o : Int)) (ei_list ?_))))
    walk_at "es"
    refine opd_ixL ad ?_
    walk_at "es"
    refine ⟨by omega, fun i hi => by simp at hi; subst hi; rfl, fun o ho => sg_name (by simp) ⟨rfl, ?_⟩, ?_⟩
    · walk_at "w"
      walk_at "es"
      refine opd_ninL (Nat.le_trans (Nat.min_le_right _ _) (by simp [PyData.depth])) ?_
      rw [any_nats]
      refine ⟨_, rfl, rfl, rfl, fun _ => ?_⟩
      walk_at "es"
      exact ⟨rfl, rfl⟩
    rw [opn_D]
    refine nx_seq ?_
    walk_at "w"
    refine sx_seq (sx_if (et_val true ?_ ?_))
    · walk_at "es"
      exact ⟨by simp, rfl⟩
    refine ⟨fun _ => ?_, (fun q => by cases q)⟩
    refine sx_ret (ex_if (et_val ((opn d l).isEmpty && !metB d t) ?_ ?_))
    · walk_at "es"
      rw [Bool.not_not, List.isEmpty_map]
      refine ⟨fun h1 => ?_, fun h1 => ?_⟩
      · rw [h1, Bool.true_and]
        walk_at "es"
        refine opd_ixL ad ?_
        walk_at "es"
        refine ⟨d, t, rfl, by omega, ?_⟩
        exact ⟨_, rfl, rfl, rfl⟩
      · rw [h1, Bool.false_and]
        exact ⟨rfl, rfl⟩
    refine ⟨fun h1 => ?_, fun h1 => ?_⟩
    · rw [Bool.and_eq_true, Bool.not_eq_true'] at h1
      rw [if_pos h1] at z
      walk_at "es"
      exact z
    · have h1 : ¬ ((opn d l).isEmpty = true ∧ metB d t = false) := fun q => by rw [q.1, q.2] at h1; cases h1
      rw [if_neg h1] at z
      walk_at "es"
      exact z
  | split a ts =>
    obtain ⟨tsn, tss⟩ := sane_sp sn
    rw [enc_sp]
    refine sx_seq (sx_if (et_val false ?_ ?_))
    · walk_at "es"
      exact ⟨decide_eq_false w_ps, rfl⟩
    refine ⟨(fun q => by cases q), fun _ => sx_next (nx_seq ?_)⟩
    refine sx_seq (sx_if (et_val (!inD ds a) ?_ ?_))
    · walk_at "es"
      refine ⟨fun h1 => ?_, fun h1 => ?_⟩
      · have h1 := of_decide_eq_true h1
        walk_at "es"
        refine ⟨?_, rfl⟩
        unfold inD
        rw [List.length_map]
        simp [h1]
      · have h1 := of_decide_eq_false h1
        refine ⟨_, rfl, ?_, rfl⟩
        unfold inD
        simp [h1]
    refine ⟨fun hb => ?_, fun hb => ?_⟩
    · have hf : inD ds a = false := by simpa using hb
      rw [f_spo hf] at z
      walk_at "es"
      exact z
    have hf : inD ds a = true := by simpa using hb
    obtain ⟨a, rfl, ha⟩ := inD_nat hf
    rw [f_sp hf] at z
    have ad : atI (ds.map natsD) (a : Int) = some (natsD (dAt ds a)) := by rw [atI_map [] (by omega) (by omega), Int.toNat_natCast]; rfl
    have md := dAt_mem (ds := ds) ha
    generalize dAt ds a = d at ad md z
    have dl := L.dl md
    have ol := opn_len d l
    have nd : d.Nodup := (sc.pb.asc d md).imp fun h => by omega
    refine sx_next (nx_seq ?_)
    unfold natsD at ad ⊢
    refine sx_seq (sx_asg (ex_of (eo_lcP (α := Nat) (fun o => !decide (o ∈ l)) (fun o => .int (o : Int)) (ei_list ?_))))
    walk_at "es"
    refine opd_ixL ad ?_
    walk_at "es"
    refine ⟨by omega, fun i hi => by simp at hi; subst hi; rfl, fun o ho => sg_name (by simp) ⟨rfl, ?_⟩, ?_⟩
    · walk_at "w"
      walk_at "es"
      refine opd_ninL (Nat.le_trans (Nat.min_le_right _ _) (by simp [PyData.depth])) ?_
      rw [any_nats]
      refine ⟨_, rfl, rfl, rfl, fun _ => ?_⟩
      walk_at "es"
      exact ⟨rfl, rfl⟩
    rw [opn_D]
    refine nx_seq ?_
    walk_at "w"
    refine sx_seq (sx_if (et_val false ?_ ?_))
    · walk_at "es"
      exact ⟨decide_eq_false w_pb, rfl⟩
    refine ⟨(fun q => by cases q), fun _ => sx_next (nx_seq ?_)⟩
    refine sx_seq (sx_if (et_val (metB d t || !decide (ts.length = (opn d l).length)) ?_ ?_))
    · walk_at "es"
      refine opd_ixL ad ?_
      walk_at "es"
      refine ⟨d, t, rfl, by omega, ?_⟩
      refine ⟨_, rfl, fun h1 => ?_, fun h1 => ?_⟩
      · rw [h1, Bool.true_or]
        exact ⟨rfl, rfl⟩
      · rw [h1, Bool.false_or]
        walk_at "es"
        refine ⟨?_, rfl⟩
        rw [List.length_map, List.length_map]
        by_cases q : ts.length = (opn d l).length
        · simp [q]
        · have : ¬ ((ts.length : Int) = ((opn d l).length : Int)) := by omega
          simp [q, this]
    refine ⟨fun h1 => ?_, fun h1 => ?_⟩
    · have h1 : metB d t = true ∨ ts.length ≠ (opn d l).length := by
        rcases Bool.or_eq_true_iff.mp h1 with q | q
        · exact .inl q
        · exact .inr (by simpa using q)
      rw [if_pos h1] at z
      walk_at "es"
      exact z
    have um : metB d t = false := by
      cases q : metB d t with
      | false => rfl
      | true => rw [q] at h1; cases h1
    have el : ts.length = (opn d l).length := by rw [um, Bool.false_or] at h1; simpa using h1
    rw [if_neg (by rw [um]; simp [el])] at z
    refine sx_next (nx_seq ?_)
    refine sx_seq (sx_for (J := [10, 9]) (ei_enum ?_))
    walk_at "es"
    refine ⟨fun k ρ' => (∀ j, j < k → cellF cs ds n t l p b a (opn d l) ts j = none) ∧ ρ' = [.val (prD cs ds), .val (natsD t), .val (natsD l), .val (.list (p.map encP)), .val (optD b), .val (.tuple [.str (Str.ofString "split"), .int (a : Int), .list (ts.map encT)]), .val (.list (ds.map natsD)), .emp, .val (natsD (opn d l)), .emp, .emp, .emp, .emp], ⟨fun j hj => by omega, rfl⟩, ?_, ?_⟩
    · rintro k dd ρ' hd0 ⟨hno, rfl⟩
      obtain ⟨o, ho, rfl⟩ := enum_at hd0
      have hk := (List.getElem?_eq_some_iff.mp ho).1
      have eo : (opn d l).getD k 0 = o := by rw [List.getD_eq_getElem?_getD, ho]; rfl
      obtain ⟨f1, f2, f3⟩ := opn_fresh (l := l) nd hk
      rw [eo] at f1 f2
      have tk' := tk_child sc.pb tk md um f1 (fun x hx => (opn_mem.mp (f3 x hx)).1) f2
      have lo' := lo_child sc.pb lo md f3 ((nd.filter _ : (opn d l).Nodup).sublist (List.take_sublist k _))
      have at2 : atI (ts.map encT) (k : Int) = some (encT (ts.getD k (.blocked 0))) := by rw [atI_map (.blocked 0) (by omega) (by omega), Int.toNat_natCast]
      have sk : Sane (ts.getD k (.blocked 0)) := by
        rw [List.getD_eq_getElem?_getD, List.getElem?_eq_getElem (show k < ts.length by omega)]
        exact tss _ (List.getElem_mem _)
      have ec : cellF cs ds n t l p b a (opn d l) ts k = faultF cs ds n (t ++ [o]) (l ++ (opn d l).take k) (p ++ [((a : Int), (o : Int))]) b (ts.getD k (.blocked 0)) := by unfold cellF; rw [eo]
      refine sg_tup rfl (sgs_cons (sg_name (by simp) (sgs_cons (sg_name (by simp) (sgs_nil ?_)))))
      unfold natsD
      walk_at "w"
      walk_at "es"
      refine opd_plusL (by rw [List.length_map]; simp; omega) ?_
      rw [flt_snoc]
      walk_at "es"
      refine opd_plusL (by rw [List.length_map]; simp; omega) ?_
      rw [← natsD_snoc]
      walk_at "es"
      rw [cut_n]
      refine opd_plusL (by rw [List.length_map, List.length_map, List.length_take]; omega) ?_
      rw [← natsD_app]
      walk_at "es"
      refine opd_ixL at2 ?_
      walk_at "es"
      refine ⟨cs, ds, t ++ [o], l ++ (opn d l).take k, p ++ [((a : Int), (o : Int))], b, ts.getD k (.blocked 0), rfl, sc, tk', lo', by simp [pl], sk, by rw [List.length_append, List.length_singleton]; omega, ?_⟩
      rw [← ec]
      walk_at "w"
      refine nx_seq ?_
      walk_at "w"
      cases hc : cellF cs ds n t l p b a (opn d l) ts k with
      | none =>
        refine sx_if (et_val false ?_ ?_)
        · unfold fltD
          walk_at "es"
          exact ⟨rfl, rfl⟩
        refine ⟨(fun q => by cases q), fun _ => sx_next ⟨_, by walk_at "le", fun j hj => ?_, rfl⟩⟩
        rcases (show j < k ∨ j = k by omega) with q | q
        · exact hno j q
        · rw [q]; exact hc
      | some g =>
        rw [find_first hk hno hc] at z
        refine sx_if (et_val true ?_ ?_)
        · unfold fltD
          walk_at "es"
          exact ⟨rfl, rfl⟩
        refine ⟨fun _ => ?_, (fun q => by cases q)⟩
        walk_at "es"
        exact z
    rintro ρ' ⟨hno, rfl⟩
    rw [enum_len] at hno
    rw [find_no hno] at z
    refine nx_seq ?_
    walk_at "es"
    exact z
end Law_k41
namespace Law_k41
open PySem L2 Pu
local macro_rules | `(tactic| walk_at "e") => `(tactic| first
  | ((with_reducible refine nx_seq ?_); (try dsimp only [List.set_cons_succ, List.set_cons_zero]))
  | ((with_reducible refine ex_vr ?_); dsimp only [VQ, List.set_cons_succ, List.set_cons_zero, List.getElem?_cons_zero, List.getElem?_cons_succ]; (fail_if_success (with_reducible show False)))
  | (with_reducible refine sx_seq ?_)
  | (with_reducible refine sx_if ?_)
  | (with_reducible refine sx_next ?_)
  | (with_reducible refine sx_ret ?_)
  | ((fail_if_success (with_reducible refine sx_asgO (eo_lst ?_))); (with_reducible refine sx_asg ?_))
  | (with_reducible refine ex_int ?_)
  | (with_reducible refine ex_str ?_)
  | (with_reducible refine ex_bl ?_)
  | (with_reducible refine ex_non ?_)
  | (with_reducible refine ex_op ?_)
  | (with_reducible refine ex_un ?_)
  | (with_reducible refine ex_chain ?_)
  | (with_reducible refine ex_call ?_)
  | (with_reducible refine ex_isT ?_)
  | (with_reducible refine ex_cb ?_)
  | (with_reducible refine ex_sl ?_)
  | (with_reducible refine ex_tup ?_)
  | (with_reducible refine ex_if ?_)
  | (with_reducible refine ex_of (eo_lst ?_))
  | (with_reducible refine ex_notV ?_)
  | (with_reducible refine ea_nil ?_)
  | (with_reducible refine ea_cons ?_)
  | (with_reducible refine ep_no ?_)
  | (with_reducible refine ep_some ?_)
  | (with_reducible refine et_test ?_)
  | (with_reducible refine et_B ?_)
  | (with_reducible refine et_ch3 ?_)
  | (with_reducible refine et_and ?_)
  | (with_reducible refine et_or ?_)
  | (with_reducible refine et_not ?_)
  | (with_reducible refine et_yes ?_)
  | (with_reducible refine et_truL ?_)
  | (with_reducible refine opd_plusI ?_)
  | (with_reducible refine opd_I0 ?_)
  | (with_reducible refine opd_B0 ?_)
  | (with_reducible refine opd_eqI ?_)
  | (with_reducible refine opd_neI ?_)
  | (with_reducible refine opd_eqS ?_)
  | (with_reducible refine opd_neS ?_)
  | (with_reducible refine opd_is ?_)
  | (with_reducible refine opd_isnt ?_)
  | (with_reducible refine opd_ixT rfl ?_)
  | (with_reducible refine opd_ixL rfl ?_)
  | (with_reducible refine und_neg ?_)
  | (with_reducible refine cbd_lenL ?_)
  | (with_reducible refine cbd_lenT ?_)
  | (with_reducible refine cbd_min2 ?_)
  | (with_reducible refine cbd_max2 ?_)
  | (with_reducible refine cbd_abs ?_)
  | (with_reducible refine cbd_int ?_)
  | (with_reducible refine cbd_tupL ?_)
  | (with_reducible refine cbd_listL ?_)
  | (with_reducible refine cbd_listT ?_)
  | (with_reducible refine cbd_sum ?_)
  | (with_reducible refine sld_T ?_)
  | (with_reducible refine sld_L ?_)
  | (with_reducible refine ex_revL ?_)
  | (with_reducible refine ex_bmL ?_)
  | (with_reducible refine ex_andV ?_)
  | (with_reducible refine ei_list ?_)
  | (with_reducible refine ei_rng1 ?_)
  | (with_reducible refine ei_rng2 ?_)
  | (with_reducible refine ei_enum ?_)
  | (with_reducible refine ei_enumT ?_)
  | (with_reducible refine ei_zip ?_)
  | (with_reducible refine sx_par ?_)
  | (with_reducible refine Exists.intro _ (And.intro rfl ?_))
  | (with_reducible refine Exists.intro _ (Exists.intro _ (And.intro rfl ?_)))
  | ((with_reducible show EX (tCall (spS _) [] _ (tCons (tVar _) _)) _ _); refine ex_callS rfl ?_)
  | ((with_reducible refine And.intro (show (_ : Nat) ≤ 100000 from ?_) ?_); (focus (simp; done)))
  | ((with_reducible refine opd_I ?_ ?_); focus (first | omega | (show CDiv _ _; exact ⟨by omega, by omega⟩) | (show CMul _ _; first | exact Or.inl ⟨by omega, by omega⟩ | exact Or.inr ⟨by omega, by omega⟩))))
local macro_rules | `(tactic| walk_at "es") => `(tactic| repeat walk_at "e")
local macro_rules | `(tactic| walk_at "w") => `(tactic| try dsimp only [wipeE, List.foldl_cons, List.foldl_nil, List.set_cons_succ, List.set_cons_zero])
local macro_rules | `(tactic| walk_at "le") => `(tactic| repeat' first | exact LeE.nil | (refine LeE.eq rfl ?_) | (refine LeE.emp ?_) | (refine LeE.eq ?_ ?_))
local macro_rules | `(tactic| walk_at "no") => `(tactic| ((refine And.intro (fun hb => absurd hb ?_) (fun _ => ?_)); (focus (first | (exact Bool.false_ne_true) | (simp; done) | (simp; omega) | (simp only [decide_eq_true_eq]; omega)))))
local macro_rules | `(tactic| walk_at "yes") => `(tactic| ((refine And.intro (fun _ => ?_) (fun hb => absurd hb ?_)); (rotate_left); (focus (first | (exact Bool.noConfusion) | (simp; done) | (simp; omega) | (simp only [decide_eq_false_iff_not]; omega)))))
local macro_rules | `(tactic| walk_at "ei") => `(tactic| repeat ((fail_if_success (with_reducible show SX (tSeq (tIfS _ _ _) _) _ _)); (fail_if_success (with_reducible show SX (tIfS _ _ _) _ _)); (fail_if_success (with_reducible show SX (tSeq (tAsg (tIf _ _ _) _) _) _ _)); walk_at "e"))
local macro_rules | `(tactic| walk_at "tv") => `(tactic| repeat' first | walk_at "e" | ((with_reducible show (_ = true → _) ∧ (_ = false → _)); refine And.intro (fun _ => ?_) (fun _ => ?_)))
/-! ### what is told, judged -/
def toldD : Told → D
  | .least row cost tr => leastD row cost tr
  | .none tr => noneD tr
def treeD : Flt → D
  | none => .none
  | some f => .tuple [.str (Str.ofString "tree"), fltD (some f)]
def unmO (ds : List (List Nat)) (row : List Nat) (k : Nat) : Option Nat := if metB (dAt ds k) row = true then none else some k
def unmF (ds : List (List Nat)) (row : List Nat) : Option Nat := (List.range ds.length).findSome? (unmO ds row)
def judD (cs : List Int) (ds : List (List Nat)) : Told → D
  | .none tr => treeD (faultF cs ds 7 [] [] [] none tr)
  | .least row cost tr => if risB cs.length row = true then (match unmF ds row with
      | some k => .tuple [.str (Str.ofString "demand"), .int (k : Int)]
      | none => if costT cs row = cost then treeD (faultF cs ds 7 [] [] [] (some cost) tr) else .tuple [.str (Str.ofString "cost")])
    else .tuple [.str (Str.ofString "options")]
def SaneT : Told → Prop
  | .least row _ tr => row.length ≤ 1000 ∧ Sane tr
  | .none tr => Sane tr
def R_jud : List D → (D → Prop) → Prop := fun vs Z => ∃ (cs : List Int) (ds : List (List Nat)) (T : Told), vs = [prD cs ds, toldD T] ∧ Sc cs ds ∧ cs.length < 7 ∧ SaneT T ∧ Z (judD cs ds T)
theorem w_ln : ¬ (("least" : Str) = "none") := by decide +kernel
theorem w_nl : ¬ (("none" : Str) = "least") := by decide +kernel
theorem lo_nil (cs : List Int) : Lo cs [] := ⟨List.nodup_nil, by simp⟩
theorem tree_of (f : Flt) : treeD f = if f = none then .none else .tuple [.str (Str.ofString "tree"), fltD f] := by cases f <;> simp [treeD]
theorem rise_all (row : List Nat) : ((rngI 0 (row.length - 1)).map fun k => decide (row.getD k.toNat 0 < row.getD (k.toNat + 1) 0)).all id = decide (row.Pairwise (· < ·)) := by
  have key : ∀ row : List Nat, ((List.range (row.length - 1)).all fun k => decide (row.getD k 0 < row.getD (k + 1) 0)) = decide (row.Pairwise (· < ·)) := by
    intro row
    induction row with
    | nil => simp
    | cons a row ih =>
      cases row with
      | nil => simp
      | cons b row =>
        rw [show (a :: b :: row).length - 1 = (b :: row).length - 1 + 1 by simp, List.range_succ_eq_map, List.all_cons, List.all_map]
        have e : ((fun k => decide ((a :: b :: row).getD k 0 < (a :: b :: row).getD (k + 1) 0)) ∘ Nat.succ) = fun k => decide ((b :: row).getD k 0 < (b :: row).getD (k + 1) 0) := rfl
        rw [e, ih]
        have h0 : (decide ((a :: b :: row).getD 0 0 < (a :: b :: row).getD (0 + 1) 0)) = decide (a < b) := rfl
        rw [h0]
        by_cases h1 : a < b <;> by_cases h2 : (b :: row).Pairwise (· < ·)
        · rw [decide_eq_true h1, decide_eq_true h2, decide_eq_true]
          · rfl
          · refine List.pairwise_cons.mpr ⟨fun x hx => ?_, h2⟩
            rcases List.mem_cons.mp hx with rfl | q
            · exact h1
            · have := (List.pairwise_cons.mp h2).1 x q
              omega
        · rw [decide_eq_true h1, decide_eq_false h2, decide_eq_false fun q => h2 (List.pairwise_cons.mp q).2]; rfl
        · rw [decide_eq_false h1, decide_eq_true h2, decide_eq_false fun q => h1 ((List.pairwise_cons.mp q).1 b (by simp))]; rfl
        · rw [decide_eq_false h1, decide_eq_false h2, decide_eq_false fun q => h2 (List.pairwise_cons.mp q).2]; rfl
  rw [← key row]
  unfold rngI
  rw [List.map_map, List.all_map]
  congr 1
  funext k
  simp only [Function.comp, id, Int.zero_add, Int.toNat_natCast]
theorem in_all (n : Nat) (row : List Nat) : (row.map fun o : Nat => decide ((0 : Int) ≤ (o : Int)) && decide ((o : Int) < (n : Int))).all id = decide (∀ o ∈ row, o < n) := by
  induction row with
  | nil => simp
  | cons a row ih =>
    rw [List.map_cons, List.all_cons, ih]
    by_cases h1 : a < n
    · have : (a : Int) < (n : Int) := by omega
      by_cases h2 : ∀ o ∈ row, o < n
      · rw [decide_eq_true h2, decide_eq_true (p := ∀ o ∈ a :: row, o < n) (by simpa [h1] using h2)]
        simp [this]
      · rw [decide_eq_false h2, decide_eq_false (p := ∀ o ∈ a :: row, o < n) (fun q => h2 fun o ho => q o (by simp [ho]))]
        simp
    · have : ¬ (a : Int) < (n : Int) := by omega
      rw [decide_eq_false (p := ∀ o ∈ a :: row, o < n) (fun q => h1 (q a (by simp)))]
      simp [this]
theorem ris_split (n : Nat) (row : List Nat) : risB n row = (decide (row.Pairwise (· < ·)) && decide (∀ o ∈ row, o < n)) := by
  unfold risB
  by_cases h : row = (List.range n).filter fun o => decide (o ∈ row)
  · have := ris_iff.mp h
    rw [decide_eq_true h, decide_eq_true this.1, decide_eq_true this.2]; rfl
  · rw [decide_eq_false h]
    by_cases h1 : row.Pairwise (· < ·)
    · by_cases h2 : ∀ o ∈ row, o < n
      · exact absurd (ris_iff.mpr ⟨h1, h2⟩) h
      · rw [decide_eq_false h2, Bool.and_false]
    · rw [decide_eq_false h1, Bool.false_and]
theorem unm_step {ds : List (List Nat)} {row : List Nat} {k : Nat} (h1 : ∀ j, j < k → unmO ds row j = none) (h2 : unmO ds row k = none) : ∀ j, j < k + 1 → unmO ds row j = none := fun j hj => by
  rcases (show j < k ∨ j = k by omega) with q | q
  · exact h1 j q
  · rw [q]; exact h2
theorem sx_cover_fault (K : PySem.W.Frag) (vs : List D) (Z : D → Prop) (h : R_jud vs Z) : SX (T_cover_fault K (R_fat 7) R_met) (startE N_cover_fault vs) { nx := fun _ => Z .none, rt := fun d _ => Z d } := by
  obtain ⟨cs, ds, T, rfl, sc, h7, sn, z⟩ := h
  show SX (T_cover_fault K (R_fat 7) R_met) [.val (prD cs ds), .val (toldD T), .emp, .emp, .emp, .emp, .emp, .emp, .emp, .emp, .emp, .emp, .emp] _
  unfold T_cover_fault
  have cn := sc.cn
  have dn := sc.dn
  refine sx_seq (sx_asgT (J := [2, 3]) ?_)
  walk_at "es"
  refine sg_tup rfl (sgs_cons (sg_name (by simp) (sgs_cons (sg_name (by simp) (sgs_nil ?_)))))
  walk_at "w"
  refine nx_seq ?_
  cases T with
  | none tr =>
    have sn : Sane tr := sn
    have z : Z (treeD (faultF cs ds 7 [] [] [] none tr)) := z
    unfold toldD noneD
    refine sx_seq (sx_if (et_val true ?_ ?_))
    · walk_at "es"
      exact ⟨by simp, rfl⟩
    refine ⟨fun _ => ?_, (fun q => by cases q)⟩
    walk_at "es"
    refine ⟨cs, ds, [], [], [], none, tr, rfl, sc, tk_nil cs, lo_nil cs, rfl, sn, by simp; omega, ?_⟩
    generalize faultF cs ds 7 [] [] [] none tr = f at z ⊢
    walk_at "es"
    cases f with
    | none =>
      refine ⟨fun _ => ?_, (fun q => by cases q)⟩
      walk_at "es"
      exact z
    | some f =>
      refine ⟨(fun q => by cases q), fun _ => ?_⟩
      walk_at "es"
      exact z
  | least row cost tr =>
    have rl : row.length ≤ 1000 := sn.1
    have sn : Sane tr := sn.2
    have z : Z (if risB cs.length row = true then (match unmF ds row with
      | some k => .tuple [.str (Str.ofString "demand"), .int (k : Int)]
      | none => if costT cs row = cost then treeD (faultF cs ds 7 [] [] [] (some cost) tr) else .tuple [.str (Str.ofString "cost")])
      else .tuple [.str (Str.ofString "options")]) := z
    unfold toldD leastD
    refine sx_seq (sx_if (et_val false ?_ ?_))
    · walk_at "es"
      exact ⟨decide_eq_false w_ln, rfl⟩
    refine ⟨(fun q => by cases q), fun _ => sx_next (nx_seq ?_)⟩
    refine sx_seq (sx_asgT (J := [5, 6, 7, 8]) ?_)
    walk_at "es"
    refine sg_tup rfl (sgs_cons (sg_name (by simp) (sgs_cons (sg_name (by simp) (sgs_cons (sg_name (by simp) (sgs_cons (sg_name (by simp) (sgs_nil ?_)))))))))
    walk_at "w"
    refine nx_seq ?_
    unfold natsD
    refine sx_seq (sx_asg ?_)
    walk_at "es"
    refine ex_of (eo_lcP (α := Int) (fun _ => true) (fun k => .bool (decide (row.getD k.toNat 0 < row.getD (k.toNat + 1) 0))) (ei_rng1 ?_))
    walk_at "es"
    rw [List.length_map, show ((row.length : Int) - 1).toNat = row.length - 1 by omega]
    refine ⟨by omega, rngI 0 (row.length - 1), _, rfl, by rw [rngI_len]; omega, fun i hi => by simp at hi; subst hi; rfl, fun x hx => sg_name (by simp) ⟨rfl, ?_⟩, ?_⟩
    · have hx := rngI_mem.mp hx
      obtain ⟨k, rfl⟩ : ∃ k : Nat, x = (k : Int) := ⟨x.toNat, by omega⟩
      rw [Int.toNat_natCast]
      have a1 : atI (row.map fun k : Nat => PyData.int (k : Int)) (k : Int) = some (.int (row.getD k 0 : Nat)) := by rw [atI_map (0 : Nat) (by omega) (by omega), Int.toNat_natCast]
      have a2 : atI (row.map fun k : Nat => PyData.int (k : Int)) ((k : Int) + 1) = some (.int (row.getD (k + 1) 0 : Nat)) := by rw [atI_map (0 : Nat) (by omega) (by omega), show ((k : Int) + 1).toNat = k + 1 by omega]
      walk_at "w"
      refine et_yes ⟨rfl, rfl, fun _ => ?_⟩
      walk_at "es"
      refine opd_ixL a1 ?_
      walk_at "es"
      refine opd_ixL a2 ?_
      walk_at "es"
      exact ⟨congrArg PyData.bool (decide_eq_decide.mpr (by omega)), rfl⟩
    rw [filt_all, show ((rngI 0 (row.length - 1)).map fun k => PyData.bool (decide (row.getD k.toNat 0 < row.getD (k.toNat + 1) 0))) = ((rngI 0 (row.length - 1)).map fun k => decide (row.getD k.toNat 0 < row.getD (k.toNat + 1) 0)).map .bool by rw [List.map_map]; rfl]
    walk_at "es"
    refine cbd_all ?_
    rw [rise_all]
    refine nx_seq ?_
    walk_at "w"
    refine sx_seq (sx_if (et_val (!risB cs.length row) ?_ ?_))
    · rw [ris_split]
      walk_at "es"
      refine ⟨fun h1 => ?_, fun h1 => ?_⟩
      · have h1 : decide (row.Pairwise (· < ·)) = false := by simpa using h1
        rw [h1]
        exact ⟨rfl, rfl⟩
      · have h1 : decide (row.Pairwise (· < ·)) = true := by simpa using h1
        rw [h1, Bool.true_and]
        walk_at "es"
        refine ex_of (eo_lcP (α := Nat) (fun _ => true) (fun o => .bool (decide ((0 : Int) ≤ (o : Int)) && decide ((o : Int) < (cs.length : Int)))) (ei_list ?_))
        walk_at "es"
        refine ⟨by omega, fun i hi => by simp at hi; subst hi; rfl, fun x hx => sg_name (by simp) ⟨rfl, ?_⟩, ?_⟩
        · walk_at "w"
          refine et_yes ⟨rfl, rfl, fun _ => ?_⟩
          walk_at "es"
          refine ⟨fun h1 => ?_, fun h1 => ?_⟩
          · rw [h1]
            walk_at "es"
            rw [List.length_map]
            exact ⟨rfl, rfl⟩
          · rw [h1]; exact ⟨rfl, rfl⟩
        rw [filt_all, show (row.map fun o : Nat => PyData.bool (decide ((0 : Int) ≤ (o : Int)) && decide ((o : Int) < (cs.length : Int)))) = (row.map fun o : Nat => decide ((0 : Int) ≤ (o : Int)) && decide ((o : Int) < (cs.length : Int))).map .bool by rw [List.map_map]; rfl]
        walk_at "es"
        refine cbd_all ?_
        rw [in_all]
        exact ⟨_, rfl, rfl, rfl⟩
    refine ⟨fun hb => ?_, fun hb => ?_⟩
    · have hr : risB cs.length row = false := by simpa using hb
      rw [if_neg (by rw [hr]; decide)] at z
      walk_at "es"
      exact z
    have hr : risB cs.length row = true := by simpa using hb
    rw [if_pos hr] at z
    have rlt : ∀ o ∈ row, o < cs.length := (ris_iff.mp (of_decide_eq_true hr)).2
    refine sx_next (nx_seq ?_)
    refine sx_seq (sx_for (J := [10, 12]) (ei_enum ?_))
    walk_at "es"
    refine ⟨fun k ρ' => (∀ j, j < k → unmO ds row j = none) ∧ ρ' = [.val (prD cs ds), .val (leastD row cost tr), .val (.list (cs.map .int)), .val (.list (ds.map natsD)), .emp, .val (.str (Str.ofString "least")), .val (natsD row), .val (.int cost), .val (encT tr), .val (.bool (decide (row.Pairwise (· < ·)))), .emp, .emp, .emp], ⟨fun j hj => by omega, rfl⟩, ?_, ?_⟩
    · rintro k dd ρ' hd0 ⟨hno, rfl⟩
      obtain ⟨d, hd, rfl⟩ := enum_at hd0
      have hk := (List.getElem?_eq_some_iff.mp hd).1
      have ed : dAt ds k = d := by unfold dAt; rw [List.getD_eq_getElem?_getD, hd]; rfl
      have md := List.mem_of_getElem? hd
      have dl := (lim_of sc (tk_nil cs) (lo_nil cs)).dl md
      refine sg_tup rfl (sgs_cons (sg_name (by simp) (sgs_cons (sg_name (by simp) (sgs_nil ?_)))))
      walk_at "w"
      refine sx_if ?_
      walk_at "es"
      refine ⟨d, row, rfl, by omega, ?_⟩
      refine ⟨_, rfl, ?_⟩
      refine ⟨fun hb => ?_, fun hb => ?_⟩
      · have hm : metB d row = false := by simpa using hb
        have e : unmO ds row k = some k := by unfold unmO; rw [ed, if_neg (by rw [hm]; decide)]
        rw [show unmF ds row = some k from find_first hk hno e] at z
        walk_at "es"
        exact z
      · have hm : metB d row = true := by simpa using hb
        have e : unmO ds row k = none := by unfold unmO; rw [ed, if_pos hm]
        exact sx_next ⟨_, by walk_at "le", unm_step hno e, rfl⟩
    rintro ρ' ⟨hno, rfl⟩
    rw [enum_len] at hno
    rw [show unmF ds row = none from find_no hno] at z
    have z : Z (if costT cs row = cost then treeD (faultF cs ds 7 [] [] [] (some cost) tr) else .tuple [.str (Str.ofString "cost")]) := z
    refine nx_seq ?_
    unfold natsD
    refine sx_seq (sx_if (et_val (!decide (costT cs row = cost)) ?_ ?_))
    · walk_at "es"
      refine ex_of (eo_lcP (α := Nat) (fun _ => true) (fun o => .int (cst cs o)) (ei_list ?_))
      walk_at "es"
      refine ⟨by omega, fun i hi => by simp at hi; subst hi; rfl, fun o ho => sg_name (by simp) ⟨rfl, ?_⟩, ?_⟩
      · walk_at "w"
        refine et_yes ⟨rfl, rfl, fun _ => ?_⟩
        walk_at "es"
        refine opd_ixL (cost_at (rlt o ho)) ?_
        exact ⟨rfl, rfl⟩
      rw [costT_D]
      walk_at "es"
      exact ⟨rfl, rfl⟩
    refine ⟨fun hb => ?_, fun hb => ?_⟩
    · have hc : ¬ costT cs row = cost := by simpa using hb
      rw [if_neg hc] at z
      walk_at "es"
      exact z
    have hc : costT cs row = cost := by simpa using hb
    rw [if_pos hc] at z
    refine sx_next (nx_seq ?_)
    walk_at "es"
    refine ⟨cs, ds, [], [], [], some cost, tr, rfl, sc, tk_nil cs, lo_nil cs, rfl, sn, by simp; omega, ?_⟩
    generalize faultF cs ds 7 [] [] [] (some cost) tr = f at z ⊢
    walk_at "es"
    cases f with
    | none =>
      refine ⟨fun _ => ?_, (fun q => by cases q)⟩
      walk_at "es"
      exact z
    | some f =>
      refine ⟨(fun q => by cases q), fun _ => ?_⟩
      walk_at "es"
      exact z
end Law_k41
namespace Law_k41
open PySem L2 Pu
local macro_rules | `(tactic| walk_at "e") => `(tactic| first
  | ((with_reducible refine nx_seq ?_); (try dsimp only [List.set_cons_succ, List.set_cons_zero]))
  | ((with_reducible refine ex_vr ?_); dsimp only [VQ, List.set_cons_succ, List.set_cons_zero, List.getElem?_cons_zero, List.getElem?_cons_succ]; (fail_if_success (with_reducible show False)))
  | (with_reducible refine sx_seq ?_)
  | (with_reducible refine sx_if ?_)
  | (with_reducible refine sx_next ?_)
  | (with_reducible refine sx_ret ?_)
  | ((fail_if_success (with_reducible refine sx_asgO (eo_lst ?_))); (with_reducible refine sx_asg ?_))
  | (with_reducible refine ex_int ?_)
  | (with_reducible refine ex_str ?_)
  | (with_reducible refine ex_bl ?_)
  | (with_reducible refine ex_non ?_)
  | (with_reducible refine ex_op ?_)
  | (with_reducible refine ex_un ?_)
  | (with_reducible refine ex_chain ?_)
  | (with_reducible refine ex_call ?_)
  | (with_reducible refine ex_isT ?_)
  | (with_reducible refine ex_cb ?_)
  | (with_reducible refine ex_sl ?_)
  | (with_reducible refine ex_tup ?_)
  | (with_reducible refine ex_if ?_)
  | (with_reducible refine ex_of (eo_lst ?_))
  | (with_reducible refine ex_notV ?_)
  | (with_reducible refine ea_nil ?_)
  | (with_reducible refine ea_cons ?_)
  | (with_reducible refine ep_no ?_)
  | (with_reducible refine ep_some ?_)
  | (with_reducible refine et_test ?_)
  | (with_reducible refine et_B ?_)
  | (with_reducible refine et_ch3 ?_)
  | (with_reducible refine et_and ?_)
  | (with_reducible refine et_or ?_)
  | (with_reducible refine et_not ?_)
  | (with_reducible refine et_yes ?_)
  | (with_reducible refine et_truL ?_)
  | (with_reducible refine opd_plusI ?_)
  | (with_reducible refine opd_I0 ?_)
  | (with_reducible refine opd_B0 ?_)
  | (with_reducible refine opd_eqI ?_)
  | (with_reducible refine opd_neI ?_)
  | (with_reducible refine opd_eqS ?_)
  | (with_reducible refine opd_neS ?_)
  | (with_reducible refine opd_is ?_)
  | (with_reducible refine opd_isnt ?_)
  | (with_reducible refine opd_ixT rfl ?_)
  | (with_reducible refine opd_ixL rfl ?_)
  | (with_reducible refine und_neg ?_)
  | (with_reducible refine cbd_lenL ?_)
  | (with_reducible refine cbd_lenT ?_)
  | (with_reducible refine cbd_min2 ?_)
  | (with_reducible refine cbd_max2 ?_)
  | (with_reducible refine cbd_abs ?_)
  | (with_reducible refine cbd_int ?_)
  | (with_reducible refine cbd_tupL ?_)
  | (with_reducible refine cbd_listL ?_)
  | (with_reducible refine cbd_listT ?_)
  | (with_reducible refine cbd_sum ?_)
  | (with_reducible refine sld_T ?_)
  | (with_reducible refine sld_L ?_)
  | (with_reducible refine ex_revL ?_)
  | (with_reducible refine ex_bmL ?_)
  | (with_reducible refine ex_andV ?_)
  | (with_reducible refine ei_list ?_)
  | (with_reducible refine ei_rng1 ?_)
  | (with_reducible refine ei_rng2 ?_)
  | (with_reducible refine ei_enum ?_)
  | (with_reducible refine ei_enumT ?_)
  | (with_reducible refine ei_zip ?_)
  | (with_reducible refine sx_par ?_)
  | (with_reducible refine Exists.intro _ (And.intro rfl ?_))
  | (with_reducible refine Exists.intro _ (Exists.intro _ (And.intro rfl ?_)))
  | ((with_reducible show EX (tCall (spS _) [] _ (tCons (tVar _) _)) _ _); refine ex_callS rfl ?_)
  | ((with_reducible refine And.intro (show (_ : Nat) ≤ 100000 from ?_) ?_); (focus (simp; done)))
  | ((with_reducible refine opd_I ?_ ?_); focus (first | omega | (show CDiv _ _; exact ⟨by omega, by omega⟩) | (show CMul _ _; first | exact Or.inl ⟨by omega, by omega⟩ | exact Or.inr ⟨by omega, by omega⟩))))
local macro_rules | `(tactic| walk_at "es") => `(tactic| repeat walk_at "e")
local macro_rules | `(tactic| walk_at "w") => `(tactic| try dsimp only [wipeE, List.foldl_cons, List.foldl_nil, List.set_cons_succ, List.set_cons_zero])
local macro_rules | `(tactic| walk_at "le") => `(tactic| repeat' first | exact LeE.nil | (refine LeE.eq rfl ?_) | (refine LeE.emp ?_) | (refine LeE.eq ?_ ?_))
local macro_rules | `(tactic| walk_at "no") => `(tactic| ((refine And.intro (fun hb => absurd hb ?_) (fun _ => ?_)); (focus (first | (exact Bool.false_ne_true) | (simp; done) | (simp; omega) | (simp only [decide_eq_true_eq]; omega)))))
local macro_rules | `(tactic| walk_at "yes") => `(tactic| ((refine And.intro (fun _ => ?_) (fun hb => absurd hb ?_)); (rotate_left); (focus (first | (exact Bool.noConfusion) | (simp; done) | (simp; omega) | (simp only [decide_eq_false_iff_not]; omega)))))
local macro_rules | `(tactic| walk_at "ei") => `(tactic| repeat ((fail_if_success (with_reducible show SX (tSeq (tIfS _ _ _) _) _ _)); (fail_if_success (with_reducible show SX (tIfS _ _ _) _ _)); (fail_if_success (with_reducible show SX (tSeq (tAsg (tIf _ _ _) _) _) _ _)); walk_at "e"))
local macro_rules | `(tactic| walk_at "tv") => `(tactic| repeat' first | walk_at "e" | ((with_reducible show (_ = true → _) ∧ (_ = false → _)); refine And.intro (fun _ => ?_) (fun _ => ?_)))
/-! ### facts of covers -/
def setsN : Nat → List (List Nat)
  | 0 => [[]]
  | n + 1 => setsN n ++ (setsN n).map (· ++ [n])
theorem sets_mem : ∀ (n : Nat) (r : List Nat), r ∈ setsN n ↔ r.Sublist (List.range n)
  | 0, r => by simp [setsN]
  | n + 1, r => by
    rw [setsN, List.range_succ, List.mem_append, List.mem_map, sets_mem n r]
    constructor
    · rintro (h | ⟨s, h, rfl⟩)
      · exact h.trans (List.sublist_append_left _ _)
      · exact ((sets_mem n s).mp h).append (List.Sublist.refl _)
    · intro h
      obtain ⟨r1, r2, rfl, h1, h2⟩ := List.sublist_append_iff.mp h
      cases h2 with
      | cons _ h2 =>
        have : r2 = [] := by simpa using h2
        subst this
        left
        simpa using h1
      | cons_cons _ h2 =>
        rename_i l
        have : l = [] := by simpa using h2
        subst this
        right
        exact ⟨r1, (sets_mem n r1).mpr h1, rfl⟩
theorem sets_len : ∀ n, (setsN n).length = 2 ^ n
  | 0 => rfl
  | n + 1 => by
    rw [setsN, List.length_append, List.length_map, sets_len n, Nat.pow_succ]
    omega
theorem sets_small {n : Nat} (h : n ≤ 7) : (setsN n).length ≤ 128 := by
  rw [sets_len]
  exact Nat.le_trans (Nat.pow_le_pow_right (by decide) h) (by decide)
theorem sets_row {n : Nat} {r : List Nat} (h : r ∈ setsN n) : r.length ≤ n ∧ ∀ k ∈ r, k < n := by
  have s := (sets_mem n r).mp h
  have l := s.length_le
  rw [List.length_range] at l
  exact ⟨l, fun k hk => List.mem_range.mp (s.subset hk)⟩
inductive SaneD : Nat → Tr → Prop
  | sh (n : Nat) (rows : List Rw) : rows.length ≤ 10000 → SaneD (n + 1) (.shares rows)
  | bl (n : Nat) (a : Int) : SaneD (n + 1) (.blocked a)
  | sp (n : Nat) (a : Int) (ts : List Tr) : ts.length ≤ 10000 → (∀ t ∈ ts, SaneD n t) → SaneD (n + 1) (.split a ts)
theorem SaneD.sane : ∀ {n : Nat} {t : Tr}, SaneD n t → Sane t := fun {n t} h => by
  induction h with
  | sh n rows h => exact .sh rows h
  | bl n a => exact .bl a
  | sp n a ts h _ ih => exact .sp a ts h ih
theorem prove_sane {cs : List Int} {ds : List (List Nat)} (sc : Sc cs ds) (st : Bst) : ∀ (f : Nat) (t l : List Nat), Tk cs t l → Lo cs l → SaneD (f + 1) (proveF cs ds st f t l)
  | 0, _, _, _, _ => .bl 0 0
  | f + 1, t, l, tk, lo => by
    have L := lim_of sc tk lo
    unfold proveF
    split
    · exact .bl _ _
    · split
      · refine .sh _ _ ?_
        have := (laid_rl L ds.length (Nat.le_refl _)).2
        have := sc.dn
        unfold laidF
        omega
      · cases hfo : foS ds t l with
        | none => exact .bl _ _
        | some a =>
          obtain ⟨ha, um⟩ := fo_some hfo
          have hd := dAt_mem (ds := ds) ha
          have nd : (dAt ds a).Nodup := (sc.pb.asc _ hd).imp fun h => by omega
          have dl := L.dl hd
          have ol := opn_len (dAt ds a) l
          have cn := sc.cn
          simp only
          rw [p_fold]
          refine .sp _ _ _ (by simp; omega) fun t' ht => ?_
          obtain ⟨k, hk, rfl⟩ := List.mem_map.mp ht
          have hk := List.mem_range.mp hk
          obtain ⟨f1, f2, f3⟩ := opn_fresh (l := l) nd hk
          exact prove_sane sc st f _ _ (tk_child sc.pb tk hd um f1 (fun x hx => (opn_mem.mp (f3 x hx)).1) f2) (lo_child sc.pb lo hd f3 ((nd.filter _ : (opn (dAt ds a) l).Nodup).sublist (List.take_sublist k _)))
def coverT (cs : List Int) (ds : List (List Nat)) : Told := match goA cs ds with
  | none => .none (prA cs ds)
  | some b => .least b.1 b.2 (prA cs ds)
theorem coverT_D (cs : List Int) (ds : List (List Nat)) : toldD (coverT cs ds) = coverD cs ds := by
  unfold coverT coverD
  cases goA cs ds <;> rfl
def fitsF (cs : List Int) (ds : List (List Nat)) : List (List Nat) := (setsN cs.length).filter fun r => ds.all fun d => metB d r
theorem fits_mem {cs : List Int} {ds : List (List Nat)} {r : List Nat} : r ∈ fitsF cs ds ↔ r.Pairwise (· < ·) ∧ (∀ o ∈ r, o < cs.length) ∧ ∀ d ∈ ds, metB d r = true := by
  unfold fitsF
  rw [List.mem_filter, sets_mem, List.all_eq_true]
  constructor
  · rintro ⟨a, b⟩
    exact ⟨List.pairwise_lt_range.sublist a, fun o ho => List.mem_range.mp (a.subset ho), b⟩
  · rintro ⟨a, b, c⟩
    refine ⟨?_, c⟩
    rw [asc_ris a b]
    exact List.filter_sublist
theorem asc_nd {r : List Nat} (h : r.Pairwise (· < ·)) : r.Nodup := h.imp fun h => by omega
structure GoA (cs : List Int) (ds : List (List Nat)) : Prop where
  none : goA cs ds = none → fitsF cs ds = []
  some : ∀ b, goA cs ds = some b → b.1 ∈ fitsF cs ds ∧ costT cs b.1 = b.2 ∧ ∀ r ∈ fitsF cs ds, b.2 ≤ costT cs r
theorem goA_facts {cs : List Int} {ds : List (List Nat)} (pb : Pb cs ds) (h : cs.length < 7) : GoA cs ds := by
  have G := goA_ok pb h
  have und : ∀ r ∈ fitsF cs ds, Und (goA cs ds) (costT cs r) := fun r hr => by
    obtain ⟨a, b, c⟩ := fits_mem.mp hr
    obtain ⟨s, e⟩ := sub_sat c (asc_nd a) b
    rw [← e]
    exact G.und _ s
  refine ⟨fun e => ?_, fun b e => ?_⟩
  · refine List.eq_nil_iff_forall_not_mem.mpr fun r hr => ?_
    obtain ⟨b, hb, _⟩ := und r hr
    rw [e] at hb
    cases hb
  · have g := G.good
    rw [e] at g
    obtain ⟨g1, g2, g3, g4⟩ := g
    refine ⟨fits_mem.mpr ⟨g1, g2, g3⟩, g4.symm, fun r hr => ?_⟩
    obtain ⟨b', hb, hc⟩ := und r hr
    rw [e] at hb
    cases hb
    exact hc
theorem unm_none {cs : List Int} {ds : List (List Nat)} {r : List Nat} (h : r ∈ fitsF cs ds) : unmF ds r = none := by
  refine find_no fun j hj => ?_
  unfold unmO
  rw [if_pos ((fits_mem.mp h).2.2 _ (dAt_mem hj))]
theorem jud_least {cs : List Int} {ds : List (List Nat)} (sc : Sc cs ds) (h : cs.length < 7) {b : List Nat × Int} (e : goA cs ds = some b) {r : List Nat} (hr : r ∈ fitsF cs ds) (hc : costT cs r = b.2) : judD cs ds (.least r b.2 (prA cs ds)) = .none := by
  obtain ⟨f1, f2, f3⟩ := fits_mem.mp hr
  have p := prove_ok sc.pb (goA_fnl sc.pb h) 7 [] [] [] (tk_nil cs) (by simp; omega)
  have e2 : cOf (goA cs ds) = some b.2 := by rw [e]; rfl
  rw [e2] at p
  have r1 : risB cs.length r = true := decide_eq_true (asc_ris f1 f2)
  show (if risB cs.length r = true then (match unmF ds r with
      | some k => .tuple [.str (Str.ofString "demand"), .int (k : Int)]
      | none => if costT cs r = b.2 then treeD (faultF cs ds 7 [] [] [] (some b.2) (prA cs ds)) else .tuple [.str (Str.ofString "cost")])
    else .tuple [.str (Str.ofString "options")] : D) = .none
  rw [if_pos r1, unm_none hr]
  show (if costT cs r = b.2 then treeD (faultF cs ds 7 [] [] [] (some b.2) (prA cs ds)) else .tuple [.str (Str.ofString "cost")] : D) = .none
  rw [if_pos hc]
  unfold prA
  rw [p]
  rfl
theorem jud_cover {cs : List Int} {ds : List (List Nat)} (sc : Sc cs ds) (h : cs.length < 7) : judD cs ds (coverT cs ds) = .none := by
  have F := goA_facts sc.pb h
  unfold coverT
  cases e : goA cs ds with
  | none =>
    have p := prove_ok sc.pb (goA_fnl sc.pb h) 7 [] [] [] (tk_nil cs) (by simp; omega)
    have e2 : cOf (goA cs ds) = none := by rw [e]; rfl
    rw [e2] at p
    show treeD (faultF cs ds 7 [] [] [] none (prA cs ds)) = .none
    unfold prA
    rw [p]
    rfl
  | some b =>
    obtain ⟨f1, f2, _⟩ := F.some b e
    exact jud_least sc h e f1 f2
theorem prA_sane {cs : List Int} {ds : List (List Nat)} (sc : Sc cs ds) : SaneD 8 (prA cs ds) := prove_sane sc _ 7 [] [] (tk_nil cs) (lo_nil cs)
end Law_k41
namespace Law_k41
open PySem L2 Pu
local macro_rules | `(tactic| walk_at "e") => `(tactic| first
  | ((with_reducible refine nx_seq ?_); (try dsimp only [List.set_cons_succ, List.set_cons_zero]))
  | ((with_reducible refine ex_vr ?_); dsimp only [VQ, List.set_cons_succ, List.set_cons_zero, List.getElem?_cons_zero, List.getElem?_cons_succ]; (fail_if_success (with_reducible show False)))
  | (with_reducible refine sx_seq ?_)
  | (with_reducible refine sx_if ?_)
  | (with_reducible refine sx_next ?_)
  | (with_reducible refine sx_ret ?_)
  | ((fail_if_success (with_reducible refine sx_asgO (eo_lst ?_))); (with_reducible refine sx_asg ?_))
  | (with_reducible refine ex_int ?_)
  | (with_reducible refine ex_str ?_)
  | (with_reducible refine ex_bl ?_)
  | (with_reducible refine ex_non ?_)
  | (with_reducible refine ex_op ?_)
  | (with_reducible refine ex_un ?_)
  | (with_reducible refine ex_chain ?_)
  | (with_reducible refine ex_call ?_)
  | (with_reducible refine ex_isT ?_)
  | (with_reducible refine ex_cb ?_)
  | (with_reducible refine ex_sl ?_)
  | (with_reducible refine ex_tup ?_)
  | (with_reducible refine ex_if ?_)
  | (with_reducible refine ex_of (eo_lst ?_))
  | (with_reducible refine ex_notV ?_)
  | (with_reducible refine ea_nil ?_)
  | (with_reducible refine ea_cons ?_)
  | (with_reducible refine ep_no ?_)
  | (with_reducible refine ep_some ?_)
  | (with_reducible refine et_test ?_)
  | (with_reducible refine et_B ?_)
  | (with_reducible refine et_ch3 ?_)
  | (with_reducible refine et_and ?_)
  | (with_reducible refine et_or ?_)
  | (with_reducible refine et_not ?_)
  | (with_reducible refine et_yes ?_)
  | (with_reducible refine et_truL ?_)
  | (with_reducible refine opd_plusI ?_)
  | (with_reducible refine opd_I0 ?_)
  | (with_reducible refine opd_B0 ?_)
  | (with_reducible refine opd_eqI ?_)
  | (with_reducible refine opd_neI ?_)
  | (with_reducible refine opd_eqS ?_)
  | (with_reducible refine opd_neS ?_)
  | (with_reducible refine opd_is ?_)
  | (with_reducible refine opd_isnt ?_)
  | (with_reducible refine opd_ixT rfl ?_)
  | (with_reducible refine opd_ixL rfl ?_)
  | (with_reducible refine und_neg ?_)
  | (with_reducible refine cbd_lenL ?_)
  | (with_reducible refine cbd_lenT ?_)
  | (with_reducible refine cbd_min2 ?_)
  | (with_reducible refine cbd_max2 ?_)
  | (with_reducible refine cbd_abs ?_)
  | (with_reducible refine cbd_int ?_)
  | (with_reducible refine cbd_tupL ?_)
  | (with_reducible refine cbd_listL ?_)
  | (with_reducible refine cbd_listT ?_)
  | (with_reducible refine cbd_sum ?_)
  | (with_reducible refine sld_T ?_)
  | (with_reducible refine sld_L ?_)
  | (with_reducible refine ex_revL ?_)
  | (with_reducible refine ex_bmL ?_)
  | (with_reducible refine ex_andV ?_)
  | (with_reducible refine ei_list ?_)
  | (with_reducible refine ei_rng1 ?_)
  | (with_reducible refine ei_rng2 ?_)
  | (with_reducible refine ei_enum ?_)
  | (with_reducible refine ei_enumT ?_)
  | (with_reducible refine ei_zip ?_)
  | (with_reducible refine sx_par ?_)
  | (with_reducible refine Exists.intro _ (And.intro rfl ?_))
  | (with_reducible refine Exists.intro _ (Exists.intro _ (And.intro rfl ?_)))
  | ((with_reducible show EX (tCall (spS _) [] _ (tCons (tVar _) _)) _ _); refine ex_callS rfl ?_)
  | ((with_reducible refine And.intro (show (_ : Nat) ≤ 100000 from ?_) ?_); (focus (simp; done)))
  | ((with_reducible refine opd_I ?_ ?_); focus (first | omega | (show CDiv _ _; exact ⟨by omega, by omega⟩) | (show CMul _ _; first | exact Or.inl ⟨by omega, by omega⟩ | exact Or.inr ⟨by omega, by omega⟩))))
local macro_rules | `(tactic| walk_at "es") => `(tactic| repeat walk_at "e")
local macro_rules | `(tactic| walk_at "w") => `(tactic| try dsimp only [wipeE, List.foldl_cons, List.foldl_nil, List.set_cons_succ, List.set_cons_zero])
local macro_rules | `(tactic| walk_at "le") => `(tactic| repeat' first | exact LeE.nil | (refine LeE.eq rfl ?_) | (refine LeE.emp ?_) | (refine LeE.eq ?_ ?_))
local macro_rules | `(tactic| walk_at "no") => `(tactic| ((refine And.intro (fun hb => absurd hb ?_) (fun _ => ?_)); (focus (first | (exact Bool.false_ne_true) | (simp; done) | (simp; omega) | (simp only [decide_eq_true_eq]; omega)))))
local macro_rules | `(tactic| walk_at "yes") => `(tactic| ((refine And.intro (fun _ => ?_) (fun hb => absurd hb ?_)); (rotate_left); (focus (first | (exact Bool.noConfusion) | (simp; done) | (simp; omega) | (simp only [decide_eq_false_iff_not]; omega)))))
local macro_rules | `(tactic| walk_at "ei") => `(tactic| repeat ((fail_if_success (with_reducible show SX (tSeq (tIfS _ _ _) _) _ _)); (fail_if_success (with_reducible show SX (tIfS _ _ _) _ _)); (fail_if_success (with_reducible show SX (tSeq (tAsg (tIf _ _ _) _) _) _ _)); walk_at "e"))
local macro_rules | `(tactic| walk_at "tv") => `(tactic| repeat' first | walk_at "e" | ((with_reducible show (_ = true → _) ∧ (_ = false → _)); refine And.intro (fun _ => ?_) (fun _ => ?_)))
/-! ### ways and the problem of spots -/
def wayF (p q : Pr) : Int := ((p.1 - q.1).natAbs : Int) + ((p.2 - q.2).natAbs : Int)
def R_way : List D → (D → Prop) → Prop := fun vs Z => ∃ p q : Pr, vs = [encP p, encP q] ∧ Z (.int (wayF p q))
theorem sx_way (K : PySem.W.Frag) (vs : List D) (Z : D → Prop) (h : R_way vs Z) : SX (T_way K) (startE N_way vs) { nx := fun _ => Z .none, rt := fun d _ => Z d } := by
  obtain ⟨p, q, rfl, z⟩ := h
  show SX (T_way K) [.val (encP p), .val (encP q)] _
  unfold T_way encP
  walk_at "es"
  exact z
theorem sx_l_way (K : PySem.W.Frag) (vs : List D) (Z : D → Prop) (h : R_way vs Z) : SX (T_l_way K) (startE N_l_way vs) { nx := fun _ => Z .none, rt := fun d _ => Z d } := by
  obtain ⟨p, q, rfl, z⟩ := h
  show SX (T_l_way K) [.val (encP p), .val (encP q)] _
  unfold T_l_way encP
  walk_at "es"
  exact z
def onesF (n : Nat) : List Int := List.replicate n 1
def spAt (sp : List Pr) (k : Nat) : Pr := sp.getD k (0, 0)
def demR (sp : List Pr) (r : Int) (q : Pr) : List Nat := (List.range sp.length).filter fun k => decide (wayF (spAt sp k) q ≤ r)
def dmsR (sp rk : List Pr) (r : Int) : List (List Nat) := rk.map (demR sp r)
structure Rg (sp rk : List Pr) : Prop where
  s1 : 1 ≤ sp.length
  sn : sp.length ≤ 6
  r1 : 1 ≤ rk.length
  rn : rk.length ≤ 10
  sb : ∀ p ∈ sp, (0 ≤ p.1 ∧ p.1 < 10) ∧ 0 ≤ p.2 ∧ p.2 < 10
  rb : ∀ p ∈ rk, (0 ≤ p.1 ∧ p.1 < 10) ∧ 0 ≤ p.2 ∧ p.2 < 10
theorem ones_len (n : Nat) : (onesF n).length = n := by unfold onesF; rw [List.length_replicate]
theorem dms_len (sp rk : List Pr) (r : Int) : (dmsR sp rk r).length = rk.length := by unfold dmsR; rw [List.length_map]
theorem rg_sc {sp rk : List Pr} (h : Rg sp rk) (r : Int) : Sc (onesF sp.length) (dmsR sp rk r) := by
  refine ⟨⟨fun c hc => ?_, fun d hd => ?_, fun d hd o ho => ?_⟩, by rw [ones_len]; have := h.sn; omega, by rw [dms_len]; have := h.rn; omega⟩
  · have := List.eq_of_mem_replicate hc
    omega
  · obtain ⟨w, _, rfl⟩ := List.mem_map.mp hd
    exact List.pairwise_lt_range.filter _
  · obtain ⟨w, _, rfl⟩ := List.mem_map.mp hd
    rw [ones_len]
    exact List.mem_range.mp (List.mem_filter.mp ho).1
theorem enum_map {α : Type} (xs : List α) (a : α) (f : α → D) : enumD 0 (xs.map f) = (List.range xs.length).map fun k : Nat => PyData.tuple [.int (k : Int), f (xs.getD k a)] := by
  refine List.ext_getElem? fun k => ?_
  by_cases h : k < xs.length
  · have hl : k < (enumD 0 (xs.map f)).length := by rw [enum_len]; exact h
    obtain ⟨x, hx, e⟩ := enum_at (List.getElem?_eq_getElem hl)
    rw [List.getElem?_eq_getElem hl, e, List.getElem?_map, List.getElem?_range h, Option.map_some, List.getD_eq_getElem?_getD, hx]
    rfl
  · rw [List.getElem?_eq_none (by rw [enum_len]; omega), List.getElem?_eq_none (by rw [List.length_map, List.length_range]; omega)]
theorem sp_D {sp : List Pr} {k : Nat} (h : k < sp.length) : atI (sp.map encP) (k : Int) = some (encP (spAt sp k)) := by
  rw [atI_map (0, 0) (by omega) (by omega), Int.toNat_natCast]; rfl
def R_prob : List D → (D → Prop) → Prop := fun vs Z => ∃ (sp rk : List Pr) (r : Int), vs = [.list (sp.map encP), .list (rk.map encP), .int r] ∧ Rg sp rk ∧ Z (prD (onesF sp.length) (dmsR sp rk r))
theorem dms_D (sp rk : List Pr) (r : Int) : ((rk.filter fun _ => true).map fun q => natsD (demR sp r q)) = (dmsR sp rk r).map natsD := by rw [filt_all]; unfold dmsR; rw [List.map_map]; rfl
theorem ones_D (n : Nat) : (List.replicate (n : Int).toNat [PyData.int 1]).flatten = (onesF n).map .int := by
  rw [Int.toNat_natCast]
  unfold onesF
  rw [List.map_replicate]
  induction n with
  | zero => rfl
  | succ m ih => rw [List.replicate_succ, List.replicate_succ, List.flatten_cons, ih]; rfl
theorem sx_spot_problem (K : PySem.W.Frag) (vs : List D) (Z : D → Prop) (h : R_prob vs Z) : SX (T_spot_problem K R_way) (startE N_spot_problem vs) { nx := fun _ => Z .none, rt := fun d _ => Z d } := by
  obtain ⟨sp, rk, r, rfl, rg, z⟩ := h
  show SX (T_spot_problem K R_way) [.val (.list (sp.map encP)), .val (.list (rk.map encP)), .val (.int r), .emp, .emp, .emp, .emp] _
  unfold T_spot_problem
  obtain ⟨s1, sn, r1, rn, sb, rb⟩ := id rg
  refine sx_seq (sx_asg (ex_of (eo_lcP (α := Pr) (fun _ => true) (fun q => natsD (demR sp r q)) (ei_list ?_))))
  walk_at "es"
  refine ⟨by omega, fun i hi => by simp at hi; subst hi; rfl, fun q hq => sg_name (by simp) ⟨rfl, ?_⟩, ?_⟩
  · walk_at "w"
    refine et_yes ⟨rfl, rfl, fun _ => ?_⟩
    refine ex_of (eo_lcP (α := Nat) (fun k => decide (wayF (spAt sp k) q ≤ r)) (fun k => .int (k : Int)) (ei_enum ?_))
    walk_at "es"
    refine ⟨List.range sp.length, fun k => .tuple [.int (k : Int), encP (spAt sp k)], enum_map sp (0, 0) encP, by rw [List.length_range]; omega, fun i hi => by simp at hi; rcases hi with rfl | rfl <;> rfl, fun k hk => sg_tup rfl (sgs_cons (sg_name (by simp) (sgs_cons (sg_name (by simp) (sgs_nil ⟨rfl, ?_⟩))))), ?_⟩
    · walk_at "w"
      walk_at "es"
      refine ⟨spAt sp k, q, rfl, ?_⟩
      walk_at "es"
      refine ⟨rfl, rfl, fun _ => ?_⟩
      walk_at "es"
      exact ⟨rfl, rfl⟩
    exact ⟨rfl, rfl⟩
  rw [dms_D]
  refine nx_seq ?_
  walk_at "w"
  walk_at "es"
  refine opd_rep (by rw [List.length_map]; omega) (by rw [List.length_map]; simp; omega) ?_
  rw [List.length_map, ones_D]
  walk_at "es"
  exact z
theorem sx_l_problem (K : PySem.W.Frag) (vs : List D) (Z : D → Prop) (h : R_prob vs Z) : SX (T_l_problem K R_way) (startE N_l_problem vs) { nx := fun _ => Z .none, rt := fun d _ => Z d } := by
  obtain ⟨sp, rk, r, rfl, rg, z⟩ := h
  show SX (T_l_problem K R_way) [.val (.list (sp.map encP)), .val (.list (rk.map encP)), .val (.int r), .emp, .emp, .emp] _
  unfold T_l_problem
  obtain ⟨s1, sn, r1, rn, sb, rb⟩ := id rg
  refine sx_seq (sx_asgO (eo_lst ?_))
  walk_at "es"
  refine sx_for (J := [4]) (ei_list ?_)
  walk_at "es"
  refine ⟨fun i ρ' => ρ' = [.val (.list (sp.map encP)), .val (.list (rk.map encP)), .val (.int r), .own ((dmsR sp (rk.take i) r).map natsD), .emp, .emp], rfl, ?_, ?_⟩
  · rintro i dd ρ' hd0 rfl
    obtain ⟨q, hq, rfl⟩ := map_at hd0
    have hi := (List.getElem?_eq_some_iff.mp hq).1
    have sn' : dmsR sp (rk.take (i + 1)) r = dmsR sp (rk.take i) r ++ [demR sp r q] := by
      rw [take_snoc' hq]
      unfold dmsR
      rw [List.map_append]
      rfl
    refine sg_name (by simp) ?_
    walk_at "w"
    refine sx_app rfl ?_
    refine ex_of (eo_lcP (α := Int) (fun k => decide (wayF (spAt sp k.toNat) q ≤ r)) (fun k => .int k) (ei_rng1 ?_))
    walk_at "es"
    rw [List.length_map, Int.toNat_natCast]
    refine ⟨by omega, rngI 0 sp.length, _, rfl, by rw [rngI_len]; omega, fun i hi => by simp at hi; subst hi; rfl, fun x hx => sg_name (by simp) ⟨rfl, ?_⟩, ?_⟩
    · have hx := rngI_mem.mp hx
      obtain ⟨k, rfl⟩ : ∃ k : Nat, x = (k : Int) := ⟨x.toNat, by omega⟩
      rw [Int.toNat_natCast]
      walk_at "w"
      walk_at "es"
      refine opd_ixL (sp_D (by omega)) ?_
      walk_at "es"
      refine ⟨spAt sp k, q, rfl, ?_⟩
      walk_at "es"
      refine ⟨rfl, rfl, fun _ => ?_⟩
      walk_at "es"
      exact ⟨rfl, rfl⟩
    rw [rng_nats (fun k => decide (wayF (spAt sp k) q ≤ r)) sp.length]
    refine ⟨_, rfl, by rw [List.length_map, dms_len, List.length_take]; omega, ?_⟩
    walk_at "w"
    refine ⟨_, ?_, rfl⟩
    rw [sn', List.map_append]
    walk_at "le"
  rintro ρ' rfl
  rw [List.length_map, List.take_length]
  refine nx_seq (sx_freeze 3 rfl ?_)
  walk_at "w"
  walk_at "es"
  refine opd_rep (by rw [List.length_map]; omega) (by rw [List.length_map]; simp; omega) ?_
  rw [List.length_map, ones_D]
  walk_at "es"
  exact z
/-! ### the fewest spots -/
inductive FT where
  | far (k : Int)
  | spots (row : List Nat) (tr : Tr)
def ftD : FT → D
  | .far k => .tuple [.str (Str.ofString "far"), .int k]
  | .spots row tr => .tuple [.str (Str.ofString "spots"), natsD row, encT tr]
def SaneF : FT → Prop
  | .far _ => True
  | .spots row tr => row.length ≤ 1000 ∧ Sane tr
def bareB (sp rk : List Pr) (r : Int) (k : Nat) : Bool := (dAt (dmsR sp rk r) k).isEmpty
def bareF (sp rk : List Pr) (r : Int) : List Nat := (List.range rk.length).filter (bareB sp rk r)
def wordD (s : String) : D := .tuple [.str (Str.ofString s)]
def fjD (sp rk : List Pr) (r : Int) : FT → D
  | .far k => if 0 ≤ k ∧ k < rk.length ∧ bareB sp rk r k.toNat = true then .none else wordD "far"
  | .spots row tr => if bareF sp rk r = [] then judD (onesF sp.length) (dmsR sp rk r) (.least row (row.length : Int) tr) else .tuple [.str (Str.ofString "rack"), .int ((bareF sp rk r).getD 0 0 : Nat)]
def fewT (sp rk : List Pr) (r : Int) : FT := if bareF sp rk r = [] then (match goA (onesF sp.length) (dmsR sp rk r) with
    | some b => .spots b.1 (prA (onesF sp.length) (dmsR sp rk r))
    | none => .far 0) else .far ((bareF sp rk r).getD 0 0 : Nat)
def R_few : List D → (D → Prop) → Prop := fun vs Z => ∃ (sp rk : List Pr) (r : Int), vs = [.list (sp.map encP), .list (rk.map encP), .int r] ∧ Rg sp rk ∧ Z (ftD (fewT sp rk r))
def R_fj : List D → (D → Prop) → Prop := fun vs Z => ∃ (sp rk : List Pr) (r : Int) (T : FT), vs = [.list (sp.map encP), .list (rk.map encP), .int r, ftD T] ∧ Rg sp rk ∧ SaneF T ∧ Z (fjD sp rk r T)
theorem bare_mem {sp rk : List Pr} {r : Int} {k : Nat} : k ∈ bareF sp rk r ↔ k < rk.length ∧ dAt (dmsR sp rk r) k = [] := by
  unfold bareF bareB
  rw [List.mem_filter, List.mem_range, List.isEmpty_iff]
theorem bare_in {sp rk : List Pr} {r : Int} : bareF sp rk r ≠ [] ↔ [] ∈ dmsR sp rk r := by
  constructor
  · intro h
    obtain ⟨k, hk⟩ := List.exists_mem_of_ne_nil _ h
    obtain ⟨h1, h2⟩ := bare_mem.mp hk
    rw [← h2]
    exact dAt_mem (by rw [dms_len]; exact h1)
  · intro h e
    obtain ⟨k, hk, e2⟩ := List.getElem_of_mem h
    rw [dms_len] at hk
    have m : k ∈ bareF sp rk r := bare_mem.mpr ⟨hk, by
      unfold dAt
      rw [List.getD_eq_getElem?_getD, List.getElem?_eq_getElem (by rw [dms_len]; exact hk)]
      exact e2⟩
    rw [e] at m
    cases m
theorem bare_first {sp rk : List Pr} {r : Int} (h : bareF sp rk r ≠ []) : (bareF sp rk r).getD 0 0 < rk.length ∧ dAt (dmsR sp rk r) ((bareF sp rk r).getD 0 0) = [] ∧ ∀ j, j < (bareF sp rk r).getD 0 0 → dAt (dmsR sp rk r) j ≠ [] := by
  have pw : (bareF sp rk r).Pairwise (· < ·) := List.pairwise_lt_range.filter _
  cases hb : bareF sp rk r with
  | nil => exact absurd hb h
  | cons k B =>
    have hk : k ∈ bareF sp rk r := by rw [hb]; simp
    obtain ⟨h1, h2⟩ := bare_mem.mp hk
    refine ⟨h1, h2, fun j hj e => ?_⟩
    have hj : j < k := hj
    have m : j ∈ bareF sp rk r := bare_mem.mpr ⟨by omega, e⟩
    rw [hb] at m pw
    rcases List.mem_cons.mp m with rfl | m
    · omega
    · have := (List.pairwise_cons.mp pw).1 j m
      omega
theorem lay_nats (ds : List (List Nat)) : PyData.canLayAll0 (ds.map natsD) = true := by
  have one : ∀ r : List Nat, PyData.canLayAll0 (r.map fun k : Nat => PyData.int (k : Int)) = true := by
    intro r
    induction r with
    | nil => simp [PyData.canLayAll0]
    | cons k r ih => rw [List.map_cons, PyData.canLayAll0, ih]; simp [PyData.canLay0]
  induction ds with
  | nil => simp [PyData.canLayAll0]
  | cons d ds ih => rw [List.map_cons, PyData.canLayAll0, ih]; simp [natsD, PyData.canLay0, one d]
theorem emp_eqv : ∀ d : List Nat, PyData.eqv (natsD d) (.list []) = d.isEmpty := fun d => nats_nil d
theorem mtd_emp {K : PySem.W.Frag} {ds : List (List Nat)} {j : Nat} {Q : D → Prop} (hj : j < ds.length) (h : dAt ds j = []) (hno : ∀ i, i < j → dAt ds i ≠ []) (k : Q (.int (j : Nat))) : MtD (rIndexD K) (.list (ds.map natsD)) [.list []] Q := by
  have at_ : ∀ i, i < ds.length → (ds.map natsD)[i]? = some (natsD (dAt ds i)) := fun i hi => by
    unfold dAt
    rw [List.getElem?_map, List.getD_eq_getElem?_getD, List.getElem?_eq_getElem hi]
    rfl
  have d1 : (PyData.list (ds.map natsD)).depth ≤ 64 := by
    have h : DpN 3 (PyData.list (ds.map natsD)) := dpn_list (dpn_map fun x _ => dpn_list (dpn_map fun _ _ => dpn_int))
    exact Nat.le_trans h (by decide)
  refine mtd_indexD (z := natsD (dAt ds j)) (j := j) ?_ ?_ (at_ j hj) ?_ (fun m z' hm hz => ?_) k
  · unfold PySem.SeqAt.shaped
    rw [decide_eq_true d1, Bool.and_true]
    show PyData.canLayAll0 _ = true
    exact lay_nats ds
  · unfold PySem.SeqAt.shaped
    simp [PyData.canLay0, PyData.canLayAll0, PyData.depth, PyData.depthAll]
  · rw [emp_eqv, h]; rfl
  · rw [at_ m (by omega)] at hz
    cases hz
    rw [emp_eqv]
    cases e : dAt ds m with
    | nil => exact absurd e (hno m hm)
    | cons a b => rfl
theorem seat_some {ps : List Int} {ds : List (List Nat)} (sc : Sc ps ds) (h7 : ps.length < 7) (ne : [] ∉ ds) : ∃ b, goA ps ds = some b := by
  have F := goA_facts sc.pb h7
  cases e : goA ps ds with
  | some b => exact ⟨b, rfl⟩
  | none =>
    exfalso
    have m : List.range ps.length ∈ fitsF ps ds := fits_mem.mpr ⟨List.pairwise_lt_range, fun o ho => List.mem_range.mp ho, fun d hd => by
      obtain ⟨o, ho⟩ := List.exists_mem_of_ne_nil d (fun q => ne (q ▸ hd))
      exact met_iff.mpr ⟨o, ho, List.mem_range.mpr (sc.pb.lt d hd o ho)⟩⟩
    rw [F.none e] at m
    cases m
theorem few_some {sp rk : List Pr} (rg : Rg sp rk) {r : Int} (h : bareF sp rk r = []) : ∃ b, goA (onesF sp.length) (dmsR sp rk r) = some b :=
  seat_some (rg_sc rg r) (by rw [ones_len]; have := rg.sn; omega) fun q => (bare_in.mpr q) h
theorem emp_in (ds : List (List Nat)) : ((ds.map natsD).any fun y => PyData.eqv y (.list [])) = decide ([] ∈ ds) := any_lots ds []
theorem sx_fewest_spots (K : PySem.W.Frag) (vs : List D) (Z : D → Prop) (h : R_few vs Z) : SX (T_fewest_spots K R_prob R_cover) (startE N_fewest_spots vs) { nx := fun _ => Z .none, rt := fun d _ => Z d } := by
  obtain ⟨sp, rk, r, rfl, rg, z⟩ := h
  show SX (T_fewest_spots K R_prob R_cover) [.val (.list (sp.map encP)), .val (.list (rk.map encP)), .val (.int r), .emp, .emp] _
  unfold T_fewest_spots
  have sc := rg_sc rg r
  have h7 : (onesF sp.length).length < 7 := by rw [ones_len]; have := rg.sn; omega
  refine sx_seq (sx_asg ?_)
  walk_at "es"
  refine ⟨sp, rk, r, rfl, rg, ?_⟩
  refine nx_seq ?_
  walk_at "w"
  unfold fewT at z
  refine sx_seq (sx_if (et_val (decide ([] ∈ dmsR sp rk r)) ?_ ?_))
  · walk_at "es"
    refine opd_ixT (d := .list ((dmsR sp rk r).map natsD)) rfl ?_
    refine opd_inL (Nat.le_trans (Nat.min_le_right _ _) (by simp [PyData.depth, PyData.depthAll])) ?_
    rw [emp_in]
    exact ⟨_, rfl, rfl, rfl⟩
  refine ⟨fun hb => ?_, fun hb => sx_next (nx_seq ?_)⟩
  · have hb := bare_in.mpr (of_decide_eq_true hb)
    rw [if_neg hb] at z
    obtain ⟨f1, f2, f3⟩ := bare_first hb
    walk_at "es"
    refine opd_ixT (d := .list ((dmsR sp rk r).map natsD)) rfl ?_
    walk_at "es"
    refine mtd_emp (by rw [dms_len]; exact f1) f2 f3 ?_
    walk_at "es"
    exact z
  · have hb : bareF sp rk r = [] := Classical.byContradiction fun q => of_decide_eq_false hb (bare_in.mp q)
    rw [if_pos hb] at z
    obtain ⟨b, eb⟩ := few_some rg hb
    rw [eb] at z
    refine sx_seq (sx_asg ?_)
    walk_at "es"
    refine ⟨onesF sp.length, dmsR sp rk r, rfl, sc, h7, ?_⟩
    unfold coverD
    rw [eb]
    unfold leastD
    refine nx_seq ?_
    walk_at "w"
    walk_at "es"
    exact z
theorem w_sf : ¬ (("spots" : Str) = "far") := by decide +kernel
theorem w_fs : ¬ (("far" : Str) = "spots") := by decide +kernel
theorem dm_D {sp rk : List Pr} {r : Int} {k : Nat} (h : k < rk.length) : atI ((dmsR sp rk r).map natsD) (k : Int) = some (natsD (dAt (dmsR sp rk r) k)) := by rw [atI_map [] (by omega) (by rw [dms_len]; omega), Int.toNat_natCast]; rfl
theorem sx_fewest_spots_fault (K : PySem.W.Frag) (vs : List D) (Z : D → Prop) (h : R_fj vs Z) : SX (T_fewest_spots_fault K R_prob R_jud) (startE N_fewest_spots_fault vs) { nx := fun _ => Z .none, rt := fun d _ => Z d } := by
  obtain ⟨sp, rk, r, T, rfl, rg, sT, z⟩ := h
  show SX (T_fewest_spots_fault K R_prob R_jud) [.val (.list (sp.map encP)), .val (.list (rk.map encP)), .val (.int r), .val (ftD T), .emp, .emp] _
  unfold T_fewest_spots_fault
  have sc := rg_sc rg r
  have h7 : (onesF sp.length).length < 7 := by rw [ones_len]; have := rg.sn; omega
  refine sx_seq (sx_asg ?_)
  walk_at "es"
  refine ⟨sp, rk, r, rfl, rg, ?_⟩
  refine nx_seq ?_
  walk_at "w"
  cases T with
  | far k =>
    have z : Z (if 0 ≤ k ∧ k < rk.length ∧ bareB sp rk r k.toNat = true then .none else wordD "far") := z
    unfold ftD
    refine sx_seq (sx_if (et_val true ?_ ?_))
    · walk_at "es"
      exact ⟨by simp, rfl⟩
    refine ⟨fun _ => ?_, (fun q => by cases q)⟩
    refine sx_seq (sx_asg (ex_val (.bool (decide (0 ≤ k ∧ k < rk.length ∧ bareB sp rk r k.toNat = true))) ?_ ?_))
    · walk_at "es"
      refine ⟨fun h1 => ?_, fun h1 => ?_⟩
      · have h1 := of_decide_eq_true h1
        walk_at "es"
        rw [List.length_map]
        refine ⟨fun h2 => ?_, fun h2 => ?_⟩
        · have h2 : k < rk.length := of_decide_eq_true h2
          obtain ⟨k, rfl⟩ : ∃ m : Nat, k = (m : Int) := ⟨k.toNat, by omega⟩
          have ad := dm_D (sp := sp) (rk := rk) (r := r) (k := k) (by omega)
          have eb : bareB sp rk r k = (dAt (dmsR sp rk r) k).isEmpty := rfl
          rw [Int.toNat_natCast, eb]
          generalize dAt (dmsR sp rk r) k = d at ad ⊢
          unfold natsD at ad
          walk_at "es"
          refine opd_ixT (d := .list ((dmsR sp rk r).map natsD)) rfl ?_
          walk_at "es"
          refine opd_ixL ad ?_
          walk_at "es"
          refine opd_eqP (Nat.le_trans (Nat.min_le_right _ _) (by simp [PyData.depth, PyData.depthAll])) ?_
          rw [nats_nil]
          refine ⟨congrArg PyData.bool ?_, rfl⟩
          cases hd : d.isEmpty with
          | true => exact (decide_eq_true ⟨h1, h2, rfl⟩).symm
          | false => exact (decide_eq_false fun q => by cases q.2.2).symm
        · have h2 : ¬ k < rk.length := of_decide_eq_false h2
          exact ⟨congrArg PyData.bool (decide_eq_false fun q => h2 q.2.1).symm, rfl⟩
      · have h1 := of_decide_eq_false h1
        refine ⟨_, rfl, (fun q => by cases q), fun _ => ⟨congrArg PyData.bool (decide_eq_false fun q => h1 q.1).symm, rfl⟩⟩
    refine nx_seq ?_
    walk_at "w"
    walk_at "es"
    by_cases h1 : 0 ≤ k ∧ k < rk.length ∧ bareB sp rk r k.toNat = true
    · rw [if_pos h1] at z
      rw [decide_eq_true h1]
      refine ⟨fun _ => ?_, (fun q => by cases q)⟩
      walk_at "es"
      exact z
    · rw [if_neg h1] at z
      rw [decide_eq_false h1]
      refine ⟨(fun q => by cases q), fun _ => ?_⟩
      walk_at "es"
      exact z
  | spots row tr =>
    have z : Z (if bareF sp rk r = [] then judD (onesF sp.length) (dmsR sp rk r) (.least row (row.length : Int) tr) else .tuple [.str (Str.ofString "rack"), .int ((bareF sp rk r).getD 0 0 : Nat)]) := z
    rw [show ftD (.spots row tr) = .tuple [.str (Str.ofString "spots"), .list (row.map fun k : Nat => .int (k : Int)), encT tr] from rfl]
    refine sx_seq (sx_if (et_val false ?_ ?_))
    · walk_at "es"
      exact ⟨decide_eq_false w_sf, rfl⟩
    refine ⟨(fun q => by cases q), fun _ => sx_next (nx_seq ?_)⟩
    refine sx_seq (sx_if (et_val (decide ([] ∈ dmsR sp rk r)) ?_ ?_))
    · walk_at "es"
      refine opd_ixT (d := .list ((dmsR sp rk r).map natsD)) rfl ?_
      refine opd_inL (Nat.le_trans (Nat.min_le_right _ _) (by simp [PyData.depth, PyData.depthAll])) ?_
      rw [emp_in]
      exact ⟨_, rfl, rfl, rfl⟩
    refine ⟨fun hb => ?_, fun hb => sx_next (nx_seq ?_)⟩
    · have hb := bare_in.mpr (of_decide_eq_true hb)
      rw [if_neg hb] at z
      obtain ⟨f1, f2, f3⟩ := bare_first hb
      walk_at "es"
      refine opd_ixT (d := .list ((dmsR sp rk r).map natsD)) rfl ?_
      walk_at "es"
      refine mtd_emp (by rw [dms_len]; exact f1) f2 f3 ?_
      walk_at "es"
      exact z
    · have hb : bareF sp rk r = [] := Classical.byContradiction fun q => of_decide_eq_false hb (bare_in.mp q)
      rw [if_pos hb] at z
      walk_at "es"
      rw [List.length_map]
      exact ⟨onesF sp.length, dmsR sp rk r, .least row (row.length : Int) tr, rfl, sc, h7, sT, z⟩
theorem bares_D (sp rk : List Pr) (r : Int) : (((rngI 0 rk.length).filter fun k => bareB sp rk r k.toNat).map fun k => PyData.int k) = (bareF sp rk r).map fun k : Nat => PyData.int (k : Int) := rng_nats (bareB sp rk r) rk.length
theorem any_int (B : List Nat) (k : Int) : ((B.map fun b : Nat => PyData.int (b : Int)).any fun y => PyData.eqv y (.int k)) = decide (0 ≤ k ∧ k.toNat ∈ B) := by
  by_cases h : 0 ≤ k
  · obtain ⟨m, rfl⟩ : ∃ m : Nat, k = (m : Int) := ⟨k.toNat, by omega⟩
    rw [any_nats, Int.toNat_natCast]
    exact decide_eq_decide.mpr ⟨fun q => ⟨h, q⟩, fun q => q.2⟩
  · rw [decide_eq_false fun q => h q.1, List.any_eq_false]
    intro y hy
    obtain ⟨b, _, rfl⟩ := List.mem_map.mp hy
    simp only [PyData.eqv, beq_iff_eq]
    omega
theorem sx_l_fault (K : PySem.W.Frag) (vs : List D) (Z : D → Prop) (h : R_fj vs Z) : SX (T_l_fault K R_prob R_jud) (startE N_l_fault vs) { nx := fun _ => Z .none, rt := fun d _ => Z d } := by
  obtain ⟨sp, rk, r, T, rfl, rg, sT, z⟩ := h
  show SX (T_l_fault K R_prob R_jud) [.val (.list (sp.map encP)), .val (.list (rk.map encP)), .val (.int r), .val (ftD T), .emp, .emp, .emp] _
  unfold T_l_fault
  have sc := rg_sc rg r
  have h7 : (onesF sp.length).length < 7 := by rw [ones_len]; have := rg.sn; omega
  have rn := rg.rn
  refine sx_seq (sx_asg ?_)
  walk_at "es"
  refine ⟨sp, rk, r, rfl, rg, ?_⟩
  refine nx_seq ?_
  walk_at "w"
  refine sx_seq (sx_asg (ex_of (eo_lcP (α := Int) (fun k => bareB sp rk r k.toNat) (fun k => .int k) (ei_rng1 ?_))))
  walk_at "es"
  rw [List.length_map, Int.toNat_natCast]
  refine ⟨by omega, rngI 0 rk.length, _, rfl, by rw [rngI_len]; omega, fun i hi => by simp at hi; subst hi; rfl, fun x hx => sg_name (by simp) ⟨rfl, ?_⟩, ?_⟩
  · have hx := rngI_mem.mp hx
    obtain ⟨k, rfl⟩ : ∃ k : Nat, x = (k : Int) := ⟨x.toNat, by omega⟩
    rw [Int.toNat_natCast]
    have ad := dm_D (sp := sp) (rk := rk) (r := r) (k := k) (by omega)
    have eb : bareB sp rk r k = (dAt (dmsR sp rk r) k).isEmpty := rfl
    rw [eb]
    generalize dAt (dmsR sp rk r) k = d at ad ⊢
    unfold natsD at ad
    walk_at "w"
    walk_at "es"
    refine opd_ixT (d := .list ((dmsR sp rk r).map natsD)) rfl ?_
    walk_at "es"
    refine opd_ixL ad ?_
    walk_at "es"
    refine opd_eqP (Nat.le_trans (Nat.min_le_right _ _) (by simp [PyData.depth, PyData.depthAll])) ?_
    rw [nats_nil]
    refine ⟨_, rfl, rfl, rfl, fun _ => ?_⟩
    walk_at "es"
    exact ⟨rfl, rfl⟩
  rw [bares_D]
  refine nx_seq ?_
  walk_at "w"
  cases T with
  | far k =>
    have z : Z (if 0 ≤ k ∧ k < rk.length ∧ bareB sp rk r k.toNat = true then .none else wordD "far") := z
    unfold ftD
    refine sx_seq (sx_if (et_val true ?_ ?_))
    · walk_at "es"
      exact ⟨by simp, rfl⟩
    refine ⟨fun _ => ?_, (fun q => by cases q)⟩
    walk_at "es"
    refine opd_inL (Nat.le_trans (Nat.min_le_right _ _) (by simp [PyData.depth])) ?_
    rw [any_int]
    walk_at "es"
    refine cbd_intB ?_
    have e : (0 ≤ k ∧ k.toNat ∈ bareF sp rk r) ↔ (0 ≤ k ∧ k < rk.length ∧ bareB sp rk r k.toNat = true) := by
      unfold bareF
      rw [List.mem_filter, List.mem_range]
      constructor
      · rintro ⟨a, b, c⟩
        exact ⟨a, by omega, c⟩
      · rintro ⟨a, b, c⟩
        exact ⟨a, by omega, c⟩
    by_cases h1 : 0 ≤ k ∧ k < rk.length ∧ bareB sp rk r k.toNat = true
    · rw [if_pos h1] at z
      rw [decide_eq_true (e.mpr h1)]
      refine opd_ixL (d := .none) rfl ?_
      exact z
    · rw [if_neg h1] at z
      rw [decide_eq_false fun q => h1 (e.mp q)]
      refine opd_ixL (d := wordD "far") rfl ?_
      exact z
  | spots row tr =>
    have z : Z (if bareF sp rk r = [] then judD (onesF sp.length) (dmsR sp rk r) (.least row (row.length : Int) tr) else .tuple [.str (Str.ofString "rack"), .int ((bareF sp rk r).getD 0 0 : Nat)]) := z
    rw [show ftD (.spots row tr) = .tuple [.str (Str.ofString "spots"), .list (row.map fun k : Nat => .int (k : Int)), encT tr] from rfl]
    refine sx_seq (sx_if (et_val false ?_ ?_))
    · walk_at "es"
      exact ⟨decide_eq_false w_sf, rfl⟩
    refine ⟨(fun q => by cases q), fun _ => sx_next (nx_seq ?_)⟩
    refine sx_seq (sx_if (et_val (!(bareF sp rk r).isEmpty) ?_ ?_))
    · walk_at "es"
      refine opd_neP (Nat.le_trans (Nat.min_le_right _ _) (by simp [PyData.depth, PyData.depthAll])) ?_
      rw [nats_nil]
      exact ⟨_, rfl, rfl, rfl⟩
    refine ⟨fun hb => ?_, fun hb => sx_next (nx_seq ?_)⟩
    · have hb : bareF sp rk r ≠ [] := fun e => by rw [e] at hb; cases hb
      rw [if_neg hb] at z
      have lp : 0 < (bareF sp rk r).length := List.length_pos_iff.mpr hb
      walk_at "es"
      refine opd_ixL (d := .int ((bareF sp rk r).getD 0 0 : Nat)) (by rw [atI_map (0 : Nat) (by decide) (by omega)]; rfl) ?_
      walk_at "es"
      exact z
    · have hb : bareF sp rk r = [] := List.isEmpty_iff.mp (by simpa using hb)
      rw [if_pos hb] at z
      walk_at "es"
      rw [List.length_map]
      exact ⟨onesF sp.length, dmsR sp rk r, .least row (row.length : Int) tr, rfl, sc, h7, sT, z⟩
end Law_k41
namespace Law_k41
open PySem L2 Pu
local macro_rules | `(tactic| walk_at "e") => `(tactic| first
  | ((with_reducible refine nx_seq ?_); (try dsimp only [List.set_cons_succ, List.set_cons_zero]))
  | ((with_reducible refine ex_vr ?_); dsimp only [VQ, List.set_cons_succ, List.set_cons_zero, List.getElem?_cons_zero, List.getElem?_cons_succ]; (fail_if_success (with_reducible show False)))
  | (with_reducible refine sx_seq ?_)
  | (with_reducible refine sx_if ?_)
  | (with_reducible refine sx_next ?_)
  | (with_reducible refine sx_ret ?_)
  | ((fail_if_success (with_reducible refine sx_asgO (eo_lst ?_))); (with_reducible refine sx_asg ?_))
  | (with_reducible refine ex_int ?_)
  | (with_reducible refine ex_str ?_)
  | (with_reducible refine ex_bl ?_)
  | (with_reducible refine ex_non ?_)
  | (with_reducible refine ex_op ?_)
  | (with_reducible refine ex_un ?_)
  | (with_reducible refine ex_chain ?_)
  | (with_reducible refine ex_call ?_)
  | (with_reducible refine ex_isT ?_)
  | (with_reducible refine ex_cb ?_)
  | (with_reducible refine ex_sl ?_)
  | (with_reducible refine ex_tup ?_)
  | (with_reducible refine ex_if ?_)
  | (with_reducible refine ex_of (eo_lst ?_))
  | (with_reducible refine ex_notV ?_)
  | (with_reducible refine ea_nil ?_)
  | (with_reducible refine ea_cons ?_)
  | (with_reducible refine ep_no ?_)
  | (with_reducible refine ep_some ?_)
  | (with_reducible refine et_test ?_)
  | (with_reducible refine et_B ?_)
  | (with_reducible refine et_ch3 ?_)
  | (with_reducible refine et_and ?_)
  | (with_reducible refine et_or ?_)
  | (with_reducible refine et_not ?_)
  | (with_reducible refine et_yes ?_)
  | (with_reducible refine et_truL ?_)
  | (with_reducible refine opd_plusI ?_)
  | (with_reducible refine opd_I0 ?_)
  | (with_reducible refine opd_B0 ?_)
  | (with_reducible refine opd_eqI ?_)
  | (with_reducible refine opd_neI ?_)
  | (with_reducible refine opd_eqS ?_)
  | (with_reducible refine opd_neS ?_)
  | (with_reducible refine opd_is ?_)
  | (with_reducible refine opd_isnt ?_)
  | (with_reducible refine opd_ixT rfl ?_)
  | (with_reducible refine opd_ixL rfl ?_)
  | (with_reducible refine und_neg ?_)
  | (with_reducible refine cbd_lenL ?_)
  | (with_reducible refine cbd_lenT ?_)
  | (with_reducible refine cbd_min2 ?_)
  | (with_reducible refine cbd_max2 ?_)
  | (with_reducible refine cbd_abs ?_)
  | (with_reducible refine cbd_int ?_)
  | (with_reducible refine cbd_tupL ?_)
  | (with_reducible refine cbd_listL ?_)
  | (with_reducible refine cbd_listT ?_)
  | (with_reducible refine cbd_sum ?_)
  | (with_reducible refine sld_T ?_)
  | (with_reducible refine sld_L ?_)
  | (with_reducible refine ex_revL ?_)
  | (with_reducible refine ex_bmL ?_)
  | (with_reducible refine ex_andV ?_)
  | (with_reducible refine ei_list ?_)
  | (with_reducible refine ei_rng1 ?_)
  | (with_reducible refine ei_rng2 ?_)
  | (with_reducible refine ei_enum ?_)
  | (with_reducible refine ei_enumT ?_)
  | (with_reducible refine ei_zip ?_)
  | (with_reducible refine sx_par ?_)
  | (with_reducible refine Exists.intro _ (And.intro rfl ?_))
  | (with_reducible refine Exists.intro _ (Exists.intro _ (And.intro rfl ?_)))
  | ((with_reducible show EX (tCall (spS _) [] _ (tCons (tVar _) _)) _ _); refine ex_callS rfl ?_)
  | ((with_reducible refine And.intro (show (_ : Nat) ≤ 100000 from ?_) ?_); (focus (simp; done)))
  | ((with_reducible refine opd_I ?_ ?_); focus (first | omega | (show CDiv _ _; exact ⟨by omega, by omega⟩) | (show CMul _ _; first | exact Or.inl ⟨by omega, by omega⟩ | exact Or.inr ⟨by omega, by omega⟩))))
local macro_rules | `(tactic| walk_at "es") => `(tactic| repeat walk_at "e")
local macro_rules | `(tactic| walk_at "w") => `(tactic| try dsimp only [wipeE, List.foldl_cons, List.foldl_nil, List.set_cons_succ, List.set_cons_zero])
local macro_rules | `(tactic| walk_at "le") => `(tactic| repeat' first | exact LeE.nil | (refine LeE.eq rfl ?_) | (refine LeE.emp ?_) | (refine LeE.eq ?_ ?_))
local macro_rules | `(tactic| walk_at "no") => `(tactic| ((refine And.intro (fun hb => absurd hb ?_) (fun _ => ?_)); (focus (first | (exact Bool.false_ne_true) | (simp; done) | (simp; omega) | (simp only [decide_eq_true_eq]; omega)))))
local macro_rules | `(tactic| walk_at "yes") => `(tactic| ((refine And.intro (fun _ => ?_) (fun hb => absurd hb ?_)); (rotate_left); (focus (first | (exact Bool.noConfusion) | (simp; done) | (simp; omega) | (simp only [decide_eq_false_iff_not]; omega)))))
local macro_rules | `(tactic| walk_at "ei") => `(tactic| repeat ((fail_if_success (with_reducible show SX (tSeq (tIfS _ _ _) _) _ _)); (fail_if_success (with_reducible show SX (tIfS _ _ _) _ _)); (fail_if_success (with_reducible show SX (tSeq (tAsg (tIf _ _ _) _) _) _ _)); walk_at "e"))
local macro_rules | `(tactic| walk_at "tv") => `(tactic| repeat' first | walk_at "e" | ((with_reducible show (_ = true → _) ∧ (_ = false → _)); refine And.intro (fun _ => ?_) (fun _ => ?_)))
/-! ### reaches -/
theorem all_cnt (Ds : List (List Nat)) (row : List Nat) : decide (((((Ds.filter fun d => !metB d row).map natsD).length : Nat) : Int) = 0) = Ds.all fun d => metB d row := by
  induction Ds with
  | nil => rfl
  | cons d Ds ih =>
    rw [List.filter_cons, List.all_cons]
    cases h : metB d row with
    | true => rw [Bool.true_and]; exact ih
    | false => rw [Bool.false_and]; simp; omega
theorem met_symm (d r : List Nat) : metB r d = metB d r := by
  cases e : metB d r with
  | true =>
    obtain ⟨o, h1, h2⟩ := met_iff.mp e
    exact met_iff.mpr ⟨o, h2, h1⟩
  | false =>
    cases e2 : metB r d with
    | false => rfl
    | true =>
      obtain ⟨o, h1, h2⟩ := met_iff.mp e2
      have : metB d r = true := met_iff.mpr ⟨o, h2, h1⟩
      rw [e] at this
      cases this
theorem row_cnt (d r : List Nat) : decide (((((r.filter fun o => decide (o ∈ d)).map fun o : Nat => PyData.int (o : Int)).length : Nat) : Int) = 0) = !metB d r := by rw [hit_cnt r d, met_symm]
theorem opd_ixM2 : True := trivial
def allW (sp rk : List Pr) : List Int := sp.flatMap fun s => rk.map (wayF s)
def rchL (sp rk : List Pr) : List Int := (rngI 0 40).filter fun x => decide (x ∈ allW sp rk)
theorem allW_mem {sp rk : List Pr} {x : Int} : x ∈ allW sp rk ↔ ∃ s ∈ sp, ∃ q ∈ rk, wayF s q = x := by
  unfold allW
  simp only [List.mem_flatMap, List.mem_map]
theorem allW_len (sp rk : List Pr) : (allW sp rk).length = sp.length * rk.length := by
  unfold allW
  induction sp with
  | nil => simp
  | cons s sp ih => rw [List.flatMap_cons, List.length_append, List.length_map, ih, List.length_cons, Nat.succ_mul]; omega
theorem way_bd {sp rk : List Pr} (rg : Rg sp rk) {x : Int} (h : x ∈ allW sp rk) : 0 ≤ x ∧ x < 40 := by
  obtain ⟨s, hs, q, hq, rfl⟩ := allW_mem.mp h
  have a := rg.sb s hs
  have b := rg.rb q hq
  unfold wayF
  omega
theorem rch_asc (sp rk : List Pr) : (rchL sp rk).Pairwise (· < ·) := by
  refine List.Pairwise.filter _ ?_
  unfold rngI
  exact List.pairwise_map.mpr (List.pairwise_lt_range.imp fun h => by omega)
theorem rch_mem {sp rk : List Pr} (rg : Rg sp rk) {x : Int} : x ∈ rchL sp rk ↔ x ∈ allW sp rk := by
  unfold rchL
  rw [List.mem_filter, decide_eq_true_eq]
  exact ⟨fun h => h.2, fun h => ⟨rngI_mem.mpr (by have := way_bd rg h; omega), h⟩⟩
theorem asc_eq {us vs : List Int} (h1 : us.Pairwise (· < ·)) (h2 : vs.Pairwise (· < ·)) (h : ∀ k, k ∈ us ↔ k ∈ vs) : us = vs := by
  have p : us.Perm vs := (List.perm_ext_iff_of_nodup (h1.imp fun q => by omega) (h2.imp fun q => by omega)).mpr h
  exact p.eq_of_pairwise (le := fun a b : Int => a < b) (fun a b _ _ q1 q2 => by omega) h1 h2
def R_rch : List D → (D → Prop) → Prop := fun vs Z => ∃ sp rk : List Pr, vs = [.list (sp.map encP), .list (rk.map encP)] ∧ Rg sp rk ∧ Z (.list ((rchL sp rk).map .int))
theorem lc2_W (sp rk : List Pr) : lc2L (fun _ => true) (fun _ => rk) (fun _ _ => true) (fun s q => PyData.int (wayF s q)) sp = (allW sp rk).map .int := by
  unfold lc2L allW
  rw [List.filter_eq_self.mpr (fun _ _ => rfl), List.map_flatMap]
  simp only [List.filter_eq_self.mpr (fun _ _ => rfl), List.map_map]
  rfl
theorem sx_reaches (K : PySem.W.Frag) (vs : List D) (Z : D → Prop) (h : R_rch vs Z) : SX (T_reaches K R_way) (startE N_reaches vs) { nx := fun _ => Z .none, rt := fun d _ => Z d } := by
  obtain ⟨sp, rk, rfl, rg, z⟩ := h
  show SX (T_reaches K R_way) [.val (.list (sp.map encP)), .val (.list (rk.map encP)), .emp, .emp] _
  unfold T_reaches
  have al := allW_len sp rk
  have sn := rg.sn
  have rn := rg.rn
  have l2 : sp.length * rk.length ≤ 6 * 10 := Nat.mul_le_mul sn rn
  refine sx_ret (ex_of (eo_sortSet (ex_of (eo_lc2P (α := Pr) (β := Pr) (fun _ => true) (fun _ => rk) (fun _ _ => true) (fun _ q => encP q) (fun s q => .int (wayF s q)) (ei_list ?_)))))
  walk_at "es"
  refine ⟨by rw [lc2_W, List.length_map]; omega, fun i hi => by simp at hi; rcases hi with rfl | rfl <;> rfl, fun s hs => sg_name (by simp) ⟨rfl, fun i hi => by simp at hi; subst hi; rfl, ?_⟩, ?_⟩
  · walk_at "w"
    refine et_yes ⟨rfl, rfl, fun _ => ?_⟩
    refine ei_list ?_
    walk_at "es"
    refine ⟨rfl, rfl, fun q hq => sg_name (by simp) ⟨rfl, ?_⟩⟩
    walk_at "w"
    refine et_yes ⟨rfl, rfl, fun _ => ?_⟩
    walk_at "es"
    exact ⟨s, q, rfl, rfl, rfl⟩
  rw [lc2_W]
  refine ⟨allW sp rk, rfl, by omega, fun us u1 u2 _ => ?_⟩
  rw [asc_eq u1 (rch_asc sp rk) fun k => (u2 k).trans (rch_mem rg).symm]
  exact z
theorem found_in (xs : List Int) (x : Int) : ((xs.map PyData.int).any fun y => PyData.eqv y (.int x)) = decide (x ∈ xs) := by
  induction xs with
  | nil => rfl
  | cons a xs ih =>
    rw [List.map_cons, List.any_cons, ih]
    have e : PyData.eqv (.int a) (.int x) = decide (x = a) := by
      simp only [PyData.eqv]
      by_cases h : x = a
      · rw [decide_eq_true h]; simp [h]
      · rw [decide_eq_false h]
        simp
        omega
    rw [e]
    by_cases h : x = a <;> by_cases h2 : x ∈ xs <;> simp [h, h2]
theorem sx_l_reaches (K : PySem.W.Frag) (vs : List D) (Z : D → Prop) (h : R_rch vs Z) : SX (T_l_reaches K R_way) (startE N_l_reaches vs) { nx := fun _ => Z .none, rt := fun d _ => Z d } := by
  obtain ⟨sp, rk, rfl, rg, z⟩ := h
  show SX (T_l_reaches K R_way) [.val (.list (sp.map encP)), .val (.list (rk.map encP)), .emp, .emp, .emp, .emp] _
  unfold T_l_reaches
  have sn := rg.sn
  have rn := rg.rn
  refine sx_seq (sx_asg (ex_of (eo_lst ?_)))
  walk_at "es"
  refine sx_for (J := [3]) (ei_list ?_)
  walk_at "es"
  refine ⟨fun i ρ' => ρ' = [.val (.list (sp.map encP)), .val (.list (rk.map encP)), .val (.list ((allW (sp.take i) rk).map .int)), .emp, .emp, .emp], rfl, ?_, ?_⟩
  · rintro i dd ρ' hd0 rfl
    obtain ⟨s, hs, rfl⟩ := map_at hd0
    have hi := (List.getElem?_eq_some_iff.mp hs).1
    have sn' : allW (sp.take (i + 1)) rk = allW (sp.take i) rk ++ rk.map (wayF s) := by
      rw [take_snoc' hs]
      unfold allW
      rw [List.flatMap_append, List.flatMap_cons, List.flatMap_nil, List.append_nil]
    have al := allW_len (sp.take i) rk
    have l2 : (sp.take i).length * rk.length ≤ 6 * 10 := Nat.mul_le_mul (by rw [List.length_take]; omega) rn
    refine sg_name (by simp) ?_
    walk_at "w"
    refine sx_asg ?_
    walk_at "es"
    refine ex_of (eo_lcP (α := Pr) (fun _ => true) (fun q => .int (wayF s q)) (ei_list ?_))
    walk_at "es"
    refine ⟨by omega, fun i hi => by simp at hi; subst hi; rfl, fun q hq => sg_name (by simp) ⟨rfl, ?_⟩, ?_⟩
    · walk_at "w"
      refine et_yes ⟨rfl, rfl, fun _ => ?_⟩
      walk_at "es"
      exact ⟨s, q, rfl, rfl, rfl⟩
    rw [filt_all, show (rk.map fun q => PyData.int (wayF s q)) = (rk.map (wayF s)).map .int by rw [List.map_map]; rfl]
    refine opd_plusL (by rw [List.length_map, List.length_map, List.length_map]; omega) ?_
    refine ⟨_, ?_, rfl⟩
    rw [sn', List.map_append]
    walk_at "le"
  rintro ρ' rfl
  rw [List.length_map, List.take_length]
  refine nx_seq ?_
  refine sx_ret (ex_of (eo_lcP (α := Int) (fun x => decide (x ∈ allW sp rk)) (fun x => .int x) (ei_rng1 ?_)))
  walk_at "es"
  refine ⟨by omega, rngI 0 (Int.toNat 40), _, rfl, by rw [rngI_len]; decide, fun i hi => by simp at hi; subst hi; rfl, fun x hx => sg_name (by simp) ⟨rfl, ?_⟩, ?_⟩
  · walk_at "w"
    walk_at "es"
    refine opd_inL (Nat.le_trans (Nat.min_le_right _ _) (by simp [PyData.depth])) ?_
    rw [found_in]
    refine ⟨_, rfl, rfl, rfl, fun _ => ?_⟩
    walk_at "es"
    exact ⟨rfl, rfl⟩
  exact z
/-! ### the least of all lots -/
def lensL (sp rk : List Pr) (r : Int) : List Int := (fitsF (onesF sp.length) (dmsR sp rk r)).map fun x => (x.length : Int)
def lstN (sp rk : List Pr) (r : Int) : Int := foldMin (lensL sp rk r ++ [99])
def R_lst : List D → (D → Prop) → Prop := fun vs Z => ∃ (sp rk : List Pr) (r : Int), vs = [.list (sp.map encP), .list (rk.map encP), .int r] ∧ Rg sp rk ∧ Z (.int (lstN sp rk r))
theorem sx_l_least (K : PySem.W.Frag) (vs : List D) (Z : D → Prop) (h : R_lst vs Z) : SX (T_l_least K R_prob) (startE N_l_least vs) { nx := fun _ => Z .none, rt := fun d _ => Z d } := by
  obtain ⟨sp, rk, r, rfl, rg, z⟩ := h
  show SX (T_l_least K R_prob) [.val (.list (sp.map encP)), .val (.list (rk.map encP)), .val (.int r), .emp, .emp, .emp, .emp, .emp, .emp] _
  unfold T_l_least
  have sn := rg.sn
  have rn := rg.rn
  have sc := rg_sc rg r
  have ol := ones_len sp.length
  have ddl := fun d hd => (lim_of sc (tk_nil (onesF sp.length)) (lo_nil (onesF sp.length))).dl (d := d) hd
  have sl := sets_small (n := sp.length) (by omega)
  refine sx_seq (sx_asg (ex_of (eo_lst ?_)))
  walk_at "es"
  refine sx_for (J := [4]) (ei_rng1 ?_)
  walk_at "es"
  rw [List.length_map, Int.toNat_natCast]
  refine ⟨by omega, fun k ρ' => ρ' = [.val (.list (sp.map encP)), .val (.list (rk.map encP)), .val (.int r), .val (.list ((setsN k).map natsD)), .emp, .emp, .emp, .emp, .emp], rfl, ?_, ?_⟩
  · rintro k dd ρ' hd0 rfl
    obtain ⟨hk, rfl⟩ := rng_at hd0
    rw [Int.zero_add]
    have sl := sets_small (n := k) (by omega)
    refine sg_name (by simp) ?_
    walk_at "w"
    walk_at "es"
    refine ex_of (eo_lcP (α := List Nat) (fun _ => true) (fun r => natsD (r ++ [k])) (ei_list ?_))
    walk_at "es"
    refine ⟨by omega, fun i hi => by simp at hi; subst hi; rfl, fun r hr => sg_name (by simp) ⟨rfl, ?_⟩, ?_⟩
    · obtain ⟨rl, rb⟩ := sets_row hr
      unfold natsD
      walk_at "w"
      refine et_yes ⟨rfl, rfl, fun _ => ?_⟩
      walk_at "es"
      refine opd_plusL (by simp; omega) ?_
      refine ⟨?_, rfl⟩
      rw [List.map_append]
      rfl
    rw [filt_all]
    refine opd_plusL (by rw [List.length_map, List.length_map]; omega) ?_
    walk_at "es"
    refine ⟨_, ?_, rfl⟩
    rw [setsN, List.map_append, List.map_map]
    walk_at "le"
  rintro ρ' rfl
  rw [rng_size]
  refine nx_seq ?_
  refine sx_seq (sx_asg ?_)
  walk_at "es"
  refine ⟨sp, rk, r, rfl, rg, ?_⟩
  walk_at "es"
  refine opd_ixT (d := .list ((dmsR sp rk r).map natsD)) rfl ?_
  refine nx_seq ?_
  walk_at "w"
  have dl := dms_len sp rk r
  refine sx_seq (sx_asg (ex_of (eo_lcP (α := List Nat) (fun x => (dmsR sp rk r).all fun d => metB d x) (fun x => .int (x.length : Int)) (ei_list ?_))))
  walk_at "es"
  refine ⟨by omega, fun i hi => by simp at hi; subst hi; rfl, fun x hr => sg_name (by simp) ⟨rfl, ?_⟩, ?_⟩
  · obtain ⟨rl, rb⟩ := sets_row hr
    walk_at "w"
    walk_at "es"
    refine ex_of (eo_lcP (α := List Nat) (fun d => !metB d x) natsD (ei_list ?_))
    walk_at "es"
    refine ⟨by omega, fun i hi => by simp at hi; rcases hi with rfl | rfl <;> rfl, fun d hd => sg_name (by simp) ⟨rfl, ?_⟩, ?_⟩
    · have dd := ddl d hd
      unfold natsD
      walk_at "w"
      walk_at "es"
      refine ex_of (eo_lcP (α := Nat) (fun o => decide (o ∈ x)) (fun o => .int (o : Int)) (ei_list ?_))
      walk_at "es"
      refine ⟨by omega, fun i hi => by simp at hi; rcases hi with rfl | rfl | rfl <;> rfl, fun o ho => sg_name (by simp) ⟨rfl, ?_⟩, ?_⟩
      · walk_at "w"
        walk_at "es"
        refine opd_inL (Nat.le_trans (Nat.min_le_right _ _) (by simp [PyData.depth])) ?_
        rw [any_nats]
        refine ⟨_, rfl, rfl, rfl, fun _ => ?_⟩
        walk_at "es"
        exact ⟨rfl, rfl⟩
      walk_at "es"
      rw [hit_cnt]
      refine ⟨rfl, rfl, fun _ => ?_⟩
      walk_at "es"
      exact ⟨rfl, rfl⟩
    walk_at "es"
    rw [all_cnt]
    refine ⟨rfl, rfl, fun _ => ?_⟩
    unfold natsD
    walk_at "es"
    rw [List.length_map]
    exact ⟨rfl, rfl⟩
  rw [show (((setsN sp.length).filter fun x => (dmsR sp rk r).all fun d => metB d x).map fun x => PyData.int (x.length : Int)) = (lensL sp rk r).map .int by
    unfold lensL fitsF
    rw [ones_len, List.map_map]
    rfl]
  have ll : (lensL sp rk r).length ≤ 128 := by
    unfold lensL fitsF
    rw [List.length_map, ones_len]
    exact Nat.le_trans (List.length_filter_le _ _) sl
  refine nx_seq ?_
  walk_at "w"
  walk_at "es"
  refine opd_plusL (by rw [List.length_map]; simp; omega) ?_
  rw [show (lensL sp rk r).map PyData.int ++ [PyData.int 99] = (lensL sp rk r ++ [99]).map .int by rw [List.map_append]; rfl]
  walk_at "es"
  refine cbd_minI (by simp) ?_
  exact z
/-! facts -/
theorem cost_ones {n : Nat} : ∀ {r : List Nat}, (∀ o ∈ r, o < n) → costT (onesF n) r = (r.length : Int)
  | [], _ => rfl
  | o :: r, h => by
    have ih := cost_ones (r := r) fun x hx => h x (by simp [hx])
    have e : cst (onesF n) o = 1 := by
      unfold cst onesF
      rw [List.getD_eq_getElem?_getD, List.getElem?_replicate, if_pos (h o (by simp))]
      rfl
    unfold costT at ih ⊢
    rw [List.map_cons, List.sum_cons, ih, e, List.length_cons]
    omega
structure LstI (sp rk : List Pr) (r : Int) : Prop where
  far : bareF sp rk r ≠ [] → lstN sp rk r = 99
  spots : bareF sp rk r = [] → ∃ b, goA (onesF sp.length) (dmsR sp rk r) = some b ∧ b.1 ∈ fitsF (onesF sp.length) (dmsR sp rk r) ∧ lstN sp rk r = (b.1.length : Int) ∧ b.2 = (b.1.length : Int) ∧ b.1.length ≤ sp.length
theorem lst_ok {sp rk : List Pr} (rg : Rg sp rk) (r : Int) : LstI sp rk r := by
  have sc := rg_sc rg r
  have sn := rg.sn
  have h7 : (onesF sp.length).length < 7 := by rw [ones_len]; omega
  have GF := goA_facts sc.pb h7
  have flt : ∀ x ∈ fitsF (onesF sp.length) (dmsR sp rk r), (∀ o ∈ x, o < sp.length) ∧ x.length ≤ sp.length := fun x hx => by
    have a := (fits_mem.mp hx).2.1
    have b := (sets_row (List.mem_filter.mp hx).1).1
    rw [ones_len] at a b
    exact ⟨a, b⟩
  refine ⟨fun h => ?_, fun h => ?_⟩
  · have e : fitsF (onesF sp.length) (dmsR sp rk r) = [] := by
      refine List.eq_nil_iff_forall_not_mem.mpr fun x hx => ?_
      obtain ⟨o, ho, _⟩ := met_iff.mp ((fits_mem.mp hx).2.2 _ (bare_in.mp h))
      cases ho
    unfold lstN lensL
    rw [e]
    rfl
  · obtain ⟨b, eb⟩ := few_some rg h
    obtain ⟨b1, b2, b3⟩ := GF.some b eb
    obtain ⟨l1, l2⟩ := flt _ b1
    have e2 : b.2 = (b.1.length : Int) := by rw [← b2]; exact cost_ones l1
    refine ⟨b, eb, b1, ?_, e2, l2⟩
    unfold lstN
    refine foldMin_is (List.mem_append_left _ (List.mem_map.mpr ⟨_, b1, rfl⟩)) fun x hx => ?_
    rcases List.mem_append.mp hx with q | q
    · obtain ⟨y, hy, rfl⟩ := List.mem_map.mp q
      have := b3 y hy
      rw [cost_ones (flt y hy).1, e2] at this
      exact this
    · rw [List.mem_singleton] at q
      omega
theorem fits_up {sp rk : List Pr} {r s : Int} (h : r ≤ s) : ∀ x ∈ fitsF (onesF sp.length) (dmsR sp rk r), x ∈ fitsF (onesF sp.length) (dmsR sp rk s) := fun x hx => by
  obtain ⟨a, b, c⟩ := fits_mem.mp hx
  refine fits_mem.mpr ⟨a, b, fun d hd => ?_⟩
  obtain ⟨q, hq, rfl⟩ := List.mem_map.mp hd
  obtain ⟨o, h1, h2⟩ := met_iff.mp (c _ (List.mem_map.mpr ⟨q, hq, rfl⟩))
  obtain ⟨h1, h3⟩ := List.mem_filter.mp h1
  exact met_iff.mpr ⟨o, List.mem_filter.mpr ⟨h1, decide_eq_true (Int.le_trans (of_decide_eq_true h3) h)⟩, h2⟩
theorem lst_mono {sp rk : List Pr} {r s : Int} (h : r ≤ s) : lstN sp rk s ≤ lstN sp rk r := by
  have m : lstN sp rk r ∈ lensL sp rk r ++ [99] := foldMin_mem (by simp)
  refine foldMin_le ?_
  rcases List.mem_append.mp m with q | q
  · obtain ⟨x, hx, e⟩ := List.mem_map.mp q
    rw [← e]
    exact List.mem_append_left _ (List.mem_map.mpr ⟨x, fits_up h x hx, rfl⟩)
  · exact List.mem_append_right _ q
end Law_k41
namespace Law_k41
open PySem L2 Pu
local macro_rules | `(tactic| walk_at "e") => `(tactic| first
  | ((with_reducible refine nx_seq ?_); (try dsimp only [List.set_cons_succ, List.set_cons_zero]))
  | ((with_reducible refine ex_vr ?_); dsimp only [VQ, List.set_cons_succ, List.set_cons_zero, List.getElem?_cons_zero, List.getElem?_cons_succ]; (fail_if_success (with_reducible show False)))
  | (with_reducible refine sx_seq ?_)
  | (with_reducible refine sx_if ?_)
  | (with_reducible refine sx_next ?_)
  | (with_reducible refine sx_ret ?_)
  | ((fail_if_success (with_reducible refine sx_asgO (eo_lst ?_))); (with_reducible refine sx_asg ?_))
  | (with_reducible refine ex_int ?_)
  | (with_reducible refine ex_str ?_)
  | (with_reducible refine ex_bl ?_)
  | (with_reducible refine ex_non ?_)
  | (with_reducible refine ex_op ?_)
  | (with_reducible refine ex_un ?_)
  | (with_reducible refine ex_chain ?_)
  | (with_reducible refine ex_call ?_)
  | (with_reducible refine ex_isT ?_)
  | (with_reducible refine ex_cb ?_)
  | (with_reducible refine ex_sl ?_)
  | (with_reducible refine ex_tup ?_)
  | (with_reducible refine ex_if ?_)
  | (with_reducible refine ex_of (eo_lst ?_))
  | (with_reducible refine ex_notV ?_)
  | (with_reducible refine ea_nil ?_)
  | (with_reducible refine ea_cons ?_)
  | (with_reducible refine ep_no ?_)
  | (with_reducible refine ep_some ?_)
  | (with_reducible refine et_test ?_)
  | (with_reducible refine et_B ?_)
  | (with_reducible refine et_ch3 ?_)
  | (with_reducible refine et_and ?_)
  | (with_reducible refine et_or ?_)
  | (with_reducible refine et_not ?_)
  | (with_reducible refine et_yes ?_)
  | (with_reducible refine et_truL ?_)
  | (with_reducible refine opd_plusI ?_)
  | (with_reducible refine opd_I0 ?_)
  | (with_reducible refine opd_B0 ?_)
  | (with_reducible refine opd_eqI ?_)
  | (with_reducible refine opd_neI ?_)
  | (with_reducible refine opd_eqS ?_)
  | (with_reducible refine opd_neS ?_)
  | (with_reducible refine opd_is ?_)
  | (with_reducible refine opd_isnt ?_)
  | (with_reducible refine opd_ixT rfl ?_)
  | (with_reducible refine opd_ixL rfl ?_)
  | (with_reducible refine und_neg ?_)
  | (with_reducible refine cbd_lenL ?_)
  | (with_reducible refine cbd_lenT ?_)
  | (with_reducible refine cbd_min2 ?_)
  | (with_reducible refine cbd_max2 ?_)
  | (with_reducible refine cbd_abs ?_)
  | (with_reducible refine cbd_int ?_)
  | (with_reducible refine cbd_tupL ?_)
  | (with_reducible refine cbd_listL ?_)
  | (with_reducible refine cbd_listT ?_)
  | (with_reducible refine cbd_sum ?_)
  | (with_reducible refine sld_T ?_)
  | (with_reducible refine sld_L ?_)
  | (with_reducible refine ex_revL ?_)
  | (with_reducible refine ex_bmL ?_)
  | (with_reducible refine ex_andV ?_)
  | (with_reducible refine ei_list ?_)
  | (with_reducible refine ei_rng1 ?_)
  | (with_reducible refine ei_rng2 ?_)
  | (with_reducible refine ei_enum ?_)
  | (with_reducible refine ei_enumT ?_)
  | (with_reducible refine ei_zip ?_)
  | (with_reducible refine sx_par ?_)
  | (with_reducible refine Exists.intro _ (And.intro rfl ?_))
  | (with_reducible refine Exists.intro _ (Exists.intro _ (And.intro rfl ?_)))
  | ((with_reducible show EX (tCall (spS _) [] _ (tCons (tVar _) _)) _ _); refine ex_callS rfl ?_)
  | ((with_reducible refine And.intro (show (_ : Nat) ≤ 100000 from ?_) ?_); (focus (simp; done)))
  | ((with_reducible refine opd_I ?_ ?_); focus (first | omega | (show CDiv _ _; exact ⟨by omega, by omega⟩) | (show CMul _ _; first | exact Or.inl ⟨by omega, by omega⟩ | exact Or.inr ⟨by omega, by omega⟩))))
local macro_rules | `(tactic| walk_at "es") => `(tactic| repeat walk_at "e")
local macro_rules | `(tactic| walk_at "w") => `(tactic| try dsimp only [wipeE, List.foldl_cons, List.foldl_nil, List.set_cons_succ, List.set_cons_zero])
local macro_rules | `(tactic| walk_at "le") => `(tactic| repeat' first | exact LeE.nil | (refine LeE.eq rfl ?_) | (refine LeE.emp ?_) | (refine LeE.eq ?_ ?_))
local macro_rules | `(tactic| walk_at "no") => `(tactic| ((refine And.intro (fun hb => absurd hb ?_) (fun _ => ?_)); (focus (first | (exact Bool.false_ne_true) | (simp; done) | (simp; omega) | (simp only [decide_eq_true_eq]; omega)))))
local macro_rules | `(tactic| walk_at "yes") => `(tactic| ((refine And.intro (fun _ => ?_) (fun hb => absurd hb ?_)); (rotate_left); (focus (first | (exact Bool.noConfusion) | (simp; done) | (simp; omega) | (simp only [decide_eq_false_iff_not]; omega)))))
local macro_rules | `(tactic| walk_at "ei") => `(tactic| repeat ((fail_if_success (with_reducible show SX (tSeq (tIfS _ _ _) _) _ _)); (fail_if_success (with_reducible show SX (tIfS _ _ _) _ _)); (fail_if_success (with_reducible show SX (tSeq (tAsg (tIf _ _ _) _) _) _ _)); walk_at "e"))
local macro_rules | `(tactic| walk_at "tv") => `(tactic| repeat' first | walk_at "e" | ((with_reducible show (_ = true → _) ∧ (_ = false → _)); refine And.intro (fun _ => ?_) (fun _ => ?_)))
/-! ### the least reach -/
def rA (sp rk : List Pr) (i : Nat) : Int := (rchL sp rk).getD i 0
structure FewI (sp rk : List Pr) (r : Int) : Prop where
  hs : lstN sp rk r < 99 → ∃ row tr, fewT sp rk r = .spots row tr ∧ (row.length : Int) = lstN sp rk r
  fa : ¬ lstN sp rk r < 99 → ∃ k, fewT sp rk r = .far k
  ok : fjD sp rk r (fewT sp rk r) = .none
  sane : SaneF (fewT sp rk r)
theorem few_ok {sp rk : List Pr} (rg : Rg sp rk) (r : Int) : FewI sp rk r := by
  have I := lst_ok rg r
  have sc := rg_sc rg r
  have sn := rg.sn
  have h7 : (onesF sp.length).length < 7 := by rw [ones_len]; omega
  by_cases h : bareF sp rk r = []
  · obtain ⟨b, eb, b1, b2, b3, b4⟩ := I.spots h
    have ef : fewT sp rk r = .spots b.1 (prA (onesF sp.length) (dmsR sp rk r)) := by unfold fewT; rw [if_pos h, eb]
    have flt : ∀ o ∈ b.1, o < sp.length := by have := (fits_mem.mp b1).2.1; rwa [ones_len] at this
    refine ⟨fun _ => ⟨_, _, ef, b2.symm⟩, fun q => absurd (by rw [b2]; omega) q, ?_, ?_⟩
    · rw [ef]
      show (if bareF sp rk r = [] then judD (onesF sp.length) (dmsR sp rk r) (.least b.1 (b.1.length : Int) (prA (onesF sp.length) (dmsR sp rk r))) else .tuple [.str (Str.ofString "rack"), .int ((bareF sp rk r).getD 0 0 : Nat)] : D) = .none
      rw [if_pos h, ← b3]
      exact jud_least sc h7 eb b1 (by rw [cost_ones flt, b3])
    · rw [ef]
      exact ⟨by omega, (prA_sane sc).sane⟩
  · have e := I.far h
    have ef : fewT sp rk r = .far ((bareF sp rk r).getD 0 0 : Nat) := by unfold fewT; rw [if_neg h]
    obtain ⟨f1, f2, f3⟩ := bare_first h
    refine ⟨fun q => by omega, fun _ => ⟨_, ef⟩, ?_, by rw [ef]; trivial⟩
    rw [ef]
    show (if 0 ≤ (((bareF sp rk r).getD 0 0 : Nat) : Int) ∧ (((bareF sp rk r).getD 0 0 : Nat) : Int) < rk.length ∧ bareB sp rk r (((bareF sp rk r).getD 0 0 : Nat) : Int).toNat = true then .none else wordD "far" : D) = .none
    rw [if_pos]
    refine ⟨by omega, by omega, ?_⟩
    rw [Int.toNat_natCast]
    unfold bareB
    rw [f2]
    rfl
theorem rch_pos {sp rk : List Pr} (rg : Rg sp rk) : 0 < (rchL sp rk).length := by
  have s1 := rg.s1
  have r1 := rg.r1
  have m : wayF sp[0] rk[0] ∈ rchL sp rk := (rch_mem rg).mpr (allW_mem.mpr ⟨_, List.getElem_mem _, _, List.getElem_mem _, rfl⟩)
  exact List.length_pos_of_mem m
theorem rA_mem {sp rk : List Pr} {i : Nat} (h : i < (rchL sp rk).length) : rA sp rk i ∈ rchL sp rk := by
  unfold rA
  rw [List.getD_eq_getElem?_getD, List.getElem?_eq_getElem h]
  exact List.getElem_mem _
theorem rA_lt {sp rk : List Pr} {i j : Nat} (h : i < j) (hj : j < (rchL sp rk).length) : rA sp rk i < rA sp rk j := by
  unfold rA
  rw [List.getD_eq_getElem?_getD, List.getD_eq_getElem?_getD, List.getElem?_eq_getElem (show i < (rchL sp rk).length by omega), List.getElem?_eq_getElem hj]
  exact List.pairwise_iff_getElem.mp (rch_asc sp rk) i j (by omega) hj h
theorem rA_of {sp rk : List Pr} {x : Int} (h : x ∈ rchL sp rk) : ∃ i, i < (rchL sp rk).length ∧ rA sp rk i = x := by
  obtain ⟨i, hi, e⟩ := List.getElem_of_mem h
  refine ⟨i, hi, ?_⟩
  unfold rA
  rw [List.getD_eq_getElem?_getD, List.getElem?_eq_getElem hi]
  exact e
theorem rA_top {sp rk : List Pr} {x : Int} (h : x ∈ rchL sp rk) : x ≤ rA sp rk ((rchL sp rk).length - 1) := by
  obtain ⟨i, hi, e⟩ := rA_of h
  rw [← e]
  rcases Nat.lt_or_ge i ((rchL sp rk).length - 1) with q | q
  · have := rA_lt q (show (rchL sp rk).length - 1 < (rchL sp rk).length by omega)
    omega
  · rw [show i = (rchL sp rk).length - 1 by omega]
    exact Int.le_refl _
theorem top_ok {sp rk : List Pr} (rg : Rg sp rk) : lstN sp rk (rA sp rk ((rchL sp rk).length - 1)) ≤ 1 := by
  have s1 := rg.s1
  have m : [0] ∈ fitsF (onesF sp.length) (dmsR sp rk (rA sp rk ((rchL sp rk).length - 1))) := by
    refine fits_mem.mpr ⟨by simp, fun o ho => ?_, fun d hd => ?_⟩
    · rw [List.mem_singleton] at ho
      rw [ones_len]
      omega
    · obtain ⟨q, hq, rfl⟩ := List.mem_map.mp hd
      refine met_iff.mpr ⟨0, List.mem_filter.mpr ⟨List.mem_range.mpr (by omega), decide_eq_true (rA_top ((rch_mem rg).mpr (allW_mem.mpr ⟨spAt sp 0, ?_, q, hq, rfl⟩)))⟩, by simp⟩
      unfold spAt
      rw [List.getD_eq_getElem?_getD, List.getElem?_eq_getElem (show 0 < sp.length by omega)]
      exact List.getElem_mem _
  exact foldMin_le (List.mem_append_left _ (List.mem_map.mpr ⟨[0], m, rfl⟩))
def feas (sp rk : List Pr) (c : Int) (i : Nat) : Bool := decide (lstN sp rk (rA sp rk i) ≤ c)
structure BestH (sp rk : List Pr) (c : Int) (h : Nat) : Prop where
  lt : h < (rchL sp rk).length
  ok : feas sp rk c h = true
  lo : h = 0 ∨ feas sp rk c (h - 1) = false
theorem BestH.below {sp rk : List Pr} {c : Int} {h : Nat} (b : BestH sp rk c h) {i : Nat} (hi : i < h) : feas sp rk c i = false := by
  rcases b.lo with q | q
  · omega
  · unfold feas at q ⊢
    have q := of_decide_eq_false q
    refine decide_eq_false fun w => q ?_
    have : rA sp rk i ≤ rA sp rk (h - 1) := by
      rcases Nat.lt_or_ge i (h - 1) with e | e
      · have := rA_lt e (show h - 1 < (rchL sp rk).length by have := b.lt; omega)
        omega
      · rw [show i = h - 1 by omega]
        exact Int.le_refl _
    have := lst_mono (sp := sp) (rk := rk) this
    omega
structure LT where
  reach : Int
  here : FT
  why : Option FT
def whD : Option FT → D
  | none => .none
  | some T => ftD T
def ltD (T : LT) : D := .tuple [.int T.reach, ftD T.here, whD T.why]
def lrT (sp rk : List Pr) (h : Nat) : LT := ⟨rA sp rk h, fewT sp rk (rA sp rk h), if h = 0 then none else some (fewT sp rk (rA sp rk (h - 1)))⟩
def R_lr : List D → (D → Prop) → Prop := fun vs Z => ∃ (sp rk : List Pr) (c : Int), vs = [.list (sp.map encP), .list (rk.map encP), .int c] ∧ Rg sp rk ∧ (1 ≤ c ∧ c ≤ 50) ∧ ∀ h, BestH sp rk c h → Z (ltD (lrT sp rk h))
theorem rA_D {sp rk : List Pr} {i : Nat} (h : i < (rchL sp rk).length) : atI ((rchL sp rk).map PyData.int) (i : Int) = some (.int (rA sp rk i)) := by
  rw [atI_map 0 (by omega) (by omega), Int.toNat_natCast]
  rfl
theorem sx_least_reach (K : PySem.W.Frag) (vs : List D) (Z : D → Prop) (h : R_lr vs Z) : SX (T_least_reach K R_rch R_few) (startE N_least_reach vs) { nx := fun _ => Z .none, rt := fun d _ => Z d } := by
  obtain ⟨sp, rk, c, rfl, rg, ⟨c1, c2⟩, z⟩ := h
  show SX (T_least_reach K R_rch R_few) [.val (.list (sp.map encP)), .val (.list (rk.map encP)), .val (.int c), .emp, .emp, .emp, .emp, .emp, .emp] _
  unfold T_least_reach
  have rp := rch_pos rg
  have top : feas sp rk c ((rchL sp rk).length - 1) = true := decide_eq_true (by have := top_ok rg; omega)
  have rl : (rchL sp rk).length ≤ 40 := by
    have := List.length_filter_le (fun x => decide (x ∈ allW sp rk)) (rngI 0 40)
    rw [rngI_len] at this
    exact this
  have ra := fun (i : Nat) (h : i < (rchL sp rk).length) => rA_D (sp := sp) (rk := rk) h
  refine sx_seq (sx_asg ?_)
  walk_at "es"
  refine ⟨sp, rk, rfl, rg, ?_⟩
  refine nx_seq ?_
  walk_at "w"
  refine sx_seq (sx_par ?_)
  walk_at "es"
  rw [List.length_map]
  refine sx_while (fun m ρ' => ∃ lo hi : Int, -1 ≤ lo ∧ lo < hi ∧ hi < (rchL sp rk).length ∧ (lo = -1 ∨ feas sp rk c lo.toNat = false) ∧ feas sp rk c hi.toNat = true ∧ m = (hi - lo).toNat ∧ ρ' = [.val (.list (sp.map encP)), .val (.list (rk.map encP)), .val (.int c), .val (.list ((rchL sp rk).map .int)), .val (.int lo), .val (.int hi), .emp, .emp, .emp]) _ ⟨-1, (((rchL sp rk).length : Int) - 1), by omega, by omega, by omega, .inl rfl, by rw [show (((rchL sp rk).length : Int) - 1).toNat = (rchL sp rk).length - 1 by omega]; exact top, rfl, rfl⟩ ?_
  rintro m ρ' ⟨lo, hi, g1, g2, g3, g4, g5, rfl, rfl⟩
  walk_at "es"
  refine ⟨fun hc => ?_, fun hc => ?_⟩
  · have hc := of_decide_eq_true hc
    refine sx_seq (sx_asg ?_)
    walk_at "es"
    have m1 : lo < (lo + hi) / 2 := by omega
    have m2 : (lo + hi) / 2 < hi := by omega
    generalize (lo + hi) / 2 = mid at m1 m2 ⊢
    obtain ⟨i, rfl⟩ : ∃ i : Nat, mid = (i : Int) := ⟨mid.toNat, by omega⟩
    refine opd_ixL (ra i (by omega)) ?_
    walk_at "es"
    refine ⟨sp, rk, rA sp rk i, rfl, rg, ?_⟩
    have F := few_ok rg (rA sp rk i)
    refine nx_seq ?_
    walk_at "w"
    refine sx_if (et_val (feas sp rk c i) ?_ ?_)
    · by_cases h99 : lstN sp rk (rA sp rk i) < 99
      · obtain ⟨row, tr, e1, e2⟩ := F.hs h99
        rw [e1, show ftD (.spots row tr) = .tuple [.str (Str.ofString "spots"), .list (row.map fun k : Nat => .int (k : Int)), encT tr] from rfl]
        walk_at "es"
        refine ⟨fun _ => ?_, fun q => absurd rfl (of_decide_eq_false q)⟩
        walk_at "es"
        rw [List.length_map, e2]
        exact ⟨rfl, rfl⟩
      · obtain ⟨k, e1⟩ := F.fa h99
        rw [e1]
        unfold ftD
        walk_at "es"
        refine ⟨fun q => by (rw [decide_eq_false w_fs] at q; cases q), fun _ => ⟨?_, rfl⟩⟩
        unfold feas
        exact (decide_eq_false (by omega)).symm
    refine ⟨fun hf => ?_, fun hf => ?_⟩
    · walk_at "es"
      refine ⟨_, ?_, ((i : Int) - lo).toNat, by omega, lo, (i : Int), g1, by omega, by omega, g4, by rw [Int.toNat_natCast]; exact hf, rfl, rfl⟩
      walk_at "le"
    · walk_at "es"
      refine ⟨_, ?_, (hi - (i : Int)).toNat, by omega, (i : Int), hi, by omega, by omega, g3, .inr (by rw [Int.toNat_natCast]; exact hf), g5, rfl, rfl⟩
      walk_at "le"
  have hc := of_decide_eq_false hc
  obtain ⟨h, rfl⟩ : ∃ h : Nat, hi = (h : Int) := ⟨hi.toNat, by omega⟩
  rw [Int.toNat_natCast] at g5
  have B : BestH sp rk c h := ⟨by omega, g5, by
    rcases g4 with q | q
    · left; omega
    · by_cases e : h = 0
      · exact .inl e
      · right
        rw [show lo.toNat = h - 1 by omega] at q
        exact q⟩
  have z := z h B
  unfold ltD lrT at z
  refine nx_seq ?_
  refine sx_seq (sx_asg (ex_val (whD (if h = 0 then none else some (fewT sp rk (rA sp rk (h - 1))))) ?_ ?_))
  · walk_at "es"
    refine ⟨fun q => ?_, fun q => ?_⟩
    · have q := of_decide_eq_true q
      rw [if_pos (by omega)]
      walk_at "es"
      exact ⟨rfl, rfl⟩
    · have q := of_decide_eq_false q
      rw [if_neg (by omega)]
      walk_at "es"
      rw [show (h : Int) - 1 = ((h - 1 : Nat) : Int) by omega]
      refine opd_ixL (ra (h - 1) (by omega)) ?_
      walk_at "es"
      exact ⟨sp, rk, rA sp rk (h - 1), rfl, rg, rfl, rfl⟩
  refine nx_seq ?_
  walk_at "w"
  walk_at "es"
  refine opd_ixL (ra h (by omega)) ?_
  walk_at "es"
  refine opd_ixL (ra h (by omega)) ?_
  walk_at "es"
  refine ⟨sp, rk, rA sp rk h, rfl, rg, ?_⟩
  walk_at "es"
  exact z
end Law_k41
namespace Law_k41
open PySem L2 Pu
local macro_rules | `(tactic| walk_at "e") => `(tactic| first
  | ((with_reducible refine nx_seq ?_); (try dsimp only [List.set_cons_succ, List.set_cons_zero]))
  | ((with_reducible refine ex_vr ?_); dsimp only [VQ, List.set_cons_succ, List.set_cons_zero, List.getElem?_cons_zero, List.getElem?_cons_succ]; (fail_if_success (with_reducible show False)))
  | (with_reducible refine sx_seq ?_)
  | (with_reducible refine sx_if ?_)
  | (with_reducible refine sx_next ?_)
  | (with_reducible refine sx_ret ?_)
  | ((fail_if_success (with_reducible refine sx_asgO (eo_lst ?_))); (with_reducible refine sx_asg ?_))
  | (with_reducible refine ex_int ?_)
  | (with_reducible refine ex_str ?_)
  | (with_reducible refine ex_bl ?_)
  | (with_reducible refine ex_non ?_)
  | (with_reducible refine ex_op ?_)
  | (with_reducible refine ex_un ?_)
  | (with_reducible refine ex_chain ?_)
  | (with_reducible refine ex_call ?_)
  | (with_reducible refine ex_isT ?_)
  | (with_reducible refine ex_cb ?_)
  | (with_reducible refine ex_sl ?_)
  | (with_reducible refine ex_tup ?_)
  | (with_reducible refine ex_if ?_)
  | (with_reducible refine ex_of (eo_lst ?_))
  | (with_reducible refine ex_notV ?_)
  | (with_reducible refine ea_nil ?_)
  | (with_reducible refine ea_cons ?_)
  | (with_reducible refine ep_no ?_)
  | (with_reducible refine ep_some ?_)
  | (with_reducible refine et_test ?_)
  | (with_reducible refine et_B ?_)
  | (with_reducible refine et_ch3 ?_)
  | (with_reducible refine et_and ?_)
  | (with_reducible refine et_or ?_)
  | (with_reducible refine et_not ?_)
  | (with_reducible refine et_yes ?_)
  | (with_reducible refine et_truL ?_)
  | (with_reducible refine opd_plusI ?_)
  | (with_reducible refine opd_I0 ?_)
  | (with_reducible refine opd_B0 ?_)
  | (with_reducible refine opd_eqI ?_)
  | (with_reducible refine opd_neI ?_)
  | (with_reducible refine opd_eqS ?_)
  | (with_reducible refine opd_neS ?_)
  | (with_reducible refine opd_is ?_)
  | (with_reducible refine opd_isnt ?_)
  | (with_reducible refine opd_ixT rfl ?_)
  | (with_reducible refine opd_ixL rfl ?_)
  | (with_reducible refine und_neg ?_)
  | (with_reducible refine cbd_lenL ?_)
  | (with_reducible refine cbd_lenT ?_)
  | (with_reducible refine cbd_min2 ?_)
  | (with_reducible refine cbd_max2 ?_)
  | (with_reducible refine cbd_abs ?_)
  | (with_reducible refine cbd_int ?_)
  | (with_reducible refine cbd_tupL ?_)
  | (with_reducible refine cbd_listL ?_)
  | (with_reducible refine cbd_listT ?_)
  | (with_reducible refine cbd_sum ?_)
  | (with_reducible refine sld_T ?_)
  | (with_reducible refine sld_L ?_)
  | (with_reducible refine ex_revL ?_)
  | (with_reducible refine ex_bmL ?_)
  | (with_reducible refine ex_andV ?_)
  | (with_reducible refine ei_list ?_)
  | (with_reducible refine ei_rng1 ?_)
  | (with_reducible refine ei_rng2 ?_)
  | (with_reducible refine ei_enum ?_)
  | (with_reducible refine ei_enumT ?_)
  | (with_reducible refine ei_zip ?_)
  | (with_reducible refine sx_par ?_)
  | (with_reducible refine Exists.intro _ (And.intro rfl ?_))
  | (with_reducible refine Exists.intro _ (Exists.intro _ (And.intro rfl ?_)))
  | ((with_reducible show EX (tCall (spS _) [] _ (tCons (tVar _) _)) _ _); refine ex_callS rfl ?_)
  | ((with_reducible refine And.intro (show (_ : Nat) ≤ 100000 from ?_) ?_); (focus (simp; done)))
  | ((with_reducible refine opd_I ?_ ?_); focus (first | omega | (show CDiv _ _; exact ⟨by omega, by omega⟩) | (show CMul _ _; first | exact Or.inl ⟨by omega, by omega⟩ | exact Or.inr ⟨by omega, by omega⟩))))
local macro_rules | `(tactic| walk_at "es") => `(tactic| repeat walk_at "e")
local macro_rules | `(tactic| walk_at "w") => `(tactic| try dsimp only [wipeE, List.foldl_cons, List.foldl_nil, List.set_cons_succ, List.set_cons_zero])
local macro_rules | `(tactic| walk_at "le") => `(tactic| repeat' first | exact LeE.nil | (refine LeE.eq rfl ?_) | (refine LeE.emp ?_) | (refine LeE.eq ?_ ?_))
local macro_rules | `(tactic| walk_at "no") => `(tactic| ((refine And.intro (fun hb => absurd hb ?_) (fun _ => ?_)); (focus (first | (exact Bool.false_ne_true) | (simp; done) | (simp; omega) | (simp only [decide_eq_true_eq]; omega)))))
local macro_rules | `(tactic| walk_at "yes") => `(tactic| ((refine And.intro (fun _ => ?_) (fun hb => absurd hb ?_)); (rotate_left); (focus (first | (exact Bool.noConfusion) | (simp; done) | (simp; omega) | (simp only [decide_eq_false_iff_not]; omega)))))
local macro_rules | `(tactic| walk_at "ei") => `(tactic| repeat ((fail_if_success (with_reducible show SX (tSeq (tIfS _ _ _) _) _ _)); (fail_if_success (with_reducible show SX (tIfS _ _ _) _ _)); (fail_if_success (with_reducible show SX (tSeq (tAsg (tIf _ _ _) _) _) _ _)); walk_at "e"))
local macro_rules | `(tactic| walk_at "tv") => `(tactic| repeat' first | walk_at "e" | ((with_reducible show (_ = true → _) ∧ (_ = false → _)); refine And.intro (fun _ => ?_) (fun _ => ?_)))
/-! ### the judges of reaches -/
def okHB (sp rk : List Pr) (c reach : Int) : FT → Bool
  | .far _ => false
  | .spots row tr => !decide (c < (row.length : Int)) && isN (fjD sp rk reach (.spots row tr))
def whyB (c : Int) : Option FT → Bool
  | none => true
  | some (.far _) => false
  | some (.spots row _) => decide ((row.length : Int) ≤ c)
def lessR (sp rk : List Pr) (reach : Int) : Int := rA sp rk ((rchL sp rk).idxOf reach - 1)
def endF (sp rk : List Pr) (reach : Int) : Option FT → D
  | none => wordD "why"
  | some W => if isN (fjD sp rk (lessR sp rk reach) W) = true then .none else wordD "why"
def rjD (sp rk : List Pr) (c : Int) (T : LT) : D :=
  if T.reach ∈ rchL sp rk then (if okHB sp rk c T.reach T.here = true then (if T.reach = rA sp rk 0 then (if T.why.isNone = true then .none else wordD "why") else if whyB c T.why = true then wordD "why" else endF sp rk T.reach T.why) else wordD "spots") else wordD "reach"
def SaneO : Option FT → Prop
  | none => True
  | some T => SaneF T
structure SaneL (T : LT) : Prop where
  h : SaneF T.here
  w : SaneO T.why
def R_rj : List D → (D → Prop) → Prop := fun vs Z => ∃ (sp rk : List Pr) (c : Int) (T : LT), vs = [.list (sp.map encP), .list (rk.map encP), .int c, ltD T] ∧ Rg sp rk ∧ SaneL T ∧ Z (rjD sp rk c T)
theorem mtd_idxI {K : PySem.W.Frag} {ns : List Int} {n : Int} {Q : D → Prop} (hn : n ∈ ns) (k : Q (.int (ns.idxOf n : Nat))) : MtD (rIndexD K) (.list (ns.map .int)) [.int n] Q := by
  have hl : ns.idxOf n < ns.length := List.idxOf_lt_length_iff.mpr hn
  have at_ : ∀ i (hi : i < ns.length), (ns.map PyData.int)[i]? = some (.int ns[i]) := fun i hi => by rw [List.getElem?_map, List.getElem?_eq_getElem hi]; rfl
  have ev : ∀ a b : Int, PyData.eqv (.int a) (.int b) = decide (a = b) := fun a b => by
    simp only [PyData.eqv]
    by_cases h : a = b
    · rw [decide_eq_true h]; simp [h]
    · rw [decide_eq_false h]; simp [h]
  have lay : PyData.canLayAll0 (ns.map PyData.int) = true := by
    clear hn k hl at_
    induction ns with
    | nil => simp [PyData.canLayAll0]
    | cons a ns ih => rw [List.map_cons, PyData.canLayAll0, ih]; simp [PyData.canLay0]
  have d1 : (PyData.list (ns.map PyData.int)).depth ≤ 64 := Nat.le_trans (ints_deep ns) (by decide)
  refine mtd_indexD (z := .int n) (j := ns.idxOf n) ?_ ?_ (by rw [at_ _ hl, List.getElem_idxOf hl]) (by rw [ev]; exact decide_eq_true rfl) (fun m z' hm hz => ?_) k
  · unfold PySem.SeqAt.shaped
    rw [decide_eq_true d1, Bool.and_true]
    exact lay
  · unfold PySem.SeqAt.shaped
    simp [PyData.canLay0, PyData.depth]
  · rw [at_ m (by omega)] at hz
    cases hz
    rw [ev]
    have := List.not_of_lt_findIdx (p := fun x => x == n) hm
    exact decide_eq_false (by simpa using this)
theorem sx_least_reach_fault (K : PySem.W.Frag) (vs : List D) (Z : D → Prop) (h : R_rj vs Z) : SX (T_least_reach_fault K R_rch R_fj) (startE N_least_reach_fault vs) { nx := fun _ => Z .none, rt := fun d _ => Z d } := by
  obtain ⟨sp, rk, c, T, rfl, rg, ⟨sH, sW⟩, z⟩ := h
  obtain ⟨reach, here, why⟩ := T
  have sH : SaneF here := sH
  have sW : SaneO why := sW
  show SX (T_least_reach_fault K R_rch R_fj) [.val (.list (sp.map encP)), .val (.list (rk.map encP)), .val (.int c), .val (.tuple [.int reach, ftD here, whD why]), .emp, .emp, .emp, .emp, .emp] _
  unfold T_least_reach_fault
  have z : Z (if reach ∈ rchL sp rk then (if okHB sp rk c reach here = true then (if reach = rA sp rk 0 then (if why.isNone = true then .none else wordD "why") else if whyB c why = true then wordD "why" else endF sp rk reach why) else wordD "spots") else wordD "reach") := z
  have rp := rch_pos rg
  have r0 := rA_D (sp := sp) (rk := rk) rp
  refine sx_seq (sx_asgT (J := [4, 5, 6]) ?_)
  walk_at "es"
  refine sg_tup rfl (sgs_cons (sg_name (by simp) (sgs_cons (sg_name (by simp) (sgs_cons (sg_name (by simp) (sgs_nil ?_)))))))
  walk_at "w"
  refine nx_seq ?_
  refine sx_seq (sx_asg ?_)
  walk_at "es"
  refine ⟨sp, rk, rfl, rg, ?_⟩
  refine nx_seq ?_
  walk_at "w"
  refine sx_seq (sx_if (et_val (!decide (reach ∈ rchL sp rk)) ?_ ?_))
  · walk_at "es"
    refine opd_ninL (Nat.le_trans (Nat.min_le_right _ _) (by simp [PyData.depth])) ?_
    rw [found_in]
    exact ⟨_, rfl, rfl, rfl⟩
  refine ⟨fun hb => ?_, fun hb => ?_⟩
  · have hb : ¬ reach ∈ rchL sp rk := by simpa using hb
    rw [if_neg hb] at z
    walk_at "es"
    exact z
  have hm : reach ∈ rchL sp rk := by simpa using hb
  rw [if_pos hm] at z
  refine sx_next (nx_seq ?_)
  refine sx_seq (sx_if (et_val (!okHB sp rk c reach here) ?_ ?_))
  · cases here with
    | far k =>
      unfold ftD
      walk_at "es"
      exact ⟨fun _ => ⟨rfl, rfl⟩, fun q => by (rw [decide_eq_false w_fs] at q; cases q)⟩
    | spots row tr =>
      rw [show ftD (.spots row tr) = .tuple [.str (Str.ofString "spots"), .list (row.map fun k : Nat => .int (k : Int)), encT tr] from rfl]
      unfold okHB
      walk_at "es"
      refine ⟨fun q => by simp at q, fun _ => ?_⟩
      walk_at "es"
      rw [List.length_map]
      refine ⟨fun h2 => by rw [h2]; exact ⟨rfl, rfl⟩, fun h2 => ?_⟩
      rw [h2]
      walk_at "es"
      refine ⟨sp, rk, reach, .spots row tr, rfl, rg, sH, ?_⟩
      walk_at "es"
      exact ⟨rfl, rfl⟩
  refine ⟨fun hb => ?_, fun hb => ?_⟩
  · rw [if_neg (by intro q; rw [q] at hb; cases hb)] at z
    walk_at "es"
    exact z
  rw [if_pos (by simpa using hb)] at z
  refine sx_next (nx_seq ?_)
  refine sx_seq (sx_if (et_val (decide (reach = rA sp rk 0)) ?_ ?_))
  · walk_at "es"
    refine opd_ixL r0 ?_
    walk_at "es"
    exact ⟨rfl, rfl⟩
  refine ⟨fun hb => ?_, fun hb => ?_⟩
  · rw [if_pos (of_decide_eq_true hb)] at z
    cases why with
    | none =>
      unfold whD
      walk_at "es"
      refine ⟨fun _ => ?_, (fun q => by cases q)⟩
      walk_at "es"
      exact z
    | some W =>
      have z : Z (wordD "why") := z
      cases W with
      | far k =>
        unfold whD ftD
        walk_at "es"
        refine ⟨(fun q => by cases q), fun _ => ?_⟩
        walk_at "es"
        exact z
      | spots row tr =>
        unfold whD ftD
        walk_at "es"
        refine ⟨(fun q => by cases q), fun _ => ?_⟩
        walk_at "es"
        exact z
  have h0 := of_decide_eq_false hb
  rw [if_neg h0] at z
  refine sx_next (nx_seq ?_)
  refine sx_seq (sx_if (et_val (whyB c why) ?_ ?_))
  · cases why with
    | none =>
      unfold whD
      walk_at "es"
      exact ⟨fun _ => ⟨rfl, rfl⟩, (fun q => by cases q)⟩
    | some W =>
      cases W with
      | far k =>
        unfold whD ftD
        walk_at "es"
        refine ⟨(fun q => by cases q), fun _ => ?_⟩
        walk_at "es"
        exact ⟨fun q => by (rw [decide_eq_false w_fs] at q; cases q), fun _ => ⟨rfl, rfl⟩⟩
      | spots row tr =>
        rw [show whD (some (.spots row tr)) = .tuple [.str (Str.ofString "spots"), .list (row.map fun k : Nat => .int (k : Int)), encT tr] from rfl]
        walk_at "es"
        refine ⟨(fun q => by cases q), fun _ => ?_⟩
        walk_at "es"
        refine ⟨fun _ => ?_, fun q => absurd rfl (of_decide_eq_false q)⟩
        walk_at "es"
        rw [List.length_map]
        exact ⟨rfl, rfl⟩
  refine ⟨fun hb => ?_, fun hb => ?_⟩
  · rw [if_pos hb] at z
    walk_at "es"
    exact z
  rw [if_neg (by rw [hb]; decide)] at z
  cases why with
  | none => cases hb
  | some W =>
    have z : Z (if isN (fjD sp rk (lessR sp rk reach) W) = true then .none else wordD "why") := z
    obtain ⟨i, hi, ei⟩ := rA_of hm
    have il : (rchL sp rk).idxOf reach < (rchL sp rk).length := List.idxOf_lt_length_iff.mpr hm
    have i0 : (rchL sp rk).idxOf reach ≠ 0 := fun e => h0 (by
      have := List.getElem_idxOf il
      unfold rA
      rw [List.getD_eq_getElem?_getD, List.getElem?_eq_getElem rp]
      simp only [e] at this
      exact this.symm)
    have rl := rA_D (sp := sp) (rk := rk) (i := (rchL sp rk).idxOf reach - 1) (by omega)
    refine sx_next (nx_seq ?_)
    refine sx_seq (sx_asg ?_)
    walk_at "es"
    refine mtd_idxI hm ?_
    walk_at "es"
    rw [show (((rchL sp rk).idxOf reach : Nat) : Int) - 1 = (((rchL sp rk).idxOf reach - 1 : Nat) : Int) by omega]
    refine opd_ixL rl ?_
    rw [show rA sp rk ((rchL sp rk).idxOf reach - 1) = lessR sp rk reach from rfl]
    refine nx_seq ?_
    walk_at "w"
    unfold whD
    walk_at "es"
    refine ⟨sp, rk, lessR sp rk reach, W, rfl, rg, sW, ?_⟩
    walk_at "es"
    refine ⟨fun h1 => ?_, fun h1 => ?_⟩
    · rw [if_pos h1] at z
      walk_at "es"
      exact z
    · rw [if_neg (by rw [h1]; decide)] at z
      walk_at "es"
      exact z
theorem sx_l_reach_fault (K : PySem.W.Frag) (vs : List D) (Z : D → Prop) (h : R_rj vs Z) : SX (T_l_reach_fault K R_rch R_fj) (startE N_l_reach_fault vs) { nx := fun _ => Z .none, rt := fun d _ => Z d } := by
  obtain ⟨sp, rk, c, T, rfl, rg, ⟨sH, sW⟩, z⟩ := h
  obtain ⟨reach, here, why⟩ := T
  have sH : SaneF here := sH
  have sW : SaneO why := sW
  show SX (T_l_reach_fault K R_rch R_fj) [.val (.list (sp.map encP)), .val (.list (rk.map encP)), .val (.int c), .val (.tuple [.int reach, ftD here, whD why]), .emp, .emp, .emp, .emp, .emp] _
  unfold T_l_reach_fault
  have z : Z (if reach ∈ rchL sp rk then (if okHB sp rk c reach here = true then (if reach = rA sp rk 0 then (if why.isNone = true then .none else wordD "why") else if whyB c why = true then wordD "why" else endF sp rk reach why) else wordD "spots") else wordD "reach") := z
  have rp := rch_pos rg
  have r0 := rA_D (sp := sp) (rk := rk) rp
  refine sx_seq (sx_asgT (J := [4, 5, 6]) ?_)
  walk_at "es"
  refine sg_tup rfl (sgs_cons (sg_name (by simp) (sgs_cons (sg_name (by simp) (sgs_cons (sg_name (by simp) (sgs_nil ?_)))))))
  walk_at "w"
  refine nx_seq ?_
  refine sx_seq (sx_asg ?_)
  walk_at "es"
  refine ⟨sp, rk, rfl, rg, ?_⟩
  refine nx_seq ?_
  walk_at "w"
  refine sx_seq (sx_if (et_val (!decide (reach ∈ rchL sp rk)) ?_ ?_))
  · walk_at "es"
    refine opd_ninL (Nat.le_trans (Nat.min_le_right _ _) (by simp [PyData.depth])) ?_
    rw [found_in]
    exact ⟨_, rfl, rfl, rfl⟩
  refine ⟨fun hb => ?_, fun hb => ?_⟩
  · have hb : ¬ reach ∈ rchL sp rk := by simpa using hb
    rw [if_neg hb] at z
    walk_at "es"
    exact z
  have hm : reach ∈ rchL sp rk := by simpa using hb
  rw [if_pos hm] at z
  refine sx_next (nx_seq ?_)
  refine sx_seq (sx_if (et_val (!okHB sp rk c reach here) ?_ ?_))
  · cases here with
    | far k =>
      unfold ftD
      walk_at "es"
      exact ⟨fun _ => ⟨rfl, rfl⟩, fun q => by (rw [decide_eq_false w_fs] at q; cases q)⟩
    | spots row tr =>
      rw [show ftD (.spots row tr) = .tuple [.str (Str.ofString "spots"), .list (row.map fun k : Nat => .int (k : Int)), encT tr] from rfl]
      unfold okHB
      walk_at "es"
      refine ⟨fun q => by simp at q, fun _ => ?_⟩
      walk_at "es"
      rw [List.length_map]
      refine ⟨fun h2 => by rw [h2]; exact ⟨rfl, rfl⟩, fun h2 => ?_⟩
      rw [h2]
      walk_at "es"
      refine ⟨sp, rk, reach, .spots row tr, rfl, rg, sH, ?_⟩
      walk_at "es"
      exact ⟨rfl, rfl⟩
  refine ⟨fun hb => ?_, fun hb => ?_⟩
  · rw [if_neg (by intro q; rw [q] at hb; cases hb)] at z
    walk_at "es"
    exact z
  rw [if_pos (by simpa using hb)] at z
  refine sx_next (nx_seq ?_)
  refine sx_seq (sx_if (et_val (decide (reach = rA sp rk 0)) ?_ ?_))
  · walk_at "es"
    refine opd_ixL r0 ?_
    walk_at "es"
    exact ⟨rfl, rfl⟩
  refine ⟨fun hb => ?_, fun hb => ?_⟩
  · rw [if_pos (of_decide_eq_true hb)] at z
    cases why with
    | none =>
      unfold whD
      walk_at "es"
      refine cbd_intB ?_
      refine opd_ixL (d := .none) rfl ?_
      exact z
    | some W =>
      have z : Z (wordD "why") := z
      cases W with
      | far k =>
        unfold whD ftD
        walk_at "es"
        refine cbd_intB ?_
        refine opd_ixL (d := wordD "why") rfl ?_
        exact z
      | spots row tr =>
        unfold whD ftD
        walk_at "es"
        refine cbd_intB ?_
        refine opd_ixL (d := wordD "why") rfl ?_
        exact z
  have h0 := of_decide_eq_false hb
  rw [if_neg h0] at z
  refine sx_next (nx_seq ?_)
  refine sx_seq (sx_if (et_val (whyB c why) ?_ ?_))
  · cases why with
    | none =>
      unfold whD
      walk_at "es"
      exact ⟨fun _ => ⟨rfl, rfl⟩, (fun q => by cases q)⟩
    | some W =>
      cases W with
      | far k =>
        unfold whD ftD
        walk_at "es"
        refine ⟨(fun q => by cases q), fun _ => ?_⟩
        walk_at "es"
        exact ⟨fun q => by (rw [decide_eq_false w_fs] at q; cases q), fun _ => ⟨rfl, rfl⟩⟩
      | spots row tr =>
        rw [show whD (some (.spots row tr)) = .tuple [.str (Str.ofString "spots"), .list (row.map fun k : Nat => .int (k : Int)), encT tr] from rfl]
        walk_at "es"
        refine ⟨(fun q => by cases q), fun _ => ?_⟩
        walk_at "es"
        refine ⟨fun _ => ?_, fun q => absurd rfl (of_decide_eq_false q)⟩
        walk_at "es"
        rw [List.length_map]
        exact ⟨rfl, rfl⟩
  refine ⟨fun hb => ?_, fun hb => ?_⟩
  · rw [if_pos hb] at z
    walk_at "es"
    exact z
  rw [if_neg (by rw [hb]; decide)] at z
  cases why with
  | none => cases hb
  | some W =>
    have z : Z (if isN (fjD sp rk (lessR sp rk reach) W) = true then .none else wordD "why") := z
    obtain ⟨i, hi, ei⟩ := rA_of hm
    have il : (rchL sp rk).idxOf reach < (rchL sp rk).length := List.idxOf_lt_length_iff.mpr hm
    have i0 : (rchL sp rk).idxOf reach ≠ 0 := fun e => h0 (by
      have := List.getElem_idxOf il
      unfold rA
      rw [List.getD_eq_getElem?_getD, List.getElem?_eq_getElem rp]
      simp only [e] at this
      exact this.symm)
    have rl := rA_D (sp := sp) (rk := rk) (i := (rchL sp rk).idxOf reach - 1) (by omega)
    refine sx_next (nx_seq ?_)
    refine sx_seq (sx_asg ?_)
    walk_at "es"
    refine mtd_idxI hm ?_
    walk_at "es"
    rw [show (((rchL sp rk).idxOf reach : Nat) : Int) - 1 = (((rchL sp rk).idxOf reach - 1 : Nat) : Int) by omega]
    refine opd_ixL rl ?_
    rw [show rA sp rk ((rchL sp rk).idxOf reach - 1) = lessR sp rk reach from rfl]
    refine nx_seq ?_
    walk_at "w"
    unfold whD
    walk_at "es"
    refine ⟨sp, rk, lessR sp rk reach, W, rfl, rg, sW, ?_⟩
    walk_at "es"
    refine cbd_intB ?_
    cases h1 : isN (fjD sp rk (lessR sp rk reach) W) with
    | true =>
      rw [if_pos h1] at z
      refine opd_ixL (d := .none) rfl ?_
      exact z
    | false =>
      rw [if_neg (by rw [h1]; decide)] at z
      refine opd_ixL (d := wordD "why") rfl ?_
      exact z
end Law_k41
namespace Law_k41
open PySem L2 Pu
local macro_rules | `(tactic| walk_at "e") => `(tactic| first
  | ((with_reducible refine nx_seq ?_); (try dsimp only [List.set_cons_succ, List.set_cons_zero]))
  | ((with_reducible refine ex_vr ?_); dsimp only [VQ, List.set_cons_succ, List.set_cons_zero, List.getElem?_cons_zero, List.getElem?_cons_succ]; (fail_if_success (with_reducible show False)))
  | (with_reducible refine sx_seq ?_)
  | (with_reducible refine sx_if ?_)
  | (with_reducible refine sx_next ?_)
  | (with_reducible refine sx_ret ?_)
  | ((fail_if_success (with_reducible refine sx_asgO (eo_lst ?_))); (with_reducible refine sx_asg ?_))
  | (with_reducible refine ex_int ?_)
  | (with_reducible refine ex_str ?_)
  | (with_reducible refine ex_bl ?_)
  | (with_reducible refine ex_non ?_)
  | (with_reducible refine ex_op ?_)
  | (with_reducible refine ex_un ?_)
  | (with_reducible refine ex_chain ?_)
  | (with_reducible refine ex_call ?_)
  | (with_reducible refine ex_isT ?_)
  | (with_reducible refine ex_cb ?_)
  | (with_reducible refine ex_sl ?_)
  | (with_reducible refine ex_tup ?_)
  | (with_reducible refine ex_if ?_)
  | (with_reducible refine ex_of (eo_lst ?_))
  | (with_reducible refine ex_notV ?_)
  | (with_reducible refine ea_nil ?_)
  | (with_reducible refine ea_cons ?_)
  | (with_reducible refine ep_no ?_)
  | (with_reducible refine ep_some ?_)
  | (with_reducible refine et_test ?_)
  | (with_reducible refine et_B ?_)
  | (with_reducible refine et_ch3 ?_)
  | (with_reducible refine et_and ?_)
  | (with_reducible refine et_or ?_)
  | (with_reducible refine et_not ?_)
  | (with_reducible refine et_yes ?_)
  | (with_reducible refine et_truL ?_)
  | (with_reducible refine opd_plusI ?_)
  | (with_reducible refine opd_I0 ?_)
  | (with_reducible refine opd_B0 ?_)
  | (with_reducible refine opd_eqI ?_)
  | (with_reducible refine opd_neI ?_)
  | (with_reducible refine opd_eqS ?_)
  | (with_reducible refine opd_neS ?_)
  | (with_reducible refine opd_is ?_)
  | (with_reducible refine opd_isnt ?_)
  | (with_reducible refine opd_ixT rfl ?_)
  | (with_reducible refine opd_ixL rfl ?_)
  | (with_reducible refine und_neg ?_)
  | (with_reducible refine cbd_lenL ?_)
  | (with_reducible refine cbd_lenT ?_)
  | (with_reducible refine cbd_min2 ?_)
  | (with_reducible refine cbd_max2 ?_)
  | (with_reducible refine cbd_abs ?_)
  | (with_reducible refine cbd_int ?_)
  | (with_reducible refine cbd_tupL ?_)
  | (with_reducible refine cbd_listL ?_)
  | (with_reducible refine cbd_listT ?_)
  | (with_reducible refine cbd_sum ?_)
  | (with_reducible refine sld_T ?_)
  | (with_reducible refine sld_L ?_)
  | (with_reducible refine ex_revL ?_)
  | (with_reducible refine ex_bmL ?_)
  | (with_reducible refine ex_andV ?_)
  | (with_reducible refine ei_list ?_)
  | (with_reducible refine ei_rng1 ?_)
  | (with_reducible refine ei_rng2 ?_)
  | (with_reducible refine ei_enum ?_)
  | (with_reducible refine ei_enumT ?_)
  | (with_reducible refine ei_zip ?_)
  | (with_reducible refine sx_par ?_)
  | (with_reducible refine Exists.intro _ (And.intro rfl ?_))
  | (with_reducible refine Exists.intro _ (Exists.intro _ (And.intro rfl ?_)))
  | ((with_reducible show EX (tCall (spS _) [] _ (tCons (tVar _) _)) _ _); refine ex_callS rfl ?_)
  | ((with_reducible refine And.intro (show (_ : Nat) ≤ 100000 from ?_) ?_); (focus (simp; done)))
  | ((with_reducible refine opd_I ?_ ?_); focus (first | omega | (show CDiv _ _; exact ⟨by omega, by omega⟩) | (show CMul _ _; first | exact Or.inl ⟨by omega, by omega⟩ | exact Or.inr ⟨by omega, by omega⟩))))
local macro_rules | `(tactic| walk_at "es") => `(tactic| repeat walk_at "e")
local macro_rules | `(tactic| walk_at "w") => `(tactic| try dsimp only [wipeE, List.foldl_cons, List.foldl_nil, List.set_cons_succ, List.set_cons_zero])
local macro_rules | `(tactic| walk_at "le") => `(tactic| repeat' first | exact LeE.nil | (refine LeE.eq rfl ?_) | (refine LeE.emp ?_) | (refine LeE.eq ?_ ?_))
local macro_rules | `(tactic| walk_at "no") => `(tactic| ((refine And.intro (fun hb => absurd hb ?_) (fun _ => ?_)); (focus (first | (exact Bool.false_ne_true) | (simp; done) | (simp; omega) | (simp only [decide_eq_true_eq]; omega)))))
local macro_rules | `(tactic| walk_at "yes") => `(tactic| ((refine And.intro (fun _ => ?_) (fun hb => absurd hb ?_)); (rotate_left); (focus (first | (exact Bool.noConfusion) | (simp; done) | (simp; omega) | (simp only [decide_eq_false_iff_not]; omega)))))
local macro_rules | `(tactic| walk_at "ei") => `(tactic| repeat ((fail_if_success (with_reducible show SX (tSeq (tIfS _ _ _) _) _ _)); (fail_if_success (with_reducible show SX (tIfS _ _ _) _ _)); (fail_if_success (with_reducible show SX (tSeq (tAsg (tIf _ _ _) _) _) _ _)); walk_at "e"))
local macro_rules | `(tactic| walk_at "tv") => `(tactic| repeat' first | walk_at "e" | ((with_reducible show (_ = true → _) ∧ (_ = false → _)); refine And.intro (fun _ => ?_) (fun _ => ?_)))
/-! ### the nearest, the middle -/
theorem fmin_is {α : Type} (lt : α → α → Bool) (asym : ∀ a b, lt a b = true → lt b a = false) (m : α) : ∀ (qs : List α) (a : α), (∀ y ∈ a :: qs, y = m ∨ lt m y = true) → m ∈ a :: qs → qs.foldl (fun a y => if lt y a = true then y else a) a = m
  | [], a, _, hm => by
    rw [List.mem_singleton] at hm
    exact hm.symm
  | q :: qs, a, h, hm => by
    rw [List.foldl_cons]
    have irr : ∀ b, lt b b = false := fun b => by
      cases e : lt b b with
      | false => rfl
      | true => have := asym b b e; rw [e] at this; cases this
    refine fmin_is lt asym m qs _ (fun y hy => ?_) ?_
    · rcases List.mem_cons.mp hy with rfl | hy
      · split
        · exact h q (by simp)
        · exact h a (by simp)
      · exact h y (by simp [hy])
    · have ha := h a (by simp)
      have hq := h q (by simp)
      rcases List.mem_cons.mp hm with e | hm
      · subst e
        rcases hq with e | e
        · subst e; rw [irr, if_neg (by decide)]; simp
        · rw [asym _ _ e, if_neg (by decide)]; simp
      · rcases List.mem_cons.mp hm with e | hm
        · subst e
          rcases ha with e | e
          · subst e; rw [irr, if_neg (by decide)]; simp
          · rw [if_pos e]; simp
        · exact List.mem_cons_of_mem _ hm
theorem ltP_asym (a b : Pr) (h : Pu.ltP a b = true) : Pu.ltP b a = false := by
  unfold Pu.ltP at h ⊢
  have h := of_decide_eq_true h
  exact decide_eq_false (by omega)
theorem minPs_is {ps : List Pr} {m : Pr} (hm : m ∈ ps) (h : ∀ y ∈ ps, y = m ∨ Pu.ltP m y = true) : minPs ps = m := by
  cases ps with
  | nil => cases hm
  | cons p ps => exact fmin_is Pu.ltP ltP_asym m ps p h hm
def waysF (sp : List Pr) (ch : List Nat) (q : Pr) : List Int := ch.map fun k => wayF (spAt sp k) q
def nearF (sp : List Pr) (ch : List Nat) (q : Pr) : Nat := ch.getD ((waysF sp ch q).idxOf (foldMin (waysF sp ch q))) 0
def nearL (sp rk : List Pr) (ch : List Nat) : List Nat := rk.map (nearF sp ch)
structure ChOk (sp : List Pr) (ch : List Nat) : Prop where
  ne : ch ≠ []
  asc : ch.Pairwise (· < ·)
  lt : ∀ k ∈ ch, k < sp.length
  len : ch.length ≤ 10
theorem near_min {sp : List Pr} {ch : List Nat} (co : ChOk sp ch) (q : Pr) : (waysF sp ch q).idxOf (foldMin (waysF sp ch q)) < ch.length ∧ foldMin (waysF sp ch q) ∈ waysF sp ch q ∧ minPs (ch.map fun k => (wayF (spAt sp k) q, (k : Int))) = (foldMin (waysF sp ch q), (nearF sp ch q : Int)) := by
  have wl : (waysF sp ch q).length = ch.length := by unfold waysF; rw [List.length_map]
  have wp : 0 < (waysF sp ch q).length := by rw [wl]; exact List.length_pos_iff.mpr co.ne
  have fm := foldMin_mem wp
  have il := List.idxOf_lt_length_iff.mpr fm
  have ie := List.getElem_idxOf il
  have hlt : (waysF sp ch q).idxOf (foldMin (waysF sp ch q)) < ch.length := by rw [← wl]; exact il
  refine ⟨hlt, fm, ?_⟩
  have en : nearF sp ch q = ch[(waysF sp ch q).idxOf (foldMin (waysF sp ch q))] := by
    unfold nearF
    rw [List.getD_eq_getElem?_getD, List.getElem?_eq_getElem hlt]
    rfl
  have wAt : ∀ i (hi : i < ch.length), (waysF sp ch q)[i]'(by rw [wl]; exact hi) = wayF (spAt sp ch[i]) q := fun i hi => by unfold waysF; rw [List.getElem_map]
  refine minPs_is (List.mem_map.mpr ⟨ch[(waysF sp ch q).idxOf (foldMin (waysF sp ch q))], List.getElem_mem _, ?_⟩) fun y hy => ?_
  · rw [en, ← wAt _ hlt, ie]
  · obtain ⟨k, hk, rfl⟩ := List.mem_map.mp hy
    obtain ⟨j, hj, rfl⟩ := List.getElem_of_mem hk
    have ge : foldMin (waysF sp ch q) ≤ wayF (spAt sp ch[j]) q := foldMin_le (List.mem_map.mpr ⟨_, List.getElem_mem hj, rfl⟩)
    by_cases e : wayF (spAt sp ch[j]) q = foldMin (waysF sp ch q)
    · have le : (waysF sp ch q).idxOf (foldMin (waysF sp ch q)) ≤ j := by
        rcases Nat.lt_or_ge j ((waysF sp ch q).idxOf (foldMin (waysF sp ch q))) with c | c
        · exfalso
          have := List.not_of_lt_findIdx (p := fun x => x == foldMin (waysF sp ch q)) c
          rw [wAt j hj, e] at this
          simp at this
        · exact c
      rcases Nat.lt_or_ge ((waysF sp ch q).idxOf (foldMin (waysF sp ch q))) j with c | c
      · right
        have := List.pairwise_iff_getElem.mp co.asc _ j hlt hj c
        rw [en]
        exact decide_eq_true (.inr ⟨e.symm, by show ((ch[_] : Nat) : Int) < ((ch[j] : Nat) : Int); omega⟩)
      · left
        have ej : (waysF sp ch q).idxOf (foldMin (waysF sp ch q)) = j := by omega
        rw [e, en]
        simp only [ej]
    · right
      exact decide_eq_true (.inl (by show foldMin (waysF sp ch q) < wayF (spAt sp ch[j]) q; omega))
def R_near : List D → (D → Prop) → Prop := fun vs Z => ∃ (sp rk : List Pr) (ch : List Nat), vs = [.list (sp.map encP), .list (rk.map encP), natsD ch] ∧ Rg sp rk ∧ ChOk sp ch ∧ Z (natsD (nearL sp rk ch))
theorem sx_nearest_spots (K : PySem.W.Frag) (vs : List D) (Z : D → Prop) (h : R_near vs Z) : SX (T_nearest_spots K R_way) (startE N_nearest_spots vs) { nx := fun _ => Z .none, rt := fun d _ => Z d } := by
  obtain ⟨sp, rk, ch, rfl, rg, co, z⟩ := h
  show SX (T_nearest_spots K R_way) [.val (.list (sp.map encP)), .val (.list (rk.map encP)), .val (natsD ch), .emp, .emp, .emp] _
  unfold T_nearest_spots
  have cl := co.len
  have rn := rg.rn
  refine sx_seq (sx_asgO (eo_lst ?_))
  walk_at "es"
  refine sx_for (J := [4]) (ei_list ?_)
  walk_at "es"
  refine ⟨fun i ρ' => ρ' = [.val (.list (sp.map encP)), .val (.list (rk.map encP)), .val (natsD ch), .own ((nearL sp (rk.take i) ch).map fun k : Nat => .int (k : Int)), .emp, .emp], rfl, ?_, ?_⟩
  · rintro i dd ρ' hd0 rfl
    obtain ⟨q, hq, rfl⟩ := map_at hd0
    have hi := (List.getElem?_eq_some_iff.mp hq).1
    have sn' : nearL sp (rk.take (i + 1)) ch = nearL sp (rk.take i) ch ++ [nearF sp ch q] := by
      rw [take_snoc' hq]
      unfold nearL
      rw [List.map_append]
      rfl
    obtain ⟨m1, m2, m3⟩ := near_min co q
    refine sg_name (by simp) ?_
    unfold natsD
    walk_at "w"
    refine sx_app rfl ?_
    walk_at "es"
    refine ex_of (eo_lcP (α := Nat) (fun _ => true) (fun k => encP (wayF (spAt sp k) q, (k : Int))) (ei_list ?_))
    walk_at "es"
    refine ⟨by omega, fun i hi => by simp at hi; subst hi; rfl, fun k hk => sg_name (by simp) ⟨rfl, ?_⟩, ?_⟩
    · walk_at "w"
      refine et_yes ⟨rfl, rfl, fun _ => ?_⟩
      walk_at "es"
      refine opd_ixL (sp_D (co.lt k hk)) ?_
      walk_at "es"
      refine ⟨spAt sp k, q, rfl, ?_⟩
      walk_at "es"
      exact ⟨rfl, rfl⟩
    rw [filt_all, show (ch.map fun k => encP (wayF (spAt sp k) q, (k : Int))) = (ch.map fun k => (wayF (spAt sp k) q, (k : Int))).map encP by rw [List.map_map]; rfl]
    walk_at "es"
    refine cbd_minP (fun e => co.ne (List.map_eq_nil_iff.mp e)) ?_
    rw [m3]
    unfold encP
    walk_at "es"
    refine ⟨by unfold nearL; rw [List.length_map, List.length_map, List.length_take]; omega, ?_⟩
    walk_at "w"
    refine ⟨_, ?_, rfl⟩
    rw [sn', List.map_append]
    walk_at "le"
  rintro ρ' rfl
  rw [List.length_map, List.take_length]
  refine nx_seq (sx_freeze 3 rfl ?_)
  walk_at "w"
  walk_at "es"
  exact z
/-! the middle -/
def sA (as : List Int) (x : Int) : Int := (as.map fun a => ((x - a).natAbs : Int)).sum
def medF (as : List Int) : Int := (sortI as).getD ((as.length - 1) / 2) 0
theorem sA_lo {c x : Int} (h : x ≤ c) : ∀ as : List Int, sA as c + (c - x) * (2 * ((as.countP fun a => decide (c ≤ a) : Nat) : Int) - (as.length : Int)) ≤ sA as x
  | [] => by simp [sA]
  | a :: as => by
    have ih := sA_lo h as
    unfold sA at ih ⊢
    rw [List.map_cons, List.map_cons, List.sum_cons, List.sum_cons, List.countP_cons, List.length_cons]
    generalize ((as.countP fun a => decide (c ≤ a) : Nat) : Int) = n at ih
    by_cases q : c ≤ a
    · rw [if_pos (decide_eq_true q)]
      have e : (c - x) * (2 * (((as.countP fun a => decide (c ≤ a)) + 1 : Nat) : Int) - ((as.length + 1 : Nat) : Int)) = (c - x) * (2 * ((as.countP fun a => decide (c ≤ a) : Nat) : Int) - (as.length : Int)) + (c - x) := by
        rw [show 2 * (((as.countP fun a => decide (c ≤ a)) + 1 : Nat) : Int) - ((as.length + 1 : Nat) : Int) = (2 * ((as.countP fun a => decide (c ≤ a) : Nat) : Int) - (as.length : Int)) + 1 by omega, Int.mul_add, Int.mul_one]
      rw [e]
      have ih := sA_lo h as
      unfold sA at ih
      omega
    · rw [if_neg (by simpa using q)]
      have e : (c - x) * (2 * (((as.countP fun a => decide (c ≤ a)) + 0 : Nat) : Int) - ((as.length + 1 : Nat) : Int)) = (c - x) * (2 * ((as.countP fun a => decide (c ≤ a) : Nat) : Int) - (as.length : Int)) - (c - x) := by
        rw [show 2 * (((as.countP fun a => decide (c ≤ a)) + 0 : Nat) : Int) - ((as.length + 1 : Nat) : Int) = (2 * ((as.countP fun a => decide (c ≤ a) : Nat) : Int) - (as.length : Int)) - 1 by omega, Int.mul_sub, Int.mul_one]
      rw [e]
      have ih := sA_lo h as
      unfold sA at ih
      omega
theorem sA_hi {c x : Int} (h : c ≤ x) : ∀ as : List Int, sA as c + (x - c) * (2 * ((as.countP fun a => decide (a ≤ c) : Nat) : Int) - (as.length : Int)) ≤ sA as x
  | [] => by simp [sA]
  | a :: as => by
    have ih := sA_hi h as
    unfold sA at ih ⊢
    rw [List.map_cons, List.map_cons, List.sum_cons, List.sum_cons, List.countP_cons, List.length_cons]
    by_cases q : a ≤ c
    · rw [if_pos (decide_eq_true q)]
      have e : (x - c) * (2 * (((as.countP fun a => decide (a ≤ c)) + 1 : Nat) : Int) - ((as.length + 1 : Nat) : Int)) = (x - c) * (2 * ((as.countP fun a => decide (a ≤ c) : Nat) : Int) - (as.length : Int)) + (x - c) := by
        rw [show 2 * (((as.countP fun a => decide (a ≤ c)) + 1 : Nat) : Int) - ((as.length + 1 : Nat) : Int) = (2 * ((as.countP fun a => decide (a ≤ c) : Nat) : Int) - (as.length : Int)) + 1 by omega, Int.mul_add, Int.mul_one]
      rw [e]
      omega
    · rw [if_neg (by simpa using q)]
      have e : (x - c) * (2 * (((as.countP fun a => decide (a ≤ c)) + 0 : Nat) : Int) - ((as.length + 1 : Nat) : Int)) = (x - c) * (2 * ((as.countP fun a => decide (a ≤ c) : Nat) : Int) - (as.length : Int)) - (x - c) := by
        rw [show 2 * (((as.countP fun a => decide (a ≤ c)) + 0 : Nat) : Int) - ((as.length + 1 : Nat) : Int) = (2 * ((as.countP fun a => decide (a ≤ c) : Nat) : Int) - (as.length : Int)) - 1 by omega, Int.mul_sub, Int.mul_one]
      rw [e]
      omega
theorem sortI_pw (xs : List Int) : (sortI xs).Pairwise fun a b => a ≤ b := by
  have : (sortI xs).Pairwise fun a b => decide (a ≤ b) = true := List.pairwise_mergeSort (fun a b c h1 h2 => by
    have := of_decide_eq_true h1
    have := of_decide_eq_true h2
    exact decide_eq_true (by omega)) (fun a b => by
    rw [Bool.or_eq_true, decide_eq_true_eq, decide_eq_true_eq]
    omega) xs
  exact this.imp fun h => of_decide_eq_true h
structure Med (as : List Int) : Prop where
  mem : medF as ∈ as
  lo : ∀ x, x < medF as → sA as (medF as) < sA as x
  hi : ∀ x, medF as ≤ x → sA as (medF as) ≤ sA as x
theorem med_ok {as : List Int} (h : as ≠ []) : Med as := by
  have lp : 0 < as.length := List.length_pos_iff.mpr h
  have pm := sortI_perm as
  have sl : (sortI as).length = as.length := pm.length_eq
  have pl : (as.length - 1) / 2 < (sortI as).length := by omega
  have pw := sortI_pw as
  have ec : medF as = (sortI as)[(as.length - 1) / 2] := by
    unfold medF
    rw [List.getD_eq_getElem?_getD, List.getElem?_eq_getElem pl]
    rfl
  have c1 : (as.length : Int) + 1 ≤ 2 * ((as.countP fun a => decide (medF as ≤ a) : Nat) : Int) := by
    have e : as.countP (fun a => decide (medF as ≤ a)) = (sortI as).countP fun a => decide (medF as ≤ a) := (pm.countP_eq _).symm
    have d : ((sortI as).drop ((as.length - 1) / 2)).countP (fun a => decide (medF as ≤ a)) = ((sortI as).drop ((as.length - 1) / 2)).length := List.countP_eq_length.mpr fun a ha => by
      obtain ⟨i, hi, rfl⟩ := List.getElem_of_mem ha
      rw [List.length_drop] at hi
      rw [List.getElem_drop, ec]
      refine decide_eq_true ?_
      rcases Nat.eq_zero_or_pos i with q | q
      · subst q
        exact Int.le_refl _
      · exact List.pairwise_iff_getElem.mp pw _ _ pl (by omega) (by omega)
    have t := List.take_append_drop ((as.length - 1) / 2) (sortI as)
    rw [e, ← t, List.countP_append, d, List.length_drop]
    omega
  have c2 : (as.length : Int) ≤ 2 * ((as.countP fun a => decide (a ≤ medF as) : Nat) : Int) := by
    have e : as.countP (fun a => decide (a ≤ medF as)) = (sortI as).countP fun a => decide (a ≤ medF as) := (pm.countP_eq _).symm
    have d : ((sortI as).take ((as.length - 1) / 2 + 1)).countP (fun a => decide (a ≤ medF as)) = ((sortI as).take ((as.length - 1) / 2 + 1)).length := List.countP_eq_length.mpr fun a ha => by
      obtain ⟨i, hi, rfl⟩ := List.getElem_of_mem ha
      rw [List.length_take] at hi
      rw [List.getElem_take, ec]
      refine decide_eq_true ?_
      rcases Nat.lt_or_ge i ((as.length - 1) / 2) with q | q
      · exact List.pairwise_iff_getElem.mp pw _ _ (by omega) pl q
      · have : i = (as.length - 1) / 2 := by omega
        subst this
        exact Int.le_refl _
    have t := List.take_append_drop ((as.length - 1) / 2 + 1) (sortI as)
    rw [e, ← t, List.countP_append, d, List.length_take]
    omega
  refine ⟨?_, fun x hx => ?_, fun x hx => ?_⟩
  · rw [ec]
    exact pm.subset (List.getElem_mem _)
  · have l := sA_lo (c := medF as) (x := x) (by omega) as
    have m := Int.mul_le_mul_of_nonneg_left (c := medF as - x) (show (1 : Int) ≤ 2 * ((as.countP fun a => decide (medF as ≤ a) : Nat) : Int) - (as.length : Int) by omega) (by omega)
    rw [Int.mul_one] at m
    omega
  · have l := sA_hi (c := medF as) (x := x) hx as
    have m := Int.mul_nonneg (a := x - medF as) (b := 2 * ((as.countP fun a => decide (a ≤ medF as) : Nat) : Int) - (as.length : Int)) (by omega) (by omega)
    omega
def sumW (rk : List Pr) (p : Pr) : Int := (rk.map (wayF p)).sum
theorem sumW_split (rk : List Pr) (p : Pr) : sumW rk p = sA (rk.map (·.1)) p.1 + sA (rk.map (·.2)) p.2 := by
  unfold sumW sA
  induction rk with
  | nil => rfl
  | cons q rk ih =>
    simp only [List.map_cons, List.sum_cons] at ih ⊢
    unfold wayF at ih ⊢
    omega
def plcF (rk : List Pr) : Pr := (medF (rk.map (·.1)), medF (rk.map (·.2)))
def midD (rk : List Pr) : D := .tuple [encP (plcF rk), .int (sumW rk (plcF rk))]
theorem opd_div2 {n : Nat} {Q : D → Prop} (hn : n ≤ 100000) (k : Q (.int ((n / 2 : Nat) : Int))) : OpD (rI CDiv fun i j => .int (i / j)) (.int (n : Int)) (.int 2) Q := by
  refine opd_I (by show CDiv _ _; exact ⟨by omega, by omega⟩) ?_
  rw [show (n : Int) / 2 = ((n / 2 : Nat) : Int) by omega]
  exact k
def R_mid : List D → (D → Prop) → Prop := fun vs Z => ∃ rk : List Pr, vs = [.list (rk.map encP)] ∧ rk ≠ [] ∧ rk.length ≤ 50 ∧ Z (midD rk)
theorem med_D {as : List Int} (h : as ≠ []) : atI ((sortI as).map PyData.int) (((as.length - 1) / 2 : Nat) : Int) = some (.int (medF as)) := by
  have lp : 0 < as.length := List.length_pos_iff.mpr h
  have sl : (sortI as).length = as.length := (sortI_perm as).length_eq
  rw [atI_map 0 (by omega) (by omega), Int.toNat_natCast]
  rfl
theorem sx_middle_spot (K : PySem.W.Frag) (vs : List D) (Z : D → Prop) (h : R_mid vs Z) : SX (T_middle_spot K R_way) (startE N_middle_spot vs) { nx := fun _ => Z .none, rt := fun d _ => Z d } := by
  obtain ⟨rk, rfl, ne, rn, z⟩ := h
  show SX (T_middle_spot K R_way) [.val (.list (rk.map encP)), .emp, .emp, .emp, .emp] _
  unfold T_middle_spot
  have n1 : rk.map (·.1) ≠ [] := fun e => ne (List.map_eq_nil_iff.mp e)
  have n2 : rk.map (·.2) ≠ [] := fun e => ne (List.map_eq_nil_iff.mp e)
  have l1 : (sortI (rk.map (·.1))).length = rk.length := by rw [(sortI_perm _).length_eq, List.length_map]
  have l2 : (sortI (rk.map (·.2))).length = rk.length := by rw [(sortI_perm _).length_eq, List.length_map]
  have d1 := med_D n1
  have d2 := med_D n2
  rw [List.length_map] at d1 d2
  have rp : 0 < rk.length := List.length_pos_iff.mpr ne
  refine sx_seq (sx_asg ?_)
  walk_at "es"
  refine ex_of (eo_lcP (α := Pr) (fun _ => true) (fun p => .int p.1) (ei_list ?_))
  walk_at "es"
  refine ⟨by omega, fun i hi => by simp at hi; subst hi; rfl, fun p hp => sg_name (by simp) ⟨rfl, ?_⟩, ?_⟩
  · unfold encP
    walk_at "w"
    refine et_yes ⟨rfl, rfl, fun _ => ?_⟩
    walk_at "es"
    exact ⟨rfl, rfl⟩
  rw [filt_all, show (rk.map fun p => PyData.int p.1) = (rk.map (·.1)).map .int by rw [List.map_map]; rfl]
  walk_at "es"
  refine cbd_sortI ?_
  refine nx_seq ?_
  walk_at "w"
  refine sx_seq (sx_asg ?_)
  walk_at "es"
  refine ex_of (eo_lcP (α := Pr) (fun _ => true) (fun p => .int p.2) (ei_list ?_))
  walk_at "es"
  refine ⟨by omega, fun i hi => by simp at hi; subst hi; rfl, fun p hp => sg_name (by simp) ⟨rfl, ?_⟩, ?_⟩
  · unfold encP
    walk_at "w"
    refine et_yes ⟨rfl, rfl, fun _ => ?_⟩
    walk_at "es"
    exact ⟨rfl, rfl⟩
  rw [filt_all, show (rk.map fun p => PyData.int p.2) = (rk.map (·.2)).map .int by rw [List.map_map]; rfl]
  walk_at "es"
  refine cbd_sortI ?_
  refine nx_seq ?_
  walk_at "w"
  generalize sortI (rk.map (·.1)) = xs at l1 d1 ⊢
  generalize sortI (rk.map (·.2)) = ys at l2 d2 ⊢
  refine sx_seq (sx_asg ?_)
  walk_at "es"
  rw [List.length_map, l1, show ((rk.length : Int) - 1) / 2 = (((rk.length - 1) / 2 : Nat) : Int) by omega]
  refine opd_ixL d1 ?_
  walk_at "es"
  rw [List.length_map, l2, show ((rk.length : Int) - 1) / 2 = (((rk.length - 1) / 2 : Nat) : Int) by omega]
  refine opd_ixL d2 ?_
  walk_at "es"
  rw [show PyData.tuple [.int (medF (rk.map (·.1))), .int (medF (rk.map (·.2)))] = encP (plcF rk) from rfl]
  refine ex_of (eo_lcP (α := Pr) (fun _ => true) (fun p => .int (wayF (plcF rk) p)) (ei_list ?_))
  walk_at "es"
  refine ⟨by omega, fun i hi => by simp at hi; subst hi; rfl, fun p hp => sg_name (by simp) ⟨rfl, ?_⟩, ?_⟩
  · walk_at "w"
    refine et_yes ⟨rfl, rfl, fun _ => ?_⟩
    walk_at "es"
    exact ⟨plcF rk, p, rfl, rfl, rfl⟩
  rw [filt_all, show (rk.map fun p => PyData.int (wayF (plcF rk) p)) = (rk.map (wayF (plcF rk))).map .int by rw [List.map_map]; rfl]
  walk_at "es"
  exact z
/-! the least of all places -/
abbrev Mt := Int × Pr
def encM (m : Mt) : D := .tuple [.int m.1, encP m.2]
def ltM (a b : Mt) : Bool := decide (a.1 < b.1) || (decide (a.1 = b.1) && Pu.ltP a.2 b.2)
theorem ltM_asym (a b : Mt) (h : ltM a b = true) : ltM b a = false := by
  unfold ltM Pu.ltP at h ⊢
  simp only [Bool.or_eq_true, Bool.and_eq_true, decide_eq_true_eq] at h
  simp only [Bool.or_eq_false_iff, Bool.and_eq_false_iff, decide_eq_false_iff_not]
  omega
theorem dataLt_M (a b : Mt) : PySem.W.dataLt (encM a) (encM b) = ltM a b := by
  unfold encM ltM
  rw [PySem.W.dataLt_pair rfl rfl, dataLt_P, eqv_encP, PySem.W.dataLt_int]
  simp only [PyData.eqv]
  by_cases h : a.1 = b.1
  · by_cases h2 : a.2 = b.2
    · have : Pu.ltP b.2 b.2 = false := by unfold Pu.ltP; exact decide_eq_false (by omega)
      simp [h, h2, this]
    · simp [h, h2]
  · simp [h]
theorem minD_M (p : Mt) (ps : List Mt) : PySem.W.minD (encM p) (ps.map encM) = encM (ps.foldl (fun a y => if ltM y a = true then y else a) p) := by
  have h : ∀ (qs : List Mt) (a : Mt), (qs.map encM).foldl (fun a y => if PySem.W.dataLt y a then y else a) (encM a) = encM (qs.foldl (fun a y => if ltM y a = true then y else a) a) := by
    intro qs
    induction qs with
    | nil => intro a; rfl
    | cons q qs ih =>
      intro a
      simp only [List.map_cons, List.foldl_cons, dataLt_M]
      by_cases h : ltM q a = true
      · rw [if_pos h, if_pos h]; exact ih q
      · rw [if_neg h, if_neg h]; exact ih a
  exact h ps p
theorem cbd_minM {K : PySem.W.Frag} {ps : List Mt} {m : Mt} {Q : D → Prop} (hm : m ∈ ps) (h : ∀ y ∈ ps, y = m ∨ ltM m y = true) (k : Q (encM m)) : CbD (rMnD K) [.list (ps.map encM)] Q := by
  cases ps with
  | nil => cases hm
  | cons p ps =>
    refine cbd_minD ⟨fun x hx y hy => ?_, fun x hx => ?_⟩ ?_ ?_
    · obtain ⟨a, _, rfl⟩ := List.mem_map.mp (show x ∈ (p :: ps).map encM from hx)
      obtain ⟨b, _, rfl⟩ := List.mem_map.mp (show y ∈ (p :: ps).map encM from hy)
      rfl
    · obtain ⟨a, _, rfl⟩ := List.mem_map.mp (show x ∈ (p :: ps).map encM from hx)
      intro q
      cases q
    · exact depthAll_le (n := 60) (fun x hx => by
        obtain ⟨a, _, rfl⟩ := List.mem_map.mp (show x ∈ (p :: ps).map encM from hx)
        show DpN 60 _
        exact Nat.le_trans (show (encM a).depth ≤ 4 by simp [encM, encP, PyData.depth, PyData.depthAll]) (by decide))
    · rw [minD_M, fmin_is ltM ltM_asym m ps p h hm]
      exact k
def allP : List Pr := (rngI 0 10).flatMap fun x => (rngI 0 10).map fun y => (x, y)
def sumsL (rk : List Pr) : List Mt := allP.map fun p => (sumW rk p, p)
theorem allP_mem {p : Pr} : p ∈ allP ↔ (0 ≤ p.1 ∧ p.1 < 10) ∧ 0 ≤ p.2 ∧ p.2 < 10 := by
  unfold allP
  simp only [List.mem_flatMap, List.mem_map]
  constructor
  · rintro ⟨x, hx, y, hy, rfl⟩
    have hx := rngI_mem.mp hx
    have hy := rngI_mem.mp hy
    exact ⟨by show 0 ≤ x ∧ x < 10; omega, by show 0 ≤ y ∧ y < 10; omega⟩
  · rintro ⟨h1, h2⟩
    exact ⟨p.1, rngI_mem.mpr (by omega), p.2, rngI_mem.mpr (by omega), rfl⟩
theorem mid_least {rk : List Pr} (ne : rk ≠ []) (rb : ∀ p ∈ rk, (0 ≤ p.1 ∧ p.1 < 10) ∧ 0 ≤ p.2 ∧ p.2 < 10) : (sumW rk (plcF rk), plcF rk) ∈ sumsL rk ∧ ∀ y ∈ sumsL rk, y = (sumW rk (plcF rk), plcF rk) ∨ ltM (sumW rk (plcF rk), plcF rk) y = true := by
  have M1 := med_ok (as := rk.map (·.1)) fun e => ne (List.map_eq_nil_iff.mp e)
  have M2 := med_ok (as := rk.map (·.2)) fun e => ne (List.map_eq_nil_iff.mp e)
  obtain ⟨q1, h1, e1⟩ := List.mem_map.mp M1.mem
  obtain ⟨q2, h2, e2⟩ := List.mem_map.mp M2.mem
  have b1 := (rb q1 h1).1
  have b2 := (rb q2 h2).2
  rw [e1] at b1
  rw [e2] at b2
  refine ⟨List.mem_map.mpr ⟨plcF rk, allP_mem.mpr ⟨b1, b2⟩, rfl⟩, fun y hy => ?_⟩
  obtain ⟨p, hp, rfl⟩ := List.mem_map.mp hy
  have s0 := sumW_split rk (plcF rk)
  have s1 := sumW_split rk p
  have ex : (plcF rk).1 = medF (rk.map (·.1)) := rfl
  have ey : (plcF rk).2 = medF (rk.map (·.2)) := rfl
  rw [ex, ey] at s0
  have lx : p.1 < medF (rk.map (·.1)) ∨ medF (rk.map (·.1)) ≤ p.1 := by omega
  have ly : p.2 < medF (rk.map (·.2)) ∨ medF (rk.map (·.2)) ≤ p.2 := by omega
  have wx : sA (rk.map (·.1)) (medF (rk.map (·.1))) ≤ sA (rk.map (·.1)) p.1 ∧ (p.1 < medF (rk.map (·.1)) → sA (rk.map (·.1)) (medF (rk.map (·.1))) < sA (rk.map (·.1)) p.1) := by
    rcases lx with q | q
    · have := M1.lo p.1 q
      exact ⟨by omega, fun _ => this⟩
    · exact ⟨M1.hi p.1 q, fun r => by omega⟩
  have wy : sA (rk.map (·.2)) (medF (rk.map (·.2))) ≤ sA (rk.map (·.2)) p.2 ∧ (p.2 < medF (rk.map (·.2)) → sA (rk.map (·.2)) (medF (rk.map (·.2))) < sA (rk.map (·.2)) p.2) := by
    rcases ly with q | q
    · have := M2.lo p.2 q
      exact ⟨by omega, fun _ => this⟩
    · exact ⟨M2.hi p.2 q, fun r => by omega⟩
  by_cases e : sumW rk (plcF rk) = sumW rk p
  · have gx : medF (rk.map (·.1)) ≤ p.1 := by
      rcases lx with q | q
      · have := wx.2 q; omega
      · exact q
    have gy : medF (rk.map (·.2)) ≤ p.2 := by
      rcases ly with q | q
      · have := wy.2 q; omega
      · exact q
    by_cases ep : p = plcF rk
    · left; rw [ep]
    · right
      unfold ltM Pu.ltP
      simp only [Bool.or_eq_true, Bool.and_eq_true, decide_eq_true_eq]
      right
      refine ⟨e, ?_⟩
      rw [ex, ey]
      by_cases c1 : medF (rk.map (·.1)) = p.1
      · by_cases c2 : medF (rk.map (·.2)) = p.2
        · exact absurd (Prod.ext c1.symm c2.symm) ep
        · exact .inr ⟨c1, by omega⟩
      · left; omega
  · right
    unfold ltM
    rw [decide_eq_true (show sumW rk (plcF rk) < sumW rk p by omega)]
    rfl
end Law_k41
namespace Law_k41
open PySem L2 Pu
local macro_rules | `(tactic| walk_at "e") => `(tactic| first
  | ((with_reducible refine nx_seq ?_); (try dsimp only [List.set_cons_succ, List.set_cons_zero]))
  | ((with_reducible refine ex_vr ?_); dsimp only [VQ, List.set_cons_succ, List.set_cons_zero, List.getElem?_cons_zero, List.getElem?_cons_succ]; (fail_if_success (with_reducible show False)))
  | (with_reducible refine sx_seq ?_)
  | (with_reducible refine sx_if ?_)
  | (with_reducible refine sx_next ?_)
  | (with_reducible refine sx_ret ?_)
  | ((fail_if_success (with_reducible refine sx_asgO (eo_lst ?_))); (with_reducible refine sx_asg ?_))
  | (with_reducible refine ex_int ?_)
  | (with_reducible refine ex_str ?_)
  | (with_reducible refine ex_bl ?_)
  | (with_reducible refine ex_non ?_)
  | (with_reducible refine ex_op ?_)
  | (with_reducible refine ex_un ?_)
  | (with_reducible refine ex_chain ?_)
  | (with_reducible refine ex_call ?_)
  | (with_reducible refine ex_isT ?_)
  | (with_reducible refine ex_cb ?_)
  | (with_reducible refine ex_sl ?_)
  | (with_reducible refine ex_tup ?_)
  | (with_reducible refine ex_if ?_)
  | (with_reducible refine ex_of (eo_lst ?_))
  | (with_reducible refine ex_notV ?_)
  | (with_reducible refine ea_nil ?_)
  | (with_reducible refine ea_cons ?_)
  | (with_reducible refine ep_no ?_)
  | (with_reducible refine ep_some ?_)
  | (with_reducible refine et_test ?_)
  | (with_reducible refine et_B ?_)
  | (with_reducible refine et_ch3 ?_)
  | (with_reducible refine et_and ?_)
  | (with_reducible refine et_or ?_)
  | (with_reducible refine et_not ?_)
  | (with_reducible refine et_yes ?_)
  | (with_reducible refine et_truL ?_)
  | (with_reducible refine opd_plusI ?_)
  | (with_reducible refine opd_I0 ?_)
  | (with_reducible refine opd_B0 ?_)
  | (with_reducible refine opd_eqI ?_)
  | (with_reducible refine opd_neI ?_)
  | (with_reducible refine opd_eqS ?_)
  | (with_reducible refine opd_neS ?_)
  | (with_reducible refine opd_is ?_)
  | (with_reducible refine opd_isnt ?_)
  | (with_reducible refine opd_ixT rfl ?_)
  | (with_reducible refine opd_ixL rfl ?_)
  | (with_reducible refine und_neg ?_)
  | (with_reducible refine cbd_lenL ?_)
  | (with_reducible refine cbd_lenT ?_)
  | (with_reducible refine cbd_min2 ?_)
  | (with_reducible refine cbd_max2 ?_)
  | (with_reducible refine cbd_abs ?_)
  | (with_reducible refine cbd_int ?_)
  | (with_reducible refine cbd_tupL ?_)
  | (with_reducible refine cbd_listL ?_)
  | (with_reducible refine cbd_listT ?_)
  | (with_reducible refine cbd_sum ?_)
  | (with_reducible refine sld_T ?_)
  | (with_reducible refine sld_L ?_)
  | (with_reducible refine ex_revL ?_)
  | (with_reducible refine ex_bmL ?_)
  | (with_reducible refine ex_andV ?_)
  | (with_reducible refine ei_list ?_)
  | (with_reducible refine ei_rng1 ?_)
  | (with_reducible refine ei_rng2 ?_)
  | (with_reducible refine ei_enum ?_)
  | (with_reducible refine ei_enumT ?_)
  | (with_reducible refine ei_zip ?_)
  | (with_reducible refine sx_par ?_)
  | (with_reducible refine Exists.intro _ (And.intro rfl ?_))
  | (with_reducible refine Exists.intro _ (Exists.intro _ (And.intro rfl ?_)))
  | ((with_reducible show EX (tCall (spS _) [] _ (tCons (tVar _) _)) _ _); refine ex_callS rfl ?_)
  | ((with_reducible refine And.intro (show (_ : Nat) ≤ 100000 from ?_) ?_); (focus (simp; done)))
  | ((with_reducible refine opd_I ?_ ?_); focus (first | omega | (show CDiv _ _; exact ⟨by omega, by omega⟩) | (show CMul _ _; first | exact Or.inl ⟨by omega, by omega⟩ | exact Or.inr ⟨by omega, by omega⟩))))
local macro_rules | `(tactic| walk_at "es") => `(tactic| repeat walk_at "e")
local macro_rules | `(tactic| walk_at "w") => `(tactic| try dsimp only [wipeE, List.foldl_cons, List.foldl_nil, List.set_cons_succ, List.set_cons_zero])
local macro_rules | `(tactic| walk_at "le") => `(tactic| repeat' first | exact LeE.nil | (refine LeE.eq rfl ?_) | (refine LeE.emp ?_) | (refine LeE.eq ?_ ?_))
local macro_rules | `(tactic| walk_at "no") => `(tactic| ((refine And.intro (fun hb => absurd hb ?_) (fun _ => ?_)); (focus (first | (exact Bool.false_ne_true) | (simp; done) | (simp; omega) | (simp only [decide_eq_true_eq]; omega)))))
local macro_rules | `(tactic| walk_at "yes") => `(tactic| ((refine And.intro (fun _ => ?_) (fun hb => absurd hb ?_)); (rotate_left); (focus (first | (exact Bool.noConfusion) | (simp; done) | (simp; omega) | (simp only [decide_eq_false_iff_not]; omega)))))
local macro_rules | `(tactic| walk_at "ei") => `(tactic| repeat ((fail_if_success (with_reducible show SX (tSeq (tIfS _ _ _) _) _ _)); (fail_if_success (with_reducible show SX (tIfS _ _ _) _ _)); (fail_if_success (with_reducible show SX (tSeq (tAsg (tIf _ _ _) _) _) _ _)); walk_at "e"))
local macro_rules | `(tactic| walk_at "tv") => `(tactic| repeat' first | walk_at "e" | ((with_reducible show (_ = true → _) ∧ (_ = false → _)); refine And.intro (fun _ => ?_) (fun _ => ?_)))
/-! ### the law's end -/
theorem depth_le {n : Nat} : ∀ {ds : List D}, (∀ d ∈ ds, d.depth ≤ n) → PyData.depthAll ds ≤ n
  | [], _ => by simp [PyData.depthAll]
  | d :: ds, h => by
    have a := h d (by simp)
    have b := depth_le (ds := ds) fun x hx => h x (by simp [hx])
    simp only [PyData.depthAll]
    omega
theorem pairs_dp : ∀ l : List Pr, PyData.depthAll (l.map encP) ≤ 3
  | [] => by simp [PyData.depthAll]
  | p :: l => by
    have := pairs_dp l
    rw [List.map_cons]
    simp only [PyData.depthAll, encP, PyData.depth]
    omega
theorem tree_deep : ∀ f : Flt, (treeD f).depth ≤ 60
  | none => by simp [treeD, PyData.depth]
  | some f => by
    have := pairs_dp f.2
    simp only [treeD, fltD, PyData.depth, PyData.depthAll]
    omega
theorem jud_deep (cs : List Int) (ds : List (List Nat)) (T : Told) : (judD cs ds T).depth ≤ 60 := by
  cases T with
  | none tr => exact tree_deep _
  | least row cost tr =>
    show (if risB cs.length row = true then (match unmF ds row with
      | some k => .tuple [.str (Str.ofString "demand"), .int (k : Int)]
      | none => if costT cs row = cost then treeD (faultF cs ds 7 [] [] [] (some cost) tr) else .tuple [.str (Str.ofString "cost")])
    else .tuple [.str (Str.ofString "options")] : D).depth ≤ 60
    split
    · cases hu : unmF ds row with
      | some k => simp [PyData.depth, PyData.depthAll]
      | none =>
        show (if costT cs row = cost then treeD (faultF cs ds 7 [] [] [] (some cost) tr) else .tuple [.str (Str.ofString "cost")] : D).depth ≤ 60
        split
        · exact tree_deep _
        · simp [PyData.depth, PyData.depthAll]
    · simp [PyData.depth, PyData.depthAll]
theorem nats_deep (r : List Nat) : (natsD r).depth ≤ 60 := by rw [natsD_eq]; exact ints_deep _
theorem sh_str {s : Str} (h1 : (PyData.str s).showable = true) (h2 : (PyData.str s).hasDict = false) (h3 : (PyData.str s).shown.length ≤ 2000) : Sh 2000 (.str s) := ⟨h1, h2, h3⟩
def PrOk (q : Pr) : Prop := (0 ≤ q.1 ∧ q.1 < 1000) ∧ 0 ≤ q.2 ∧ q.2 < 1000
def WdOk (s : String) : Prop := s = "shares" ∨ s = "blocked" ∨ s = "split"
theorem flt_ok {cs : List Int} {ds : List (List Nat)} (sc : Sc cs ds) : ∀ (f : Nat) (t l : List Nat) (p : List Pr) (b : Option Int) (tr : Tr) (g : String × List Pr), (∀ q ∈ p, PrOk q) → faultF cs ds f t l p b tr = some g → WdOk g.1 ∧ (∀ q ∈ g.2, PrOk q) ∧ g.2.length ≤ p.length + f
  | 0, _, _, _, _, _, _, _, h => by simp only [faultF] at h; cases h
  | f + 1, t, l, p, b, .shares rows, g, hp, h => by
    rw [f_sh] at h
    split at h
    · cases h
    · cases h; exact ⟨.inl rfl, hp, by simp only; omega⟩
  | f + 1, t, l, p, b, .blocked a, g, hp, h => by
    cases hi : inD ds a with
    | false => rw [f_blo hi] at h; cases h; exact ⟨.inr (.inl rfl), hp, by simp only; omega⟩
    | true =>
      obtain ⟨a, rfl, ha⟩ := inD_nat hi
      rw [f_bl hi] at h
      split at h
      · cases h
      · cases h; exact ⟨.inr (.inl rfl), hp, by simp only; omega⟩
  | f + 1, t, l, p, b, .split a ts, g, hp, h => by
    cases hi : inD ds a with
    | false => rw [f_spo hi] at h; cases h; exact ⟨.inr (.inr rfl), hp, by simp only; omega⟩
    | true =>
      obtain ⟨a, rfl, ha⟩ := inD_nat hi
      rw [f_sp hi] at h
      split at h
      · cases h; exact ⟨.inr (.inr rfl), hp, by simp only; omega⟩
      · obtain ⟨k, hk, e⟩ := List.exists_of_findSome?_eq_some h
        have hk := List.mem_range.mp hk
        unfold cellF at e
        have md := dAt_mem (ds := ds) ha
        have mo : (opn (dAt ds a) l).getD k 0 ∈ opn (dAt ds a) l := by
          rw [List.getD_eq_getElem?_getD, List.getElem?_eq_getElem hk]; exact List.getElem_mem hk
        have ol := sc.pb.lt _ md _ (opn_mem.mp mo).1
        have cn := sc.cn
        have dn := sc.dn
        obtain ⟨g1, g2, g3⟩ := flt_ok sc f _ _ _ b _ g (fun q hq => by
          rcases List.mem_append.mp hq with hq | hq
          · exact hp q hq
          · rw [List.mem_singleton] at hq
            subst hq
            exact ⟨by simp only; omega, by simp only; omega⟩) e
        rw [List.length_append, List.length_singleton] at g3
        exact ⟨g1, g2, by omega⟩
theorem sh_jud {cs : List Int} {ds : List (List Nat)} (sc : Sc cs ds) (T : Told) : Sh 1000000 (judD cs ds T) := by
  have dn := sc.dn
  have tree : ∀ b tr, Sh 1000000 (treeD (faultF cs ds 7 [] [] [] b tr)) := fun b tr => by
    cases e : faultF cs ds 7 [] [] [] b tr with
    | none => exact sh_non.up (by decide)
    | some g =>
      obtain ⟨w, q, ql⟩ := flt_ok sc 7 [] [] [] b tr g (fun q hq => by cases hq) e
      have ql : g.2.length ≤ 7 := by simpa using ql
      have sw : Sh 2000 (.str (Str.ofString g.1)) := by
        rcases w with w | w | w <;> rw [w] <;> exact sh_str (by decide +kernel) (by decide +kernel) (by decide +kernel)
      have sp : Sh (2 * 2002 + 4) (.tuple [.int 0, .int 0]) := sh_tup (m := 2) (sh_cons (sh_int (by decide)) (sh_cons (sh_int (by decide)) sh_nil)) (by simp)
      have pairs : ∀ x ∈ g.2, Sh (2 * 2002 + 4) (encP x) := fun x hx => by
        obtain ⟨h1, h2⟩ := q x hx
        exact sh_tup (m := 2) (sh_cons (sh_int (by omega)) (sh_cons (sh_int (by omega)) sh_nil)) (by simp)
      have l1 : Sh (7 * (2 * 2002 + 4 + 2) + 4) (.list (g.2.map encP)) := sh_list (sh_map pairs) (by rw [List.length_map]; exact ql)
      have t1 : Sh (2 * (7 * (2 * 2002 + 4 + 2) + 4 + 2) + 4) (fltD (some g)) := sh_tup (m := 2) (sh_cons (sw.up (by decide)) (sh_cons l1 sh_nil)) (by simp)
      have s0 : Sh 2000 (.str (Str.ofString "tree")) := sh_str (by decide +kernel) (by decide +kernel) (by decide +kernel)
      exact (sh_tup (m := 2) (sh_cons (s0.up (by decide)) (sh_cons t1 sh_nil)) (by simp)).up (by decide)
  have one : ∀ s : Str, Sh 2000 (.str s) → Sh 1000000 (.tuple [.str s]) := fun s h => (sh_tup (m := 1) (sh_cons h sh_nil) (by simp)).up (by decide)
  cases T with
  | none tr => exact tree none tr
  | least row cost tr =>
    show Sh 1000000 (if risB cs.length row = true then (match unmF ds row with
      | some k => .tuple [.str (Str.ofString "demand"), .int (k : Int)]
      | none => if costT cs row = cost then treeD (faultF cs ds 7 [] [] [] (some cost) tr) else .tuple [.str (Str.ofString "cost")])
    else .tuple [.str (Str.ofString "options")] : D)
    split
    · cases hu : unmF ds row with
      | some k =>
        obtain ⟨j, hj, e⟩ := List.exists_of_findSome?_eq_some hu
        have hj := List.mem_range.mp hj
        unfold unmO at e
        split at e
        · cases e
        · cases e
          exact (sh_tup (m := 2) (sh_cons (sh_str (by decide +kernel) (by decide +kernel) (by decide +kernel)) (sh_cons (sh_int (by omega)) sh_nil)) (by simp)).up (by decide)
      | none =>
        show Sh 1000000 (if costT cs row = cost then treeD (faultF cs ds 7 [] [] [] (some cost) tr) else .tuple [.str (Str.ofString "cost")] : D)
        split
        · exact tree _ _
        · exact one _ (sh_str (by decide +kernel) (by decide +kernel) (by decide +kernel))
    · exact one _ (sh_str (by decide +kernel) (by decide +kernel) (by decide +kernel))
def R_law : List D → (D → Prop) → Prop := fun ds Z => ∃ ns : List Int, ds = [.list (ns.map .int)] ∧ Z (.bool true)
def T_tail3 (K : PySem.W.Frag) : TS :=
    (tSeq (tAsg (tLst tNil) (gName 18))
    (tSeq (tFor (iList K (tVar 4)) (gName 19)
      (tSeq (tAsg (tLc (iList K (tVar 16)) (gName 17) tYes (tCall (spP R_way) [] E0 (tCons (tOp (rIxA K) (tVar 2) (tVar 17)) (tCons (tVar 19) tNil))) [17]) (gName 20))
    (tDrop (tBM K "list" rAppend (tVar 18) (tCons (tOp (rIxA K) (tVar 16) (tBM K "list" (rIndexD K) (tVar 20) (tCons (tCB (rMnD K) (tCons (tVar 20) tNil)) tNil))) tNil)))))
    (tSeq (tIfS (tTest (tOp (rNeP K) (tCall (spP R_near) [] E0 (tCons (tVar 2) (tCons (tVar 4) (tCons (tVar 16) tNil)))) (tVar 18)))
      (tRet (tC (.bl false)))
      tNext)
    (tSeq (tAsg (tLst tNil) (gName 21))
    (tSeq (tFor (iRng1 (tCons (tC (.int 10)) tNil)) (gName 22)
      (tAsg (tOp (rPlus K) (tVar 21) (tLc (iRng1 (tCons (tC (.int 10)) tNil)) (gName 23) tYes (tTup (tCons (tCB (rSum K) (tCons (tLc (iList K (tVar 4)) (gName 19) tYes (tCall (spP R_way) [] E0 (tCons (tTup (tCons (tVar 22) (tCons (tVar 23) tNil))) (tCons (tVar 19) tNil))) [19]) tNil)) (tCons (tTup (tCons (tVar 22) (tCons (tVar 23) tNil))) tNil))) [23])) (gName 21)))
    (tRet (tAndV (tOp (rEqP K) (tCall (spP R_mid) [] E0 (tCons (tVar 4) tNil)) (tTup (tCons (tOp (rIxA K) (tCB (rMnD K) (tCons (tVar 21) tNil)) (tC (.int 1))) (tCons (tOp (rIxA K) (tCB (rMnD K) (tCons (tVar 21) tNil)) (tC (.int 0))) tNil)))) (tOp (rEqP K) (tCB (rRepr K) (tCons (tLst (tCons (tVar 2) (tCons (tVar 4) tNil))) tNil)) (tVar 5)))))))))
def T_tail2 (K : PySem.W.Frag) : TS :=
    (tSeq (tAsg (tOrT K (tLc (iRng1 (tCons (tCB (Pu.rLen K) (tCons (tVar 2) tNil)) tNil)) (gName 17) (tTest (tOp (rEqP K) (tCall (spS R_draw) [] E0 (tCons (tVar 1) (tCons (tVar 0) (tCons (tC (.int 2)) tNil)))) (tC (.int 0)))) (tVar 17) [17]) (tLst (tCons (tC (.int 0)) tNil))) (gName 16))
    (tSeq (tAsg (tLst tNil) (gName 18))
    (tSeq (tFor (iList K (tVar 4)) (gName 19)
      (tSeq (tAsg (tLc (iList K (tVar 16)) (gName 17) tYes (tCall (spP R_way) [] E0 (tCons (tOp (rIxA K) (tVar 2) (tVar 17)) (tCons (tVar 19) tNil))) [17]) (gName 20))
    (tDrop (tBM K "list" rAppend (tVar 18) (tCons (tOp (rIxA K) (tVar 16) (tBM K "list" (rIndexD K) (tVar 20) (tCons (tCB (rMnD K) (tCons (tVar 20) tNil)) tNil))) tNil)))))
    (tSeq (tIfS (tTest (tOp (rNeP K) (tCall (spP R_near) [] E0 (tCons (tVar 2) (tCons (tVar 4) (tCons (tVar 16) tNil)))) (tVar 18)))
      (tRet (tC (.bl false)))
      tNext)
    (tSeq (tAsg (tLst tNil) (gName 21))
    (tSeq (tFor (iRng1 (tCons (tC (.int 10)) tNil)) (gName 22)
      (tAsg (tOp (rPlus K) (tVar 21) (tLc (iRng1 (tCons (tC (.int 10)) tNil)) (gName 23) tYes (tTup (tCons (tCB (rSum K) (tCons (tLc (iList K (tVar 4)) (gName 19) tYes (tCall (spP R_way) [] E0 (tCons (tTup (tCons (tVar 22) (tCons (tVar 23) tNil))) (tCons (tVar 19) tNil))) [19]) tNil)) (tCons (tTup (tCons (tVar 22) (tCons (tVar 23) tNil))) tNil))) [23])) (gName 21)))
    (tRet (tAndV (tOp (rEqP K) (tCall (spP R_mid) [] E0 (tCons (tVar 4) tNil)) (tTup (tCons (tOp (rIxA K) (tCB (rMnD K) (tCons (tVar 21) tNil)) (tC (.int 1))) (tCons (tOp (rIxA K) (tCB (rMnD K) (tCons (tVar 21) tNil)) (tC (.int 0))) tNil)))) (tOp (rEqP K) (tCB (rRepr K) (tCons (tLst (tCons (tVar 2) (tCons (tVar 4) tNil))) tNil)) (tVar 5))))))))))
def T_tail1 (K : PySem.W.Frag) : TS :=
    (tSeq (tAsg (tOp (rPlus K) (tC (.int 1)) (tCall (spS R_draw) [] E0 (tCons (tVar 1) (tCons (tVar 0) (tCons (tC (.int 3)) tNil))))) (gName 11))
    (tSeq (tAsg (tCall (spP R_rch) [] E0 (tCons (tVar 2) (tCons (tVar 4) tNil))) (gName 12))
    (tSeq (tAsg (tLc (iList K (tVar 12)) (gName 14) (tTest (tOp (rI0 fun i j => .bl (decide (i ≤ j))) (tCall (spP R_lst) [] E0 (tCons (tVar 2) (tCons (tVar 4) (tCons (tVar 14) tNil)))) (tVar 11))) (tVar 14) [14]) (gName 13))
    (tSeq (tAsg (tCall (spP R_lr) [] E0 (tCons (tVar 2) (tCons (tVar 4) (tCons (tVar 11) tNil)))) (gName 15))
    (tSeq (tIfS (tOr (tTest (tOp (rNeP K) (tOp (rIxA K) (tVar 15) (tC (.int 0))) (tOp (rIxA K) (tVar 13) (tC (.int 0))))) (tOr (tTest (tOp (rIsnt) (tCall (spP R_rj) [] E0 (tCons (tVar 2) (tCons (tVar 4) (tCons (tVar 11) (tCons (tVar 15) tNil))))) (tC .non))) (tTest (tOp (rIsnt) (tCall (spP R_rj) [] E0 (tCons (tVar 2) (tCons (tVar 4) (tCons (tVar 11) (tCons (tVar 15) tNil))))) (tC .non)))))
      (tRet (tC (.bl false)))
      tNext)
    (tSeq (tAsg (tLst (tCons (tOp (rPlus K) (tTup (tCons (tOp (rPlus K) (tOp (rIxA K) (tVar 15) (tC (.int 0))) (tC (.int 1))) tNil)) (tSl (rSl K) (tVar 15) (tPart (tC (.int 1))) tNoPart)) (tCons (tTup (tCons (tOp (rIxA K) (tVar 15) (tC (.int 0))) (tCons (tOp (rIxA K) (tVar 15) (tC (.int 1))) (tCons (tC .non) tNil)))) (tCons (tTup (tCons (tOp (rIxA K) (tVar 15) (tC (.int 0))) (tCons (tVar 8) (tCons (tOp (rIxA K) (tVar 15) (tC (.int 2))) tNil)))) (tCons (tTup (tCons (tOp (rIxA K) (tVar 15) (tC (.int 0))) (tCons (tOp (rIxA K) (tVar 15) (tC (.int 1))) (tCons (tOp (rIxA K) (tVar 15) (tC (.int 1))) tNil)))) (tCons (tTup (tCons (tC (.int 99)) (tCons (tOp (rIxA K) (tVar 15) (tC (.int 1))) (tCons (tOp (rIxA K) (tVar 15) (tC (.int 2))) tNil)))) (tCons (tTup (tCons (tOp (rIxA K) (tVar 15) (tC (.int 0))) (tCons (tOp (rIxA K) (tVar 15) (tC (.int 1))) (tCons (tTup (tCons (tC (.str "far")) (tCons (tC (.int 0)) tNil))) tNil)))) tNil))))))) (gName 9))
    (tSeq (tFor (iList K (tVar 9)) (gName 10)
      (tIfS (tTest (tOp (rNeP K) (tCB (rRepr K) (tCons (tCall (spP R_rj) [] E0 (tCons (tVar 2) (tCons (tVar 4) (tCons (tVar 11) (tCons (tVar 10) tNil))))) tNil)) (tCB (rRepr K) (tCons (tCall (spP R_rj) [] E0 (tCons (tVar 2) (tCons (tVar 4) (tCons (tVar 11) (tCons (tVar 10) tNil))))) tNil))))
      (tRet (tC (.bl false)))
      tNext))
    (tSeq (tAsg (tOrT K (tLc (iRng1 (tCons (tCB (Pu.rLen K) (tCons (tVar 2) tNil)) tNil)) (gName 17) (tTest (tOp (rEqP K) (tCall (spS R_draw) [] E0 (tCons (tVar 1) (tCons (tVar 0) (tCons (tC (.int 2)) tNil)))) (tC (.int 0)))) (tVar 17) [17]) (tLst (tCons (tC (.int 0)) tNil))) (gName 16))
    (tSeq (tAsg (tLst tNil) (gName 18))
    (tSeq (tFor (iList K (tVar 4)) (gName 19)
      (tSeq (tAsg (tLc (iList K (tVar 16)) (gName 17) tYes (tCall (spP R_way) [] E0 (tCons (tOp (rIxA K) (tVar 2) (tVar 17)) (tCons (tVar 19) tNil))) [17]) (gName 20))
    (tDrop (tBM K "list" rAppend (tVar 18) (tCons (tOp (rIxA K) (tVar 16) (tBM K "list" (rIndexD K) (tVar 20) (tCons (tCB (rMnD K) (tCons (tVar 20) tNil)) tNil))) tNil)))))
    (tSeq (tIfS (tTest (tOp (rNeP K) (tCall (spP R_near) [] E0 (tCons (tVar 2) (tCons (tVar 4) (tCons (tVar 16) tNil)))) (tVar 18)))
      (tRet (tC (.bl false)))
      tNext)
    (tSeq (tAsg (tLst tNil) (gName 21))
    (tSeq (tFor (iRng1 (tCons (tC (.int 10)) tNil)) (gName 22)
      (tAsg (tOp (rPlus K) (tVar 21) (tLc (iRng1 (tCons (tC (.int 10)) tNil)) (gName 23) tYes (tTup (tCons (tCB (rSum K) (tCons (tLc (iList K (tVar 4)) (gName 19) tYes (tCall (spP R_way) [] E0 (tCons (tTup (tCons (tVar 22) (tCons (tVar 23) tNil))) (tCons (tVar 19) tNil))) [19]) tNil)) (tCons (tTup (tCons (tVar 22) (tCons (tVar 23) tNil))) tNil))) [23])) (gName 21)))
    (tRet (tAndV (tOp (rEqP K) (tCall (spP R_mid) [] E0 (tCons (tVar 4) tNil)) (tTup (tCons (tOp (rIxA K) (tCB (rMnD K) (tCons (tVar 21) tNil)) (tC (.int 1))) (tCons (tOp (rIxA K) (tCB (rMnD K) (tCons (tVar 21) tNil)) (tC (.int 0))) tNil)))) (tOp (rEqP K) (tCB (rRepr K) (tCons (tLst (tCons (tVar 2) (tCons (tVar 4) tNil))) tNil)) (tVar 5)))))))))))))))))
def T_tail0 (K : PySem.W.Frag) : TS :=
    (tSeq (tFor (iList K (tVar 9)) (gName 10)
      (tIfS (tTest (tOp (rNeP K) (tCB (rRepr K) (tCons (tCall (spP R_fj) [] E0 (tCons (tVar 2) (tCons (tVar 4) (tCons (tVar 6) (tCons (tVar 10) tNil))))) tNil)) (tCB (rRepr K) (tCons (tCall (spP R_fj) [] E0 (tCons (tVar 2) (tCons (tVar 4) (tCons (tVar 6) (tCons (tVar 10) tNil))))) tNil))))
      (tRet (tC (.bl false)))
      tNext))
    (tSeq (tAsg (tOp (rPlus K) (tC (.int 1)) (tCall (spS R_draw) [] E0 (tCons (tVar 1) (tCons (tVar 0) (tCons (tC (.int 3)) tNil))))) (gName 11))
    (tSeq (tAsg (tCall (spP R_rch) [] E0 (tCons (tVar 2) (tCons (tVar 4) tNil))) (gName 12))
    (tSeq (tAsg (tLc (iList K (tVar 12)) (gName 14) (tTest (tOp (rI0 fun i j => .bl (decide (i ≤ j))) (tCall (spP R_lst) [] E0 (tCons (tVar 2) (tCons (tVar 4) (tCons (tVar 14) tNil)))) (tVar 11))) (tVar 14) [14]) (gName 13))
    (tSeq (tAsg (tCall (spP R_lr) [] E0 (tCons (tVar 2) (tCons (tVar 4) (tCons (tVar 11) tNil)))) (gName 15))
    (tSeq (tIfS (tOr (tTest (tOp (rNeP K) (tOp (rIxA K) (tVar 15) (tC (.int 0))) (tOp (rIxA K) (tVar 13) (tC (.int 0))))) (tOr (tTest (tOp (rIsnt) (tCall (spP R_rj) [] E0 (tCons (tVar 2) (tCons (tVar 4) (tCons (tVar 11) (tCons (tVar 15) tNil))))) (tC .non))) (tTest (tOp (rIsnt) (tCall (spP R_rj) [] E0 (tCons (tVar 2) (tCons (tVar 4) (tCons (tVar 11) (tCons (tVar 15) tNil))))) (tC .non)))))
      (tRet (tC (.bl false)))
      tNext)
    (tSeq (tAsg (tLst (tCons (tOp (rPlus K) (tTup (tCons (tOp (rPlus K) (tOp (rIxA K) (tVar 15) (tC (.int 0))) (tC (.int 1))) tNil)) (tSl (rSl K) (tVar 15) (tPart (tC (.int 1))) tNoPart)) (tCons (tTup (tCons (tOp (rIxA K) (tVar 15) (tC (.int 0))) (tCons (tOp (rIxA K) (tVar 15) (tC (.int 1))) (tCons (tC .non) tNil)))) (tCons (tTup (tCons (tOp (rIxA K) (tVar 15) (tC (.int 0))) (tCons (tVar 8) (tCons (tOp (rIxA K) (tVar 15) (tC (.int 2))) tNil)))) (tCons (tTup (tCons (tOp (rIxA K) (tVar 15) (tC (.int 0))) (tCons (tOp (rIxA K) (tVar 15) (tC (.int 1))) (tCons (tOp (rIxA K) (tVar 15) (tC (.int 1))) tNil)))) (tCons (tTup (tCons (tC (.int 99)) (tCons (tOp (rIxA K) (tVar 15) (tC (.int 1))) (tCons (tOp (rIxA K) (tVar 15) (tC (.int 2))) tNil)))) (tCons (tTup (tCons (tOp (rIxA K) (tVar 15) (tC (.int 0))) (tCons (tOp (rIxA K) (tVar 15) (tC (.int 1))) (tCons (tTup (tCons (tC (.str "far")) (tCons (tC (.int 0)) tNil))) tNil)))) tNil))))))) (gName 9))
    (tSeq (tFor (iList K (tVar 9)) (gName 10)
      (tIfS (tTest (tOp (rNeP K) (tCB (rRepr K) (tCons (tCall (spP R_rj) [] E0 (tCons (tVar 2) (tCons (tVar 4) (tCons (tVar 11) (tCons (tVar 10) tNil))))) tNil)) (tCB (rRepr K) (tCons (tCall (spP R_rj) [] E0 (tCons (tVar 2) (tCons (tVar 4) (tCons (tVar 11) (tCons (tVar 10) tNil))))) tNil))))
      (tRet (tC (.bl false)))
      tNext))
    (tSeq (tAsg (tOrT K (tLc (iRng1 (tCons (tCB (Pu.rLen K) (tCons (tVar 2) tNil)) tNil)) (gName 17) (tTest (tOp (rEqP K) (tCall (spS R_draw) [] E0 (tCons (tVar 1) (tCons (tVar 0) (tCons (tC (.int 2)) tNil)))) (tC (.int 0)))) (tVar 17) [17]) (tLst (tCons (tC (.int 0)) tNil))) (gName 16))
    (tSeq (tAsg (tLst tNil) (gName 18))
    (tSeq (tFor (iList K (tVar 4)) (gName 19)
      (tSeq (tAsg (tLc (iList K (tVar 16)) (gName 17) tYes (tCall (spP R_way) [] E0 (tCons (tOp (rIxA K) (tVar 2) (tVar 17)) (tCons (tVar 19) tNil))) [17]) (gName 20))
    (tDrop (tBM K "list" rAppend (tVar 18) (tCons (tOp (rIxA K) (tVar 16) (tBM K "list" (rIndexD K) (tVar 20) (tCons (tCB (rMnD K) (tCons (tVar 20) tNil)) tNil))) tNil)))))
    (tSeq (tIfS (tTest (tOp (rNeP K) (tCall (spP R_near) [] E0 (tCons (tVar 2) (tCons (tVar 4) (tCons (tVar 16) tNil)))) (tVar 18)))
      (tRet (tC (.bl false)))
      tNext)
    (tSeq (tAsg (tLst tNil) (gName 21))
    (tSeq (tFor (iRng1 (tCons (tC (.int 10)) tNil)) (gName 22)
      (tAsg (tOp (rPlus K) (tVar 21) (tLc (iRng1 (tCons (tC (.int 10)) tNil)) (gName 23) tYes (tTup (tCons (tCB (rSum K) (tCons (tLc (iList K (tVar 4)) (gName 19) tYes (tCall (spP R_way) [] E0 (tCons (tTup (tCons (tVar 22) (tCons (tVar 23) tNil))) (tCons (tVar 19) tNil))) [19]) tNil)) (tCons (tTup (tCons (tVar 22) (tCons (tVar 23) tNil))) tNil))) [23])) (gName 21)))
    (tRet (tAndV (tOp (rEqP K) (tCall (spP R_mid) [] E0 (tCons (tVar 4) tNil)) (tTup (tCons (tOp (rIxA K) (tCB (rMnD K) (tCons (tVar 21) tNil)) (tC (.int 1))) (tCons (tOp (rIxA K) (tCB (rMnD K) (tCons (tVar 21) tNil)) (tC (.int 0))) tNil)))) (tOp (rEqP K) (tCB (rRepr K) (tCons (tLst (tCons (tVar 2) (tCons (tVar 4) tNil))) tNil)) (tVar 5))))))))))))))))))

/-- a list, or another one if it is empty -/
theorem ex_orTL {K : PySem.W.Frag} {ρ : Pu.Env} {ta tb : TE} {Q : D → Pu.Env → Prop} (h : EX ta ρ fun d ρ1 => ∃ ds, d = .list ds ∧ (ds ≠ [] → Q (.list ds) ρ1) ∧ (ds = [] → EX tb ρ1 Q)) : EX (tOrT K ta tb) ρ Q := fun B ad σ F H w Z z =>
  h B ad σ F H w _ fun d ρ1 v F1 H1 q1 p1 r1 => by
    obtain ⟨ds, rfl, k1, k2⟩ := q1
    have rr := r1
    obtain ⟨a, xs, rfl, h1, h2⟩ := r1.lst_inv
    have e := h2.len
    refine ⟨!ds.isEmpty, .inl ⟨xs, sqL_rd h1 p1.wa.gr.fh, ?_⟩, ?_⟩
    · cases xs <;> cases ds <;> simp at e <;> rfl
    · cases ds with
      | nil =>
        show tb σ H1 Z
        exact k2 rfl B ad σ F1 H1 p1.wa Z fun d ρ' v F' H' q p r => z d ρ' v F' H' q (p1.trans p) r
      | cons x ds =>
        show Z (.ref a) H1
        exact z _ ρ1 _ F1 H1 (k1 (by simp)) p1 rr
def keepD (sp rk : List Pr) : D := .list [.list (sp.map encP), .list (rk.map encP)]
theorem sh_keep {sp rk : List Pr} (rg : Rg sp rk) : Sh 1000000 (keepD sp rk) := by
  have one : ∀ l : List Pr, l.length ≤ 10 → (∀ p ∈ l, (0 ≤ p.1 ∧ p.1 < 10) ∧ 0 ≤ p.2 ∧ p.2 < 10) → Sh (10 * (2 * 2002 + 4 + 2) + 4) (.list (l.map encP)) := fun l hl h => sh_list (sh_map fun s hs => by
    obtain ⟨h1, h2⟩ := h s hs
    exact sh_tup (m := 2) (sh_cons (sh_int (by omega)) (sh_cons (sh_int (by omega)) sh_nil)) (by simp)) (by rw [List.length_map]; omega)
  exact (sh_list (m := 2) (sh_cons (one sp (by have := rg.sn; omega) rg.sb) (sh_cons (one rk rg.rn rg.rb) sh_nil)) (by simp)).up (by decide)
theorem keep_deep (sp rk : List Pr) : (keepD sp rk).depth ≤ 60 := by
  have a := pairs_dp sp
  have b := pairs_dp rk
  simp only [keepD, PyData.depth, PyData.depthAll]
  omega
theorem mid_deep (rk : List Pr) : (midD rk).depth ≤ 60 := by simp [midD, encP, PyData.depth, PyData.depthAll]
theorem sums_D (rk : List Pr) (x : Int) : (((rngI 0 10).filter fun _ => true).map fun y => encM (sumW rk (x, y), (x, y))) = ((rngI 0 10).map fun y => (sumW rk (x, y), (x, y))).map encM := by rw [filt_all, List.map_map]; rfl
def sumsK (rk : List Pr) (k : Nat) : List Mt := ((rngI 0 k).flatMap fun x => (rngI 0 10).map fun y => (sumW rk (x, y), (x, y)))
theorem sumsK_succ (rk : List Pr) (k : Nat) : sumsK rk (k + 1) = sumsK rk k ++ (rngI 0 10).map fun y => (sumW rk ((k : Int), y), ((k : Int), y)) := by
  unfold sumsK
  have : rngI 0 (k + 1) = rngI 0 k ++ [(k : Int)] := by
    unfold rngI
    rw [List.range_succ, List.map_append]
    simp
  rw [this, List.flatMap_append, List.flatMap_cons, List.flatMap_nil, List.append_nil]
theorem sumsK_10 (rk : List Pr) : sumsK rk 10 = sumsL rk := by
  unfold sumsK sumsL allP
  rw [List.map_flatMap]
  simp only [List.map_map]
  rfl
theorem sumsK_len (rk : List Pr) : ∀ k, (sumsK rk k).length = 10 * k
  | 0 => rfl
  | k + 1 => by
    rw [sumsK_succ, List.length_append, sumsK_len rk k, List.length_map, rngI_len]
    omega
theorem sx_tail3 (K : PySem.W.Frag) (Z : D → Prop) (z : Z (.bool true)) {sp rk : List Pr} (rg : Rg sp rk) {ch : List Nat} (co : ChOk sp ch) : SX (T_tail3 K) [.emp, .emp, .val (.list (sp.map encP)), .emp, .val (.list (rk.map encP)), .val (.str (keepD sp rk).shown), .emp, .emp, .emp, .emp, .emp, .emp, .emp, .emp, .emp, .emp, .val (natsD ch), .emp, .emp, .emp, .emp, .emp, .emp, .emp] { nx := fun _ => Z .none, rt := fun d _ => Z d } := by
  unfold T_tail3
  obtain ⟨s1, sn, r1, rn, sb, rb⟩ := id rg
  have rne : rk ≠ [] := List.length_pos_iff.mp (by omega)
  have cl := co.len
  refine sx_seq (sx_asgO (eo_lst ?_))
  walk_at "es"
  refine sx_for (J := [19]) (ei_list ?_)
  walk_at "es"
  refine ⟨fun i ρ' => ρ' = [.emp, .emp, .val (.list (sp.map encP)), .emp, .val (.list (rk.map encP)), .val (.str (keepD sp rk).shown), .emp, .emp, .emp, .emp, .emp, .emp, .emp, .emp, .emp, .emp, .val (natsD ch), .emp, .own ((nearL sp (rk.take i) ch).map fun k : Nat => .int (k : Int)), .emp, .emp, .emp, .emp, .emp], rfl, ?_, ?_⟩
  · rintro i dd ρ' hd0 rfl
    obtain ⟨q, hq, rfl⟩ := map_at hd0
    have hi := (List.getElem?_eq_some_iff.mp hq).1
    have sn' : nearL sp (rk.take (i + 1)) ch = nearL sp (rk.take i) ch ++ [nearF sp ch q] := by
      rw [take_snoc' hq]
      unfold nearL
      rw [List.map_append]
      rfl
    obtain ⟨m1, m2, m3⟩ := near_min co q
    have wl : (waysF sp ch q).length = ch.length := by unfold waysF; rw [List.length_map]
    have wp : 0 < (waysF sp ch q).length := by rw [wl]; exact List.length_pos_iff.mpr co.ne
    have ac : atI (ch.map fun k : Nat => PyData.int (k : Int)) (((waysF sp ch q).idxOf (foldMin (waysF sp ch q)) : Nat) : Int) = some (.int (nearF sp ch q : Int)) := by
      rw [atI_map (0 : Nat) (by omega) (by omega), Int.toNat_natCast]
      rfl
    refine sg_name (by simp) ?_
    unfold natsD
    walk_at "w"
    refine sx_seq (sx_asg (ex_of (eo_lcP (α := Nat) (fun _ => true) (fun k => .int (wayF (spAt sp k) q)) (ei_list ?_))))
    walk_at "es"
    refine ⟨by omega, fun i hi => by simp at hi; subst hi; rfl, fun k hk => sg_name (by simp) ⟨rfl, ?_⟩, ?_⟩
    · walk_at "w"
      refine et_yes ⟨rfl, rfl, fun _ => ?_⟩
      walk_at "es"
      refine opd_ixL (sp_D (co.lt k hk)) ?_
      walk_at "es"
      exact ⟨spAt sp k, q, rfl, rfl, rfl⟩
    rw [filt_all, show (ch.map fun k => PyData.int (wayF (spAt sp k) q)) = (waysF sp ch q).map .int by unfold waysF; rw [List.map_map]; rfl]
    refine nx_seq ?_
    walk_at "w"
    refine sx_app rfl ?_
    walk_at "es"
    refine cbd_minI wp ?_
    walk_at "es"
    refine mtd_idxI m2 ?_
    walk_at "es"
    refine opd_ixL ac ?_
    refine ⟨_, rfl, by unfold nearL; rw [List.length_map, List.length_map, List.length_take]; omega, ?_⟩
    walk_at "w"
    refine ⟨_, ?_, rfl⟩
    rw [sn', List.map_append]
    walk_at "le"
  rintro ρ' rfl
  rw [List.length_map, List.take_length]
  refine nx_seq (sx_freeze 18 rfl ?_)
  walk_at "w"
  refine sx_seq (sx_if (et_val false ?_ ?_))
  · walk_at "es"
    refine ⟨sp, rk, ch, rfl, rg, co, ?_⟩
    walk_at "es"
    exact opd_neSelf (d := natsD (nearL sp rk ch)) (nats_deep _) ⟨_, rfl, rfl, rfl⟩
  refine ⟨(fun q => by cases q), fun _ => sx_next (nx_seq ?_)⟩
  refine sx_seq (sx_asg (ex_of (eo_lst ?_)))
  walk_at "es"
  refine sx_for (J := [22]) (ei_rng1 ?_)
  walk_at "es"
  refine ⟨by omega, fun k ρ' => ρ' = [.emp, .emp, .val (.list (sp.map encP)), .emp, .val (.list (rk.map encP)), .val (.str (keepD sp rk).shown), .emp, .emp, .emp, .emp, .emp, .emp, .emp, .emp, .emp, .emp, .val (natsD ch), .emp, .val (natsD (nearL sp rk ch)), .emp, .emp, .val (.list ((sumsK rk k).map encM)), .emp, .emp], rfl, ?_, ?_⟩
  · rintro k dd ρ' hd0 rfl
    obtain ⟨hk, rfl⟩ := rng_at hd0
    rw [Int.zero_add]
    have hk : k < 10 := hk
    have kl := sumsK_len rk k
    refine sg_name (by simp) ?_
    walk_at "w"
    refine sx_asg ?_
    walk_at "es"
    refine ex_of (eo_lcP (α := Int) (fun _ => true) (fun y => encM (sumW rk ((k : Int), y), ((k : Int), y))) (ei_rng1 ?_))
    walk_at "es"
    refine ⟨by omega, rngI 0 (Int.toNat 10), _, rfl, by rw [rngI_len]; decide, fun i hi => by simp at hi; subst hi; rfl, fun y hy => sg_name (by simp) ⟨rfl, ?_⟩, ?_⟩
    · walk_at "w"
      refine et_yes ⟨rfl, rfl, fun _ => ?_⟩
      walk_at "es"
      refine ex_of (eo_lcP (α := Pr) (fun _ => true) (fun p => .int (wayF ((k : Int), y) p)) (ei_list ?_))
      walk_at "es"
      refine ⟨by omega, fun i hi => by simp at hi; rcases hi with rfl | rfl <;> rfl, fun p hp => sg_name (by simp) ⟨rfl, ?_⟩, ?_⟩
      · walk_at "w"
        refine et_yes ⟨rfl, rfl, fun _ => ?_⟩
        walk_at "es"
        exact ⟨((k : Int), y), p, rfl, rfl, rfl⟩
      rw [filt_all, show (rk.map fun p => PyData.int (wayF ((k : Int), y) p)) = (rk.map (wayF ((k : Int), y))).map .int by rw [List.map_map]; rfl]
      walk_at "es"
      exact ⟨rfl, rfl⟩
    rw [show rngI 0 (Int.toNat 10) = rngI 0 10 from rfl, sums_D]
    refine opd_plusL (by rw [List.length_map, List.length_map, List.length_map, kl, rngI_len]; omega) ?_
    refine ⟨_, ?_, rfl⟩
    rw [sumsK_succ, List.map_append]
    walk_at "le"
  rintro ρ' rfl
  rw [show ((rngI 0 (Int.toNat 10)).map PyData.int).length = 10 from rfl, sumsK_10]
  obtain ⟨M1, M2⟩ := mid_least rne rb
  refine nx_seq ?_
  walk_at "es"
  refine ⟨rk, rfl, rne, by omega, ?_⟩
  walk_at "es"
  refine cbd_minM M1 M2 ?_
  unfold encM
  walk_at "es"
  refine cbd_minM M1 M2 ?_
  unfold encM
  walk_at "es"
  rw [show PyData.tuple [encP (plcF rk), .int (sumW rk (plcF rk))] = midD rk from rfl]
  refine opd_eqSelf (mid_deep rk) ?_
  refine ⟨_, rfl, fun _ => ?_, (fun q => by cases q)⟩
  walk_at "es"
  refine cbd_repr (d := keepD sp rk) (sh_keep rg) (by decide) (keep_deep sp rk) ?_
  walk_at "es"
  simp only [decide_true]
  exact z
theorem sx_tail2 (K : PySem.W.Frag) (Z : D → Prop) (z : Z (.bool true)) {ns : List Int} {S0 : Stt} {sp rk : List Pr} (ok0 : Ok2 S0) (rg : Rg sp rk) : SX (T_tail2 K) [.val (.list (ns.map .int)), .st S0, .val (.list (sp.map encP)), .emp, .val (.list (rk.map encP)), .val (.str (keepD sp rk).shown), .emp, .emp, .emp, .emp, .emp, .emp, .emp, .emp, .emp, .emp, .emp, .emp, .emp, .emp, .emp, .emp, .emp, .emp] { nx := fun _ => Z .none, rt := fun d _ => Z d } := by
  unfold T_tail2
  obtain ⟨s1, sn, r1, rn, sb, rb⟩ := id rg
  have rne : rk ≠ [] := List.length_pos_iff.mp (by omega)
  have tail3 := fun (ch : List Nat) (co : ChOk sp ch) => @sx_tail3 K Z z sp rk rg ch co
  change SX (tSeq _ (T_tail3 K)) _ _
  generalize T_tail3 K = T at tail3 ⊢
  refine sx_seq (sx_asg (ex_orTL (ex_of (eo_lc (ei_rng1 ?_)))))
  walk_at "es"
  rw [List.length_map, Int.toNat_natCast]
  refine ⟨by omega, fun k acc ρ' => ∃ (ch : List Nat) (S : Stt), (ch.length ≤ k ∧ ch.Pairwise (· < ·) ∧ ∀ o ∈ ch, o < k) ∧ Ok2 S ∧ acc = (ch.map fun k : Nat => .int (k : Int)) ∧ ρ' = [.val (.list (ns.map .int)), .st S, .val (.list (sp.map encP)), .emp, .val (.list (rk.map encP)), .val (.str (keepD sp rk).shown), .emp, .emp, .emp, .emp, .emp, .emp, .emp, .emp, .emp, .emp, .emp, .emp, .emp, .emp, .emp, .emp, .emp, .emp], ⟨[], S0, ⟨Nat.le_refl _, List.Pairwise.nil, by simp⟩, ok0, rfl, rfl⟩, ?_, ?_⟩
  · rintro k dd acc ρ' hd0 ⟨ch, S, ⟨hl, ha, hb⟩, ok, rfl, rfl⟩
    obtain ⟨hk, rfl⟩ := rng_at hd0
    refine ⟨(fun i hi => by simp at hi; subst hi; rfl), by rw [List.length_map]; omega, sg_name (by simp) ?_⟩
    walk_at "w"
    walk_at "es"
    refine ⟨ns, 2, rfl, by omega, ok, fun x S1 x0 x1 ok1 => ?_⟩
    walk_at "es"
    refine ⟨fun _ => ?_, fun _ => ?_⟩
    · walk_at "es"
      rw [Int.zero_add]
      refine ⟨ch ++ [k], S1, ⟨by simp; omega, List.pairwise_append.mpr ⟨ha, by simp, fun a h1 b h2 => by rw [List.mem_singleton] at h2; have := hb a h1; omega⟩, fun o ho => ?_⟩, ok1, by rw [List.map_append]; rfl, rfl⟩
      rcases List.mem_append.mp ho with q | q
      · have := hb o q; omega
      · rw [List.mem_singleton] at q; omega
    · exact ⟨ch, S1, ⟨by omega, ha, fun o ho => by have := hb o ho; omega⟩, ok1, rfl, rfl⟩
  rintro acc ρ' ⟨ch, S1, ⟨hl, ha, hb⟩, ok1, rfl, rfl⟩
  rw [rng_size] at hl hb
  refine ⟨_, rfl, fun hne => ?_, fun he => ?_⟩
  · refine nx_seq ?_
    walk_at "w"
    refine sx_weak ?_ (tail3 ch ⟨fun e => hne (by rw [e]; rfl), ha, hb, by omega⟩)
    walk_at "le"
  · refine ex_of (eo_lst ?_)
    walk_at "es"
    walk_at "w"
    refine sx_weak ?_ (tail3 [0] ⟨by simp, by simp, fun k hk => by (rw [List.mem_singleton] at hk; omega), by simp⟩)
    walk_at "le"
end Law_k41
namespace Law_k41
open PySem L2 Pu
local macro_rules | `(tactic| walk_at "e") => `(tactic| first
  | ((with_reducible refine nx_seq ?_); (try dsimp only [List.set_cons_succ, List.set_cons_zero]))
  | ((with_reducible refine ex_vr ?_); dsimp only [VQ, List.set_cons_succ, List.set_cons_zero, List.getElem?_cons_zero, List.getElem?_cons_succ]; (fail_if_success (with_reducible show False)))
  | (with_reducible refine sx_seq ?_)
  | (with_reducible refine sx_if ?_)
  | (with_reducible refine sx_next ?_)
  | (with_reducible refine sx_ret ?_)
  | ((fail_if_success (with_reducible refine sx_asgO (eo_lst ?_))); (with_reducible refine sx_asg ?_))
  | (with_reducible refine ex_int ?_)
  | (with_reducible refine ex_str ?_)
  | (with_reducible refine ex_bl ?_)
  | (with_reducible refine ex_non ?_)
  | (with_reducible refine ex_op ?_)
  | (with_reducible refine ex_un ?_)
  | (with_reducible refine ex_chain ?_)
  | (with_reducible refine ex_call ?_)
  | (with_reducible refine ex_isT ?_)
  | (with_reducible refine ex_cb ?_)
  | (with_reducible refine ex_sl ?_)
  | (with_reducible refine ex_tup ?_)
  | (with_reducible refine ex_if ?_)
  | (with_reducible refine ex_of (eo_lst ?_))
  | (with_reducible refine ex_notV ?_)
  | (with_reducible refine ea_nil ?_)
  | (with_reducible refine ea_cons ?_)
  | (with_reducible refine ep_no ?_)
  | (with_reducible refine ep_some ?_)
  | (with_reducible refine et_test ?_)
  | (with_reducible refine et_B ?_)
  | (with_reducible refine et_ch3 ?_)
  | (with_reducible refine et_and ?_)
  | (with_reducible refine et_or ?_)
  | (with_reducible refine et_not ?_)
  | (with_reducible refine et_yes ?_)
  | (with_reducible refine et_truL ?_)
  | (with_reducible refine opd_plusI ?_)
  | (with_reducible refine opd_I0 ?_)
  | (with_reducible refine opd_B0 ?_)
  | (with_reducible refine opd_eqI ?_)
  | (with_reducible refine opd_neI ?_)
  | (with_reducible refine opd_eqS ?_)
  | (with_reducible refine opd_neS ?_)
  | (with_reducible refine opd_is ?_)
  | (with_reducible refine opd_isnt ?_)
  | (with_reducible refine opd_ixT rfl ?_)
  | (with_reducible refine opd_ixL rfl ?_)
  | (with_reducible refine und_neg ?_)
  | (with_reducible refine cbd_lenL ?_)
  | (with_reducible refine cbd_lenT ?_)
  | (with_reducible refine cbd_min2 ?_)
  | (with_reducible refine cbd_max2 ?_)
  | (with_reducible refine cbd_abs ?_)
  | (with_reducible refine cbd_int ?_)
  | (with_reducible refine cbd_tupL ?_)
  | (with_reducible refine cbd_listL ?_)
  | (with_reducible refine cbd_listT ?_)
  | (with_reducible refine cbd_sum ?_)
  | (with_reducible refine sld_T ?_)
  | (with_reducible refine sld_L ?_)
  | (with_reducible refine ex_revL ?_)
  | (with_reducible refine ex_bmL ?_)
  | (with_reducible refine ex_andV ?_)
  | (with_reducible refine ei_list ?_)
  | (with_reducible refine ei_rng1 ?_)
  | (with_reducible refine ei_rng2 ?_)
  | (with_reducible refine ei_enum ?_)
  | (with_reducible refine ei_enumT ?_)
  | (with_reducible refine ei_zip ?_)
  | (with_reducible refine sx_par ?_)
  | (with_reducible refine Exists.intro _ (And.intro rfl ?_))
  | (with_reducible refine Exists.intro _ (Exists.intro _ (And.intro rfl ?_)))
  | ((with_reducible show EX (tCall (spS _) [] _ (tCons (tVar _) _)) _ _); refine ex_callS rfl ?_)
  | ((with_reducible refine And.intro (show (_ : Nat) ≤ 100000 from ?_) ?_); (focus (simp; done)))
  | ((with_reducible refine opd_I ?_ ?_); focus (first | omega | (show CDiv _ _; exact ⟨by omega, by omega⟩) | (show CMul _ _; first | exact Or.inl ⟨by omega, by omega⟩ | exact Or.inr ⟨by omega, by omega⟩))))
local macro_rules | `(tactic| walk_at "es") => `(tactic| repeat walk_at "e")
local macro_rules | `(tactic| walk_at "w") => `(tactic| try dsimp only [wipeE, List.foldl_cons, List.foldl_nil, List.set_cons_succ, List.set_cons_zero])
local macro_rules | `(tactic| walk_at "le") => `(tactic| repeat' first | exact LeE.nil | (refine LeE.eq rfl ?_) | (refine LeE.emp ?_) | (refine LeE.eq ?_ ?_))
local macro_rules | `(tactic| walk_at "no") => `(tactic| ((refine And.intro (fun hb => absurd hb ?_) (fun _ => ?_)); (focus (first | (exact Bool.false_ne_true) | (simp; done) | (simp; omega) | (simp only [decide_eq_true_eq]; omega)))))
local macro_rules | `(tactic| walk_at "yes") => `(tactic| ((refine And.intro (fun _ => ?_) (fun hb => absurd hb ?_)); (rotate_left); (focus (first | (exact Bool.noConfusion) | (simp; done) | (simp; omega) | (simp only [decide_eq_false_iff_not]; omega)))))
local macro_rules | `(tactic| walk_at "ei") => `(tactic| repeat ((fail_if_success (with_reducible show SX (tSeq (tIfS _ _ _) _) _ _)); (fail_if_success (with_reducible show SX (tIfS _ _ _) _ _)); (fail_if_success (with_reducible show SX (tSeq (tAsg (tIf _ _ _) _) _) _ _)); walk_at "e"))
local macro_rules | `(tactic| walk_at "tv") => `(tactic| repeat' first | walk_at "e" | ((with_reducible show (_ = true → _) ∧ (_ = false → _)); refine And.intro (fun _ => ?_) (fun _ => ?_)))
/-! ### the law's middle -/
inductive OneC (d : D) : Prop
  | non : d = .none → OneC d
  | one (s : String) : (s = "reach" ∨ s = "spots" ∨ s = "why" ∨ s = "far") → d = wordD s → OneC d
theorem sh_one {d : D} (h : OneC d) : Sh 1000000 d := by
  cases h with
  | non e => rw [e]; exact sh_non.up (by decide)
  | one s h e =>
    rw [e]
    rcases h with rfl | rfl | rfl | rfl <;> exact (sh_tup (m := 1) (sh_cons (sh_str (by decide +kernel) (by decide +kernel) (by decide +kernel)) sh_nil) (by simp)).up (by decide)
theorem one_deep {d : D} (h : OneC d) : d.depth ≤ 60 := by
  cases h with
  | non e => rw [e]; simp [PyData.depth]
  | one s h e => rw [e]; simp [wordD, PyData.depth, PyData.depthAll]
theorem rj_one (sp rk : List Pr) (c : Int) (T : LT) : OneC (rjD sp rk c T) := by
  unfold rjD
  split
  · split
    · split
      · split
        · exact .non rfl
        · exact .one "why" (by simp) rfl
      · split
        · exact .one "why" (by simp) rfl
        · cases T.why with
          | none => exact .one "why" (by simp) rfl
          | some W =>
            show OneC (if isN (fjD sp rk (lessR sp rk T.reach) W) = true then .none else wordD "why")
            split
            · exact .non rfl
            · exact .one "why" (by simp) rfl
    · exact .one "spots" (by simp) rfl
  · exact .one "reach" (by simp) rfl
theorem sh_fj {sp rk : List Pr} (rg : Rg sp rk) (r : Int) (T : FT) : Sh 1000000 (fjD sp rk r T) := by
  have sc := rg_sc rg r
  have rn := rg.rn
  cases T with
  | far k =>
    show Sh 1000000 (if 0 ≤ k ∧ k < rk.length ∧ bareB sp rk r k.toNat = true then .none else wordD "far")
    split
    · exact sh_one (.non rfl)
    · exact sh_one (.one "far" (by simp) rfl)
  | spots row tr =>
    show Sh 1000000 (if bareF sp rk r = [] then judD (onesF sp.length) (dmsR sp rk r) (.least row (row.length : Int) tr) else .tuple [.str (Str.ofString "rack"), .int ((bareF sp rk r).getD 0 0 : Nat)])
    split
    · exact sh_jud sc _
    · rename_i h
      have := (bare_first h).1
      exact (sh_tup (m := 2) (sh_cons (sh_str (by decide +kernel) (by decide +kernel) (by decide +kernel)) (sh_cons (sh_int (by omega)) sh_nil)) (by simp)).up (by decide)
theorem fj_deep (sp rk : List Pr) (r : Int) (T : FT) : (fjD sp rk r T).depth ≤ 60 := by
  cases T with
  | far k =>
    show (if 0 ≤ k ∧ k < rk.length ∧ bareB sp rk r k.toNat = true then .none else wordD "far").depth ≤ 60
    split
    · simp [PyData.depth]
    · simp [wordD, PyData.depth, PyData.depthAll]
  | spots row tr =>
    show (if bareF sp rk r = [] then judD (onesF sp.length) (dmsR sp rk r) (.least row (row.length : Int) tr) else .tuple [.str (Str.ofString "rack"), .int ((bareF sp rk r).getD 0 0 : Nat)]).depth ≤ 60
    split
    · exact jud_deep _ _ (.least row (row.length : Int) tr)
    · simp [PyData.depth, PyData.depthAll]
theorem rA_inj {sp rk : List Pr} {i j : Nat} (hi : i < (rchL sp rk).length) (hj : j < (rchL sp rk).length) (h : rA sp rk i = rA sp rk j) : i = j := by
  rcases Nat.lt_trichotomy i j with q | q | q
  · have := rA_lt q hj; omega
  · exact q
  · have := rA_lt q hi; omega
theorem rA_idx {sp rk : List Pr} {x : Int} (m : x ∈ rchL sp rk) : rA sp rk ((rchL sp rk).idxOf x) = x := by
  unfold rA
  rw [List.getD_eq_getElem?_getD, List.getElem?_eq_getElem (List.idxOf_lt_length_iff.mpr m)]
  exact List.getElem_idxOf _
theorem idx_rA {sp rk : List Pr} {h : Nat} (hh : h < (rchL sp rk).length) : (rchL sp rk).idxOf (rA sp rk h) = h :=
  rA_inj (List.idxOf_lt_length_iff.mpr (rA_mem hh)) hh (rA_idx (rA_mem hh))
theorem lr_ok {sp rk : List Pr} (rg : Rg sp rk) {c : Int} (hc : c ≤ 50) {h : Nat} (B : BestH sp rk c h) : rjD sp rk c (lrT sp rk h) = .none := by
  have rp := rch_pos rg
  have f := of_decide_eq_true B.ok
  have F := few_ok rg (rA sp rk h)
  obtain ⟨row, tr, e1, e2⟩ := F.hs (by omega)
  have ok := F.ok
  have e3 : okHB sp rk c (rA sp rk h) (fewT sp rk (rA sp rk h)) = true := by
    rw [e1] at ok ⊢
    show (!decide (c < (row.length : Int)) && isN (fjD sp rk (rA sp rk h) (.spots row tr))) = true
    rw [ok, decide_eq_false (by omega)]
    rfl
  show (if rA sp rk h ∈ rchL sp rk then (if okHB sp rk c (rA sp rk h) (fewT sp rk (rA sp rk h)) = true then (if rA sp rk h = rA sp rk 0 then (if (if h = 0 then none else some (fewT sp rk (rA sp rk (h - 1)))).isNone = true then .none else wordD "why") else if whyB c (if h = 0 then none else some (fewT sp rk (rA sp rk (h - 1)))) = true then wordD "why" else endF sp rk (rA sp rk h) (if h = 0 then none else some (fewT sp rk (rA sp rk (h - 1))))) else wordD "spots") else wordD "reach" : D) = .none
  rw [if_pos (rA_mem B.lt), if_pos e3]
  by_cases h0 : h = 0
  · subst h0
    rw [if_pos rfl, if_pos rfl]
    rfl
  · have ne : ¬ rA sp rk h = rA sp rk 0 := fun e => h0 (rA_inj B.lt rp e)
    have nf := of_decide_eq_false (B.lo.resolve_left h0)
    have G := few_ok rg (rA sp rk (h - 1))
    rw [if_neg ne, if_neg h0]
    have wb : whyB c (some (fewT sp rk (rA sp rk (h - 1)))) = false := by
      by_cases h99 : lstN sp rk (rA sp rk (h - 1)) < 99
      · obtain ⟨row2, tr2, g1, g2⟩ := G.hs h99
        rw [g1]
        exact decide_eq_false (by omega)
      · obtain ⟨k, g1⟩ := G.fa h99
        rw [g1]
        rfl
    rw [if_neg (by rw [wb]; decide)]
    show (if isN (fjD sp rk (lessR sp rk (rA sp rk h)) (fewT sp rk (rA sp rk (h - 1)))) = true then .none else wordD "why" : D) = .none
    have el : lessR sp rk (rA sp rk h) = rA sp rk (h - 1) := by unfold lessR; rw [idx_rA B.lt]
    rw [el, G.ok]
    rfl
theorem first_fit {sp rk : List Pr} {c : Int} {h : Nat} (B : BestH sp rk c h) : ∃ rest, (rchL sp rk).filter (fun x => decide (lstN sp rk x ≤ c)) = rA sp rk h :: rest := by
  have hl := B.lt
  have e : rchL sp rk = (rchL sp rk).take h ++ rA sp rk h :: (rchL sp rk).drop (h + 1) := by
    have t := List.take_append_drop h (rchL sp rk)
    rw [List.drop_eq_getElem_cons hl] at t
    have g : rA sp rk h = (rchL sp rk)[h] := by unfold rA; rw [List.getD_eq_getElem?_getD, List.getElem?_eq_getElem hl]; rfl
    rw [g]
    exact t.symm
  have nil : ((rchL sp rk).take h).filter (fun x => decide (lstN sp rk x ≤ c)) = [] := List.filter_eq_nil_iff.mpr fun x hx => by
    obtain ⟨i, hi, rfl⟩ := List.getElem_of_mem hx
    rw [List.length_take] at hi
    have b := B.below (i := i) (by omega)
    unfold feas at b
    have g : rA sp rk i = ((rchL sp rk).take h)[i]'(by rw [List.length_take]; omega) := by
      rw [List.getElem_take]
      unfold rA
      rw [List.getD_eq_getElem?_getD, List.getElem?_eq_getElem (by omega)]
      rfl
    rw [← g, b]
    decide
  refine ⟨((rchL sp rk).drop (h + 1)).filter fun x => decide (lstN sp rk x ≤ c), ?_⟩
  have ok : decide (lstN sp rk (rA sp rk h) ≤ c) = true := B.ok
  rw [e, List.filter_append, nil, List.nil_append, List.filter_cons, if_pos ok, ← e]
theorem sx_tail1 (K : PySem.W.Frag) (Z : D → Prop) (z : Z (.bool true)) {ns : List Int} {S0 : Stt} {sp rk : List Pr} (ok0 : Ok2 S0) (rg : Rg sp rk) (Tt : FT) (sT : SaneF Tt) : SX (T_tail1 K) [.val (.list (ns.map .int)), .st S0, .val (.list (sp.map encP)), .emp, .val (.list (rk.map encP)), .val (.str (keepD sp rk).shown), .emp, .emp, .val (ftD Tt), .emp, .emp, .emp, .emp, .emp, .emp, .emp, .emp, .emp, .emp, .emp, .emp, .emp, .emp, .emp] { nx := fun _ => Z .none, rt := fun d _ => Z d } := by
  have tail2 := fun S ok => @sx_tail2 K Z z ns S sp rk ok rg
  unfold T_tail1
  change SX (tSeq _ (tSeq _ (tSeq _ (tSeq _ (tSeq (tIfS _ _ _) (tSeq _ (tSeq (tFor _ _ _) (T_tail2 K)))))))) _ _
  generalize T_tail2 K = T at tail2 ⊢
  have rl : (rchL sp rk).length ≤ 40 := by
    have := List.length_filter_le (fun x => decide (x ∈ allW sp rk)) (rngI 0 40)
    rw [rngI_len] at this
    exact this
  walk_at "es"
  refine ⟨ns, 3, rfl, by omega, ok0, fun c0 S1 a0 a1 ok1 => ?_⟩
  walk_at "es"
  have hc : 1 ≤ 1 + c0 ∧ 1 + c0 ≤ 50 := by omega
  generalize 1 + c0 = c at hc ⊢
  refine ⟨sp, rk, rfl, rg, ?_⟩
  walk_at "es"
  refine ex_of (eo_lcP (α := Int) (fun x => decide (lstN sp rk x ≤ c)) (fun x => .int x) (ei_list ?_))
  walk_at "es"
  refine ⟨by omega, fun i hi => by simp at hi; subst hi; rfl, fun x hx => sg_name (by simp) ⟨rfl, ?_⟩, ?_⟩
  · walk_at "w"
    walk_at "es"
    refine ⟨sp, rk, x, rfl, rg, ?_⟩
    walk_at "es"
    refine ⟨rfl, rfl, fun _ => ?_⟩
    walk_at "es"
    exact ⟨rfl, rfl⟩
  refine nx_seq ?_
  walk_at "w"
  refine sx_seq (sx_asg ?_)
  walk_at "es"
  refine ⟨sp, rk, c, rfl, rg, hc, fun h B => ?_⟩
  have ok := lr_ok rg hc.2 B
  obtain ⟨rest, ef⟩ := first_fit B
  rw [ef]
  have sL : SaneL (lrT sp rk h) := ⟨(few_ok rg _).sane, by
    show SaneO (if h = 0 then none else some (fewT sp rk (rA sp rk (h - 1))))
    split
    · trivial
    · exact (few_ok rg _).sane⟩
  obtain ⟨sH, sW⟩ := id sL
  refine nx_seq ?_
  walk_at "w"
  have eR : (lrT sp rk h).reach = rA sp rk h := rfl
  rw [← eR]
  generalize lrT sp rk h = L at ok sL sH sW ⊢
  unfold ltD
  refine sx_seq (sx_if (et_val false ?_ ?_))
  · walk_at "es"
    refine opd_ixL (d := .int L.reach) (by rw [atI_map (0 : Int) (by decide) (by simp)]; rfl) ?_
    walk_at "es"
    refine ⟨fun q => by simp at q, fun _ => ?_⟩
    walk_at "es"
    refine ⟨sp, rk, c, L, rfl, rg, sL, ?_⟩
    rw [ok]
    walk_at "es"
    refine ⟨(fun q => by cases q), fun _ => ?_⟩
    walk_at "es"
    refine ⟨sp, rk, c, L, rfl, rg, sL, ?_⟩
    rw [ok]
    walk_at "es"
    exact ⟨rfl, rfl⟩
  refine ⟨(fun q => by cases q), fun _ => sx_next (nx_seq ?_)⟩
  refine sx_seq (sx_asg (ex_of (eo_lst ?_)))
  walk_at "es"
  refine opd_plusT (show 1 + 2 ≤ 1000000 by decide) ?_
  walk_at "es"
  have bok : ∀ T ∈ ([⟨L.reach + 1, L.here, L.why⟩, ⟨L.reach, L.here, none⟩, ⟨L.reach, Tt, L.why⟩, ⟨L.reach, L.here, some L.here⟩, ⟨99, L.here, L.why⟩, ⟨L.reach, L.here, some (.far 0)⟩] : List LT), SaneL T := by
    intro T hT
    simp only [List.mem_cons, List.not_mem_nil, or_false] at hT
    rcases hT with rfl | rfl | rfl | rfl | rfl | rfl
    · exact ⟨sH, sW⟩
    · exact ⟨sH, trivial⟩
    · exact ⟨sT, sW⟩
    · exact ⟨sH, sH⟩
    · exact ⟨sH, sW⟩
    · exact ⟨sH, trivial⟩
  refine sx_weak (ρ' := [.val (.list (ns.map .int)), .st S1, .val (.list (sp.map encP)), .emp, .val (.list (rk.map encP)), .val (.str (keepD sp rk).shown), .emp, .emp, .emp, .val (.list (([⟨L.reach + 1, L.here, L.why⟩, ⟨L.reach, L.here, none⟩, ⟨L.reach, Tt, L.why⟩, ⟨L.reach, L.here, some L.here⟩, ⟨99, L.here, L.why⟩, ⟨L.reach, L.here, some (.far 0)⟩] : List LT).map ltD)), .emp, .val (.int c), .emp, .emp, .emp, .emp, .emp, .emp, .emp, .emp, .emp, .emp, .emp, .emp]) (by walk_at "le") ?_
  generalize ([⟨L.reach + 1, L.here, L.why⟩, ⟨L.reach, L.here, none⟩, ⟨L.reach, Tt, L.why⟩, ⟨L.reach, L.here, some L.here⟩, ⟨99, L.here, L.why⟩, ⟨L.reach, L.here, some (.far 0)⟩] : List LT) = Bs at bok ⊢
  refine sx_for (J := [10]) (ei_list ?_)
  walk_at "es"
  refine ⟨fun k ρ' => ρ' = [.val (.list (ns.map .int)), .st S1, .val (.list (sp.map encP)), .emp, .val (.list (rk.map encP)), .val (.str (keepD sp rk).shown), .emp, .emp, .emp, .val (.list (Bs.map ltD)), .emp, .val (.int c), .emp, .emp, .emp, .emp, .emp, .emp, .emp, .emp, .emp, .emp, .emp, .emp], rfl, ?_, ?_⟩
  · rintro k dd ρ' hd0 rfl
    obtain ⟨b, hb, rfl⟩ := map_at hd0
    have sB := bok b (List.mem_of_getElem? hb)
    have oc := rj_one sp rk c b
    refine sg_name (by simp) ?_
    walk_at "w"
    refine sx_if (et_val false ?_ ?_)
    · walk_at "es"
      refine ⟨sp, rk, c, b, rfl, rg, sB, ?_⟩
      walk_at "es"
      refine cbd_repr (sh_one oc) (by decide) (one_deep oc) ?_
      walk_at "es"
      refine ⟨sp, rk, c, b, rfl, rg, sB, ?_⟩
      walk_at "es"
      refine cbd_repr (sh_one oc) (by decide) (one_deep oc) ?_
      walk_at "es"
      exact ⟨by simp, rfl⟩
    refine ⟨(fun q => by cases q), fun _ => sx_next ⟨_, by walk_at "le", rfl⟩⟩
  rintro ρ' rfl
  refine nx_seq ?_
  refine sx_weak ?_ (tail2 S1 ok1)
  walk_at "le"
end Law_k41
namespace Law_k41
open PySem L2 Pu
local macro_rules | `(tactic| walk_at "e") => `(tactic| first
  | ((with_reducible refine nx_seq ?_); (try dsimp only [List.set_cons_succ, List.set_cons_zero]))
  | ((with_reducible refine ex_vr ?_); dsimp only [VQ, List.set_cons_succ, List.set_cons_zero, List.getElem?_cons_zero, List.getElem?_cons_succ]; (fail_if_success (with_reducible show False)))
  | (with_reducible refine sx_seq ?_)
  | (with_reducible refine sx_if ?_)
  | (with_reducible refine sx_next ?_)
  | (with_reducible refine sx_ret ?_)
  | ((fail_if_success (with_reducible refine sx_asgO (eo_lst ?_))); (with_reducible refine sx_asg ?_))
  | (with_reducible refine ex_int ?_)
  | (with_reducible refine ex_str ?_)
  | (with_reducible refine ex_bl ?_)
  | (with_reducible refine ex_non ?_)
  | (with_reducible refine ex_op ?_)
  | (with_reducible refine ex_un ?_)
  | (with_reducible refine ex_chain ?_)
  | (with_reducible refine ex_call ?_)
  | (with_reducible refine ex_isT ?_)
  | (with_reducible refine ex_cb ?_)
  | (with_reducible refine ex_sl ?_)
  | (with_reducible refine ex_tup ?_)
  | (with_reducible refine ex_if ?_)
  | (with_reducible refine ex_of (eo_lst ?_))
  | (with_reducible refine ex_notV ?_)
  | (with_reducible refine ea_nil ?_)
  | (with_reducible refine ea_cons ?_)
  | (with_reducible refine ep_no ?_)
  | (with_reducible refine ep_some ?_)
  | (with_reducible refine et_test ?_)
  | (with_reducible refine et_B ?_)
  | (with_reducible refine et_ch3 ?_)
  | (with_reducible refine et_and ?_)
  | (with_reducible refine et_or ?_)
  | (with_reducible refine et_not ?_)
  | (with_reducible refine et_yes ?_)
  | (with_reducible refine et_truL ?_)
  | (with_reducible refine opd_plusI ?_)
  | (with_reducible refine opd_I0 ?_)
  | (with_reducible refine opd_B0 ?_)
  | (with_reducible refine opd_eqI ?_)
  | (with_reducible refine opd_neI ?_)
  | (with_reducible refine opd_eqS ?_)
  | (with_reducible refine opd_neS ?_)
  | (with_reducible refine opd_is ?_)
  | (with_reducible refine opd_isnt ?_)
  | (with_reducible refine opd_ixT rfl ?_)
  | (with_reducible refine opd_ixL rfl ?_)
  | (with_reducible refine und_neg ?_)
  | (with_reducible refine cbd_lenL ?_)
  | (with_reducible refine cbd_lenT ?_)
  | (with_reducible refine cbd_min2 ?_)
  | (with_reducible refine cbd_max2 ?_)
  | (with_reducible refine cbd_abs ?_)
  | (with_reducible refine cbd_int ?_)
  | (with_reducible refine cbd_tupL ?_)
  | (with_reducible refine cbd_listL ?_)
  | (with_reducible refine cbd_listT ?_)
  | (with_reducible refine cbd_sum ?_)
  | (with_reducible refine sld_T ?_)
  | (with_reducible refine sld_L ?_)
  | (with_reducible refine ex_revL ?_)
  | (with_reducible refine ex_bmL ?_)
  | (with_reducible refine ex_andV ?_)
  | (with_reducible refine ei_list ?_)
  | (with_reducible refine ei_rng1 ?_)
  | (with_reducible refine ei_rng2 ?_)
  | (with_reducible refine ei_enum ?_)
  | (with_reducible refine ei_enumT ?_)
  | (with_reducible refine ei_zip ?_)
  | (with_reducible refine sx_par ?_)
  | (with_reducible refine Exists.intro _ (And.intro rfl ?_))
  | (with_reducible refine Exists.intro _ (Exists.intro _ (And.intro rfl ?_)))
  | ((with_reducible show EX (tCall (spS _) [] _ (tCons (tVar _) _)) _ _); refine ex_callS rfl ?_)
  | ((with_reducible refine And.intro (show (_ : Nat) ≤ 100000 from ?_) ?_); (focus (simp; done)))
  | ((with_reducible refine opd_I ?_ ?_); focus (first | omega | (show CDiv _ _; exact ⟨by omega, by omega⟩) | (show CMul _ _; first | exact Or.inl ⟨by omega, by omega⟩ | exact Or.inr ⟨by omega, by omega⟩))))
local macro_rules | `(tactic| walk_at "es") => `(tactic| repeat walk_at "e")
local macro_rules | `(tactic| walk_at "w") => `(tactic| try dsimp only [wipeE, List.foldl_cons, List.foldl_nil, List.set_cons_succ, List.set_cons_zero])
local macro_rules | `(tactic| walk_at "le") => `(tactic| repeat' first | exact LeE.nil | (refine LeE.eq rfl ?_) | (refine LeE.emp ?_) | (refine LeE.eq ?_ ?_))
local macro_rules | `(tactic| walk_at "no") => `(tactic| ((refine And.intro (fun hb => absurd hb ?_) (fun _ => ?_)); (focus (first | (exact Bool.false_ne_true) | (simp; done) | (simp; omega) | (simp only [decide_eq_true_eq]; omega)))))
local macro_rules | `(tactic| walk_at "yes") => `(tactic| ((refine And.intro (fun _ => ?_) (fun hb => absurd hb ?_)); (rotate_left); (focus (first | (exact Bool.noConfusion) | (simp; done) | (simp; omega) | (simp only [decide_eq_false_iff_not]; omega)))))
local macro_rules | `(tactic| walk_at "ei") => `(tactic| repeat ((fail_if_success (with_reducible show SX (tSeq (tIfS _ _ _) _) _ _)); (fail_if_success (with_reducible show SX (tIfS _ _ _) _ _)); (fail_if_success (with_reducible show SX (tSeq (tAsg (tIf _ _ _) _) _) _ _)); walk_at "e"))
local macro_rules | `(tactic| walk_at "tv") => `(tactic| repeat' first | walk_at "e" | ((with_reducible show (_ = true → _) ∧ (_ = false → _)); refine And.intro (fun _ => ?_) (fun _ => ?_)))
/-! ### the law -/
theorem sx_tail0 (K : PySem.W.Frag) (Z : D → Prop) (z : Z (.bool true)) {ns : List Int} {S0 : Stt} {sp rk : List Pr} (ok0 : Ok2 S0) (rg : Rg sp rk) (r : Int) (Tt : FT) (sT : SaneF Tt) (Ts : List FT) (hT : ∀ T ∈ Ts, SaneF T) : SX (T_tail0 K) [.val (.list (ns.map .int)), .st S0, .val (.list (sp.map encP)), .emp, .val (.list (rk.map encP)), .val (.str (keepD sp rk).shown), .val (.int r), .emp, .val (ftD Tt), .val (.list (Ts.map ftD)), .emp, .emp, .emp, .emp, .emp, .emp, .emp, .emp, .emp, .emp, .emp, .emp, .emp, .emp] { nx := fun _ => Z .none, rt := fun d _ => Z d } := by
  have tail1 := @sx_tail1 K Z z ns S0 sp rk ok0 rg Tt sT
  unfold T_tail0
  change SX (tSeq _ (T_tail1 K)) _ _
  generalize T_tail1 K = T at tail1 ⊢
  refine sx_seq (sx_for (J := [10]) (ei_list ?_))
  walk_at "es"
  refine ⟨fun k ρ' => ρ' = [.val (.list (ns.map .int)), .st S0, .val (.list (sp.map encP)), .emp, .val (.list (rk.map encP)), .val (.str (keepD sp rk).shown), .val (.int r), .emp, .val (ftD Tt), .val (.list (Ts.map ftD)), .emp, .emp, .emp, .emp, .emp, .emp, .emp, .emp, .emp, .emp, .emp, .emp, .emp, .emp], rfl, ?_, ?_⟩
  · rintro k dd ρ' hd0 rfl
    obtain ⟨b, hb, rfl⟩ := map_at hd0
    have sB := hT b (List.mem_of_getElem? hb)
    refine sg_name (by simp) ?_
    walk_at "w"
    refine sx_if (et_val false ?_ ?_)
    · walk_at "es"
      refine ⟨sp, rk, r, b, rfl, rg, sB, ?_⟩
      walk_at "es"
      refine cbd_repr (sh_fj rg r b) (by decide) (fj_deep sp rk r b) ?_
      walk_at "es"
      refine ⟨sp, rk, r, b, rfl, rg, sB, ?_⟩
      walk_at "es"
      refine cbd_repr (sh_fj rg r b) (by decide) (fj_deep sp rk r b) ?_
      walk_at "es"
      exact ⟨by simp, rfl⟩
    refine ⟨(fun q => by cases q), fun _ => sx_next ⟨_, by walk_at "le", rfl⟩⟩
  rintro ρ' rfl
  refine nx_seq ?_
  refine sx_weak ?_ tail1
  walk_at "le"
def PB (p : Pr) : Prop := (0 ≤ p.1 ∧ p.1 < 10) ∧ 0 ≤ p.2 ∧ p.2 < 10
theorem all_snoc {α : Type} {P : α → Prop} {xs : List α} {x : α} (h : ∀ y ∈ xs, P y) (hx : P x) : ∀ y ∈ xs ++ [x], P y := fun y hy => by
  rcases List.mem_append.mp hy with q | q
  · exact h y q
  · rw [List.mem_singleton.mp q]; exact hx
theorem rng_D (n : Nat) : (rngI 0 n).map PyData.int = (List.range n).map fun k : Nat => PyData.int (k : Int) := by
  unfold rngI
  rw [List.map_map]
  exact List.map_congr_left fun k _ => by simp only [Function.comp, Int.zero_add]
theorem sx_law (K : PySem.W.Frag) (vs : List D) (Z : D → Prop) (h : R_law vs Z) : SX (T_law K R_draw R_lst R_few R_rch R_lr R_near R_fj R_fj R_rj R_rj R_way R_mid) (startE N_law vs) { nx := fun _ => Z .none, rt := fun d _ => Z d } := by
  obtain ⟨ns, rfl, z⟩ := h
  show SX (T_law K R_draw R_lst R_few R_rch R_lr R_near R_fj R_fj R_rj R_rj R_way R_mid) [.val (.list (ns.map .int)), .emp, .emp, .emp, .emp, .emp, .emp, .emp, .emp, .emp, .emp, .emp, .emp, .emp, .emp, .emp, .emp, .emp, .emp, .emp, .emp, .emp, .emp, .emp] _
  unfold T_law
  have tail0 := @sx_tail0 K Z z ns
  change SX (tSeq _ (tSeq _ (tSeq _ (tSeq _ (tSeq _ (tSeq _ (tSeq _ (tSeq (tIfS _ _ _) (tSeq (tIfS _ _ _) (tSeq (tIfS _ _ _) (T_tail0 K))))))))))) _ _
  generalize T_tail0 K = T at tail0 ⊢
  refine sx_seq (sx_asgO (eo_lst (ea_cons (ex_int (ea_cons (ex_int (ea_nil ⟨by simp, ?_⟩)))))))
  refine nx_seq ?_
  refine sx_toTwo (i := 1) (a := 0) (b := 0) (by decide) (by rfl) ?_
  walk_at "w"
  refine sx_seq (sx_asg (ex_of (eo_lc (ei_rng1 ?_))))
  walk_at "es"
  refine ⟨ns, 5, rfl, by omega, ⟨by omega, by omega⟩, fun m S1 m0 m1 ok1 => ?_⟩
  walk_at "es"
  refine ⟨by omega, fun k acc ρ' => ∃ (sp : List Pr) (S : Stt), sp.length = k ∧ (∀ p ∈ sp, PB p) ∧ Ok2 S ∧ acc = sp.map encP ∧ ρ' = [.val (.list (ns.map .int)), .st S, .emp, .emp, .emp, .emp, .emp, .emp, .emp, .emp, .emp, .emp, .emp, .emp, .emp, .emp, .emp, .emp, .emp, .emp, .emp, .emp, .emp, .emp], ⟨[], S1, rfl, (fun x hx => by cases hx), ok1, rfl, rfl⟩, ?_, ?_⟩
  · rintro k dd acc ρ' hd0 ⟨sp, S, hl, hg, ok, rfl, rfl⟩
    obtain ⟨hk, rfl⟩ := rng_at hd0
    refine ⟨(fun i hi => by simp at hi; subst hi; rfl), by rw [List.length_map]; omega, sg_name (by simp) ?_⟩
    walk_at "w"
    refine et_yes ⟨fun _ => ?_, (fun q => by cases q)⟩
    walk_at "es"
    refine ⟨ns, 10, rfl, by omega, ok, fun x S2 x0 x1 ok2 => ?_⟩
    walk_at "es"
    refine ⟨ns, 10, rfl, by omega, ok2, fun y S3 y0 y1 ok3 => ?_⟩
    walk_at "es"
    exact ⟨sp ++ [(x, y)], S3, by simp [hl], all_snoc hg ⟨⟨x0, x1⟩, y0, y1⟩, ok3, by rw [List.map_append]; rfl, rfl⟩
  rintro acc ρ' ⟨sp, S2, sl, sg, ok2, rfl, rfl⟩
  rw [rng_size] at sl
  have s1 : 1 ≤ sp.length := by omega
  have sn : sp.length ≤ 6 := by omega
  clear sl
  refine nx_seq ?_
  walk_at "w"
  refine sx_seq (sx_asg (ex_of (eo_lc (ei_rng1 ?_))))
  walk_at "es"
  refine ⟨ns, 5, rfl, by omega, ok2, fun m2 S3 m3 m4 ok3 => ?_⟩
  walk_at "es"
  refine ⟨by omega, fun k acc ρ' => ∃ (rk : List Pr) (S : Stt), rk.length = k ∧ (∀ p ∈ rk, PB p) ∧ Ok2 S ∧ acc = rk.map encP ∧ ρ' = [.val (.list (ns.map .int)), .st S, .val (.list (sp.map encP)), .emp, .emp, .emp, .emp, .emp, .emp, .emp, .emp, .emp, .emp, .emp, .emp, .emp, .emp, .emp, .emp, .emp, .emp, .emp, .emp, .emp], ⟨[], S3, rfl, (fun x hx => by cases hx), ok3, rfl, rfl⟩, ?_, ?_⟩
  · rintro k dd acc ρ' hd0 ⟨rk, S, hl, hg, ok, rfl, rfl⟩
    obtain ⟨hk, rfl⟩ := rng_at hd0
    refine ⟨(fun i hi => by simp at hi; subst hi; rfl), by rw [List.length_map]; omega, sg_name (by simp) ?_⟩
    walk_at "w"
    refine et_yes ⟨fun _ => ?_, (fun q => by cases q)⟩
    walk_at "es"
    refine ⟨ns, 10, rfl, by omega, ok, fun x S2 x0 x1 ok2 => ?_⟩
    walk_at "es"
    refine ⟨ns, 10, rfl, by omega, ok2, fun y S3 y0 y1 ok3 => ?_⟩
    walk_at "es"
    exact ⟨rk ++ [(x, y)], S3, by simp [hl], all_snoc hg ⟨⟨x0, x1⟩, y0, y1⟩, ok3, by rw [List.map_append]; rfl, rfl⟩
  rintro acc ρ' ⟨rk, S4, rl, rb, ok4, rfl, rfl⟩
  rw [rng_size] at rl
  have rg : Rg sp rk := ⟨s1, sn, by omega, by omega, sg, rb⟩
  clear rl
  refine nx_seq ?_
  walk_at "w"
  walk_at "es"
  refine cbd_repr (d := keepD sp rk) (sh_keep rg) (by decide) (keep_deep sp rk) ?_
  have tail0 := fun S ok => @tail0 S sp rk ok rg
  generalize (keepD sp rk).shown = kt at tail0 ⊢
  walk_at "es"
  refine ⟨ns, 12, rfl, by omega, ok4, fun r S5 r0 r1 ok5 => ?_⟩
  walk_at "es"
  refine ⟨sp, rk, r, rfl, rg, ?_⟩
  refine nx_seq ?_
  walk_at "w"
  refine sx_seq (sx_asg ?_)
  walk_at "es"
  refine ⟨sp, rk, r, rfl, rg, ?_⟩
  refine nx_seq ?_
  walk_at "w"
  have F := few_ok rg r
  have sane := F.sane
  have ok := F.ok
  by_cases h99 : lstN sp rk r < 99
  · obtain ⟨row, tr, e1, e2⟩ := F.hs h99
    rw [e1] at sane ok ⊢
    have tail0 := fun Ts hT => tail0 S5 ok5 r (.spots row tr) sane Ts hT
    have rl : row.length ≤ 1000 := sane.1
    have st : Sane tr := sane.2
    rw [show ftD (.spots row tr) = .tuple [.str (Str.ofString "spots"), .list (row.map fun k : Nat => .int (k : Int)), encT tr] from rfl] at tail0 ⊢
    refine sx_seq (sx_if (et_val false ?_ ?_))
    · walk_at "es"
      refine cbd_intB ?_
      rw [decide_eq_false (show ¬ lstN sp rk r = 99 by omega)]
      refine opd_ixL (d := .str (Str.ofString "spots")) rfl ?_
      walk_at "es"
      refine ⟨fun q => by simp at q, fun _ => ?_⟩
      walk_at "es"
      refine ⟨fun _ => ?_, fun q => absurd rfl (of_decide_eq_false q)⟩
      walk_at "es"
      rw [List.length_map, e2]
      exact ⟨by simp, rfl⟩
    refine ⟨(fun q => by cases q), fun _ => sx_next (nx_seq ?_)⟩
    refine sx_seq (sx_if (et_val false ?_ ?_))
    · walk_at "es"
      refine ⟨sp, rk, r, .spots row tr, rfl, rg, sane, ?_⟩
      rw [ok]
      walk_at "es"
      refine ⟨(fun q => by cases q), fun _ => ?_⟩
      walk_at "es"
      refine ⟨sp, rk, r, .spots row tr, rfl, rg, sane, ?_⟩
      rw [ok]
      walk_at "es"
      exact ⟨rfl, rfl⟩
    refine ⟨(fun q => by cases q), fun _ => sx_next (nx_seq ?_)⟩
    refine sx_seq (sx_if (et_val true ?_ ?_))
    · walk_at "es"
      exact ⟨by simp, rfl⟩
    refine ⟨fun _ => ?_, (fun q => by cases q)⟩
    refine sx_asg (ex_of (eo_lst ?_))
    walk_at "es"
    refine ex_of (eo_listRg1 ?_)
    walk_at "es"
    refine ⟨by rw [List.length_map]; omega, ?_⟩
    walk_at "es"
    rw [List.length_map, Int.toNat_natCast, rng_D, show (1 : Int) = ((1 : Nat) : Int) from rfl, cut_drop, ← enc_bl 0]
    refine sx_weak ?_ (tail0 [.spots (row.drop 1) tr, .spots (List.range sp.length) tr, .far 0, .spots row (.blocked 0)] ?_)
    · walk_at "le"
    · intro T hT
      simp only [List.mem_cons, List.not_mem_nil, or_false] at hT
      rcases hT with rfl | rfl | rfl | rfl
      · exact ⟨by rw [List.length_drop]; omega, st⟩
      · exact ⟨by rw [List.length_range]; omega, st⟩
      · trivial
      · exact ⟨rl, .bl 0⟩
  · obtain ⟨k, e1⟩ := F.fa h99
    rw [e1] at sane ok ⊢
    have l99 : lstN sp rk r = 99 := by
      have := (lst_ok rg r)
      by_cases hb : bareF sp rk r = []
      · obtain ⟨b, _, _, h1, _, h2⟩ := this.spots hb
        omega
      · exact this.far hb
    have tail0 := fun Ts hT => tail0 S5 ok5 r (.far k) sane Ts hT
    unfold ftD at tail0 ⊢
    refine sx_seq (sx_if (et_val false ?_ ?_))
    · walk_at "es"
      refine cbd_intB ?_
      rw [decide_eq_true l99]
      refine opd_ixL (d := .str (Str.ofString "far")) rfl ?_
      walk_at "es"
      refine ⟨fun q => by simp at q, fun _ => ?_⟩
      walk_at "es"
      exact ⟨fun q => by (rw [decide_eq_false w_fs] at q; cases q), fun _ => ⟨rfl, rfl⟩⟩
    refine ⟨(fun q => by cases q), fun _ => sx_next (nx_seq ?_)⟩
    refine sx_seq (sx_if (et_val false ?_ ?_))
    · walk_at "es"
      refine ⟨sp, rk, r, .far k, rfl, rg, sane, ?_⟩
      rw [ok]
      walk_at "es"
      refine ⟨(fun q => by cases q), fun _ => ?_⟩
      walk_at "es"
      refine ⟨sp, rk, r, .far k, rfl, rg, sane, ?_⟩
      rw [ok]
      walk_at "es"
      exact ⟨rfl, rfl⟩
    refine ⟨(fun q => by cases q), fun _ => sx_next (nx_seq ?_)⟩
    refine sx_seq (sx_if (et_val false ?_ ?_))
    · walk_at "es"
      exact ⟨decide_eq_false w_fs, rfl⟩
    refine ⟨(fun q => by cases q), fun _ => ?_⟩
    refine sx_asg (ex_of (eo_lst ?_))
    walk_at "es"
    rw [← enc_bl 0]
    refine sx_weak ?_ (tail0 [.far (k + 1), .far 9, .spots [0] (.blocked 0)] ?_)
    · walk_at "le"
    · intro T hT
      simp only [List.mem_cons, List.not_mem_nil, or_false] at hT
      rcases hT with rfl | rfl | rfl
      · trivial
      · trivial
      · exact ⟨by simp, .bl 0⟩
end Law_k41
namespace Law_k41
open PySem L2 Pu

def topS (i : Nat) : Stmt := PySem.Challenge.pw_firescore_k41_whole_spots.main.body.getD i (.Pass ⟨0, 0, 0, 0⟩)
abbrev s_met : Stmt := topS 1
abbrev s_laid : Stmt := topS 2
abbrev s_first_open : Stmt := topS 3
abbrev s_cover : Stmt := topS 5
abbrev s_shares_right : Stmt := topS 6
abbrev s_fault_at : Stmt := topS 7
abbrev s_cover_fault : Stmt := topS 8
abbrev s_way : Stmt := topS 10
abbrev s_spot_problem : Stmt := topS 11
abbrev s_fewest_spots : Stmt := topS 12
abbrev s_fewest_spots_fault : Stmt := topS 13
abbrev s_reaches : Stmt := topS 14
abbrev s_least_reach : Stmt := topS 15
abbrev s_least_reach_fault : Stmt := topS 16
abbrev s_nearest_spots : Stmt := topS 17
abbrev s_middle_spot : Stmt := topS 18
abbrev s_l_draw : Stmt := topS 20
abbrev s_l_pick : Stmt := topS 21
abbrev s_l_way : Stmt := topS 22
abbrev s_l_problem : Stmt := topS 23
abbrev s_l_fault : Stmt := topS 24
abbrev s_l_least : Stmt := topS 25
abbrev s_l_reaches : Stmt := topS 26
abbrev s_l_reach_fault : Stmt := topS 27
abbrev s_law : Stmt := topS 28
abbrev s_Cover_init : Stmt := inClass (topS 4) 0
abbrev s_Cover_go : Stmt := inClass (topS 4) 1
abbrev s_Cover_prove : Stmt := inClass (topS 4) 2
theorem sc_met : FnScope N_met ["demand", "taken"] (defScope s_met) := ⟨rfl, rfl, rfl, by decide +kernel, rfl, by decide +kernel, by decide +kernel⟩
theorem sc_laid : FnScope N_laid ["problem", "taken", "left"] (defScope s_laid) := ⟨rfl, rfl, rfl, by decide +kernel, rfl, by decide +kernel, by decide +kernel⟩
theorem sc_first_open : FnScope N_first_open ["problem", "taken", "left"] (defScope s_first_open) := ⟨rfl, rfl, rfl, by decide +kernel, rfl, by decide +kernel, by decide +kernel⟩
theorem sc_cover : FnScope N_cover ["problem"] (defScope s_cover) := ⟨rfl, rfl, rfl, by decide +kernel, rfl, by decide +kernel, by decide +kernel⟩
theorem sc_shares_right : FnScope N_shares_right ["problem", "taken", "left", "bound", "rows"] (defScope s_shares_right) := ⟨rfl, rfl, rfl, by decide +kernel, rfl, by decide +kernel, by decide +kernel⟩
theorem sc_fault_at : FnScope N_fault_at ["problem", "taken", "left", "path", "bound", "tree"] (defScope s_fault_at) := ⟨rfl, rfl, rfl, by decide +kernel, rfl, by decide +kernel, by decide +kernel⟩
theorem sc_cover_fault : FnScope N_cover_fault ["problem", "told"] (defScope s_cover_fault) := ⟨rfl, rfl, rfl, by decide +kernel, rfl, by decide +kernel, by decide +kernel⟩
theorem sc_way : FnScope N_way ["one", "other"] (defScope s_way) := ⟨rfl, rfl, rfl, by decide +kernel, rfl, by decide +kernel, by decide +kernel⟩
theorem sc_spot_problem : FnScope N_spot_problem ["spots", "racks", "reach"] (defScope s_spot_problem) := ⟨rfl, rfl, rfl, by decide +kernel, rfl, by decide +kernel, by decide +kernel⟩
theorem sc_fewest_spots : FnScope N_fewest_spots ["spots", "racks", "reach"] (defScope s_fewest_spots) := ⟨rfl, rfl, rfl, by decide +kernel, rfl, by decide +kernel, by decide +kernel⟩
theorem sc_fewest_spots_fault : FnScope N_fewest_spots_fault ["spots", "racks", "reach", "told"] (defScope s_fewest_spots_fault) := ⟨rfl, rfl, rfl, by decide +kernel, rfl, by decide +kernel, by decide +kernel⟩
theorem sc_reaches : FnScope N_reaches ["spots", "racks"] (defScope s_reaches) := ⟨rfl, rfl, rfl, by decide +kernel, rfl, by decide +kernel, by decide +kernel⟩
theorem sc_least_reach : FnScope N_least_reach ["spots", "racks", "count"] (defScope s_least_reach) := ⟨rfl, rfl, rfl, by decide +kernel, rfl, by decide +kernel, by decide +kernel⟩
theorem sc_least_reach_fault : FnScope N_least_reach_fault ["spots", "racks", "count", "told"] (defScope s_least_reach_fault) := ⟨rfl, rfl, rfl, by decide +kernel, rfl, by decide +kernel, by decide +kernel⟩
theorem sc_nearest_spots : FnScope N_nearest_spots ["spots", "racks", "chosen"] (defScope s_nearest_spots) := ⟨rfl, rfl, rfl, by decide +kernel, rfl, by decide +kernel, by decide +kernel⟩
theorem sc_middle_spot : FnScope N_middle_spot ["racks"] (defScope s_middle_spot) := ⟨rfl, rfl, rfl, by decide +kernel, rfl, by decide +kernel, by decide +kernel⟩
theorem sc_l_draw : FnScope N_l_draw ["state", "script", "size"] (defScope s_l_draw) := ⟨rfl, rfl, rfl, by decide +kernel, rfl, by decide +kernel, by decide +kernel⟩
theorem sc_l_pick : FnScope N_l_pick ["state", "script", "items"] (defScope s_l_pick) := ⟨rfl, rfl, rfl, by decide +kernel, rfl, by decide +kernel, by decide +kernel⟩
theorem sc_l_way : FnScope N_l_way ["one", "other"] (defScope s_l_way) := ⟨rfl, rfl, rfl, by decide +kernel, rfl, by decide +kernel, by decide +kernel⟩
theorem sc_l_problem : FnScope N_l_problem ["spots", "racks", "reach"] (defScope s_l_problem) := ⟨rfl, rfl, rfl, by decide +kernel, rfl, by decide +kernel, by decide +kernel⟩
theorem sc_l_fault : FnScope N_l_fault ["spots", "racks", "reach", "told"] (defScope s_l_fault) := ⟨rfl, rfl, rfl, by decide +kernel, rfl, by decide +kernel, by decide +kernel⟩
theorem sc_l_least : FnScope N_l_least ["spots", "racks", "reach"] (defScope s_l_least) := ⟨rfl, rfl, rfl, by decide +kernel, rfl, by decide +kernel, by decide +kernel⟩
theorem sc_l_reaches : FnScope N_l_reaches ["spots", "racks"] (defScope s_l_reaches) := ⟨rfl, rfl, rfl, by decide +kernel, rfl, by decide +kernel, by decide +kernel⟩
theorem sc_l_reach_fault : FnScope N_l_reach_fault ["spots", "racks", "count", "told"] (defScope s_l_reach_fault) := ⟨rfl, rfl, rfl, by decide +kernel, rfl, by decide +kernel, by decide +kernel⟩
theorem sc_law : FnScope N_law ["script"] (defScope s_law) := ⟨rfl, rfl, rfl, by decide +kernel, rfl, by decide +kernel, by decide +kernel⟩
theorem sc_Cover_init : FnScope N_Cover_init ["self", "problem"] (defScope s_Cover_init) := ⟨rfl, rfl, rfl, by decide +kernel, rfl, by decide +kernel, by decide +kernel⟩
theorem sc_Cover_go : FnScope N_Cover_go ["self", "taken", "left"] (defScope s_Cover_go) := ⟨rfl, rfl, rfl, by decide +kernel, rfl, by decide +kernel, by decide +kernel⟩
theorem sc_Cover_prove : FnScope N_Cover_prove ["self", "taken", "left"] (defScope s_Cover_prove) := ⟨rfl, rfl, rfl, by decide +kernel, rfl, by decide +kernel, by decide +kernel⟩
section
variable {P : Program} {w : World} {K : PySem.W.Frag} {mg : Str → Option Value} {base : Heap} {f : Addr} {fd : FuncData} {k : Nat}
theorem ps_met {cdv : Value} {A : Around} {outer : List PySem.Env} {s : Shared} {H : Hp} {E : XK} (bn : Bn mg) (hr : Room k (A.deeper (PyProof.Rows.envOfC "met" (defScope s_met) s.heap.objs.size f cdv))) :
    PSs (cxOf CX0 P w K mg base N_met "met" (defScope s_met) f cdv A outer s H E).nox (defBody s_met) (T_met K) :=
  have nd := sc_met.nd
  (pss_one (ps_ret (pe_callB (cb_any rfl) (by rfl) bn.any_ (by decide +kernel) (pa_cons (pe_lc (own := [("option", 2)]) (g := (gName 2)) (tt := tYes) rfl nd (pi_list (pv 0)) (blkOk_by (N := N_met) (sc := defScope s_met) (by decide +kernel)) (fun _ _ _ _ _ => (pg_name (i := 2) nd rfl (by first | exact Or.inl rfl | exact Or.inr rfl))) (fun _ _ _ _ _ => pts_nil) (fun _ _ _ _ _ => (pe_cmpR (op_inP hr.units) (pv 2) (pv 1) (by rfl)))) pa_nil))))
theorem ok_met {R : List D → (D → Prop) → Prop} (F : Fun K "met" "met" s_met f fd) (bn : Bn mg) (len : ∀ ds Z, R ds Z → ds.length = 2) (sx : ∀ ds Z, R ds Z → SX (T_met K) (startE N_met ds) { nx := fun _ => Z .none, rt := fun d _ => Z d }) :
    FnOk P w K mg base CX0 (k + 1) f fd ["demand", "taken"] (spP R) := fn_pure F sc_met len fun cdv A outer s H E hr => ⟨_, ps_met bn hr, sx⟩
theorem ps_laid {cdv : Value} {A : Around} {outer : List PySem.Env} {s : Shared} {H : Hp} {E : XK} (bn : Bn mg) (hr : Room k (A.deeper (PyProof.Rows.envOfC "laid" (defScope s_laid) s.heap.objs.size f cdv))) {R_met : List D → (D → Prop) → Prop} {k_met : Nat} (C_met : Cal P w K mg base "met" ["demand", "taken"] (spP R_met) k_met) (h_met : k_met ≤ k) :
    PSs (cxOf CX0 P w K mg base N_laid "laid" (defScope s_laid) f cdv A outer s H E).nox (defBody s_laid) (T_laid K R_met) :=
  have nd := sc_laid.nd
  (pss_cons (ps_asg (pv 0) (pg_tup (n := 2) rfl (pgs_cons (pg_name (i := 3) nd rfl (by first | exact Or.inl rfl | exact Or.inr rfl)) (pgs_cons (pg_name (i := 4) nd rfl (by first | exact Or.inl rfl | exact Or.inr rfl)) pgs_nil))))
    (pss_cons (ps_set (i := 5) nd rfl (by first | exact Or.inl rfl | exact Or.inr rfl) (pe_callTy cb_list (by rfl) bn.list_ (by decide +kernel) (pa_cons (pv 3) pa_nil)))
    (pss_cons (ps_set (i := 6) nd rfl (by first | exact Or.inl rfl | exact Or.inr rfl) (pe_lst pa_nil))
    (pss_cons (ps_set (i := 7) nd rfl (by first | exact Or.inl rfl | exact Or.inr rfl) (pe_callB (cr_sum rfl) (by rfl) bn.sum_ (by decide +kernel) (pa_cons (pe_lc (own := [("option", 8)]) (g := (gName 8)) (tt := tYes) rfl nd (pi_list (pv 1)) (blkOk_by (N := N_laid) (sc := defScope s_laid) (by decide +kernel)) (fun _ _ _ _ _ => (pg_name (i := 8) nd rfl (by first | exact Or.inl rfl | exact Or.inr rfl))) (fun _ _ _ _ _ => pts_nil) (fun _ _ _ _ _ => (pe_ix ix_any (pv 3) (pv 8) (fun _ _ => rfl)))) pa_nil)))
    (pss_cons (ps_for PassesOwn.never rfl (pi_enum (by rfl) bn.enumerate_ (pa_cons (pv 4) pa_nil)) (pg_tup (n := 2) rfl (pgs_cons (pg_name (i := 9) nd rfl (by first | exact Or.inl rfl | exact Or.inr rfl)) (pgs_cons (pg_name (i := 10) nd rfl (by first | exact Or.inl rfl | exact Or.inr rfl)) pgs_nil)))
      (pss_cons (ps_setLc (i := 11) (own := [("option", 8)]) (g := (gName 8)) (tt := (tTest (tOp (rNinP K) (tVar 8) (tVar 2)))) rfl nd rfl rfl (sw_true rfl rfl rfl (by decide +kernel)) (pi_list (pv 10)) (blkOk_by (N := N_laid) (sc := defScope s_laid) (by decide +kernel)) (fun _ _ _ _ _ => (pg_name (i := 8) nd rfl (by first | exact Or.inl rfl | exact Or.inr rfl))) (fun _ _ _ _ _ => (pts_one (pt_cmpR (op_ninP hr.units) (pv 8) (pv 2) (by rfl)))) (fun _ _ _ _ _ => (pv 8)))
    (pss_one (ps_if (PW.pt (pw_and (pt_not (pt_val (pe_cal C_met (hr.mono h_met) (by rfl) (pa_cons (pv 10) (pa_cons (pv 1) pa_nil))))) (pw_and1 (pt_tru (pt_truth (pv 11) (fun _ => rfl))))))
      (pss_cons (ps_set (i := 12) nd rfl (by first | exact Or.inl rfl | exact Or.inr rfl) (pe_callB (cb_minD rfl hr.units) (by rfl) bn.min_ (by decide +kernel) (pa_cons (pe_lc (own := [("option", 8)]) (g := (gName 8)) (tt := tYes) rfl nd (pi_list (pv 11)) (blkOk_by (N := N_laid) (sc := defScope s_laid) (by decide +kernel)) (fun _ _ _ _ _ => (pg_name (i := 8) nd rfl (by first | exact Or.inl rfl | exact Or.inr rfl))) (fun _ _ _ _ _ => pts_nil) (fun _ _ _ _ _ => (pe_ix ix_any (pv 5) (pv 8) (fun _ _ => rfl)))) pa_nil)))
    (pss_cons (ps_set (i := 7) nd rfl (by first | exact Or.inl rfl | exact Or.inr rfl) (pe_op op_plus (pv 7) (pv 12)))
    (pss_one (ps_for PassesOwn.never rfl (pi_list (pv 11)) (pg_name (i := 8) nd rfl (by first | exact Or.inl rfl | exact Or.inr rfl))
      (pss_one (ps_if (pt_cmpR op_gt (pv 12) pe_int (nomark _))
      (pss_cons (ps_expr (pe_bm PySem.F.plainAttrs_list PySem.F.slot_list_append PySem.F.type_list_append mt_append (pv 6) (pa_cons (pe_tup (pa_cons (pv 9) (pa_cons (pv 8) (pa_cons (pv 12) pa_nil)))) pa_nil)))
    (pss_one (ps_asg (pe_op op_sub (pe_ix ix_any (pv 5) (pv 8) (fun _ _ => rfl)) (pv 12)) (pg_sub (pv 5) (pv 8) set_list))))
      pss_nil))))))
      pss_nil))))
    (pss_one (ps_ret (pe_tup (pa_cons (pv 6) (pa_cons (pv 7) pa_nil))))))))))
theorem ok_laid {R : List D → (D → Prop) → Prop} (F : Fun K "laid" "laid" s_laid f fd) (bn : Bn mg) {R_met : List D → (D → Prop) → Prop} {k_met : Nat} (C_met : Cal P w K mg base "met" ["demand", "taken"] (spP R_met) k_met) (h_met : k_met ≤ k) (len : ∀ ds Z, R ds Z → ds.length = 3) (sx : ∀ ds Z, R ds Z → SX (T_laid K R_met) (startE N_laid ds) { nx := fun _ => Z .none, rt := fun d _ => Z d }) :
    FnOk P w K mg base CX0 (k + 1) f fd ["problem", "taken", "left"] (spP R) := fn_pure F sc_laid len fun cdv A outer s H E hr => ⟨_, ps_laid bn hr C_met h_met, sx⟩
theorem ps_first_open {cdv : Value} {A : Around} {outer : List PySem.Env} {s : Shared} {H : Hp} {E : XK} (bn : Bn mg) (hr : Room k (A.deeper (PyProof.Rows.envOfC "first_open" (defScope s_first_open) s.heap.objs.size f cdv))) {R_met : List D → (D → Prop) → Prop} {k_met : Nat} (C_met : Cal P w K mg base "met" ["demand", "taken"] (spP R_met) k_met) (h_met : k_met ≤ k) :
    PSs (cxOf CX0 P w K mg base N_first_open "first_open" (defScope s_first_open) f cdv A outer s H E).nox (defBody s_first_open) (T_first_open K R_met) :=
  have nd := sc_first_open.nd
  (pss_cons (ps_set (i := 3) nd rfl (by first | exact Or.inl rfl | exact Or.inr rfl) (pe_lst pa_nil))
    (pss_cons (ps_for PassesOwn.never rfl (pi_enum (by rfl) bn.enumerate_ (pa_cons (pe_ix ix_any (pv 0) pe_int (fun _ _ => rfl)) pa_nil)) (pg_tup (n := 2) rfl (pgs_cons (pg_name (i := 4) nd rfl (by first | exact Or.inl rfl | exact Or.inr rfl)) (pgs_cons (pg_name (i := 5) nd rfl (by first | exact Or.inl rfl | exact Or.inr rfl)) pgs_nil)))
      (pss_one (ps_if (pt_not (pt_val (pe_cal C_met (hr.mono h_met) (by rfl) (pa_cons (pv 5) (pa_cons (pv 1) pa_nil)))))
      (pss_one (ps_expr (pe_bm PySem.F.plainAttrs_list PySem.F.slot_list_append PySem.F.type_list_append mt_append (pv 3) (pa_cons (pe_tup (pa_cons (pe_callB Pu.cb_len (by rfl) bn.len_ (by decide +kernel) (pa_cons (pe_lc (own := [("option", 6)]) (g := (gName 6)) (tt := (tTest (tOp (rNinP K) (tVar 6) (tVar 2)))) rfl nd (pi_list (pv 5)) (blkOk_by (N := N_first_open) (sc := defScope s_first_open) (by decide +kernel)) (fun _ _ _ _ _ => (pg_name (i := 6) nd rfl (by first | exact Or.inl rfl | exact Or.inr rfl))) (fun _ _ _ _ _ => (pts_one (pt_cmpR (op_ninP hr.units) (pv 6) (pv 2) (by rfl)))) (fun _ _ _ _ _ => (pv 6))) pa_nil)) (pa_cons (pv 4) pa_nil))) pa_nil))))
      pss_nil)))
    (pss_one (ps_ret (pe_ifExp (pt_tru (pt_truth (pv 3) (fun _ => rfl))) (pe_ix ix_any (pe_callB (cb_minD rfl hr.units) (by rfl) bn.min_ (by decide +kernel) (pa_cons (pv 3) pa_nil)) pe_int (fun _ _ => rfl)) pe_non)))))
theorem ok_first_open {R : List D → (D → Prop) → Prop} (F : Fun K "first_open" "first_open" s_first_open f fd) (bn : Bn mg) {R_met : List D → (D → Prop) → Prop} {k_met : Nat} (C_met : Cal P w K mg base "met" ["demand", "taken"] (spP R_met) k_met) (h_met : k_met ≤ k) (len : ∀ ds Z, R ds Z → ds.length = 3) (sx : ∀ ds Z, R ds Z → SX (T_first_open K R_met) (startE N_first_open ds) { nx := fun _ => Z .none, rt := fun d _ => Z d }) :
    FnOk P w K mg base CX0 (k + 1) f fd ["problem", "taken", "left"] (spP R) := fn_pure F sc_first_open len fun cdv A outer s H E hr => ⟨_, ps_first_open bn hr C_met h_met, sx⟩
theorem ps_cover {cdv : Value} {A : Around} {outer : List PySem.Env} {s : Shared} {H : Hp} {E : XK} (bn : Bn mg) (hr : Room k (A.deeper (PyProof.Rows.envOfC "cover" (defScope s_cover) s.heap.objs.size f cdv))) {C_Cover : Addr} (O_Cover : ObF K C_Cover ["problem", "best", "cost"]) {R_Cover_init : Stt → List D → (D → Stt → Prop) → Prop} {k_Cover_init : Nat} (M_Cover_init : CalC P w K mg base C_Cover "Cover" ["self", "problem"] (spS R_Cover_init) k_Cover_init) (h_Cover_init : k_Cover_init + 1 ≤ k) {R_Cover_go : Stt → List D → (D → Stt → Prop) → Prop} {k_Cover_go : Nat} (M_Cover_go : CalM P w K mg base C_Cover "go" ["self", "taken", "left"] (spS R_Cover_go) k_Cover_go) (h_Cover_go : k_Cover_go ≤ k) {R_Cover_prove : Stt → List D → (D → Stt → Prop) → Prop} {k_Cover_prove : Nat} (M_Cover_prove : CalM P w K mg base C_Cover "prove" ["self", "taken", "left"] (spS R_Cover_prove) k_Cover_prove) (h_Cover_prove : k_Cover_prove ≤ k) :
    PSs (cxOf CX0 P w K mg base N_cover "cover" (defScope s_cover) f cdv A outer s H E).nox (defBody s_cover) (T_cover K C_Cover R_Cover_init R_Cover_go R_Cover_prove) :=
  have nd := sc_cover.nd
  (pss_cons (ps_set (i := 1) nd rfl (by first | exact Or.inl rfl | exact Or.inr rfl) (pe_mkC M_Cover_init (hr.mono h_Cover_init) (by rfl) (pa_cons (pv 0) pa_nil)))
    (pss_cons (ps_expr (pe_calM M_Cover_go O_Cover (hr.mono h_Cover_go) (pv 1) (pa_cons (pe_lst pa_nil) (pa_cons (pe_lst pa_nil) pa_nil))))
    (pss_cons (ps_set (i := 2) nd rfl (by first | exact Or.inl rfl | exact Or.inr rfl) (pe_calM M_Cover_prove O_Cover (hr.mono h_Cover_prove) (pv 1) (pa_cons (pe_lst pa_nil) (pa_cons (pe_lst pa_nil) pa_nil))))
    (pss_one (ps_ret (pe_ifExp (pt_cmpR op_is (pe_fldC O_Cover (by simp) (pv 1) rfl) pe_non (nomark _)) (pe_tup (pa_cons pe_str (pa_cons (pv 2) pa_nil))) (pe_tup (pa_cons pe_str (pa_cons (pe_fldC O_Cover (by simp) (pv 1) rfl) (pa_cons (pe_fldC O_Cover (by simp) (pv 1) rfl) (pa_cons (pv 2) pa_nil)))))))))))
theorem ok_cover {R : List D → (D → Prop) → Prop} (F : Fun K "cover" "cover" s_cover f fd) (bn : Bn mg) {C_Cover : Addr} (O_Cover : ObF K C_Cover ["problem", "best", "cost"]) {R_Cover_init : Stt → List D → (D → Stt → Prop) → Prop} {k_Cover_init : Nat} (M_Cover_init : CalC P w K mg base C_Cover "Cover" ["self", "problem"] (spS R_Cover_init) k_Cover_init) (h_Cover_init : k_Cover_init + 1 ≤ k) {R_Cover_go : Stt → List D → (D → Stt → Prop) → Prop} {k_Cover_go : Nat} (M_Cover_go : CalM P w K mg base C_Cover "go" ["self", "taken", "left"] (spS R_Cover_go) k_Cover_go) (h_Cover_go : k_Cover_go ≤ k) {R_Cover_prove : Stt → List D → (D → Stt → Prop) → Prop} {k_Cover_prove : Nat} (M_Cover_prove : CalM P w K mg base C_Cover "prove" ["self", "taken", "left"] (spS R_Cover_prove) k_Cover_prove) (h_Cover_prove : k_Cover_prove ≤ k) (len : ∀ ds Z, R ds Z → ds.length = 1) (sx : ∀ ds Z, R ds Z → SX (T_cover K C_Cover R_Cover_init R_Cover_go R_Cover_prove) (startE N_cover ds) { nx := fun _ => Z .none, rt := fun d _ => Z d }) :
    FnOk P w K mg base CX0 (k + 1) f fd ["problem"] (spP R) := fn_pure F sc_cover len fun cdv A outer s H E hr => ⟨_, ps_cover bn hr O_Cover M_Cover_init h_Cover_init M_Cover_go h_Cover_go M_Cover_prove h_Cover_prove, sx⟩
theorem ps_shares_right {cdv : Value} {A : Around} {outer : List PySem.Env} {s : Shared} {H : Hp} {E : XK} (bn : Bn mg) (hr : Room k (A.deeper (PyProof.Rows.envOfC "shares_right" (defScope s_shares_right) s.heap.objs.size f cdv))) {R_met : List D → (D → Prop) → Prop} {k_met : Nat} (C_met : Cal P w K mg base "met" ["demand", "taken"] (spP R_met) k_met) (h_met : k_met ≤ k) :
    PSs (cxOf CX0 P w K mg base N_shares_right "shares_right" (defScope s_shares_right) f cdv A outer s H E).nox (defBody s_shares_right) (T_shares_right K R_met) :=
  have nd := sc_shares_right.nd
  (pss_cons (ps_asg (pv 0) (pg_tup (n := 2) rfl (pgs_cons (pg_name (i := 5) nd rfl (by first | exact Or.inl rfl | exact Or.inr rfl)) (pgs_cons (pg_name (i := 6) nd rfl (by first | exact Or.inl rfl | exact Or.inr rfl)) pgs_nil))))
    (pss_cons (ps_set (i := 7) nd rfl (by first | exact Or.inl rfl | exact Or.inr rfl) (pe_callTy cb_list (by rfl) bn.list_ (by decide +kernel) (pa_cons (pv 5) pa_nil)))
    (pss_cons (ps_set (i := 8) nd rfl (by first | exact Or.inl rfl | exact Or.inr rfl) pe_dnewT)
    (pss_cons (ps_set (i := 9) nd rfl (by first | exact Or.inl rfl | exact Or.inr rfl) (pe_tup (pa_cons (pe_un un_neg pe_int) (pa_cons (pe_un un_neg pe_int) pa_nil))))
    (pss_cons (ps_for PassesOwn.never rfl (pi_list (pv 4)) (pg_tup (n := 3) rfl (pgs_cons (pg_name (i := 10) nd rfl (by first | exact Or.inl rfl | exact Or.inr rfl)) (pgs_cons (pg_name (i := 11) nd rfl (by first | exact Or.inl rfl | exact Or.inr rfl)) (pgs_cons (pg_name (i := 12) nd rfl (by first | exact Or.inl rfl | exact Or.inr rfl)) pgs_nil))))
      (pss_cons (ps_if (PW.pt (pw_or (pt_not (pt_chain op_le op_lt pe_int (pv 10) (pe_callB Pu.cb_len (by rfl) bn.len_ (by decide +kernel) (pa_cons (pv 6) pa_nil)))) (pw_or (pt_not (pt_chain op_le op_lt pe_int (pv 11) (pe_callB Pu.cb_len (by rfl) bn.len_ (by decide +kernel) (pa_cons (pv 5) pa_nil)))) (pw_or (pt_cmpR op_lt (pv 12) pe_int (nomark _)) (pw_or1 (pt_cmpR (op_leD hr.units) (pe_tup (pa_cons (pv 10) (pa_cons (pv 11) pa_nil))) (pv 9) (nomark _)))))))
      (pss_one (ps_ret pe_bl))
      pss_nil)
    (pss_cons (ps_set (i := 9) nd rfl (by first | exact Or.inl rfl | exact Or.inr rfl) (pe_tup (pa_cons (pv 10) (pa_cons (pv 11) pa_nil))))
    (pss_cons (ps_asg (pe_op op_sub (pe_ix ix_any (pv 7) (pv 11) (fun _ _ => rfl)) (pv 12)) (pg_sub (pv 7) (pv 11) set_list))
    (pss_one (ps_dput (hu_of hr) (pv 8) (pe_tup (pa_cons (pv 10) (pa_cons (pv 11) pa_nil))) (pv 12) (by rfl)))))))
    (pss_cons (ps_if (pt_val (pe_callB (cb_any rfl) (by rfl) bn.any_ (by decide +kernel) (pa_cons (pe_lc (own := [("option", 11)]) (g := (gName 11)) (tt := tYes) rfl nd (pi_range1 (by rfl) bn.range_ (pa_cons (pe_callB Pu.cb_len (by rfl) bn.len_ (by decide +kernel) (pa_cons (pv 5) pa_nil)) pa_nil)) (blkOk_by (N := N_shares_right) (sc := defScope s_shares_right) (by decide +kernel)) (fun _ _ _ _ _ => (pg_name (i := 11) nd rfl (by first | exact Or.inl rfl | exact Or.inr rfl))) (fun _ _ _ _ _ => pts_nil) (fun _ _ _ _ _ => (pe_and (pe_cmpR op_lt (pe_ix ix_any (pv 7) (pv 11) (fun _ _ => rfl)) pe_int (nomark _)) (pe_one (pe_cmpR (op_ninP hr.units) (pv 11) (pv 2) (by rfl)))))) pa_nil)))
      (pss_one (ps_ret pe_bl))
      pss_nil)
    (pss_cons (ps_set (i := 13) nd rfl (by first | exact Or.inl rfl | exact Or.inr rfl) (pe_callB (cr_sum rfl) (by rfl) bn.sum_ (by decide +kernel) (pa_cons (pe_lc (own := [("option", 11)]) (g := (gName 11)) (tt := tYes) rfl nd (pi_list (pv 1)) (blkOk_by (N := N_shares_right) (sc := defScope s_shares_right) (by decide +kernel)) (fun _ _ _ _ _ => (pg_name (i := 11) nd rfl (by first | exact Or.inl rfl | exact Or.inr rfl))) (fun _ _ _ _ _ => pts_nil) (fun _ _ _ _ _ => (pe_ix ix_any (pv 5) (pv 11) (fun _ _ => rfl)))) pa_nil)))
    (pss_cons (ps_for PassesOwn.never rfl (pi_enum (by rfl) bn.enumerate_ (pa_cons (pv 6) pa_nil)) (pg_tup (n := 2) rfl (pgs_cons (pg_name (i := 10) nd rfl (by first | exact Or.inl rfl | exact Or.inr rfl)) (pgs_cons (pg_name (i := 14) nd rfl (by first | exact Or.inl rfl | exact Or.inr rfl)) pgs_nil)))
      (pss_cons (ps_setLc (i := 15) (own := [("option", 11)]) (g := (gName 11)) (tt := (tTest (tOp (rNinP K) (tVar 11) (tVar 2)))) rfl nd rfl rfl (sw_true rfl rfl rfl (by decide +kernel)) (pi_list (pv 14)) (blkOk_by (N := N_shares_right) (sc := defScope s_shares_right) (by decide +kernel)) (fun _ _ _ _ _ => (pg_name (i := 11) nd rfl (by first | exact Or.inl rfl | exact Or.inr rfl))) (fun _ _ _ _ _ => (pts_one (pt_cmpR (op_ninP hr.units) (pv 11) (pv 2) (by rfl)))) (fun _ _ _ _ _ => (pv 11)))
    (pss_one (ps_if (pt_not (pt_val (pe_cal C_met (hr.mono h_met) (by rfl) (pa_cons (pv 14) (pa_cons (pv 1) pa_nil)))))
      (pss_one (ps_set (i := 13) nd rfl (by first | exact Or.inl rfl | exact Or.inr rfl) (pe_op op_plus (pv 13) (pe_callBK (cb_minDf rfl hr.units) (by rfl) bn.min_ (by decide +kernel) (pa_cons (pe_lc (own := [("option", 11)]) (g := (gName 11)) (tt := tYes) rfl nd (pi_list (pv 15)) (blkOk_by (N := N_shares_right) (sc := defScope s_shares_right) (by decide +kernel)) (fun _ _ _ _ _ => (pg_name (i := 11) nd rfl (by first | exact Or.inl rfl | exact Or.inr rfl))) (fun _ _ _ _ _ => pts_nil) (fun _ _ _ _ _ => (pe_dget2 (hu_of hr) (pv 8) (pe_tup (pa_cons (pv 10) (pa_cons (pv 11) pa_nil))) pe_int ⟨rfl, rfl, rfl, rfl⟩))) pa_nil) (pk_cons pe_int pk_nil)))))
      pss_nil))))
    (pss_one (ps_ret (pe_cmpR op_ge (pv 13) (pv 3) (nomark _))))))))))))
theorem ok_shares_right {R : List D → (D → Prop) → Prop} (F : Fun K "shares_right" "shares_right" s_shares_right f fd) (bn : Bn mg) {R_met : List D → (D → Prop) → Prop} {k_met : Nat} (C_met : Cal P w K mg base "met" ["demand", "taken"] (spP R_met) k_met) (h_met : k_met ≤ k) (len : ∀ ds Z, R ds Z → ds.length = 5) (sx : ∀ ds Z, R ds Z → SX (T_shares_right K R_met) (startE N_shares_right ds) { nx := fun _ => Z .none, rt := fun d _ => Z d }) :
    FnOk P w K mg base CX0 (k + 1) f fd ["problem", "taken", "left", "bound", "rows"] (spP R) := fn_pure F sc_shares_right len fun cdv A outer s H E hr => ⟨_, ps_shares_right bn hr C_met h_met, sx⟩
theorem ps_fault_at {cdv : Value} {A : Around} {outer : List PySem.Env} {s : Shared} {H : Hp} {E : XK} (bn : Bn mg) (hr : Room k (A.deeper (PyProof.Rows.envOfC "fault_at" (defScope s_fault_at) s.heap.objs.size f cdv))) {R_met : List D → (D → Prop) → Prop} {k_met : Nat} (C_met : Cal P w K mg base "met" ["demand", "taken"] (spP R_met) k_met) (h_met : k_met ≤ k) {R_fault_at : List D → (D → Prop) → Prop} {k_fault_at : Nat} (C_fault_at : Cal P w K mg base "fault_at" ["problem", "taken", "left", "path", "bound", "tree"] (spP R_fault_at) k_fault_at) (h_fault_at : k_fault_at ≤ k) {R_shares_right : List D → (D → Prop) → Prop} {k_shares_right : Nat} (C_shares_right : Cal P w K mg base "shares_right" ["problem", "taken", "left", "bound", "rows"] (spP R_shares_right) k_shares_right) (h_shares_right : k_shares_right ≤ k) :
    PSs (cxOf CX0 P w K mg base N_fault_at "fault_at" (defScope s_fault_at) f cdv A outer s H E).nox (defBody s_fault_at) (T_fault_at K R_met R_fault_at R_shares_right) :=
  have nd := sc_fault_at.nd
  (pss_cons (ps_set (i := 6) nd rfl (by first | exact Or.inl rfl | exact Or.inr rfl) (pe_ix ix_any (pv 0) pe_int (fun _ _ => rfl)))
    (pss_cons (ps_if (pt_cmpR (op_eqP hr.units) (pe_ix ix_any (pv 5) pe_int (fun _ _ => rfl)) pe_str (nomark _))
      (pss_cons (ps_set (i := 7) nd rfl (by first | exact Or.inl rfl | exact Or.inr rfl) (pe_and (pe_cmpR op_isnt (pv 4) pe_non (nomark _)) (pe_one (pe_cal C_shares_right (hr.mono h_shares_right) (by rfl) (pa_cons (pv 0) (pa_cons (pv 1) (pa_cons (pv 2) (pa_cons (pv 4) (pa_cons (pe_ix ix_any (pv 5) pe_int (fun _ _ => rfl)) pa_nil)))))))))
    (pss_one (ps_ret (pe_ifExp (pt_val (pv 7)) pe_non (pe_tup (pa_cons pe_str (pa_cons (pv 3) pa_nil)))))))
      pss_nil)
    (pss_cons (ps_if (pt_not (pt_chain op_le op_lt pe_int (pe_ix ix_any (pv 5) pe_int (fun _ _ => rfl)) (pe_callB Pu.cb_len (by rfl) bn.len_ (by decide +kernel) (pa_cons (pv 6) pa_nil))))
      (pss_one (ps_ret (pe_tup (pa_cons (pe_ix ix_any (pv 5) pe_int (fun _ _ => rfl)) (pa_cons (pv 3) pa_nil)))))
      pss_nil)
    (pss_cons (ps_setLc (i := 8) (own := [("option", 9)]) (g := (gName 9)) (tt := (tTest (tOp (rNinP K) (tVar 9) (tVar 2)))) rfl nd rfl rfl (sw_true rfl rfl rfl (by decide +kernel)) (pi_list (pe_ix ix_any (pv 6) (pe_ix ix_any (pv 5) pe_int (fun _ _ => rfl)) (fun _ _ => rfl))) (blkOk_by (N := N_fault_at) (sc := defScope s_fault_at) (by decide +kernel)) (fun _ _ _ _ _ => (pg_name (i := 9) nd rfl (by first | exact Or.inl rfl | exact Or.inr rfl))) (fun _ _ _ _ _ => (pts_one (pt_cmpR (op_ninP hr.units) (pv 9) (pv 2) (by rfl)))) (fun _ _ _ _ _ => (pv 9)))
    (pss_cons (ps_if (pt_cmpR (op_eqP hr.units) (pe_ix ix_any (pv 5) pe_int (fun _ _ => rfl)) pe_str (nomark _))
      (pss_one (ps_ret (pe_ifExp (PW.pt (pw_and (pt_not (pt_tru (pt_truth (pv 8) (fun _ => rfl)))) (pw_and1 (pt_not (pt_val (pe_cal C_met (hr.mono h_met) (by rfl) (pa_cons (pe_ix ix_any (pv 6) (pe_ix ix_any (pv 5) pe_int (fun _ _ => rfl)) (fun _ _ => rfl)) (pa_cons (pv 1) pa_nil)))))))) pe_non (pe_tup (pa_cons pe_str (pa_cons (pv 3) pa_nil))))))
      pss_nil)
    (pss_cons (ps_if (PW.pt (pw_or (pt_val (pe_cal C_met (hr.mono h_met) (by rfl) (pa_cons (pe_ix ix_any (pv 6) (pe_ix ix_any (pv 5) pe_int (fun _ _ => rfl)) (fun _ _ => rfl)) (pa_cons (pv 1) pa_nil)))) (pw_or1 (pt_cmpR (op_neP hr.units) (pe_callB Pu.cb_len (by rfl) bn.len_ (by decide +kernel) (pa_cons (pe_ix ix_any (pv 5) pe_int (fun _ _ => rfl)) pa_nil)) (pe_callB Pu.cb_len (by rfl) bn.len_ (by decide +kernel) (pa_cons (pv 8) pa_nil)) (nomark _)))))
      (pss_one (ps_ret (pe_tup (pa_cons pe_str (pa_cons (pv 3) pa_nil)))))
      pss_nil)
    (pss_cons (ps_for PassesOwn.never rfl (pi_enum (by rfl) bn.enumerate_ (pa_cons (pv 8) pa_nil)) (pg_tup (n := 2) rfl (pgs_cons (pg_name (i := 10) nd rfl (by first | exact Or.inl rfl | exact Or.inr rfl)) (pgs_cons (pg_name (i := 9) nd rfl (by first | exact Or.inl rfl | exact Or.inr rfl)) pgs_nil)))
      (pss_cons (ps_set (i := 11) nd rfl (by first | exact Or.inl rfl | exact Or.inr rfl) (pe_op op_plus (pv 3) (pe_lst (pa_cons (pe_tup (pa_cons (pe_ix ix_any (pv 5) pe_int (fun _ _ => rfl)) (pa_cons (pv 9) pa_nil))) pa_nil))))
    (pss_cons (ps_set (i := 12) nd rfl (by first | exact Or.inl rfl | exact Or.inr rfl) (pe_cal C_fault_at (hr.mono h_fault_at) (by rfl) (pa_cons (pv 0) (pa_cons (pe_op op_plus (pv 1) (pe_lst (pa_cons (pv 9) pa_nil))) (pa_cons (pe_op op_plus (pv 2) (pe_slice sl_any (pv 8) po_none (po_some (pv 10)))) (pa_cons (pv 11) (pa_cons (pv 4) (pa_cons (pe_ix ix_any (pe_ix ix_any (pv 5) pe_int (fun _ _ => rfl)) (pv 10) (fun _ _ => rfl)) pa_nil))))))))
    (pss_one (ps_if (pt_cmpR op_isnt (pv 12) pe_non (nomark _))
      (pss_one (ps_ret (pv 12)))
      pss_nil)))))
    (pss_one (ps_ret pe_non)))))))))
theorem ok_fault_at {R : List D → (D → Prop) → Prop} (F : Fun K "fault_at" "fault_at" s_fault_at f fd) (bn : Bn mg) {R_met : List D → (D → Prop) → Prop} {k_met : Nat} (C_met : Cal P w K mg base "met" ["demand", "taken"] (spP R_met) k_met) (h_met : k_met ≤ k) {R_fault_at : List D → (D → Prop) → Prop} {k_fault_at : Nat} (C_fault_at : Cal P w K mg base "fault_at" ["problem", "taken", "left", "path", "bound", "tree"] (spP R_fault_at) k_fault_at) (h_fault_at : k_fault_at ≤ k) {R_shares_right : List D → (D → Prop) → Prop} {k_shares_right : Nat} (C_shares_right : Cal P w K mg base "shares_right" ["problem", "taken", "left", "bound", "rows"] (spP R_shares_right) k_shares_right) (h_shares_right : k_shares_right ≤ k) (len : ∀ ds Z, R ds Z → ds.length = 6) (sx : ∀ ds Z, R ds Z → SX (T_fault_at K R_met R_fault_at R_shares_right) (startE N_fault_at ds) { nx := fun _ => Z .none, rt := fun d _ => Z d }) :
    FnOk P w K mg base CX0 (k + 1) f fd ["problem", "taken", "left", "path", "bound", "tree"] (spP R) := fn_pure F sc_fault_at len fun cdv A outer s H E hr => ⟨_, ps_fault_at bn hr C_met h_met C_fault_at h_fault_at C_shares_right h_shares_right, sx⟩
theorem ps_cover_fault {cdv : Value} {A : Around} {outer : List PySem.Env} {s : Shared} {H : Hp} {E : XK} (bn : Bn mg) (hr : Room k (A.deeper (PyProof.Rows.envOfC "cover_fault" (defScope s_cover_fault) s.heap.objs.size f cdv))) {R_fault_at : List D → (D → Prop) → Prop} {k_fault_at : Nat} (C_fault_at : Cal P w K mg base "fault_at" ["problem", "taken", "left", "path", "bound", "tree"] (spP R_fault_at) k_fault_at) (h_fault_at : k_fault_at ≤ k) {R_met : List D → (D → Prop) → Prop} {k_met : Nat} (C_met : Cal P w K mg base "met" ["demand", "taken"] (spP R_met) k_met) (h_met : k_met ≤ k) :
    PSs (cxOf CX0 P w K mg base N_cover_fault "cover_fault" (defScope s_cover_fault) f cdv A outer s H E).nox (defBody s_cover_fault) (T_cover_fault K R_fault_at R_met) :=
  have nd := sc_cover_fault.nd
  (pss_cons (ps_asg (pv 0) (pg_tup (n := 2) rfl (pgs_cons (pg_name (i := 2) nd rfl (by first | exact Or.inl rfl | exact Or.inr rfl)) (pgs_cons (pg_name (i := 3) nd rfl (by first | exact Or.inl rfl | exact Or.inr rfl)) pgs_nil))))
    (pss_cons (ps_if (pt_cmpR (op_eqP hr.units) (pe_ix ix_any (pv 1) pe_int (fun _ _ => rfl)) pe_str (nomark _))
      (pss_cons (ps_set (i := 4) nd rfl (by first | exact Or.inl rfl | exact Or.inr rfl) (pe_cal C_fault_at (hr.mono h_fault_at) (by rfl) (pa_cons (pv 0) (pa_cons (pe_lst pa_nil) (pa_cons (pe_lst pa_nil) (pa_cons (pe_lst pa_nil) (pa_cons pe_non (pa_cons (pe_ix ix_any (pv 1) pe_int (fun _ _ => rfl)) pa_nil))))))))
    (pss_one (ps_ret (pe_ifExp (pt_cmpR op_is (pv 4) pe_non (nomark _)) pe_non (pe_tup (pa_cons pe_str (pa_cons (pv 4) pa_nil)))))))
      pss_nil)
    (pss_cons (ps_asg (pv 1) (pg_tup (n := 4) rfl (pgs_cons (pg_name (i := 5) nd rfl (by first | exact Or.inl rfl | exact Or.inr rfl)) (pgs_cons (pg_name (i := 6) nd rfl (by first | exact Or.inl rfl | exact Or.inr rfl)) (pgs_cons (pg_name (i := 7) nd rfl (by first | exact Or.inl rfl | exact Or.inr rfl)) (pgs_cons (pg_name (i := 8) nd rfl (by first | exact Or.inl rfl | exact Or.inr rfl)) pgs_nil))))))
    (pss_cons (ps_set (i := 9) nd rfl (by first | exact Or.inl rfl | exact Or.inr rfl) (pe_callB (cb_all rfl) (by rfl) bn.all_ (by decide +kernel) (pa_cons (pe_lc (own := [("at", 10)]) (g := (gName 10)) (tt := tYes) rfl nd (pi_range1 (by rfl) bn.range_ (pa_cons (pe_op op_sub (pe_callB Pu.cb_len (by rfl) bn.len_ (by decide +kernel) (pa_cons (pv 6) pa_nil)) pe_int) pa_nil)) (blkOk_by (N := N_cover_fault) (sc := defScope s_cover_fault) (by decide +kernel)) (fun _ _ _ _ _ => (pg_name (i := 10) nd rfl (by first | exact Or.inl rfl | exact Or.inr rfl))) (fun _ _ _ _ _ => pts_nil) (fun _ _ _ _ _ => (pe_cmpR op_lt (pe_ix ix_any (pv 6) (pv 10) (fun _ _ => rfl)) (pe_ix ix_any (pv 6) (pe_op op_plus (pv 10) pe_int) (fun _ _ => rfl)) (nomark _)))) pa_nil)))
    (pss_cons (ps_if (PW.pt (pw_or (pt_not (pt_val (pv 9))) (pw_or1 (pt_not (pt_val (pe_callB (cb_all rfl) (by rfl) bn.all_ (by decide +kernel) (pa_cons (pe_lc (own := [("option", 11)]) (g := (gName 11)) (tt := tYes) rfl nd (pi_list (pv 6)) (blkOk_by (N := N_cover_fault) (sc := defScope s_cover_fault) (by decide +kernel)) (fun _ _ _ _ _ => (pg_name (i := 11) nd rfl (by first | exact Or.inl rfl | exact Or.inr rfl))) (fun _ _ _ _ _ => pts_nil) (fun _ _ _ _ _ => (pe_chain op_le op_lt pe_int (pv 11) (pe_callB Pu.cb_len (by rfl) bn.len_ (by decide +kernel) (pa_cons (pv 2) pa_nil))))) pa_nil)))))))
      (pss_one (ps_ret (pe_tup (pa_cons pe_str pa_nil))))
      pss_nil)
    (pss_cons (ps_for PassesOwn.never rfl (pi_enum (by rfl) bn.enumerate_ (pa_cons (pv 3) pa_nil)) (pg_tup (n := 2) rfl (pgs_cons (pg_name (i := 10) nd rfl (by first | exact Or.inl rfl | exact Or.inr rfl)) (pgs_cons (pg_name (i := 12) nd rfl (by first | exact Or.inl rfl | exact Or.inr rfl)) pgs_nil)))
      (pss_one (ps_if (pt_not (pt_val (pe_cal C_met (hr.mono h_met) (by rfl) (pa_cons (pv 12) (pa_cons (pv 6) pa_nil)))))
      (pss_one (ps_ret (pe_tup (pa_cons pe_str (pa_cons (pv 10) pa_nil)))))
      pss_nil)))
    (pss_cons (ps_if (pt_cmpR (op_neP hr.units) (pe_callB (cr_sum rfl) (by rfl) bn.sum_ (by decide +kernel) (pa_cons (pe_lc (own := [("option", 11)]) (g := (gName 11)) (tt := tYes) rfl nd (pi_list (pv 6)) (blkOk_by (N := N_cover_fault) (sc := defScope s_cover_fault) (by decide +kernel)) (fun _ _ _ _ _ => (pg_name (i := 11) nd rfl (by first | exact Or.inl rfl | exact Or.inr rfl))) (fun _ _ _ _ _ => pts_nil) (fun _ _ _ _ _ => (pe_ix ix_any (pv 2) (pv 11) (fun _ _ => rfl)))) pa_nil)) (pv 7) (nomark _))
      (pss_one (ps_ret (pe_tup (pa_cons pe_str pa_nil))))
      pss_nil)
    (pss_cons (ps_set (i := 4) nd rfl (by first | exact Or.inl rfl | exact Or.inr rfl) (pe_cal C_fault_at (hr.mono h_fault_at) (by rfl) (pa_cons (pv 0) (pa_cons (pe_lst pa_nil) (pa_cons (pe_lst pa_nil) (pa_cons (pe_lst pa_nil) (pa_cons (pv 7) (pa_cons (pv 8) pa_nil))))))))
    (pss_one (ps_ret (pe_ifExp (pt_cmpR op_is (pv 4) pe_non (nomark _)) pe_non (pe_tup (pa_cons pe_str (pa_cons (pv 4) pa_nil))))))))))))))
theorem ok_cover_fault {R : List D → (D → Prop) → Prop} (F : Fun K "cover_fault" "cover_fault" s_cover_fault f fd) (bn : Bn mg) {R_fault_at : List D → (D → Prop) → Prop} {k_fault_at : Nat} (C_fault_at : Cal P w K mg base "fault_at" ["problem", "taken", "left", "path", "bound", "tree"] (spP R_fault_at) k_fault_at) (h_fault_at : k_fault_at ≤ k) {R_met : List D → (D → Prop) → Prop} {k_met : Nat} (C_met : Cal P w K mg base "met" ["demand", "taken"] (spP R_met) k_met) (h_met : k_met ≤ k) (len : ∀ ds Z, R ds Z → ds.length = 2) (sx : ∀ ds Z, R ds Z → SX (T_cover_fault K R_fault_at R_met) (startE N_cover_fault ds) { nx := fun _ => Z .none, rt := fun d _ => Z d }) :
    FnOk P w K mg base CX0 (k + 1) f fd ["problem", "told"] (spP R) := fn_pure F sc_cover_fault len fun cdv A outer s H E hr => ⟨_, ps_cover_fault bn hr C_fault_at h_fault_at C_met h_met, sx⟩
theorem ps_way {cdv : Value} {A : Around} {outer : List PySem.Env} {s : Shared} {H : Hp} {E : XK} (bn : Bn mg) (hr : Room k (A.deeper (PyProof.Rows.envOfC "way" (defScope s_way) s.heap.objs.size f cdv))) :
    PSs (cxOf CX0 P w K mg base N_way "way" (defScope s_way) f cdv A outer s H E).nox (defBody s_way) (T_way K) :=
  have nd := sc_way.nd
  (pss_one (ps_ret (pe_op op_plus (pe_callB cb_abs (by rfl) bn.abs_ (by decide +kernel) (pa_cons (pe_op op_sub (pe_ix ix_any (pv 0) pe_int (fun _ _ => rfl)) (pe_ix ix_any (pv 1) pe_int (fun _ _ => rfl))) pa_nil)) (pe_callB cb_abs (by rfl) bn.abs_ (by decide +kernel) (pa_cons (pe_op op_sub (pe_ix ix_any (pv 0) pe_int (fun _ _ => rfl)) (pe_ix ix_any (pv 1) pe_int (fun _ _ => rfl))) pa_nil)))))
theorem ok_way {R : List D → (D → Prop) → Prop} (F : Fun K "way" "way" s_way f fd) (bn : Bn mg) (len : ∀ ds Z, R ds Z → ds.length = 2) (sx : ∀ ds Z, R ds Z → SX (T_way K) (startE N_way ds) { nx := fun _ => Z .none, rt := fun d _ => Z d }) :
    FnOk P w K mg base CX0 (k + 1) f fd ["one", "other"] (spP R) := fn_pure F sc_way len fun cdv A outer s H E hr => ⟨_, ps_way bn hr, sx⟩
theorem ps_spot_problem {cdv : Value} {A : Around} {outer : List PySem.Env} {s : Shared} {H : Hp} {E : XK} (bn : Bn mg) (hr : Room k (A.deeper (PyProof.Rows.envOfC "spot_problem" (defScope s_spot_problem) s.heap.objs.size f cdv))) {R_way : List D → (D → Prop) → Prop} {k_way : Nat} (C_way : Cal P w K mg base "way" ["one", "other"] (spP R_way) k_way) (h_way : k_way ≤ k) :
    PSs (cxOf CX0 P w K mg base N_spot_problem "spot_problem" (defScope s_spot_problem) f cdv A outer s H E).nox (defBody s_spot_problem) (T_spot_problem K R_way) :=
  have nd := sc_spot_problem.nd
  (pss_cons (ps_setLc (i := 3) (own := [("rack", 6)]) (g := (gName 6)) (tt := tYes) rfl nd rfl rfl (sw_true rfl rfl rfl (by decide +kernel)) (pi_list (pv 1)) (blkOk_by (N := N_spot_problem) (sc := defScope s_spot_problem) (by decide +kernel)) (fun _ _ _ _ _ => (pg_name (i := 6) nd rfl (by first | exact Or.inl rfl | exact Or.inr rfl))) (fun _ _ _ _ _ => pts_nil) (fun _ _ _ _ _ => (pe_lc (own := [("at", 4), ("spot", 5)]) (g := (gTup K 2 (gCons (gName 4) (gCons (gName 5) gNil)))) (tt := (tTest (tOp (rI0 fun i j => .bl (decide (i ≤ j))) (tCall (spP R_way) [] E0 (tCons (tVar 5) (tCons (tVar 6) tNil))) (tVar 2)))) rfl nd (pi_enum (by rfl) bn.enumerate_ (pa_cons (pv 0) pa_nil)) (blkOk_by (by with_unfolding_all rfl)) (fun _ _ _ _ _ => (pg_tup (n := 2) rfl (pgs_cons (pg_name (i := 4) nd rfl (by first | exact Or.inl rfl | exact Or.inr rfl)) (pgs_cons (pg_name (i := 5) nd rfl (by first | exact Or.inl rfl | exact Or.inr rfl)) pgs_nil)))) (fun _ _ _ _ _ => (pts_one (pt_cmpR op_le (pe_cal C_way (hr.mono h_way) (by rfl) (pa_cons (pv 5) (pa_cons (pv 6) pa_nil))) (pv 2) (nomark _)))) (fun _ _ _ _ _ => (pv 4)))))
    (pss_one (ps_ret (pe_tup (pa_cons (pe_op op_repR (pe_lst (pa_cons pe_int pa_nil)) (pe_callB Pu.cb_len (by rfl) bn.len_ (by decide +kernel) (pa_cons (pv 0) pa_nil))) (pa_cons (pv 3) pa_nil))))))
theorem ok_spot_problem {R : List D → (D → Prop) → Prop} (F : Fun K "spot_problem" "spot_problem" s_spot_problem f fd) (bn : Bn mg) {R_way : List D → (D → Prop) → Prop} {k_way : Nat} (C_way : Cal P w K mg base "way" ["one", "other"] (spP R_way) k_way) (h_way : k_way ≤ k) (len : ∀ ds Z, R ds Z → ds.length = 3) (sx : ∀ ds Z, R ds Z → SX (T_spot_problem K R_way) (startE N_spot_problem ds) { nx := fun _ => Z .none, rt := fun d _ => Z d }) :
    FnOk P w K mg base CX0 (k + 1) f fd ["spots", "racks", "reach"] (spP R) := fn_pure F sc_spot_problem len fun cdv A outer s H E hr => ⟨_, ps_spot_problem bn hr C_way h_way, sx⟩
theorem ps_fewest_spots {cdv : Value} {A : Around} {outer : List PySem.Env} {s : Shared} {H : Hp} {E : XK} (bn : Bn mg) (hr : Room k (A.deeper (PyProof.Rows.envOfC "fewest_spots" (defScope s_fewest_spots) s.heap.objs.size f cdv))) {R_spot_problem : List D → (D → Prop) → Prop} {k_spot_problem : Nat} (C_spot_problem : Cal P w K mg base "spot_problem" ["spots", "racks", "reach"] (spP R_spot_problem) k_spot_problem) (h_spot_problem : k_spot_problem ≤ k) {R_cover : List D → (D → Prop) → Prop} {k_cover : Nat} (C_cover : Cal P w K mg base "cover" ["problem"] (spP R_cover) k_cover) (h_cover : k_cover ≤ k) :
    PSs (cxOf CX0 P w K mg base N_fewest_spots "fewest_spots" (defScope s_fewest_spots) f cdv A outer s H E).nox (defBody s_fewest_spots) (T_fewest_spots K R_spot_problem R_cover) :=
  have nd := sc_fewest_spots.nd
  (pss_cons (ps_set (i := 3) nd rfl (by first | exact Or.inl rfl | exact Or.inr rfl) (pe_cal C_spot_problem (hr.mono h_spot_problem) (by rfl) (pa_cons (pv 0) (pa_cons (pv 1) (pa_cons (pv 2) pa_nil)))))
    (pss_cons (ps_if (pt_cmpR (op_inP hr.units) (pe_lst pa_nil) (pe_ix ix_any (pv 3) pe_int (fun _ _ => rfl)) (by rfl))
      (pss_one (ps_ret (pe_tup (pa_cons pe_str (pa_cons (pe_bm PySem.F.plainAttrs_list PySem.F.slot_list_index PySem.F.type_list_index (mt_indexD (units65 hr)) (pe_ix ix_any (pv 3) pe_int (fun _ _ => rfl)) (pa_cons (pe_lst pa_nil) pa_nil)) pa_nil)))))
      pss_nil)
    (pss_cons (ps_set (i := 4) nd rfl (by first | exact Or.inl rfl | exact Or.inr rfl) (pe_cal C_cover (hr.mono h_cover) (by rfl) (pa_cons (pv 3) pa_nil)))
    (pss_one (ps_ret (pe_tup (pa_cons pe_str (pa_cons (pe_ix ix_any (pv 4) pe_int (fun _ _ => rfl)) (pa_cons (pe_ix ix_any (pv 4) pe_int (fun _ _ => rfl)) pa_nil)))))))))
theorem ok_fewest_spots {R : List D → (D → Prop) → Prop} (F : Fun K "fewest_spots" "fewest_spots" s_fewest_spots f fd) (bn : Bn mg) {R_spot_problem : List D → (D → Prop) → Prop} {k_spot_problem : Nat} (C_spot_problem : Cal P w K mg base "spot_problem" ["spots", "racks", "reach"] (spP R_spot_problem) k_spot_problem) (h_spot_problem : k_spot_problem ≤ k) {R_cover : List D → (D → Prop) → Prop} {k_cover : Nat} (C_cover : Cal P w K mg base "cover" ["problem"] (spP R_cover) k_cover) (h_cover : k_cover ≤ k) (len : ∀ ds Z, R ds Z → ds.length = 3) (sx : ∀ ds Z, R ds Z → SX (T_fewest_spots K R_spot_problem R_cover) (startE N_fewest_spots ds) { nx := fun _ => Z .none, rt := fun d _ => Z d }) :
    FnOk P w K mg base CX0 (k + 1) f fd ["spots", "racks", "reach"] (spP R) := fn_pure F sc_fewest_spots len fun cdv A outer s H E hr => ⟨_, ps_fewest_spots bn hr C_spot_problem h_spot_problem C_cover h_cover, sx⟩
theorem ps_fewest_spots_fault {cdv : Value} {A : Around} {outer : List PySem.Env} {s : Shared} {H : Hp} {E : XK} (bn : Bn mg) (hr : Room k (A.deeper (PyProof.Rows.envOfC "fewest_spots_fault" (defScope s_fewest_spots_fault) s.heap.objs.size f cdv))) {R_spot_problem : List D → (D → Prop) → Prop} {k_spot_problem : Nat} (C_spot_problem : Cal P w K mg base "spot_problem" ["spots", "racks", "reach"] (spP R_spot_problem) k_spot_problem) (h_spot_problem : k_spot_problem ≤ k) {R_cover_fault : List D → (D → Prop) → Prop} {k_cover_fault : Nat} (C_cover_fault : Cal P w K mg base "cover_fault" ["problem", "told"] (spP R_cover_fault) k_cover_fault) (h_cover_fault : k_cover_fault ≤ k) :
    PSs (cxOf CX0 P w K mg base N_fewest_spots_fault "fewest_spots_fault" (defScope s_fewest_spots_fault) f cdv A outer s H E).nox (defBody s_fewest_spots_fault) (T_fewest_spots_fault K R_spot_problem R_cover_fault) :=
  have nd := sc_fewest_spots_fault.nd
  (pss_cons (ps_set (i := 4) nd rfl (by first | exact Or.inl rfl | exact Or.inr rfl) (pe_cal C_spot_problem (hr.mono h_spot_problem) (by rfl) (pa_cons (pv 0) (pa_cons (pv 1) (pa_cons (pv 2) pa_nil)))))
    (pss_cons (ps_if (pt_cmpR (op_eqP hr.units) (pe_ix ix_any (pv 3) pe_int (fun _ _ => rfl)) pe_str (nomark _))
      (pss_cons (ps_set (i := 5) nd rfl (by first | exact Or.inl rfl | exact Or.inr rfl) (pe_and (pe_chain op_le op_lt pe_int (pe_ix ix_any (pv 3) pe_int (fun _ _ => rfl)) (pe_callB Pu.cb_len (by rfl) bn.len_ (by decide +kernel) (pa_cons (pv 1) pa_nil))) (pe_one (pe_cmpR (op_eqP hr.units) (pe_ix ix_any (pe_ix ix_any (pv 4) pe_int (fun _ _ => rfl)) (pe_ix ix_any (pv 3) pe_int (fun _ _ => rfl)) (fun _ _ => rfl)) (pe_lst pa_nil) (nomark _)))))
    (pss_one (ps_ret (pe_ifExp (pt_val (pv 5)) pe_non (pe_tup (pa_cons pe_str pa_nil))))))
      pss_nil)
    (pss_cons (ps_if (pt_cmpR (op_inP hr.units) (pe_lst pa_nil) (pe_ix ix_any (pv 4) pe_int (fun _ _ => rfl)) (by rfl))
      (pss_one (ps_ret (pe_tup (pa_cons pe_str (pa_cons (pe_bm PySem.F.plainAttrs_list PySem.F.slot_list_index PySem.F.type_list_index (mt_indexD (units65 hr)) (pe_ix ix_any (pv 4) pe_int (fun _ _ => rfl)) (pa_cons (pe_lst pa_nil) pa_nil)) pa_nil)))))
      pss_nil)
    (pss_one (ps_ret (pe_cal C_cover_fault (hr.mono h_cover_fault) (by rfl) (pa_cons (pv 4) (pa_cons (pe_tup (pa_cons pe_str (pa_cons (pe_ix ix_any (pv 3) pe_int (fun _ _ => rfl)) (pa_cons (pe_callB Pu.cb_len (by rfl) bn.len_ (by decide +kernel) (pa_cons (pe_ix ix_any (pv 3) pe_int (fun _ _ => rfl)) pa_nil)) (pa_cons (pe_ix ix_any (pv 3) pe_int (fun _ _ => rfl)) pa_nil))))) pa_nil))))))))
theorem ok_fewest_spots_fault {R : List D → (D → Prop) → Prop} (F : Fun K "fewest_spots_fault" "fewest_spots_fault" s_fewest_spots_fault f fd) (bn : Bn mg) {R_spot_problem : List D → (D → Prop) → Prop} {k_spot_problem : Nat} (C_spot_problem : Cal P w K mg base "spot_problem" ["spots", "racks", "reach"] (spP R_spot_problem) k_spot_problem) (h_spot_problem : k_spot_problem ≤ k) {R_cover_fault : List D → (D → Prop) → Prop} {k_cover_fault : Nat} (C_cover_fault : Cal P w K mg base "cover_fault" ["problem", "told"] (spP R_cover_fault) k_cover_fault) (h_cover_fault : k_cover_fault ≤ k) (len : ∀ ds Z, R ds Z → ds.length = 4) (sx : ∀ ds Z, R ds Z → SX (T_fewest_spots_fault K R_spot_problem R_cover_fault) (startE N_fewest_spots_fault ds) { nx := fun _ => Z .none, rt := fun d _ => Z d }) :
    FnOk P w K mg base CX0 (k + 1) f fd ["spots", "racks", "reach", "told"] (spP R) := fn_pure F sc_fewest_spots_fault len fun cdv A outer s H E hr => ⟨_, ps_fewest_spots_fault bn hr C_spot_problem h_spot_problem C_cover_fault h_cover_fault, sx⟩
theorem ps_reaches {cdv : Value} {A : Around} {outer : List PySem.Env} {s : Shared} {H : Hp} {E : XK} (bn : Bn mg) (hr : Room k (A.deeper (PyProof.Rows.envOfC "reaches" (defScope s_reaches) s.heap.objs.size f cdv))) {R_way : List D → (D → Prop) → Prop} {k_way : Nat} (C_way : Cal P w K mg base "way" ["one", "other"] (spP R_way) k_way) (h_way : k_way ≤ k) :
    PSs (cxOf CX0 P w K mg base N_reaches "reaches" (defScope s_reaches) f cdv A outer s H E).nox (defBody s_reaches) (T_reaches K R_way) :=
  have nd := sc_reaches.nd
  (pss_one (ps_ret (pe_sortSet rfl (by rfl) bn.sorted_ (by rfl) bn.set_ (pe_lc2 (own := [("spot", 2), ("rack", 3)]) (vs1 := [3]) (g := (gName 2)) (tt := tYes) (wi1 := (iList K (tVar 1))) (g1 := (gName 3)) (tt1 := tYes) (te := (tCall (spP R_way) [] E0 (tCons (tVar 2) (tCons (tVar 3) tNil)))) rfl nd (pi_list (pv 0)) (blkOk_by (N := N_reaches) (sc := defScope s_reaches) (by decide +kernel)) (by decide) (fun _ _ _ _ _ => (pg_name (i := 2) nd rfl (by first | exact Or.inl rfl | exact Or.inr rfl))) (fun _ _ _ _ _ => pts_nil) (fun _ _ _ _ _ => (pi_list (pv 1))) (fun _ _ _ _ _ => (pg_name (i := 3) nd rfl (by first | exact Or.inl rfl | exact Or.inr rfl))) (fun _ _ _ _ _ => pts_nil) (fun _ _ _ _ _ => (pe_cal C_way (hr.mono h_way) (by rfl) (pa_cons (pv 2) (pa_cons (pv 3) pa_nil))))))))
theorem ok_reaches {R : List D → (D → Prop) → Prop} (F : Fun K "reaches" "reaches" s_reaches f fd) (bn : Bn mg) {R_way : List D → (D → Prop) → Prop} {k_way : Nat} (C_way : Cal P w K mg base "way" ["one", "other"] (spP R_way) k_way) (h_way : k_way ≤ k) (len : ∀ ds Z, R ds Z → ds.length = 2) (sx : ∀ ds Z, R ds Z → SX (T_reaches K R_way) (startE N_reaches ds) { nx := fun _ => Z .none, rt := fun d _ => Z d }) :
    FnOk P w K mg base CX0 (k + 1) f fd ["spots", "racks"] (spP R) := fn_pure F sc_reaches len fun cdv A outer s H E hr => ⟨_, ps_reaches bn hr C_way h_way, sx⟩
theorem ps_least_reach {cdv : Value} {A : Around} {outer : List PySem.Env} {s : Shared} {H : Hp} {E : XK} (bn : Bn mg) (hr : Room k (A.deeper (PyProof.Rows.envOfC "least_reach" (defScope s_least_reach) s.heap.objs.size f cdv))) {R_reaches : List D → (D → Prop) → Prop} {k_reaches : Nat} (C_reaches : Cal P w K mg base "reaches" ["spots", "racks"] (spP R_reaches) k_reaches) (h_reaches : k_reaches ≤ k) {R_fewest_spots : List D → (D → Prop) → Prop} {k_fewest_spots : Nat} (C_fewest_spots : Cal P w K mg base "fewest_spots" ["spots", "racks", "reach"] (spP R_fewest_spots) k_fewest_spots) (h_fewest_spots : k_fewest_spots ≤ k) :
    PSs (cxOf CX0 P w K mg base N_least_reach "least_reach" (defScope s_least_reach) f cdv A outer s H E).nox (defBody s_least_reach) (T_least_reach K R_reaches R_fewest_spots) :=
  have nd := sc_least_reach.nd
  (pss_cons (ps_set (i := 3) nd rfl (by first | exact Or.inl rfl | exact Or.inr rfl) (pe_cal C_reaches (hr.mono h_reaches) (by rfl) (pa_cons (pv 0) (pa_cons (pv 1) pa_nil))))
    (pss_cons (ps_par (i := 4) (j := 5) rfl nd rfl rfl (by decide) rfl rfl (pa_cons (pe_un un_neg pe_int) (pa_cons (pe_op op_sub (pe_callB Pu.cb_len (by rfl) bn.len_ (by decide +kernel) (pa_cons (pv 3) pa_nil)) pe_int) pa_nil)) (by rfl))
    (pss_cons (ps_while PassesOwn.never (pt_cmpR op_lt (pe_op op_plus (pv 4) pe_int) (pv 5) (nomark _))
      (pss_cons (ps_set (i := 6) nd rfl (by first | exact Or.inl rfl | exact Or.inr rfl) (pe_op op_fdiv (pe_op op_plus (pv 4) (pv 5)) pe_int))
    (pss_cons (ps_set (i := 7) nd rfl (by first | exact Or.inl rfl | exact Or.inr rfl) (pe_cal C_fewest_spots (hr.mono h_fewest_spots) (by rfl) (pa_cons (pv 0) (pa_cons (pv 1) (pa_cons (pe_ix ix_any (pv 3) (pv 6) (fun _ _ => rfl)) pa_nil)))))
    (pss_one (ps_if (PW.pt (pw_and (pt_cmpR (op_eqP hr.units) (pe_ix ix_any (pv 7) pe_int (fun _ _ => rfl)) pe_str (nomark _)) (pw_and1 (pt_cmpR op_le (pe_callB Pu.cb_len (by rfl) bn.len_ (by decide +kernel) (pa_cons (pe_ix ix_any (pv 7) pe_int (fun _ _ => rfl)) pa_nil)) (pv 2) (nomark _)))))
      (pss_one (ps_set (i := 5) nd rfl (by first | exact Or.inl rfl | exact Or.inr rfl) (pv 6)))
      (pss_one (ps_set (i := 4) nd rfl (by first | exact Or.inl rfl | exact Or.inr rfl) (pv 6))))))))
    (pss_cons (ps_set (i := 8) nd rfl (by first | exact Or.inl rfl | exact Or.inr rfl) (pe_ifExp (pt_cmpR (op_eqP hr.units) (pv 5) pe_int (nomark _)) pe_non (pe_cal C_fewest_spots (hr.mono h_fewest_spots) (by rfl) (pa_cons (pv 0) (pa_cons (pv 1) (pa_cons (pe_ix ix_any (pv 3) (pe_op op_sub (pv 5) pe_int) (fun _ _ => rfl)) pa_nil))))))
    (pss_one (ps_ret (pe_tup (pa_cons (pe_ix ix_any (pv 3) (pv 5) (fun _ _ => rfl)) (pa_cons (pe_cal C_fewest_spots (hr.mono h_fewest_spots) (by rfl) (pa_cons (pv 0) (pa_cons (pv 1) (pa_cons (pe_ix ix_any (pv 3) (pv 5) (fun _ _ => rfl)) pa_nil)))) (pa_cons (pv 8) pa_nil))))))))))
theorem ok_least_reach {R : List D → (D → Prop) → Prop} (F : Fun K "least_reach" "least_reach" s_least_reach f fd) (bn : Bn mg) {R_reaches : List D → (D → Prop) → Prop} {k_reaches : Nat} (C_reaches : Cal P w K mg base "reaches" ["spots", "racks"] (spP R_reaches) k_reaches) (h_reaches : k_reaches ≤ k) {R_fewest_spots : List D → (D → Prop) → Prop} {k_fewest_spots : Nat} (C_fewest_spots : Cal P w K mg base "fewest_spots" ["spots", "racks", "reach"] (spP R_fewest_spots) k_fewest_spots) (h_fewest_spots : k_fewest_spots ≤ k) (len : ∀ ds Z, R ds Z → ds.length = 3) (sx : ∀ ds Z, R ds Z → SX (T_least_reach K R_reaches R_fewest_spots) (startE N_least_reach ds) { nx := fun _ => Z .none, rt := fun d _ => Z d }) :
    FnOk P w K mg base CX0 (k + 1) f fd ["spots", "racks", "count"] (spP R) := fn_pure F sc_least_reach len fun cdv A outer s H E hr => ⟨_, ps_least_reach bn hr C_reaches h_reaches C_fewest_spots h_fewest_spots, sx⟩
theorem ps_least_reach_fault {cdv : Value} {A : Around} {outer : List PySem.Env} {s : Shared} {H : Hp} {E : XK} (bn : Bn mg) (hr : Room k (A.deeper (PyProof.Rows.envOfC "least_reach_fault" (defScope s_least_reach_fault) s.heap.objs.size f cdv))) {R_reaches : List D → (D → Prop) → Prop} {k_reaches : Nat} (C_reaches : Cal P w K mg base "reaches" ["spots", "racks"] (spP R_reaches) k_reaches) (h_reaches : k_reaches ≤ k) {R_fewest_spots_fault : List D → (D → Prop) → Prop} {k_fewest_spots_fault : Nat} (C_fewest_spots_fault : Cal P w K mg base "fewest_spots_fault" ["spots", "racks", "reach", "told"] (spP R_fewest_spots_fault) k_fewest_spots_fault) (h_fewest_spots_fault : k_fewest_spots_fault ≤ k) :
    PSs (cxOf CX0 P w K mg base N_least_reach_fault "least_reach_fault" (defScope s_least_reach_fault) f cdv A outer s H E).nox (defBody s_least_reach_fault) (T_least_reach_fault K R_reaches R_fewest_spots_fault) :=
  have nd := sc_least_reach_fault.nd
  (pss_cons (ps_asg (pv 3) (pg_tup (n := 3) rfl (pgs_cons (pg_name (i := 4) nd rfl (by first | exact Or.inl rfl | exact Or.inr rfl)) (pgs_cons (pg_name (i := 5) nd rfl (by first | exact Or.inl rfl | exact Or.inr rfl)) (pgs_cons (pg_name (i := 6) nd rfl (by first | exact Or.inl rfl | exact Or.inr rfl)) pgs_nil)))))
    (pss_cons (ps_set (i := 7) nd rfl (by first | exact Or.inl rfl | exact Or.inr rfl) (pe_cal C_reaches (hr.mono h_reaches) (by rfl) (pa_cons (pv 0) (pa_cons (pv 1) pa_nil))))
    (pss_cons (ps_if (pt_cmpR (op_ninP hr.units) (pv 4) (pv 7) (by rfl))
      (pss_one (ps_ret (pe_tup (pa_cons pe_str pa_nil))))
      pss_nil)
    (pss_cons (ps_if (PW.pt (pw_or (pt_cmpR (op_neP hr.units) (pe_ix ix_any (pv 5) pe_int (fun _ _ => rfl)) pe_str (nomark _)) (pw_or (pt_cmpR op_gt (pe_callB Pu.cb_len (by rfl) bn.len_ (by decide +kernel) (pa_cons (pe_ix ix_any (pv 5) pe_int (fun _ _ => rfl)) pa_nil)) (pv 2) (nomark _)) (pw_or1 (pt_cmpR op_isnt (pe_cal C_fewest_spots_fault (hr.mono h_fewest_spots_fault) (by rfl) (pa_cons (pv 0) (pa_cons (pv 1) (pa_cons (pv 4) (pa_cons (pv 5) pa_nil))))) pe_non (nomark _))))))
      (pss_one (ps_ret (pe_tup (pa_cons pe_str pa_nil))))
      pss_nil)
    (pss_cons (ps_if (pt_cmpR (op_eqP hr.units) (pv 4) (pe_ix ix_any (pv 7) pe_int (fun _ _ => rfl)) (nomark _))
      (pss_one (ps_ret (pe_ifExp (pt_cmpR op_is (pv 6) pe_non (nomark _)) pe_non (pe_tup (pa_cons pe_str pa_nil)))))
      pss_nil)
    (pss_cons (ps_if (PW.pt (pw_or (pt_cmpR op_is (pv 6) pe_non (nomark _)) (pw_or1 (PW.pt (pw_and (pt_cmpR (op_eqP hr.units) (pe_ix ix_any (pv 6) pe_int (fun _ _ => rfl)) pe_str (nomark _)) (pw_and1 (pt_cmpR op_le (pe_callB Pu.cb_len (by rfl) bn.len_ (by decide +kernel) (pa_cons (pe_ix ix_any (pv 6) pe_int (fun _ _ => rfl)) pa_nil)) (pv 2) (nomark _))))))))
      (pss_one (ps_ret (pe_tup (pa_cons pe_str pa_nil))))
      pss_nil)
    (pss_cons (ps_set (i := 8) nd rfl (by first | exact Or.inl rfl | exact Or.inr rfl) (pe_ix ix_any (pv 7) (pe_op op_sub (pe_bm PySem.F.plainAttrs_list PySem.F.slot_list_index PySem.F.type_list_index (mt_indexD (units65 hr)) (pv 7) (pa_cons (pv 4) pa_nil)) pe_int) (fun _ _ => rfl)))
    (pss_one (ps_ret (pe_ifExp (pt_cmpR op_is (pe_cal C_fewest_spots_fault (hr.mono h_fewest_spots_fault) (by rfl) (pa_cons (pv 0) (pa_cons (pv 1) (pa_cons (pv 8) (pa_cons (pv 6) pa_nil))))) pe_non (nomark _)) pe_non (pe_tup (pa_cons pe_str pa_nil))))))))))))
theorem ok_least_reach_fault {R : List D → (D → Prop) → Prop} (F : Fun K "least_reach_fault" "least_reach_fault" s_least_reach_fault f fd) (bn : Bn mg) {R_reaches : List D → (D → Prop) → Prop} {k_reaches : Nat} (C_reaches : Cal P w K mg base "reaches" ["spots", "racks"] (spP R_reaches) k_reaches) (h_reaches : k_reaches ≤ k) {R_fewest_spots_fault : List D → (D → Prop) → Prop} {k_fewest_spots_fault : Nat} (C_fewest_spots_fault : Cal P w K mg base "fewest_spots_fault" ["spots", "racks", "reach", "told"] (spP R_fewest_spots_fault) k_fewest_spots_fault) (h_fewest_spots_fault : k_fewest_spots_fault ≤ k) (len : ∀ ds Z, R ds Z → ds.length = 4) (sx : ∀ ds Z, R ds Z → SX (T_least_reach_fault K R_reaches R_fewest_spots_fault) (startE N_least_reach_fault ds) { nx := fun _ => Z .none, rt := fun d _ => Z d }) :
    FnOk P w K mg base CX0 (k + 1) f fd ["spots", "racks", "count", "told"] (spP R) := fn_pure F sc_least_reach_fault len fun cdv A outer s H E hr => ⟨_, ps_least_reach_fault bn hr C_reaches h_reaches C_fewest_spots_fault h_fewest_spots_fault, sx⟩
theorem ps_nearest_spots {cdv : Value} {A : Around} {outer : List PySem.Env} {s : Shared} {H : Hp} {E : XK} (bn : Bn mg) (hr : Room k (A.deeper (PyProof.Rows.envOfC "nearest_spots" (defScope s_nearest_spots) s.heap.objs.size f cdv))) {R_way : List D → (D → Prop) → Prop} {k_way : Nat} (C_way : Cal P w K mg base "way" ["one", "other"] (spP R_way) k_way) (h_way : k_way ≤ k) :
    PSs (cxOf CX0 P w K mg base N_nearest_spots "nearest_spots" (defScope s_nearest_spots) f cdv A outer s H E).nox (defBody s_nearest_spots) (T_nearest_spots K R_way) :=
  have nd := sc_nearest_spots.nd
  (pss_cons (ps_set (i := 3) nd rfl (by first | exact Or.inl rfl | exact Or.inr rfl) (pe_lst pa_nil))
    (pss_cons (ps_for PassesOwn.never rfl (pi_list (pv 1)) (pg_name (i := 4) nd rfl (by first | exact Or.inl rfl | exact Or.inr rfl))
      (pss_one (ps_expr (pe_bm PySem.F.plainAttrs_list PySem.F.slot_list_append PySem.F.type_list_append mt_append (pv 3) (pa_cons (pe_ix ix_any (pe_callB (cb_minD rfl hr.units) (by rfl) bn.min_ (by decide +kernel) (pa_cons (pe_lc (own := [("at", 5)]) (g := (gName 5)) (tt := tYes) rfl nd (pi_list (pv 2)) (blkOk_by (N := N_nearest_spots) (sc := defScope s_nearest_spots) (by decide +kernel)) (fun _ _ _ _ _ => (pg_name (i := 5) nd rfl (by first | exact Or.inl rfl | exact Or.inr rfl))) (fun _ _ _ _ _ => pts_nil) (fun _ _ _ _ _ => (pe_tup (pa_cons (pe_cal C_way (hr.mono h_way) (by rfl) (pa_cons (pe_ix ix_any (pv 0) (pv 5) (fun _ _ => rfl)) (pa_cons (pv 4) pa_nil))) (pa_cons (pv 5) pa_nil))))) pa_nil)) pe_int (fun _ _ => rfl)) pa_nil)))))
    (pss_one (ps_ret (pv 3)))))
theorem ok_nearest_spots {R : List D → (D → Prop) → Prop} (F : Fun K "nearest_spots" "nearest_spots" s_nearest_spots f fd) (bn : Bn mg) {R_way : List D → (D → Prop) → Prop} {k_way : Nat} (C_way : Cal P w K mg base "way" ["one", "other"] (spP R_way) k_way) (h_way : k_way ≤ k) (len : ∀ ds Z, R ds Z → ds.length = 3) (sx : ∀ ds Z, R ds Z → SX (T_nearest_spots K R_way) (startE N_nearest_spots ds) { nx := fun _ => Z .none, rt := fun d _ => Z d }) :
    FnOk P w K mg base CX0 (k + 1) f fd ["spots", "racks", "chosen"] (spP R) := fn_pure F sc_nearest_spots len fun cdv A outer s H E hr => ⟨_, ps_nearest_spots bn hr C_way h_way, sx⟩
theorem ps_middle_spot {cdv : Value} {A : Around} {outer : List PySem.Env} {s : Shared} {H : Hp} {E : XK} (bn : Bn mg) (hr : Room k (A.deeper (PyProof.Rows.envOfC "middle_spot" (defScope s_middle_spot) s.heap.objs.size f cdv))) {R_way : List D → (D → Prop) → Prop} {k_way : Nat} (C_way : Cal P w K mg base "way" ["one", "other"] (spP R_way) k_way) (h_way : k_way ≤ k) :
    PSs (cxOf CX0 P w K mg base N_middle_spot "middle_spot" (defScope s_middle_spot) f cdv A outer s H E).nox (defBody s_middle_spot) (T_middle_spot K R_way) :=
  have nd := sc_middle_spot.nd
  (pss_cons (ps_set (i := 1) nd rfl (by first | exact Or.inl rfl | exact Or.inr rfl) (pe_callB (cb_sortD hr.units) (by rfl) bn.sorted_ (by decide +kernel) (pa_cons (pe_lc (own := [("rack", 2)]) (g := (gName 2)) (tt := tYes) rfl nd (pi_list (pv 0)) (blkOk_by (N := N_middle_spot) (sc := defScope s_middle_spot) (by decide +kernel)) (fun _ _ _ _ _ => (pg_name (i := 2) nd rfl (by first | exact Or.inl rfl | exact Or.inr rfl))) (fun _ _ _ _ _ => pts_nil) (fun _ _ _ _ _ => (pe_ix ix_any (pv 2) pe_int (fun _ _ => rfl)))) pa_nil)))
    (pss_cons (ps_set (i := 3) nd rfl (by first | exact Or.inl rfl | exact Or.inr rfl) (pe_callB (cb_sortD hr.units) (by rfl) bn.sorted_ (by decide +kernel) (pa_cons (pe_lc (own := [("rack", 2)]) (g := (gName 2)) (tt := tYes) rfl nd (pi_list (pv 0)) (blkOk_by (N := N_middle_spot) (sc := defScope s_middle_spot) (by decide +kernel)) (fun _ _ _ _ _ => (pg_name (i := 2) nd rfl (by first | exact Or.inl rfl | exact Or.inr rfl))) (fun _ _ _ _ _ => pts_nil) (fun _ _ _ _ _ => (pe_ix ix_any (pv 2) pe_int (fun _ _ => rfl)))) pa_nil)))
    (pss_cons (ps_set (i := 4) nd rfl (by first | exact Or.inl rfl | exact Or.inr rfl) (pe_tup (pa_cons (pe_ix ix_any (pv 1) (pe_op op_fdiv (pe_op op_sub (pe_callB Pu.cb_len (by rfl) bn.len_ (by decide +kernel) (pa_cons (pv 1) pa_nil)) pe_int) pe_int) (fun _ _ => rfl)) (pa_cons (pe_ix ix_any (pv 3) (pe_op op_fdiv (pe_op op_sub (pe_callB Pu.cb_len (by rfl) bn.len_ (by decide +kernel) (pa_cons (pv 3) pa_nil)) pe_int) pe_int) (fun _ _ => rfl)) pa_nil))))
    (pss_one (ps_ret (pe_tup (pa_cons (pv 4) (pa_cons (pe_callB (cr_sum rfl) (by rfl) bn.sum_ (by decide +kernel) (pa_cons (pe_lc (own := [("rack", 2)]) (g := (gName 2)) (tt := tYes) rfl nd (pi_list (pv 0)) (blkOk_by (N := N_middle_spot) (sc := defScope s_middle_spot) (by decide +kernel)) (fun _ _ _ _ _ => (pg_name (i := 2) nd rfl (by first | exact Or.inl rfl | exact Or.inr rfl))) (fun _ _ _ _ _ => pts_nil) (fun _ _ _ _ _ => (pe_cal C_way (hr.mono h_way) (by rfl) (pa_cons (pv 4) (pa_cons (pv 2) pa_nil))))) pa_nil)) pa_nil))))))))
theorem ok_middle_spot {R : List D → (D → Prop) → Prop} (F : Fun K "middle_spot" "middle_spot" s_middle_spot f fd) (bn : Bn mg) {R_way : List D → (D → Prop) → Prop} {k_way : Nat} (C_way : Cal P w K mg base "way" ["one", "other"] (spP R_way) k_way) (h_way : k_way ≤ k) (len : ∀ ds Z, R ds Z → ds.length = 1) (sx : ∀ ds Z, R ds Z → SX (T_middle_spot K R_way) (startE N_middle_spot ds) { nx := fun _ => Z .none, rt := fun d _ => Z d }) :
    FnOk P w K mg base CX0 (k + 1) f fd ["racks"] (spP R) := fn_pure F sc_middle_spot len fun cdv A outer s H E hr => ⟨_, ps_middle_spot bn hr C_way h_way, sx⟩
theorem ps_l_draw {cdv : Value} {A : Around} {outer : List PySem.Env} {s : Shared} {H : Hp} {E : XK} (bn : Bn mg) (hr : Room k (A.deeper (PyProof.Rows.envOfC "_law_draw" (defScope s_l_draw) s.heap.objs.size f cdv))) :
    PSs (cxOf CX0 P w K mg base N_l_draw "_law_draw" (defScope s_l_draw) f cdv A outer s H E).nox (defBody s_l_draw) (T_l_draw K) :=
  have nd := sc_l_draw.nd
  (pss_cons (ps_if (pt_cmpR (op_eqP hr.units) (pe_ix ix_any (pv 0) pe_int (fun _ _ => rfl)) pe_int (nomark _))
      (pss_cons (ps_set (i := 3) nd rfl (by first | exact Or.inl rfl | exact Or.inr rfl) pe_int)
    (pss_cons (ps_if (pt_cmpR op_gt (pe_callB Pu.cb_len (by rfl) bn.len_ (by decide +kernel) (pa_cons (pv 1) pa_nil)) pe_int (nomark _))
      (pss_one (ps_set (i := 3) nd rfl (by first | exact Or.inl rfl | exact Or.inr rfl) (pe_ix ix_any (pv 1) (pe_op op_mod (pe_ix ix_any (pv 0) pe_int (fun _ _ => rfl)) (pe_callB Pu.cb_len (by rfl) bn.len_ (by decide +kernel) (pa_cons (pv 1) pa_nil))) (fun _ _ => rfl))))
      pss_nil)
    (pss_cons (ps_if (pt_cmpR op_lt (pv 3) pe_int (nomark _))
      (pss_one (ps_set (i := 3) nd rfl (by first | exact Or.inl rfl | exact Or.inr rfl) (pe_op op_sub pe_int (pe_op op_mul pe_int (pv 3)))))
      pss_nil)
    (pss_cons (ps_set (i := 4) nd rfl (by first | exact Or.inl rfl | exact Or.inr rfl) (pe_op op_mod (pe_callTy cb_int (by rfl) bn.int_ (by decide +kernel) (pa_cons (pe_op op_mul (pe_op op_plus (pe_op op_plus (pv 3) (pe_op op_mul (pe_ix ix_any (pv 0) pe_int (fun _ _ => rfl)) pe_int)) pe_int) pe_int) pa_nil)) pe_int))
    (pss_cons (ps_asg (pe_op op_mod (pe_callTy cb_int (by rfl) bn.int_ (by decide +kernel) (pa_cons (pe_op op_plus (pe_op op_mul (pv 4) pe_int) (pe_op op_mul (pe_ix ix_any (pv 0) pe_int (fun _ _ => rfl)) pe_int)) pa_nil)) pe_int) (pg_sub (pv 0) pe_int set_list))
    (pss_cons (ps_if (PW.pt (pw_and (pt_cmpR op_ge (pv 3) (pe_op op_pow pe_int pe_int) (nomark _)) (pw_and1 (pt_cmpR op_lt (pe_ix ix_any (pv 0) pe_int (fun _ _ => rfl)) (pe_callB Pu.cb_len (by rfl) bn.len_ (by decide +kernel) (pa_cons (pv 1) pa_nil)) (nomark _)))))
      (pss_one (ps_asg (pv 3) (pg_sub (pv 0) pe_int set_list)))
      pss_nil)
    (pss_one (ps_asg (pe_op op_plus (pe_ix ix_any (pv 0) pe_int (fun _ _ => rfl)) pe_int) (pg_sub (pv 0) pe_int set_list)))))))))
      pss_nil)
    (pss_cons (ps_set (i := 5) nd rfl (by first | exact Or.inl rfl | exact Or.inr rfl) (pe_op op_mod (pe_callTy cb_int (by rfl) bn.int_ (by decide +kernel) (pa_cons (pe_ix ix_any (pv 0) pe_int (fun _ _ => rfl)) pa_nil)) (pv 2)))
    (pss_cons (ps_asg (pe_op op_fdiv (pe_ix ix_any (pv 0) pe_int (fun _ _ => rfl)) (pv 2)) (pg_sub (pv 0) pe_int set_list))
    (pss_one (ps_ret (pv 5))))))
theorem ok_l_draw {R : Stt → List D → (D → Stt → Prop) → Prop} (F : Fun K "_law_draw" "_law_draw" s_l_draw f fd) (bn : Bn mg) (len : ∀ S ds Z, R S ds Z → ds.length + 1 = 3) (sx : ∀ S ds Z, R S ds Z → SX (T_l_draw K) (.st S :: (ds.map .val ++ List.replicate (N_l_draw.length - (ds.length + 1)) .emp)) { nx := fun ρ' => ∃ S', ρ'[0]? = some (.st S') ∧ Z .none S', rt := fun d ρ' => ∃ S', ρ'[0]? = some (.st S') ∧ Z d S' }) :
    FnOk P w K mg base CX0 (k + 1) f fd ["state", "script", "size"] (spS R) := fn_state F sc_l_draw len fun cdv A outer s H E hr => ⟨_, ps_l_draw bn hr, sx⟩
theorem ps_l_pick {cdv : Value} {A : Around} {outer : List PySem.Env} {s : Shared} {H : Hp} {E : XK} (bn : Bn mg) (hr : Room k (A.deeper (PyProof.Rows.envOfC "_law_pick" (defScope s_l_pick) s.heap.objs.size f cdv))) {R_l_draw : Stt → List D → (D → Stt → Prop) → Prop} {k_l_draw : Nat} (C_l_draw : Cal P w K mg base "_law_draw" ["state", "script", "size"] (spS R_l_draw) k_l_draw) (h_l_draw : k_l_draw ≤ k) :
    PSs (cxOf CX0 P w K mg base N_l_pick "_law_pick" (defScope s_l_pick) f cdv A outer s H E).nox (defBody s_l_pick) (T_l_pick K R_l_draw) :=
  have nd := sc_l_pick.nd
  (pss_one (ps_ret (pe_ix ix_any (pv 2) (pe_cal C_l_draw (hr.mono h_l_draw) (by rfl) (pa_cons (pv 0) (pa_cons (pv 1) (pa_cons (pe_callB Pu.cb_len (by rfl) bn.len_ (by decide +kernel) (pa_cons (pv 2) pa_nil)) pa_nil)))) (fun _ _ => rfl))))
theorem ok_l_pick {R : Stt → List D → (D → Stt → Prop) → Prop} (F : Fun K "_law_pick" "_law_pick" s_l_pick f fd) (bn : Bn mg) {R_l_draw : Stt → List D → (D → Stt → Prop) → Prop} {k_l_draw : Nat} (C_l_draw : Cal P w K mg base "_law_draw" ["state", "script", "size"] (spS R_l_draw) k_l_draw) (h_l_draw : k_l_draw ≤ k) (len : ∀ S ds Z, R S ds Z → ds.length + 1 = 3) (sx : ∀ S ds Z, R S ds Z → SX (T_l_pick K R_l_draw) (.st S :: (ds.map .val ++ List.replicate (N_l_pick.length - (ds.length + 1)) .emp)) { nx := fun ρ' => ∃ S', ρ'[0]? = some (.st S') ∧ Z .none S', rt := fun d ρ' => ∃ S', ρ'[0]? = some (.st S') ∧ Z d S' }) :
    FnOk P w K mg base CX0 (k + 1) f fd ["state", "script", "items"] (spS R) := fn_state F sc_l_pick len fun cdv A outer s H E hr => ⟨_, ps_l_pick bn hr C_l_draw h_l_draw, sx⟩
theorem ps_l_way {cdv : Value} {A : Around} {outer : List PySem.Env} {s : Shared} {H : Hp} {E : XK} (bn : Bn mg) (hr : Room k (A.deeper (PyProof.Rows.envOfC "_law_way" (defScope s_l_way) s.heap.objs.size f cdv))) :
    PSs (cxOf CX0 P w K mg base N_l_way "_law_way" (defScope s_l_way) f cdv A outer s H E).nox (defBody s_l_way) (T_l_way K) :=
  have nd := sc_l_way.nd
  (pss_one (ps_ret (pe_op op_plus (pe_callB cb_abs (by rfl) bn.abs_ (by decide +kernel) (pa_cons (pe_op op_sub (pe_ix ix_any (pv 0) pe_int (fun _ _ => rfl)) (pe_ix ix_any (pv 1) pe_int (fun _ _ => rfl))) pa_nil)) (pe_callB cb_abs (by rfl) bn.abs_ (by decide +kernel) (pa_cons (pe_op op_sub (pe_ix ix_any (pv 0) pe_int (fun _ _ => rfl)) (pe_ix ix_any (pv 1) pe_int (fun _ _ => rfl))) pa_nil)))))
theorem ok_l_way {R : List D → (D → Prop) → Prop} (F : Fun K "_law_way" "_law_way" s_l_way f fd) (bn : Bn mg) (len : ∀ ds Z, R ds Z → ds.length = 2) (sx : ∀ ds Z, R ds Z → SX (T_l_way K) (startE N_l_way ds) { nx := fun _ => Z .none, rt := fun d _ => Z d }) :
    FnOk P w K mg base CX0 (k + 1) f fd ["one", "other"] (spP R) := fn_pure F sc_l_way len fun cdv A outer s H E hr => ⟨_, ps_l_way bn hr, sx⟩
theorem ps_l_problem {cdv : Value} {A : Around} {outer : List PySem.Env} {s : Shared} {H : Hp} {E : XK} (bn : Bn mg) (hr : Room k (A.deeper (PyProof.Rows.envOfC "_law_problem" (defScope s_l_problem) s.heap.objs.size f cdv))) {R_l_way : List D → (D → Prop) → Prop} {k_l_way : Nat} (C_l_way : Cal P w K mg base "_law_way" ["one", "other"] (spP R_l_way) k_l_way) (h_l_way : k_l_way ≤ k) :
    PSs (cxOf CX0 P w K mg base N_l_problem "_law_problem" (defScope s_l_problem) f cdv A outer s H E).nox (defBody s_l_problem) (T_l_problem K R_l_way) :=
  have nd := sc_l_problem.nd
  (pss_cons (ps_set (i := 3) nd rfl (by first | exact Or.inl rfl | exact Or.inr rfl) (pe_lst pa_nil))
    (pss_cons (ps_for PassesOwn.never rfl (pi_list (pv 1)) (pg_name (i := 4) nd rfl (by first | exact Or.inl rfl | exact Or.inr rfl))
      (pss_one (ps_expr (pe_bm PySem.F.plainAttrs_list PySem.F.slot_list_append PySem.F.type_list_append mt_append (pv 3) (pa_cons (pe_lc (own := [("k", 5)]) (g := (gName 5)) (tt := (tTest (tOp (rI0 fun i j => .bl (decide (i ≤ j))) (tCall (spP R_l_way) [] E0 (tCons (tOp (rIxA K) (tVar 0) (tVar 5)) (tCons (tVar 4) tNil))) (tVar 2)))) rfl nd (pi_range1 (by rfl) bn.range_ (pa_cons (pe_callB Pu.cb_len (by rfl) bn.len_ (by decide +kernel) (pa_cons (pv 0) pa_nil)) pa_nil)) (blkOk_by (N := N_l_problem) (sc := defScope s_l_problem) (by decide +kernel)) (fun _ _ _ _ _ => (pg_name (i := 5) nd rfl (by first | exact Or.inl rfl | exact Or.inr rfl))) (fun _ _ _ _ _ => (pts_one (pt_cmpR op_le (pe_cal C_l_way (hr.mono h_l_way) (by rfl) (pa_cons (pe_ix ix_any (pv 0) (pv 5) (fun _ _ => rfl)) (pa_cons (pv 4) pa_nil))) (pv 2) (nomark _)))) (fun _ _ _ _ _ => (pv 5))) pa_nil)))))
    (pss_one (ps_ret (pe_tup (pa_cons (pe_op op_repR (pe_lst (pa_cons pe_int pa_nil)) (pe_callB Pu.cb_len (by rfl) bn.len_ (by decide +kernel) (pa_cons (pv 0) pa_nil))) (pa_cons (pv 3) pa_nil)))))))
theorem ok_l_problem {R : List D → (D → Prop) → Prop} (F : Fun K "_law_problem" "_law_problem" s_l_problem f fd) (bn : Bn mg) {R_l_way : List D → (D → Prop) → Prop} {k_l_way : Nat} (C_l_way : Cal P w K mg base "_law_way" ["one", "other"] (spP R_l_way) k_l_way) (h_l_way : k_l_way ≤ k) (len : ∀ ds Z, R ds Z → ds.length = 3) (sx : ∀ ds Z, R ds Z → SX (T_l_problem K R_l_way) (startE N_l_problem ds) { nx := fun _ => Z .none, rt := fun d _ => Z d }) :
    FnOk P w K mg base CX0 (k + 1) f fd ["spots", "racks", "reach"] (spP R) := fn_pure F sc_l_problem len fun cdv A outer s H E hr => ⟨_, ps_l_problem bn hr C_l_way h_l_way, sx⟩
theorem ps_l_fault {cdv : Value} {A : Around} {outer : List PySem.Env} {s : Shared} {H : Hp} {E : XK} (bn : Bn mg) (hr : Room k (A.deeper (PyProof.Rows.envOfC "_law_fault" (defScope s_l_fault) s.heap.objs.size f cdv))) {R_l_problem : List D → (D → Prop) → Prop} {k_l_problem : Nat} (C_l_problem : Cal P w K mg base "_law_problem" ["spots", "racks", "reach"] (spP R_l_problem) k_l_problem) (h_l_problem : k_l_problem ≤ k) {R_cover_fault : List D → (D → Prop) → Prop} {k_cover_fault : Nat} (C_cover_fault : Cal P w K mg base "cover_fault" ["problem", "told"] (spP R_cover_fault) k_cover_fault) (h_cover_fault : k_cover_fault ≤ k) :
    PSs (cxOf CX0 P w K mg base N_l_fault "_law_fault" (defScope s_l_fault) f cdv A outer s H E).nox (defBody s_l_fault) (T_l_fault K R_l_problem R_cover_fault) :=
  have nd := sc_l_fault.nd
  (pss_cons (ps_set (i := 4) nd rfl (by first | exact Or.inl rfl | exact Or.inr rfl) (pe_cal C_l_problem (hr.mono h_l_problem) (by rfl) (pa_cons (pv 0) (pa_cons (pv 1) (pa_cons (pv 2) pa_nil)))))
    (pss_cons (ps_setLc (i := 5) (own := [("k", 6)]) (g := (gName 6)) (tt := (tTest (tOp (rEqP K) (tOp (rIxA K) (tOp (rIxA K) (tVar 4) (tC (.int 1))) (tVar 6)) (tLst tNil)))) rfl nd rfl rfl (sw_true rfl rfl rfl (by decide +kernel)) (pi_range1 (by rfl) bn.range_ (pa_cons (pe_callB Pu.cb_len (by rfl) bn.len_ (by decide +kernel) (pa_cons (pv 1) pa_nil)) pa_nil)) (blkOk_by (N := N_l_fault) (sc := defScope s_l_fault) (by decide +kernel)) (fun _ _ _ _ _ => (pg_name (i := 6) nd rfl (by first | exact Or.inl rfl | exact Or.inr rfl))) (fun _ _ _ _ _ => (pts_one (pt_cmpR (op_eqP hr.units) (pe_ix ix_any (pe_ix ix_any (pv 4) pe_int (fun _ _ => rfl)) (pv 6) (fun _ _ => rfl)) (pe_lst pa_nil) (nomark _)))) (fun _ _ _ _ _ => (pv 6)))
    (pss_cons (ps_if (pt_cmpR (op_eqP hr.units) (pe_ix ix_any (pv 3) pe_int (fun _ _ => rfl)) pe_str (nomark _))
      (pss_one (ps_ret (pe_ix ix_any (pe_lst (pa_cons (pe_tup (pa_cons pe_str pa_nil)) (pa_cons pe_non pa_nil))) (pe_callTy cb_int (by rfl) bn.int_ (by decide +kernel) (pa_cons (pe_cmpR (op_inP hr.units) (pe_ix ix_any (pv 3) pe_int (fun _ _ => rfl)) (pv 5) (by rfl)) pa_nil)) (fun _ _ => rfl))))
      pss_nil)
    (pss_cons (ps_if (pt_cmpR (op_neP hr.units) (pv 5) (pe_lst pa_nil) (nomark _))
      (pss_one (ps_ret (pe_tup (pa_cons pe_str (pa_cons (pe_ix ix_any (pv 5) pe_int (fun _ _ => rfl)) pa_nil)))))
      pss_nil)
    (pss_one (ps_ret (pe_cal C_cover_fault (hr.mono h_cover_fault) (by rfl) (pa_cons (pv 4) (pa_cons (pe_tup (pa_cons pe_str (pa_cons (pe_ix ix_any (pv 3) pe_int (fun _ _ => rfl)) (pa_cons (pe_callB Pu.cb_len (by rfl) bn.len_ (by decide +kernel) (pa_cons (pe_ix ix_any (pv 3) pe_int (fun _ _ => rfl)) pa_nil)) (pa_cons (pe_ix ix_any (pv 3) pe_int (fun _ _ => rfl)) pa_nil))))) pa_nil)))))))))
theorem ok_l_fault {R : List D → (D → Prop) → Prop} (F : Fun K "_law_fault" "_law_fault" s_l_fault f fd) (bn : Bn mg) {R_l_problem : List D → (D → Prop) → Prop} {k_l_problem : Nat} (C_l_problem : Cal P w K mg base "_law_problem" ["spots", "racks", "reach"] (spP R_l_problem) k_l_problem) (h_l_problem : k_l_problem ≤ k) {R_cover_fault : List D → (D → Prop) → Prop} {k_cover_fault : Nat} (C_cover_fault : Cal P w K mg base "cover_fault" ["problem", "told"] (spP R_cover_fault) k_cover_fault) (h_cover_fault : k_cover_fault ≤ k) (len : ∀ ds Z, R ds Z → ds.length = 4) (sx : ∀ ds Z, R ds Z → SX (T_l_fault K R_l_problem R_cover_fault) (startE N_l_fault ds) { nx := fun _ => Z .none, rt := fun d _ => Z d }) :
    FnOk P w K mg base CX0 (k + 1) f fd ["spots", "racks", "reach", "told"] (spP R) := fn_pure F sc_l_fault len fun cdv A outer s H E hr => ⟨_, ps_l_fault bn hr C_l_problem h_l_problem C_cover_fault h_cover_fault, sx⟩
theorem ps_l_least {cdv : Value} {A : Around} {outer : List PySem.Env} {s : Shared} {H : Hp} {E : XK} (bn : Bn mg) (hr : Room k (A.deeper (PyProof.Rows.envOfC "_law_least" (defScope s_l_least) s.heap.objs.size f cdv))) {R_l_problem : List D → (D → Prop) → Prop} {k_l_problem : Nat} (C_l_problem : Cal P w K mg base "_law_problem" ["spots", "racks", "reach"] (spP R_l_problem) k_l_problem) (h_l_problem : k_l_problem ≤ k) :
    PSs (cxOf CX0 P w K mg base N_l_least "_law_least" (defScope s_l_least) f cdv A outer s H E).nox (defBody s_l_least) (T_l_least K R_l_problem) :=
  have nd := sc_l_least.nd
  (pss_cons (ps_set (i := 3) nd rfl (by first | exact Or.inl rfl | exact Or.inr rfl) (pe_lst (pa_cons (pe_lst pa_nil) pa_nil)))
    (pss_cons (ps_for PassesOwn.never rfl (pi_range1 (by rfl) bn.range_ (pa_cons (pe_callB Pu.cb_len (by rfl) bn.len_ (by decide +kernel) (pa_cons (pv 0) pa_nil)) pa_nil)) (pg_name (i := 4) nd rfl (by first | exact Or.inl rfl | exact Or.inr rfl))
      (pss_one (ps_set (i := 3) nd rfl (by first | exact Or.inl rfl | exact Or.inr rfl) (pe_op op_plus (pv 3) (pe_lc (own := [("row", 5)]) (g := (gName 5)) (tt := tYes) rfl nd (pi_list (pv 3)) (blkOk_by (N := N_l_least) (sc := defScope s_l_least) (by decide +kernel)) (fun _ _ _ _ _ => (pg_name (i := 5) nd rfl (by first | exact Or.inl rfl | exact Or.inr rfl))) (fun _ _ _ _ _ => pts_nil) (fun _ _ _ _ _ => (pe_op op_plus (pv 5) (pe_lst (pa_cons (pv 4) pa_nil)))))))))
    (pss_cons (ps_set (i := 6) nd rfl (by first | exact Or.inl rfl | exact Or.inr rfl) (pe_ix ix_any (pe_cal C_l_problem (hr.mono h_l_problem) (by rfl) (pa_cons (pv 0) (pa_cons (pv 1) (pa_cons (pv 2) pa_nil)))) pe_int (fun _ _ => rfl)))
    (pss_cons (ps_setLc (i := 7) (own := [("row", 5)]) (g := (gName 5)) (tt := (tTest (tOp (rEqP K) (tCB (Pu.rLen K) (tCons (tLc (iList K (tVar 6)) (gName 8) (tTest (tOp (rEqP K) (tCB (Pu.rLen K) (tCons (tLc (iList K (tVar 8)) (gName 4) (tTest (tOp (rInP K) (tVar 4) (tVar 5))) (tVar 4) [4]) tNil)) (tC (.int 0)))) (tVar 8) [8]) tNil)) (tC (.int 0))))) rfl nd rfl rfl (sw_true rfl rfl rfl (by decide +kernel)) (pi_list (pv 3)) (blkOk_by (N := N_l_least) (sc := defScope s_l_least) (by decide +kernel)) (fun _ _ _ _ _ => (pg_name (i := 5) nd rfl (by first | exact Or.inl rfl | exact Or.inr rfl))) (fun _ _ _ _ _ => (pts_one (pt_cmpR (op_eqP hr.units) (pe_callB Pu.cb_len (by rfl) bn.len_ (by decide +kernel) (pa_cons (pe_lc (own := [("demand", 8)]) (g := (gName 8)) (tt := (tTest (tOp (rEqP K) (tCB (Pu.rLen K) (tCons (tLc (iList K (tVar 8)) (gName 4) (tTest (tOp (rInP K) (tVar 4) (tVar 5))) (tVar 4) [4]) tNil)) (tC (.int 0))))) rfl nd (pi_list (pv 6)) (blkOk_by (by with_unfolding_all rfl)) (fun _ _ _ _ _ => (pg_name (i := 8) nd rfl (by first | exact Or.inl rfl | exact Or.inr rfl))) (fun _ _ _ _ _ => (pts_one (pt_cmpR (op_eqP hr.units) (pe_callB Pu.cb_len (by rfl) bn.len_ (by decide +kernel) (pa_cons (pe_lc (own := [("k", 4)]) (g := (gName 4)) (tt := (tTest (tOp (rInP K) (tVar 4) (tVar 5)))) rfl nd (pi_list (pv 8)) (blkOk_by (by with_unfolding_all rfl)) (fun _ _ _ _ _ => (pg_name (i := 4) nd rfl (by first | exact Or.inl rfl | exact Or.inr rfl))) (fun _ _ _ _ _ => (pts_one (pt_cmpR (op_inP hr.units) (pv 4) (pv 5) (by rfl)))) (fun _ _ _ _ _ => (pv 4))) pa_nil)) pe_int (nomark _)))) (fun _ _ _ _ _ => (pv 8))) pa_nil)) pe_int (nomark _)))) (fun _ _ _ _ _ => (pe_callB Pu.cb_len (by rfl) bn.len_ (by decide +kernel) (pa_cons (pv 5) pa_nil))))
    (pss_one (ps_ret (pe_callB (cb_minD rfl hr.units) (by rfl) bn.min_ (by decide +kernel) (pa_cons (pe_op op_plus (pv 7) (pe_lst (pa_cons pe_int pa_nil))) pa_nil))))))))
theorem ok_l_least {R : List D → (D → Prop) → Prop} (F : Fun K "_law_least" "_law_least" s_l_least f fd) (bn : Bn mg) {R_l_problem : List D → (D → Prop) → Prop} {k_l_problem : Nat} (C_l_problem : Cal P w K mg base "_law_problem" ["spots", "racks", "reach"] (spP R_l_problem) k_l_problem) (h_l_problem : k_l_problem ≤ k) (len : ∀ ds Z, R ds Z → ds.length = 3) (sx : ∀ ds Z, R ds Z → SX (T_l_least K R_l_problem) (startE N_l_least ds) { nx := fun _ => Z .none, rt := fun d _ => Z d }) :
    FnOk P w K mg base CX0 (k + 1) f fd ["spots", "racks", "reach"] (spP R) := fn_pure F sc_l_least len fun cdv A outer s H E hr => ⟨_, ps_l_least bn hr C_l_problem h_l_problem, sx⟩
theorem ps_l_reaches {cdv : Value} {A : Around} {outer : List PySem.Env} {s : Shared} {H : Hp} {E : XK} (bn : Bn mg) (hr : Room k (A.deeper (PyProof.Rows.envOfC "_law_reaches" (defScope s_l_reaches) s.heap.objs.size f cdv))) {R_l_way : List D → (D → Prop) → Prop} {k_l_way : Nat} (C_l_way : Cal P w K mg base "_law_way" ["one", "other"] (spP R_l_way) k_l_way) (h_l_way : k_l_way ≤ k) :
    PSs (cxOf CX0 P w K mg base N_l_reaches "_law_reaches" (defScope s_l_reaches) f cdv A outer s H E).nox (defBody s_l_reaches) (T_l_reaches K R_l_way) :=
  have nd := sc_l_reaches.nd
  (pss_cons (ps_set (i := 2) nd rfl (by first | exact Or.inl rfl | exact Or.inr rfl) (pe_lst pa_nil))
    (pss_cons (ps_for PassesOwn.never rfl (pi_list (pv 0)) (pg_name (i := 3) nd rfl (by first | exact Or.inl rfl | exact Or.inr rfl))
      (pss_one (ps_set (i := 2) nd rfl (by first | exact Or.inl rfl | exact Or.inr rfl) (pe_op op_plus (pv 2) (pe_lc (own := [("rack", 4)]) (g := (gName 4)) (tt := tYes) rfl nd (pi_list (pv 1)) (blkOk_by (N := N_l_reaches) (sc := defScope s_l_reaches) (by decide +kernel)) (fun _ _ _ _ _ => (pg_name (i := 4) nd rfl (by first | exact Or.inl rfl | exact Or.inr rfl))) (fun _ _ _ _ _ => pts_nil) (fun _ _ _ _ _ => (pe_cal C_l_way (hr.mono h_l_way) (by rfl) (pa_cons (pv 3) (pa_cons (pv 4) pa_nil)))))))))
    (pss_one (ps_ret (pe_lc (own := [("number", 5)]) (g := (gName 5)) (tt := (tTest (tOp (rInP K) (tVar 5) (tVar 2)))) rfl nd (pi_range1 (by rfl) bn.range_ (pa_cons pe_int pa_nil)) (blkOk_by (N := N_l_reaches) (sc := defScope s_l_reaches) (by decide +kernel)) (fun _ _ _ _ _ => (pg_name (i := 5) nd rfl (by first | exact Or.inl rfl | exact Or.inr rfl))) (fun _ _ _ _ _ => (pts_one (pt_cmpR (op_inP hr.units) (pv 5) (pv 2) (by rfl)))) (fun _ _ _ _ _ => (pv 5)))))))
theorem ok_l_reaches {R : List D → (D → Prop) → Prop} (F : Fun K "_law_reaches" "_law_reaches" s_l_reaches f fd) (bn : Bn mg) {R_l_way : List D → (D → Prop) → Prop} {k_l_way : Nat} (C_l_way : Cal P w K mg base "_law_way" ["one", "other"] (spP R_l_way) k_l_way) (h_l_way : k_l_way ≤ k) (len : ∀ ds Z, R ds Z → ds.length = 2) (sx : ∀ ds Z, R ds Z → SX (T_l_reaches K R_l_way) (startE N_l_reaches ds) { nx := fun _ => Z .none, rt := fun d _ => Z d }) :
    FnOk P w K mg base CX0 (k + 1) f fd ["spots", "racks"] (spP R) := fn_pure F sc_l_reaches len fun cdv A outer s H E hr => ⟨_, ps_l_reaches bn hr C_l_way h_l_way, sx⟩
theorem ps_l_reach_fault {cdv : Value} {A : Around} {outer : List PySem.Env} {s : Shared} {H : Hp} {E : XK} (bn : Bn mg) (hr : Room k (A.deeper (PyProof.Rows.envOfC "_law_reach_fault" (defScope s_l_reach_fault) s.heap.objs.size f cdv))) {R_l_reaches : List D → (D → Prop) → Prop} {k_l_reaches : Nat} (C_l_reaches : Cal P w K mg base "_law_reaches" ["spots", "racks"] (spP R_l_reaches) k_l_reaches) (h_l_reaches : k_l_reaches ≤ k) {R_l_fault : List D → (D → Prop) → Prop} {k_l_fault : Nat} (C_l_fault : Cal P w K mg base "_law_fault" ["spots", "racks", "reach", "told"] (spP R_l_fault) k_l_fault) (h_l_fault : k_l_fault ≤ k) :
    PSs (cxOf CX0 P w K mg base N_l_reach_fault "_law_reach_fault" (defScope s_l_reach_fault) f cdv A outer s H E).nox (defBody s_l_reach_fault) (T_l_reach_fault K R_l_reaches R_l_fault) :=
  have nd := sc_l_reach_fault.nd
  (pss_cons (ps_asg (pv 3) (pg_tup (n := 3) rfl (pgs_cons (pg_name (i := 4) nd rfl (by first | exact Or.inl rfl | exact Or.inr rfl)) (pgs_cons (pg_name (i := 5) nd rfl (by first | exact Or.inl rfl | exact Or.inr rfl)) (pgs_cons (pg_name (i := 6) nd rfl (by first | exact Or.inl rfl | exact Or.inr rfl)) pgs_nil)))))
    (pss_cons (ps_set (i := 7) nd rfl (by first | exact Or.inl rfl | exact Or.inr rfl) (pe_cal C_l_reaches (hr.mono h_l_reaches) (by rfl) (pa_cons (pv 0) (pa_cons (pv 1) pa_nil))))
    (pss_cons (ps_if (pt_cmpR (op_ninP hr.units) (pv 4) (pv 7) (by rfl))
      (pss_one (ps_ret (pe_tup (pa_cons pe_str pa_nil))))
      pss_nil)
    (pss_cons (ps_if (PW.pt (pw_or (pt_cmpR (op_neP hr.units) (pe_ix ix_any (pv 5) pe_int (fun _ _ => rfl)) pe_str (nomark _)) (pw_or (pt_cmpR op_gt (pe_callB Pu.cb_len (by rfl) bn.len_ (by decide +kernel) (pa_cons (pe_ix ix_any (pv 5) pe_int (fun _ _ => rfl)) pa_nil)) (pv 2) (nomark _)) (pw_or1 (pt_cmpR op_isnt (pe_cal C_l_fault (hr.mono h_l_fault) (by rfl) (pa_cons (pv 0) (pa_cons (pv 1) (pa_cons (pv 4) (pa_cons (pv 5) pa_nil))))) pe_non (nomark _))))))
      (pss_one (ps_ret (pe_tup (pa_cons pe_str pa_nil))))
      pss_nil)
    (pss_cons (ps_if (pt_cmpR (op_eqP hr.units) (pv 4) (pe_ix ix_any (pv 7) pe_int (fun _ _ => rfl)) (nomark _))
      (pss_one (ps_ret (pe_ix ix_any (pe_lst (pa_cons (pe_tup (pa_cons pe_str pa_nil)) (pa_cons pe_non pa_nil))) (pe_callTy cb_int (by rfl) bn.int_ (by decide +kernel) (pa_cons (pe_cmpR op_is (pv 6) pe_non (nomark _)) pa_nil)) (fun _ _ => rfl))))
      pss_nil)
    (pss_cons (ps_if (PW.pt (pw_or (pt_cmpR op_is (pv 6) pe_non (nomark _)) (pw_or1 (PW.pt (pw_and (pt_cmpR (op_eqP hr.units) (pe_ix ix_any (pv 6) pe_int (fun _ _ => rfl)) pe_str (nomark _)) (pw_and1 (pt_cmpR op_le (pe_callB Pu.cb_len (by rfl) bn.len_ (by decide +kernel) (pa_cons (pe_ix ix_any (pv 6) pe_int (fun _ _ => rfl)) pa_nil)) (pv 2) (nomark _))))))))
      (pss_one (ps_ret (pe_tup (pa_cons pe_str pa_nil))))
      pss_nil)
    (pss_cons (ps_set (i := 8) nd rfl (by first | exact Or.inl rfl | exact Or.inr rfl) (pe_ix ix_any (pv 7) (pe_op op_sub (pe_bm PySem.F.plainAttrs_list PySem.F.slot_list_index PySem.F.type_list_index (mt_indexD (units65 hr)) (pv 7) (pa_cons (pv 4) pa_nil)) pe_int) (fun _ _ => rfl)))
    (pss_one (ps_ret (pe_ix ix_any (pe_lst (pa_cons (pe_tup (pa_cons pe_str pa_nil)) (pa_cons pe_non pa_nil))) (pe_callTy cb_int (by rfl) bn.int_ (by decide +kernel) (pa_cons (pe_cmpR op_is (pe_cal C_l_fault (hr.mono h_l_fault) (by rfl) (pa_cons (pv 0) (pa_cons (pv 1) (pa_cons (pv 8) (pa_cons (pv 6) pa_nil))))) pe_non (nomark _)) pa_nil)) (fun _ _ => rfl)))))))))))
theorem ok_l_reach_fault {R : List D → (D → Prop) → Prop} (F : Fun K "_law_reach_fault" "_law_reach_fault" s_l_reach_fault f fd) (bn : Bn mg) {R_l_reaches : List D → (D → Prop) → Prop} {k_l_reaches : Nat} (C_l_reaches : Cal P w K mg base "_law_reaches" ["spots", "racks"] (spP R_l_reaches) k_l_reaches) (h_l_reaches : k_l_reaches ≤ k) {R_l_fault : List D → (D → Prop) → Prop} {k_l_fault : Nat} (C_l_fault : Cal P w K mg base "_law_fault" ["spots", "racks", "reach", "told"] (spP R_l_fault) k_l_fault) (h_l_fault : k_l_fault ≤ k) (len : ∀ ds Z, R ds Z → ds.length = 4) (sx : ∀ ds Z, R ds Z → SX (T_l_reach_fault K R_l_reaches R_l_fault) (startE N_l_reach_fault ds) { nx := fun _ => Z .none, rt := fun d _ => Z d }) :
    FnOk P w K mg base CX0 (k + 1) f fd ["spots", "racks", "count", "told"] (spP R) := fn_pure F sc_l_reach_fault len fun cdv A outer s H E hr => ⟨_, ps_l_reach_fault bn hr C_l_reaches h_l_reaches C_l_fault h_l_fault, sx⟩
theorem ps_law {cdv : Value} {A : Around} {outer : List PySem.Env} {s : Shared} {H : Hp} {E : XK} (bn : Bn mg) (hr : Room k (A.deeper (PyProof.Rows.envOfC "law" (defScope s_law) s.heap.objs.size f cdv))) (hgd : (A.deeper (PyProof.Rows.envOfC "law" (defScope s_law) s.heap.objs.size f cdv)).guards = some []) {R_l_draw : Stt → List D → (D → Stt → Prop) → Prop} {k_l_draw : Nat} (C_l_draw : Cal P w K mg base "_law_draw" ["state", "script", "size"] (spS R_l_draw) k_l_draw) (h_l_draw : k_l_draw ≤ k) {R_l_least : List D → (D → Prop) → Prop} {k_l_least : Nat} (C_l_least : Cal P w K mg base "_law_least" ["spots", "racks", "reach"] (spP R_l_least) k_l_least) (h_l_least : k_l_least ≤ k) {R_fewest_spots : List D → (D → Prop) → Prop} {k_fewest_spots : Nat} (C_fewest_spots : Cal P w K mg base "fewest_spots" ["spots", "racks", "reach"] (spP R_fewest_spots) k_fewest_spots) (h_fewest_spots : k_fewest_spots ≤ k) {R_l_reaches : List D → (D → Prop) → Prop} {k_l_reaches : Nat} (C_l_reaches : Cal P w K mg base "_law_reaches" ["spots", "racks"] (spP R_l_reaches) k_l_reaches) (h_l_reaches : k_l_reaches ≤ k) {R_least_reach : List D → (D → Prop) → Prop} {k_least_reach : Nat} (C_least_reach : Cal P w K mg base "least_reach" ["spots", "racks", "count"] (spP R_least_reach) k_least_reach) (h_least_reach : k_least_reach ≤ k) {R_nearest_spots : List D → (D → Prop) → Prop} {k_nearest_spots : Nat} (C_nearest_spots : Cal P w K mg base "nearest_spots" ["spots", "racks", "chosen"] (spP R_nearest_spots) k_nearest_spots) (h_nearest_spots : k_nearest_spots ≤ k) {R_l_fault : List D → (D → Prop) → Prop} {k_l_fault : Nat} (C_l_fault : Cal P w K mg base "_law_fault" ["spots", "racks", "reach", "told"] (spP R_l_fault) k_l_fault) (h_l_fault : k_l_fault ≤ k) {R_fewest_spots_fault : List D → (D → Prop) → Prop} {k_fewest_spots_fault : Nat} (C_fewest_spots_fault : Cal P w K mg base "fewest_spots_fault" ["spots", "racks", "reach", "told"] (spP R_fewest_spots_fault) k_fewest_spots_fault) (h_fewest_spots_fault : k_fewest_spots_fault ≤ k) {R_l_reach_fault : List D → (D → Prop) → Prop} {k_l_reach_fault : Nat} (C_l_reach_fault : Cal P w K mg base "_law_reach_fault" ["spots", "racks", "count", "told"] (spP R_l_reach_fault) k_l_reach_fault) (h_l_reach_fault : k_l_reach_fault ≤ k) {R_least_reach_fault : List D → (D → Prop) → Prop} {k_least_reach_fault : Nat} (C_least_reach_fault : Cal P w K mg base "least_reach_fault" ["spots", "racks", "count", "told"] (spP R_least_reach_fault) k_least_reach_fault) (h_least_reach_fault : k_least_reach_fault ≤ k) {R_l_way : List D → (D → Prop) → Prop} {k_l_way : Nat} (C_l_way : Cal P w K mg base "_law_way" ["one", "other"] (spP R_l_way) k_l_way) (h_l_way : k_l_way ≤ k) {R_middle_spot : List D → (D → Prop) → Prop} {k_middle_spot : Nat} (C_middle_spot : Cal P w K mg base "middle_spot" ["racks"] (spP R_middle_spot) k_middle_spot) (h_middle_spot : k_middle_spot ≤ k) :
    PSs (cxOf CX0 P w K mg base N_law "law" (defScope s_law) f cdv A outer s H E).nox (defBody s_law) (T_law K R_l_draw R_l_least R_fewest_spots R_l_reaches R_least_reach R_nearest_spots R_l_fault R_fewest_spots_fault R_l_reach_fault R_least_reach_fault R_l_way R_middle_spot) :=
  have nd := sc_law.nd
  (pss_cons (ps_set (i := 1) nd rfl (by first | exact Or.inl rfl | exact Or.inr rfl) (pe_lst (pa_cons pe_int (pa_cons pe_int pa_nil))))
    (pss_cons (ps_set (i := 2) nd rfl (by first | exact Or.inl rfl | exact Or.inr rfl) (pe_lc (own := [("_", 3)]) (g := (gName 3)) (tt := tYes) rfl nd (pi_range1 (by rfl) bn.range_ (pa_cons (pe_op op_plus pe_int (pe_cal C_l_draw (hr.mono h_l_draw) (by rfl) (pa_cons (pv 1) (pa_cons (pv 0) (pa_cons pe_int pa_nil))))) pa_nil)) (blkOk_by (N := N_law) (sc := defScope s_law) (by decide +kernel)) (fun _ _ _ _ _ => (pg_name (i := 3) nd rfl (by first | exact Or.inl rfl | exact Or.inr rfl))) (fun _ _ _ _ _ => pts_nil) (fun _ _ _ _ _ => (pe_tup (pa_cons (pe_cal C_l_draw (hr.mono h_l_draw) (by rfl) (pa_cons (pv 1) (pa_cons (pv 0) (pa_cons pe_int pa_nil)))) (pa_cons (pe_cal C_l_draw (hr.mono h_l_draw) (by rfl) (pa_cons (pv 1) (pa_cons (pv 0) (pa_cons pe_int pa_nil)))) pa_nil))))))
    (pss_cons (ps_set (i := 4) nd rfl (by first | exact Or.inl rfl | exact Or.inr rfl) (pe_lc (own := [("_", 3)]) (g := (gName 3)) (tt := tYes) rfl nd (pi_range1 (by rfl) bn.range_ (pa_cons (pe_op op_plus pe_int (pe_cal C_l_draw (hr.mono h_l_draw) (by rfl) (pa_cons (pv 1) (pa_cons (pv 0) (pa_cons pe_int pa_nil))))) pa_nil)) (blkOk_by (N := N_law) (sc := defScope s_law) (by decide +kernel)) (fun _ _ _ _ _ => (pg_name (i := 3) nd rfl (by first | exact Or.inl rfl | exact Or.inr rfl))) (fun _ _ _ _ _ => pts_nil) (fun _ _ _ _ _ => (pe_tup (pa_cons (pe_cal C_l_draw (hr.mono h_l_draw) (by rfl) (pa_cons (pv 1) (pa_cons (pv 0) (pa_cons pe_int pa_nil)))) (pa_cons (pe_cal C_l_draw (hr.mono h_l_draw) (by rfl) (pa_cons (pv 1) (pa_cons (pv 0) (pa_cons pe_int pa_nil)))) pa_nil))))))
    (pss_cons (ps_set (i := 5) nd rfl (by first | exact Or.inl rfl | exact Or.inr rfl) (pe_callB (cb_repr hr.units hgd) (by rfl) bn.repr_ (by decide +kernel) (pa_cons (pe_lst (pa_cons (pv 2) (pa_cons (pv 4) pa_nil))) pa_nil)))
    (pss_cons (ps_set (i := 6) nd rfl (by first | exact Or.inl rfl | exact Or.inr rfl) (pe_cal C_l_draw (hr.mono h_l_draw) (by rfl) (pa_cons (pv 1) (pa_cons (pv 0) (pa_cons pe_int pa_nil)))))
    (pss_cons (ps_set (i := 7) nd rfl (by first | exact Or.inl rfl | exact Or.inr rfl) (pe_cal C_l_least (hr.mono h_l_least) (by rfl) (pa_cons (pv 2) (pa_cons (pv 4) (pa_cons (pv 6) pa_nil)))))
    (pss_cons (ps_set (i := 8) nd rfl (by first | exact Or.inl rfl | exact Or.inr rfl) (pe_cal C_fewest_spots (hr.mono h_fewest_spots) (by rfl) (pa_cons (pv 2) (pa_cons (pv 4) (pa_cons (pv 6) pa_nil)))))
    (pss_cons (ps_if (PW.pt (pw_or (pt_cmpR (op_neP hr.units) (pe_ix ix_any (pv 8) pe_int (fun _ _ => rfl)) (pe_ix ix_any (pe_lst (pa_cons pe_str (pa_cons pe_str pa_nil))) (pe_callTy cb_int (by rfl) bn.int_ (by decide +kernel) (pa_cons (pe_cmpR (op_eqP hr.units) (pv 7) pe_int (nomark _)) pa_nil)) (fun _ _ => rfl)) (nomark _)) (pw_or1 (PW.pt (pw_and (pt_cmpR (op_eqP hr.units) (pe_ix ix_any (pv 8) pe_int (fun _ _ => rfl)) pe_str (nomark _)) (pw_and1 (pt_cmpR (op_neP hr.units) (pe_callB Pu.cb_len (by rfl) bn.len_ (by decide +kernel) (pa_cons (pe_ix ix_any (pv 8) pe_int (fun _ _ => rfl)) pa_nil)) (pv 7) (nomark _))))))))
      (pss_one (ps_ret pe_bl))
      pss_nil)
    (pss_cons (ps_if (PW.pt (pw_or (pt_cmpR op_isnt (pe_cal C_l_fault (hr.mono h_l_fault) (by rfl) (pa_cons (pv 2) (pa_cons (pv 4) (pa_cons (pv 6) (pa_cons (pv 8) pa_nil))))) pe_non (nomark _)) (pw_or1 (pt_cmpR op_isnt (pe_cal C_fewest_spots_fault (hr.mono h_fewest_spots_fault) (by rfl) (pa_cons (pv 2) (pa_cons (pv 4) (pa_cons (pv 6) (pa_cons (pv 8) pa_nil))))) pe_non (nomark _)))))
      (pss_one (ps_ret pe_bl))
      pss_nil)
    (pss_cons (ps_if (pt_cmpR (op_eqP hr.units) (pe_ix ix_any (pv 8) pe_int (fun _ _ => rfl)) pe_str (nomark _))
      (pss_one (ps_set (i := 9) nd rfl (by first | exact Or.inl rfl | exact Or.inr rfl) (pe_lst (pa_cons (pe_tup (pa_cons pe_str (pa_cons (pe_slice sl_any (pe_ix ix_any (pv 8) pe_int (fun _ _ => rfl)) (po_some pe_int) po_none) (pa_cons (pe_ix ix_any (pv 8) pe_int (fun _ _ => rfl)) pa_nil)))) (pa_cons (pe_tup (pa_cons pe_str (pa_cons (pe_listRg rfl (by rfl) bn.list_ (prg_1 (by rfl) bn.range_ (pe_callB Pu.cb_len (by rfl) bn.len_ (by decide +kernel) (pa_cons (pv 2) pa_nil)))) (pa_cons (pe_ix ix_any (pv 8) pe_int (fun _ _ => rfl)) pa_nil)))) (pa_cons (pe_tup (pa_cons pe_str (pa_cons pe_int pa_nil))) (pa_cons (pe_tup (pa_cons pe_str (pa_cons (pe_ix ix_any (pv 8) pe_int (fun _ _ => rfl)) (pa_cons (pe_tup (pa_cons pe_str (pa_cons pe_int pa_nil))) pa_nil)))) pa_nil)))))))
      (pss_one (ps_set (i := 9) nd rfl (by first | exact Or.inl rfl | exact Or.inr rfl) (pe_lst (pa_cons (pe_tup (pa_cons pe_str (pa_cons (pe_op op_plus (pe_ix ix_any (pv 8) pe_int (fun _ _ => rfl)) pe_int) pa_nil))) (pa_cons (pe_tup (pa_cons pe_str (pa_cons pe_int pa_nil))) (pa_cons (pe_tup (pa_cons pe_str (pa_cons (pe_lst (pa_cons pe_int pa_nil)) (pa_cons (pe_tup (pa_cons pe_str (pa_cons pe_int pa_nil))) pa_nil)))) pa_nil)))))))
    (pss_cons (ps_for PassesOwn.never rfl (pi_list (pv 9)) (pg_name (i := 10) nd rfl (by first | exact Or.inl rfl | exact Or.inr rfl))
      (pss_one (ps_if (pt_cmpR (op_neP hr.units) (pe_callB (cb_repr hr.units hgd) (by rfl) bn.repr_ (by decide +kernel) (pa_cons (pe_cal C_fewest_spots_fault (hr.mono h_fewest_spots_fault) (by rfl) (pa_cons (pv 2) (pa_cons (pv 4) (pa_cons (pv 6) (pa_cons (pv 10) pa_nil))))) pa_nil)) (pe_callB (cb_repr hr.units hgd) (by rfl) bn.repr_ (by decide +kernel) (pa_cons (pe_cal C_l_fault (hr.mono h_l_fault) (by rfl) (pa_cons (pv 2) (pa_cons (pv 4) (pa_cons (pv 6) (pa_cons (pv 10) pa_nil))))) pa_nil)) (nomark _))
      (pss_one (ps_ret pe_bl))
      pss_nil)))
    (pss_cons (ps_set (i := 11) nd rfl (by first | exact Or.inl rfl | exact Or.inr rfl) (pe_op op_plus pe_int (pe_cal C_l_draw (hr.mono h_l_draw) (by rfl) (pa_cons (pv 1) (pa_cons (pv 0) (pa_cons pe_int pa_nil))))))
    (pss_cons (ps_set (i := 12) nd rfl (by first | exact Or.inl rfl | exact Or.inr rfl) (pe_cal C_l_reaches (hr.mono h_l_reaches) (by rfl) (pa_cons (pv 2) (pa_cons (pv 4) pa_nil))))
    (pss_cons (ps_setLc (i := 13) (own := [("number", 14)]) (g := (gName 14)) (tt := (tTest (tOp (rI0 fun i j => .bl (decide (i ≤ j))) (tCall (spP R_l_least) [] E0 (tCons (tVar 2) (tCons (tVar 4) (tCons (tVar 14) tNil)))) (tVar 11)))) rfl nd rfl rfl (sw_true rfl rfl rfl (by decide +kernel)) (pi_list (pv 12)) (blkOk_by (N := N_law) (sc := defScope s_law) (by decide +kernel)) (fun _ _ _ _ _ => (pg_name (i := 14) nd rfl (by first | exact Or.inl rfl | exact Or.inr rfl))) (fun _ _ _ _ _ => (pts_one (pt_cmpR op_le (pe_cal C_l_least (hr.mono h_l_least) (by rfl) (pa_cons (pv 2) (pa_cons (pv 4) (pa_cons (pv 14) pa_nil)))) (pv 11) (nomark _)))) (fun _ _ _ _ _ => (pv 14)))
    (pss_cons (ps_set (i := 15) nd rfl (by first | exact Or.inl rfl | exact Or.inr rfl) (pe_cal C_least_reach (hr.mono h_least_reach) (by rfl) (pa_cons (pv 2) (pa_cons (pv 4) (pa_cons (pv 11) pa_nil)))))
    (pss_cons (ps_if (PW.pt (pw_or (pt_cmpR (op_neP hr.units) (pe_ix ix_any (pv 15) pe_int (fun _ _ => rfl)) (pe_ix ix_any (pv 13) pe_int (fun _ _ => rfl)) (nomark _)) (pw_or (pt_cmpR op_isnt (pe_cal C_l_reach_fault (hr.mono h_l_reach_fault) (by rfl) (pa_cons (pv 2) (pa_cons (pv 4) (pa_cons (pv 11) (pa_cons (pv 15) pa_nil))))) pe_non (nomark _)) (pw_or1 (pt_cmpR op_isnt (pe_cal C_least_reach_fault (hr.mono h_least_reach_fault) (by rfl) (pa_cons (pv 2) (pa_cons (pv 4) (pa_cons (pv 11) (pa_cons (pv 15) pa_nil))))) pe_non (nomark _))))))
      (pss_one (ps_ret pe_bl))
      pss_nil)
    (pss_cons (ps_set (i := 9) nd rfl (by first | exact Or.inl rfl | exact Or.inr rfl) (pe_lst (pa_cons (pe_op op_plus (pe_tup (pa_cons (pe_op op_plus (pe_ix ix_any (pv 15) pe_int (fun _ _ => rfl)) pe_int) pa_nil)) (pe_slice sl_any (pv 15) (po_some pe_int) po_none)) (pa_cons (pe_tup (pa_cons (pe_ix ix_any (pv 15) pe_int (fun _ _ => rfl)) (pa_cons (pe_ix ix_any (pv 15) pe_int (fun _ _ => rfl)) (pa_cons pe_non pa_nil)))) (pa_cons (pe_tup (pa_cons (pe_ix ix_any (pv 15) pe_int (fun _ _ => rfl)) (pa_cons (pv 8) (pa_cons (pe_ix ix_any (pv 15) pe_int (fun _ _ => rfl)) pa_nil)))) (pa_cons (pe_tup (pa_cons (pe_ix ix_any (pv 15) pe_int (fun _ _ => rfl)) (pa_cons (pe_ix ix_any (pv 15) pe_int (fun _ _ => rfl)) (pa_cons (pe_ix ix_any (pv 15) pe_int (fun _ _ => rfl)) pa_nil)))) (pa_cons (pe_tup (pa_cons pe_int (pa_cons (pe_ix ix_any (pv 15) pe_int (fun _ _ => rfl)) (pa_cons (pe_ix ix_any (pv 15) pe_int (fun _ _ => rfl)) pa_nil)))) (pa_cons (pe_tup (pa_cons (pe_ix ix_any (pv 15) pe_int (fun _ _ => rfl)) (pa_cons (pe_ix ix_any (pv 15) pe_int (fun _ _ => rfl)) (pa_cons (pe_tup (pa_cons pe_str (pa_cons pe_int pa_nil))) pa_nil)))) pa_nil))))))))
    (pss_cons (ps_for PassesOwn.never rfl (pi_list (pv 9)) (pg_name (i := 10) nd rfl (by first | exact Or.inl rfl | exact Or.inr rfl))
      (pss_one (ps_if (pt_cmpR (op_neP hr.units) (pe_callB (cb_repr hr.units hgd) (by rfl) bn.repr_ (by decide +kernel) (pa_cons (pe_cal C_least_reach_fault (hr.mono h_least_reach_fault) (by rfl) (pa_cons (pv 2) (pa_cons (pv 4) (pa_cons (pv 11) (pa_cons (pv 10) pa_nil))))) pa_nil)) (pe_callB (cb_repr hr.units hgd) (by rfl) bn.repr_ (by decide +kernel) (pa_cons (pe_cal C_l_reach_fault (hr.mono h_l_reach_fault) (by rfl) (pa_cons (pv 2) (pa_cons (pv 4) (pa_cons (pv 11) (pa_cons (pv 10) pa_nil))))) pa_nil)) (nomark _))
      (pss_one (ps_ret pe_bl))
      pss_nil)))
    (pss_cons (ps_set (i := 16) nd rfl (by first | exact Or.inl rfl | exact Or.inr rfl) (pe_orT (pe_lc (own := [("k", 17)]) (g := (gName 17)) (tt := (tTest (tOp (rEqP K) (tCall (spS R_l_draw) [] E0 (tCons (tVar 1) (tCons (tVar 0) (tCons (tC (.int 2)) tNil)))) (tC (.int 0))))) rfl nd (pi_range1 (by rfl) bn.range_ (pa_cons (pe_callB Pu.cb_len (by rfl) bn.len_ (by decide +kernel) (pa_cons (pv 2) pa_nil)) pa_nil)) (blkOk_by (N := N_law) (sc := defScope s_law) (by decide +kernel)) (fun _ _ _ _ _ => (pg_name (i := 17) nd rfl (by first | exact Or.inl rfl | exact Or.inr rfl))) (fun _ _ _ _ _ => (pts_one (pt_cmpR (op_eqP hr.units) (pe_cal C_l_draw (hr.mono h_l_draw) (by rfl) (pa_cons (pv 1) (pa_cons (pv 0) (pa_cons pe_int pa_nil)))) pe_int (nomark _)))) (fun _ _ _ _ _ => (pv 17))) (pe_one (pe_lst (pa_cons pe_int pa_nil)))))
    (pss_cons (ps_set (i := 18) nd rfl (by first | exact Or.inl rfl | exact Or.inr rfl) (pe_lst pa_nil))
    (pss_cons (ps_for PassesOwn.never rfl (pi_list (pv 4)) (pg_name (i := 19) nd rfl (by first | exact Or.inl rfl | exact Or.inr rfl))
      (pss_cons (ps_setLc (i := 20) (own := [("k", 17)]) (g := (gName 17)) (tt := tYes) rfl nd rfl rfl (sw_true rfl rfl rfl (by decide +kernel)) (pi_list (pv 16)) (blkOk_by (N := N_law) (sc := defScope s_law) (by decide +kernel)) (fun _ _ _ _ _ => (pg_name (i := 17) nd rfl (by first | exact Or.inl rfl | exact Or.inr rfl))) (fun _ _ _ _ _ => pts_nil) (fun _ _ _ _ _ => (pe_cal C_l_way (hr.mono h_l_way) (by rfl) (pa_cons (pe_ix ix_any (pv 2) (pv 17) (fun _ _ => rfl)) (pa_cons (pv 19) pa_nil)))))
    (pss_one (ps_expr (pe_bm PySem.F.plainAttrs_list PySem.F.slot_list_append PySem.F.type_list_append mt_append (pv 18) (pa_cons (pe_ix ix_any (pv 16) (pe_bm PySem.F.plainAttrs_list PySem.F.slot_list_index PySem.F.type_list_index (mt_indexD (units65 hr)) (pv 20) (pa_cons (pe_callB (cb_minD rfl hr.units) (by rfl) bn.min_ (by decide +kernel) (pa_cons (pv 20) pa_nil)) pa_nil)) (fun _ _ => rfl)) pa_nil))))))
    (pss_cons (ps_if (pt_cmpR (op_neP hr.units) (pe_cal C_nearest_spots (hr.mono h_nearest_spots) (by rfl) (pa_cons (pv 2) (pa_cons (pv 4) (pa_cons (pv 16) pa_nil)))) (pv 18) (nomark _))
      (pss_one (ps_ret pe_bl))
      pss_nil)
    (pss_cons (ps_set (i := 21) nd rfl (by first | exact Or.inl rfl | exact Or.inr rfl) (pe_lst pa_nil))
    (pss_cons (ps_for PassesOwn.never rfl (pi_range1 (by rfl) bn.range_ (pa_cons pe_int pa_nil)) (pg_name (i := 22) nd rfl (by first | exact Or.inl rfl | exact Or.inr rfl))
      (pss_one (ps_set (i := 21) nd rfl (by first | exact Or.inl rfl | exact Or.inr rfl) (pe_op op_plus (pv 21) (pe_lc (own := [("y", 23)]) (g := (gName 23)) (tt := tYes) rfl nd (pi_range1 (by rfl) bn.range_ (pa_cons pe_int pa_nil)) (blkOk_by (N := N_law) (sc := defScope s_law) (by decide +kernel)) (fun _ _ _ _ _ => (pg_name (i := 23) nd rfl (by first | exact Or.inl rfl | exact Or.inr rfl))) (fun _ _ _ _ _ => pts_nil) (fun _ _ _ _ _ => (pe_tup (pa_cons (pe_callB (cr_sum rfl) (by rfl) bn.sum_ (by decide +kernel) (pa_cons (pe_lc (own := [("rack", 19)]) (g := (gName 19)) (tt := tYes) rfl nd (pi_list (pv 4)) (blkOk_by (by with_unfolding_all rfl)) (fun _ _ _ _ _ => (pg_name (i := 19) nd rfl (by first | exact Or.inl rfl | exact Or.inr rfl))) (fun _ _ _ _ _ => pts_nil) (fun _ _ _ _ _ => (pe_cal C_l_way (hr.mono h_l_way) (by rfl) (pa_cons (pe_tup (pa_cons (pv 22) (pa_cons (pv 23) pa_nil))) (pa_cons (pv 19) pa_nil))))) pa_nil)) (pa_cons (pe_tup (pa_cons (pv 22) (pa_cons (pv 23) pa_nil))) pa_nil)))))))))
    (pss_one (ps_ret (pe_and (pe_cmpR (op_eqP hr.units) (pe_cal C_middle_spot (hr.mono h_middle_spot) (by rfl) (pa_cons (pv 4) pa_nil)) (pe_tup (pa_cons (pe_ix ix_any (pe_callB (cb_minD rfl hr.units) (by rfl) bn.min_ (by decide +kernel) (pa_cons (pv 21) pa_nil)) pe_int (fun _ _ => rfl)) (pa_cons (pe_ix ix_any (pe_callB (cb_minD rfl hr.units) (by rfl) bn.min_ (by decide +kernel) (pa_cons (pv 21) pa_nil)) pe_int (fun _ _ => rfl)) pa_nil))) (nomark _)) (pe_one (pe_cmpR (op_eqP hr.units) (pe_callB (cb_repr hr.units hgd) (by rfl) bn.repr_ (by decide +kernel) (pa_cons (pe_lst (pa_cons (pv 2) (pa_cons (pv 4) pa_nil))) pa_nil)) (pv 5) (nomark _))))))))))))))))))))))))))))))
theorem top_law {R : List D → (D → Prop) → Prop} (F : Fun K "law" "law" s_law f fd) (bn : Bn mg) {R_l_draw : Stt → List D → (D → Stt → Prop) → Prop} {k_l_draw : Nat} (C_l_draw : Cal P w K mg base "_law_draw" ["state", "script", "size"] (spS R_l_draw) k_l_draw) (h_l_draw : k_l_draw ≤ k) {R_l_least : List D → (D → Prop) → Prop} {k_l_least : Nat} (C_l_least : Cal P w K mg base "_law_least" ["spots", "racks", "reach"] (spP R_l_least) k_l_least) (h_l_least : k_l_least ≤ k) {R_fewest_spots : List D → (D → Prop) → Prop} {k_fewest_spots : Nat} (C_fewest_spots : Cal P w K mg base "fewest_spots" ["spots", "racks", "reach"] (spP R_fewest_spots) k_fewest_spots) (h_fewest_spots : k_fewest_spots ≤ k) {R_l_reaches : List D → (D → Prop) → Prop} {k_l_reaches : Nat} (C_l_reaches : Cal P w K mg base "_law_reaches" ["spots", "racks"] (spP R_l_reaches) k_l_reaches) (h_l_reaches : k_l_reaches ≤ k) {R_least_reach : List D → (D → Prop) → Prop} {k_least_reach : Nat} (C_least_reach : Cal P w K mg base "least_reach" ["spots", "racks", "count"] (spP R_least_reach) k_least_reach) (h_least_reach : k_least_reach ≤ k) {R_nearest_spots : List D → (D → Prop) → Prop} {k_nearest_spots : Nat} (C_nearest_spots : Cal P w K mg base "nearest_spots" ["spots", "racks", "chosen"] (spP R_nearest_spots) k_nearest_spots) (h_nearest_spots : k_nearest_spots ≤ k) {R_l_fault : List D → (D → Prop) → Prop} {k_l_fault : Nat} (C_l_fault : Cal P w K mg base "_law_fault" ["spots", "racks", "reach", "told"] (spP R_l_fault) k_l_fault) (h_l_fault : k_l_fault ≤ k) {R_fewest_spots_fault : List D → (D → Prop) → Prop} {k_fewest_spots_fault : Nat} (C_fewest_spots_fault : Cal P w K mg base "fewest_spots_fault" ["spots", "racks", "reach", "told"] (spP R_fewest_spots_fault) k_fewest_spots_fault) (h_fewest_spots_fault : k_fewest_spots_fault ≤ k) {R_l_reach_fault : List D → (D → Prop) → Prop} {k_l_reach_fault : Nat} (C_l_reach_fault : Cal P w K mg base "_law_reach_fault" ["spots", "racks", "count", "told"] (spP R_l_reach_fault) k_l_reach_fault) (h_l_reach_fault : k_l_reach_fault ≤ k) {R_least_reach_fault : List D → (D → Prop) → Prop} {k_least_reach_fault : Nat} (C_least_reach_fault : Cal P w K mg base "least_reach_fault" ["spots", "racks", "count", "told"] (spP R_least_reach_fault) k_least_reach_fault) (h_least_reach_fault : k_least_reach_fault ≤ k) {R_l_way : List D → (D → Prop) → Prop} {k_l_way : Nat} (C_l_way : Cal P w K mg base "_law_way" ["one", "other"] (spP R_l_way) k_l_way) (h_l_way : k_l_way ≤ k) {R_middle_spot : List D → (D → Prop) → Prop} {k_middle_spot : Nat} (C_middle_spot : Cal P w K mg base "middle_spot" ["racks"] (spP R_middle_spot) k_middle_spot) (h_middle_spot : k_middle_spot ≤ k) (room : RoomTop (k + 1)) (len : ∀ ds Z, R ds Z → ds.length = 1) (sx : ∀ ds Z, R ds Z → SX (T_law K R_l_draw R_l_least R_fewest_spots R_l_reaches R_least_reach R_nearest_spots R_l_fault R_fewest_spots_fault R_l_reach_fault R_least_reach_fault R_l_way R_middle_spot) (startE N_law ds) { nx := fun _ => Z .none, rt := fun d _ => Z d }) :
    TopOk P w K mg base f fd ["script"] (spP R) := top_pure F sc_law len room fun cdv s H E hr => ⟨_, ps_law bn hr rfl C_l_draw h_l_draw C_l_least h_l_least C_fewest_spots h_fewest_spots C_l_reaches h_l_reaches C_least_reach h_least_reach C_nearest_spots h_nearest_spots C_l_fault h_l_fault C_fewest_spots_fault h_fewest_spots_fault C_l_reach_fault h_l_reach_fault C_least_reach_fault h_least_reach_fault C_l_way h_l_way C_middle_spot h_middle_spot, sx⟩
theorem ps_Cover_init {cdv : Value} {A : Around} {outer : List PySem.Env} {s : Shared} {H : Hp} {E : XK} (bn : Bn mg) (hr : Room k (A.deeper (PyProof.Rows.envOfC "Cover.__init__" (defScope s_Cover_init) s.heap.objs.size f cdv))) {C_Cover : Addr} (O_Cover : ObF K C_Cover ["problem", "best", "cost"]) :
    PSs (cxOf CX0 P w K mg base N_Cover_init "Cover.__init__" (defScope s_Cover_init) f cdv A outer s H E).nox (defBody s_Cover_init) (T_Cover_init K C_Cover) :=
  have nd := sc_Cover_init.nd
  (pss_cons (ps_fldC O_Cover (by simp) (pv 0) (pv 1) rfl)
    (pss_cons (ps_fldC O_Cover (by simp) (pv 0) pe_non rfl)
    (pss_one (ps_fldC O_Cover (by simp) (pv 0) pe_non rfl))))
theorem ok_Cover_init {R : Stt → List D → (D → Stt → Prop) → Prop} (F : Fun K "__init__" "Cover.__init__" s_Cover_init f fd) (bn : Bn mg) {C_Cover : Addr} (O_Cover : ObF K C_Cover ["problem", "best", "cost"]) (len : ∀ S ds Z, R S ds Z → ds.length + 1 = 2) (sx : ∀ S ds Z, R S ds Z → SX (T_Cover_init K C_Cover) (.st S :: (ds.map .val ++ List.replicate (N_Cover_init.length - (ds.length + 1)) .emp)) { nx := fun ρ' => ∃ S', ρ'[0]? = some (.st S') ∧ Z .none S', rt := fun d ρ' => ∃ S', ρ'[0]? = some (.st S') ∧ Z d S' }) :
    FnOk P w K mg base CX0 (k + 1) f fd ["self", "problem"] (spS R) := fn_state F sc_Cover_init len fun cdv A outer s H E hr => ⟨_, ps_Cover_init bn hr O_Cover, sx⟩
theorem ps_Cover_go {cdv : Value} {A : Around} {outer : List PySem.Env} {s : Shared} {H : Hp} {E : XK} (bn : Bn mg) (hr : Room k (A.deeper (PyProof.Rows.envOfC "Cover.go" (defScope s_Cover_go) s.heap.objs.size f cdv))) {C_Cover : Addr} (O_Cover : ObF K C_Cover ["problem", "best", "cost"]) {R_laid : List D → (D → Prop) → Prop} {k_laid : Nat} (C_laid : Cal P w K mg base "laid" ["problem", "taken", "left"] (spP R_laid) k_laid) (h_laid : k_laid ≤ k) {R_first_open : List D → (D → Prop) → Prop} {k_first_open : Nat} (C_first_open : Cal P w K mg base "first_open" ["problem", "taken", "left"] (spP R_first_open) k_first_open) (h_first_open : k_first_open ≤ k) {R_Cover_go : Stt → List D → (D → Stt → Prop) → Prop} {k_Cover_go : Nat} (M_Cover_go : CalM P w K mg base C_Cover "go" ["self", "taken", "left"] (spS R_Cover_go) k_Cover_go) (h_Cover_go : k_Cover_go ≤ k) :
    PSs (cxOf CX0 P w K mg base N_Cover_go "Cover.go" (defScope s_Cover_go) f cdv A outer s H E).nox (defBody s_Cover_go) (T_Cover_go K C_Cover R_laid R_first_open R_Cover_go) :=
  have nd := sc_Cover_go.nd
  (pss_cons (ps_asg (pe_cal C_laid (hr.mono h_laid) (by rfl) (pa_cons (pe_fldC O_Cover (by simp) (pv 0) rfl) (pa_cons (pv 1) (pa_cons (pv 2) pa_nil)))) (pg_tup (n := 2) rfl (pgs_cons (pg_name (i := 3) nd rfl (by first | exact Or.inl rfl | exact Or.inr rfl)) (pgs_cons (pg_name (i := 4) nd rfl (by first | exact Or.inl rfl | exact Or.inr rfl)) pgs_nil))))
    (pss_cons (ps_if (PW.pt (pw_and (pt_cmpR op_isnt (pe_fldC O_Cover (by simp) (pv 0) rfl) pe_non (nomark _)) (pw_and1 (pt_cmpR op_ge (pv 4) (pe_fldC O_Cover (by simp) (pv 0) rfl) (nomark _)))))
      (pss_one ps_retN)
      pss_nil)
    (pss_cons (ps_set (i := 5) nd rfl (by first | exact Or.inl rfl | exact Or.inr rfl) (pe_cal C_first_open (hr.mono h_first_open) (by rfl) (pa_cons (pe_fldC O_Cover (by simp) (pv 0) rfl) (pa_cons (pv 1) (pa_cons (pv 2) pa_nil)))))
    (pss_cons (ps_if (pt_cmpR op_is (pv 5) pe_non (nomark _))
      (pss_cons (ps_fldC O_Cover (by simp) (pv 0) (pe_callB (cb_sortD hr.units) (by rfl) bn.sorted_ (by decide +kernel) (pa_cons (pv 1) pa_nil)) rfl)
    (pss_cons (ps_fldC O_Cover (by simp) (pv 0) (pe_callB (cr_sum rfl) (by rfl) bn.sum_ (by decide +kernel) (pa_cons (pe_lc (own := [("option", 6)]) (g := (gName 6)) (tt := tYes) rfl nd (pi_list (pv 1)) (blkOk_by (N := N_Cover_go) (sc := defScope s_Cover_go) (by decide +kernel)) (fun _ _ _ _ _ => (pg_name (i := 6) nd rfl (by first | exact Or.inl rfl | exact Or.inr rfl))) (fun _ _ _ _ _ => pts_nil) (fun _ _ _ _ _ => (pe_ix ix_any (pe_ix ix_any (pe_fldC O_Cover (by simp) (pv 0) rfl) pe_int (fun _ _ => rfl)) (pv 6) (fun _ _ => rfl)))) pa_nil)) rfl)
    (pss_one ps_retN)))
      pss_nil)
    (pss_cons (ps_set (i := 7) nd rfl (by first | exact Or.inl rfl | exact Or.inr rfl) (pe_lst pa_nil))
    (pss_one (ps_for PassesOwn.never rfl (pi_list (pe_ix ix_any (pe_ix ix_any (pe_fldC O_Cover (by simp) (pv 0) rfl) pe_int (fun _ _ => rfl)) (pv 5) (fun _ _ => rfl))) (pg_name (i := 6) nd rfl (by first | exact Or.inl rfl | exact Or.inr rfl))
      (pss_one (ps_if (pt_cmpR (op_ninP hr.units) (pv 6) (pv 2) (by rfl))
      (pss_cons (ps_expr (pe_calM M_Cover_go O_Cover (hr.mono h_Cover_go) (pv 0) (pa_cons (pe_op op_plus (pv 1) (pe_lst (pa_cons (pv 6) pa_nil))) (pa_cons (pe_op op_plus (pv 2) (pv 7)) pa_nil))))
    (pss_one (ps_set (i := 7) nd rfl (by first | exact Or.inl rfl | exact Or.inr rfl) (pe_op op_plus (pv 7) (pe_lst (pa_cons (pv 6) pa_nil))))))
      pss_nil)))))))))
theorem ok_Cover_go {R : Stt → List D → (D → Stt → Prop) → Prop} (F : Fun K "go" "Cover.go" s_Cover_go f fd) (bn : Bn mg) {C_Cover : Addr} (O_Cover : ObF K C_Cover ["problem", "best", "cost"]) {R_laid : List D → (D → Prop) → Prop} {k_laid : Nat} (C_laid : Cal P w K mg base "laid" ["problem", "taken", "left"] (spP R_laid) k_laid) (h_laid : k_laid ≤ k) {R_first_open : List D → (D → Prop) → Prop} {k_first_open : Nat} (C_first_open : Cal P w K mg base "first_open" ["problem", "taken", "left"] (spP R_first_open) k_first_open) (h_first_open : k_first_open ≤ k) {R_Cover_go : Stt → List D → (D → Stt → Prop) → Prop} {k_Cover_go : Nat} (M_Cover_go : CalM P w K mg base C_Cover "go" ["self", "taken", "left"] (spS R_Cover_go) k_Cover_go) (h_Cover_go : k_Cover_go ≤ k) (len : ∀ S ds Z, R S ds Z → ds.length + 1 = 3) (sx : ∀ S ds Z, R S ds Z → SX (T_Cover_go K C_Cover R_laid R_first_open R_Cover_go) (.st S :: (ds.map .val ++ List.replicate (N_Cover_go.length - (ds.length + 1)) .emp)) { nx := fun ρ' => ∃ S', ρ'[0]? = some (.st S') ∧ Z .none S', rt := fun d ρ' => ∃ S', ρ'[0]? = some (.st S') ∧ Z d S' }) :
    FnOk P w K mg base CX0 (k + 1) f fd ["self", "taken", "left"] (spS R) := fn_state F sc_Cover_go len fun cdv A outer s H E hr => ⟨_, ps_Cover_go bn hr O_Cover C_laid h_laid C_first_open h_first_open M_Cover_go h_Cover_go, sx⟩
theorem ps_Cover_prove {cdv : Value} {A : Around} {outer : List PySem.Env} {s : Shared} {H : Hp} {E : XK} (bn : Bn mg) (hr : Room k (A.deeper (PyProof.Rows.envOfC "Cover.prove" (defScope s_Cover_prove) s.heap.objs.size f cdv))) {C_Cover : Addr} (O_Cover : ObF K C_Cover ["problem", "best", "cost"]) {R_laid : List D → (D → Prop) → Prop} {k_laid : Nat} (C_laid : Cal P w K mg base "laid" ["problem", "taken", "left"] (spP R_laid) k_laid) (h_laid : k_laid ≤ k) {R_first_open : List D → (D → Prop) → Prop} {k_first_open : Nat} (C_first_open : Cal P w K mg base "first_open" ["problem", "taken", "left"] (spP R_first_open) k_first_open) (h_first_open : k_first_open ≤ k) {R_Cover_prove : Stt → List D → (D → Stt → Prop) → Prop} {k_Cover_prove : Nat} (M_Cover_prove : CalM P w K mg base C_Cover "prove" ["self", "taken", "left"] (spS R_Cover_prove) k_Cover_prove) (h_Cover_prove : k_Cover_prove ≤ k) {R_met : List D → (D → Prop) → Prop} {k_met : Nat} (C_met : Cal P w K mg base "met" ["demand", "taken"] (spP R_met) k_met) (h_met : k_met ≤ k) :
    PSs (cxOf CX0 P w K mg base N_Cover_prove "Cover.prove" (defScope s_Cover_prove) f cdv A outer s H E).nox (defBody s_Cover_prove) (T_Cover_prove K C_Cover R_laid R_first_open R_Cover_prove R_met) :=
  have nd := sc_Cover_prove.nd
  (pss_cons (ps_for PassesOwn.never rfl (pi_enum (by rfl) bn.enumerate_ (pa_cons (pe_ix ix_any (pe_fldC O_Cover (by simp) (pv 0) rfl) pe_int (fun _ _ => rfl)) pa_nil)) (pg_tup (n := 2) rfl (pgs_cons (pg_name (i := 3) nd rfl (by first | exact Or.inl rfl | exact Or.inr rfl)) (pgs_cons (pg_name (i := 4) nd rfl (by first | exact Or.inl rfl | exact Or.inr rfl)) pgs_nil)))
      (pss_one (ps_if (PW.pt (pw_and (pt_not (pt_val (pe_cal C_met (hr.mono h_met) (by rfl) (pa_cons (pv 4) (pa_cons (pv 1) pa_nil))))) (pw_and1 (pt_val (pe_callB (cb_all rfl) (by rfl) bn.all_ (by decide +kernel) (pa_cons (pe_lc (own := [("option", 5)]) (g := (gName 5)) (tt := tYes) rfl nd (pi_list (pv 4)) (blkOk_by (N := N_Cover_prove) (sc := defScope s_Cover_prove) (by decide +kernel)) (fun _ _ _ _ _ => (pg_name (i := 5) nd rfl (by first | exact Or.inl rfl | exact Or.inr rfl))) (fun _ _ _ _ _ => pts_nil) (fun _ _ _ _ _ => (pe_cmpR (op_inP hr.units) (pv 5) (pv 2) (by rfl)))) pa_nil))))))
      (pss_one (ps_ret (pe_tup (pa_cons pe_str (pa_cons (pv 3) pa_nil)))))
      pss_nil)))
    (pss_cons (ps_asg (pe_cal C_laid (hr.mono h_laid) (by rfl) (pa_cons (pe_fldC O_Cover (by simp) (pv 0) rfl) (pa_cons (pv 1) (pa_cons (pv 2) pa_nil)))) (pg_tup (n := 2) rfl (pgs_cons (pg_name (i := 6) nd rfl (by first | exact Or.inl rfl | exact Or.inr rfl)) (pgs_cons (pg_name (i := 7) nd rfl (by first | exact Or.inl rfl | exact Or.inr rfl)) pgs_nil))))
    (pss_cons (ps_if (PW.pt (pw_and (pt_cmpR op_isnt (pe_fldC O_Cover (by simp) (pv 0) rfl) pe_non (nomark _)) (pw_and1 (pt_cmpR op_ge (pv 7) (pe_fldC O_Cover (by simp) (pv 0) rfl) (nomark _)))))
      (pss_one (ps_ret (pe_tup (pa_cons pe_str (pa_cons (pv 6) pa_nil)))))
      pss_nil)
    (pss_cons (ps_set (i := 3) nd rfl (by first | exact Or.inl rfl | exact Or.inr rfl) (pe_cal C_first_open (hr.mono h_first_open) (by rfl) (pa_cons (pe_fldC O_Cover (by simp) (pv 0) rfl) (pa_cons (pv 1) (pa_cons (pv 2) pa_nil)))))
    (pss_cons (ps_set (i := 8) nd rfl (by first | exact Or.inl rfl | exact Or.inr rfl) (pe_lst pa_nil))
    (pss_cons (ps_set (i := 9) nd rfl (by first | exact Or.inl rfl | exact Or.inr rfl) (pe_lst pa_nil))
    (pss_cons (ps_for PassesOwn.never rfl (pi_list (pe_ix ix_any (pe_ix ix_any (pe_fldC O_Cover (by simp) (pv 0) rfl) pe_int (fun _ _ => rfl)) (pv 3) (fun _ _ => rfl))) (pg_name (i := 5) nd rfl (by first | exact Or.inl rfl | exact Or.inr rfl))
      (pss_one (ps_if (pt_cmpR (op_ninP hr.units) (pv 5) (pv 2) (by rfl))
      (pss_cons (ps_expr (pe_bm PySem.F.plainAttrs_list PySem.F.slot_list_append PySem.F.type_list_append mt_append (pv 8) (pa_cons (pe_calM M_Cover_prove O_Cover (hr.mono h_Cover_prove) (pv 0) (pa_cons (pe_op op_plus (pv 1) (pe_lst (pa_cons (pv 5) pa_nil))) (pa_cons (pe_op op_plus (pv 2) (pv 9)) pa_nil))) pa_nil)))
    (pss_one (ps_set (i := 9) nd rfl (by first | exact Or.inl rfl | exact Or.inr rfl) (pe_op op_plus (pv 9) (pe_lst (pa_cons (pv 5) pa_nil))))))
      pss_nil)))
    (pss_one (ps_ret (pe_tup (pa_cons pe_str (pa_cons (pv 3) (pa_cons (pv 8) pa_nil)))))))))))))
theorem ok_Cover_prove {R : Stt → List D → (D → Stt → Prop) → Prop} (F : Fun K "prove" "Cover.prove" s_Cover_prove f fd) (bn : Bn mg) {C_Cover : Addr} (O_Cover : ObF K C_Cover ["problem", "best", "cost"]) {R_laid : List D → (D → Prop) → Prop} {k_laid : Nat} (C_laid : Cal P w K mg base "laid" ["problem", "taken", "left"] (spP R_laid) k_laid) (h_laid : k_laid ≤ k) {R_first_open : List D → (D → Prop) → Prop} {k_first_open : Nat} (C_first_open : Cal P w K mg base "first_open" ["problem", "taken", "left"] (spP R_first_open) k_first_open) (h_first_open : k_first_open ≤ k) {R_Cover_prove : Stt → List D → (D → Stt → Prop) → Prop} {k_Cover_prove : Nat} (M_Cover_prove : CalM P w K mg base C_Cover "prove" ["self", "taken", "left"] (spS R_Cover_prove) k_Cover_prove) (h_Cover_prove : k_Cover_prove ≤ k) {R_met : List D → (D → Prop) → Prop} {k_met : Nat} (C_met : Cal P w K mg base "met" ["demand", "taken"] (spP R_met) k_met) (h_met : k_met ≤ k) (len : ∀ S ds Z, R S ds Z → ds.length + 1 = 3) (sx : ∀ S ds Z, R S ds Z → SX (T_Cover_prove K C_Cover R_laid R_first_open R_Cover_prove R_met) (.st S :: (ds.map .val ++ List.replicate (N_Cover_prove.length - (ds.length + 1)) .emp)) { nx := fun ρ' => ∃ S', ρ'[0]? = some (.st S') ∧ Z .none S', rt := fun d ρ' => ∃ S', ρ'[0]? = some (.st S') ∧ Z d S' }) :
    FnOk P w K mg base CX0 (k + 1) f fd ["self", "taken", "left"] (spS R) := fn_state F sc_Cover_prove len fun cdv A outer s H E hr => ⟨_, ps_Cover_prove bn hr O_Cover C_laid h_laid C_first_open h_first_open M_Cover_prove h_Cover_prove C_met h_met, sx⟩
end
end Law_k41
namespace Law_k41
open PySem L2 Pu
section
variable {P : Program} {w : World} {K : PySem.W.Frag} {mg : Str → Option Value} {base : Heap} {f : Addr} {fd : FuncData} {k : Nat}
theorem len_l_draw : ∀ S ds Z, R_draw S ds Z → ds.length + 1 = 3 := by
  intro S ds Z h
  unfold R_draw at h
  repeat (obtain ⟨e, h⟩ := h; try subst e)
  all_goals rfl
theorem len_l_way : ∀ ds Z, R_way ds Z → ds.length = 2 := by
  intro ds Z h
  unfold R_way at h
  repeat (obtain ⟨e, h⟩ := h; try subst e)
  all_goals rfl
theorem len_l_problem : ∀ ds Z, R_prob ds Z → ds.length = 3 := by
  intro ds Z h
  unfold R_prob at h
  repeat (obtain ⟨e, h⟩ := h; try subst e)
  all_goals rfl
theorem len_l_least : ∀ ds Z, R_lst ds Z → ds.length = 3 := by
  intro ds Z h
  unfold R_lst at h
  repeat (obtain ⟨e, h⟩ := h; try subst e)
  all_goals rfl
theorem len_way : ∀ ds Z, R_way ds Z → ds.length = 2 := by
  intro ds Z h
  unfold R_way at h
  repeat (obtain ⟨e, h⟩ := h; try subst e)
  all_goals rfl
theorem len_spot_problem : ∀ ds Z, R_prob ds Z → ds.length = 3 := by
  intro ds Z h
  unfold R_prob at h
  repeat (obtain ⟨e, h⟩ := h; try subst e)
  all_goals rfl
theorem len_Cover_init {C_Cover : Addr} : ∀ S ds Z, R_init C_Cover S ds Z → ds.length + 1 = 2 := by
  intro S ds Z h
  unfold R_init at h
  repeat (obtain ⟨e, h⟩ := h; try subst e)
  all_goals rfl
theorem len_met : ∀ ds Z, R_met ds Z → ds.length = 2 := by
  intro ds Z h
  unfold R_met at h
  repeat (obtain ⟨e, h⟩ := h; try subst e)
  all_goals rfl
theorem len_laid : ∀ ds Z, R_laid ds Z → ds.length = 3 := by
  intro ds Z h
  unfold R_laid at h
  repeat (obtain ⟨e, h⟩ := h; try subst e)
  all_goals rfl
theorem len_first_open : ∀ ds Z, R_fo ds Z → ds.length = 3 := by
  intro ds Z h
  unfold R_fo at h
  repeat (obtain ⟨e, h⟩ := h; try subst e)
  all_goals rfl
theorem len_Cover_go {C_Cover : Addr} : ∀ (n : Nat) S ds Z, R_go C_Cover n S ds Z → ds.length + 1 = 3 := by
  intro n S ds Z h
  unfold R_go at h
  repeat (obtain ⟨e, h⟩ := h; try subst e)
  all_goals rfl
theorem len_Cover_prove {C_Cover : Addr} : ∀ (n : Nat) S ds Z, R_prove C_Cover n S ds Z → ds.length + 1 = 3 := by
  intro n S ds Z h
  unfold R_prove at h
  repeat (obtain ⟨e, h⟩ := h; try subst e)
  all_goals rfl
theorem len_cover : ∀ ds Z, R_cover ds Z → ds.length = 1 := by
  intro ds Z h
  unfold R_cover at h
  repeat (obtain ⟨e, h⟩ := h; try subst e)
  all_goals rfl
theorem len_fewest_spots : ∀ ds Z, R_few ds Z → ds.length = 3 := by
  intro ds Z h
  unfold R_few at h
  repeat (obtain ⟨e, h⟩ := h; try subst e)
  all_goals rfl
theorem len_l_reaches : ∀ ds Z, R_rch ds Z → ds.length = 2 := by
  intro ds Z h
  unfold R_rch at h
  repeat (obtain ⟨e, h⟩ := h; try subst e)
  all_goals rfl
theorem len_reaches : ∀ ds Z, R_rch ds Z → ds.length = 2 := by
  intro ds Z h
  unfold R_rch at h
  repeat (obtain ⟨e, h⟩ := h; try subst e)
  all_goals rfl
theorem len_least_reach : ∀ ds Z, R_lr ds Z → ds.length = 3 := by
  intro ds Z h
  unfold R_lr at h
  repeat (obtain ⟨e, h⟩ := h; try subst e)
  all_goals rfl
theorem len_nearest_spots : ∀ ds Z, R_near ds Z → ds.length = 3 := by
  intro ds Z h
  unfold R_near at h
  repeat (obtain ⟨e, h⟩ := h; try subst e)
  all_goals rfl
theorem len_shares_right : ∀ ds Z, R_shares ds Z → ds.length = 5 := by
  intro ds Z h
  unfold R_shares at h
  repeat (obtain ⟨e, h⟩ := h; try subst e)
  all_goals rfl
theorem len_fault_at : ∀ (n : Nat) ds Z, R_fat n ds Z → ds.length = 6 := by
  intro n ds Z h
  unfold R_fat at h
  repeat (obtain ⟨e, h⟩ := h; try subst e)
  all_goals rfl
theorem len_cover_fault : ∀ ds Z, R_jud ds Z → ds.length = 2 := by
  intro ds Z h
  unfold R_jud at h
  repeat (obtain ⟨e, h⟩ := h; try subst e)
  all_goals rfl
theorem len_l_fault : ∀ ds Z, R_fj ds Z → ds.length = 4 := by
  intro ds Z h
  unfold R_fj at h
  repeat (obtain ⟨e, h⟩ := h; try subst e)
  all_goals rfl
theorem len_fewest_spots_fault : ∀ ds Z, R_fj ds Z → ds.length = 4 := by
  intro ds Z h
  unfold R_fj at h
  repeat (obtain ⟨e, h⟩ := h; try subst e)
  all_goals rfl
theorem len_l_reach_fault : ∀ ds Z, R_rj ds Z → ds.length = 4 := by
  intro ds Z h
  unfold R_rj at h
  repeat (obtain ⟨e, h⟩ := h; try subst e)
  all_goals rfl
theorem len_least_reach_fault : ∀ ds Z, R_rj ds Z → ds.length = 4 := by
  intro ds Z h
  unfold R_rj at h
  repeat (obtain ⟨e, h⟩ := h; try subst e)
  all_goals rfl
theorem len_middle_spot : ∀ ds Z, R_mid ds Z → ds.length = 1 := by
  intro ds Z h
  unfold R_mid at h
  repeat (obtain ⟨e, h⟩ := h; try subst e)
  all_goals rfl
theorem len_law : ∀ ds Z, R_law ds Z → ds.length = 1 := by
  intro ds Z h
  unfold R_law at h
  repeat (obtain ⟨e, h⟩ := h; try subst e)
  all_goals rfl
theorem rec_Cover_go {C_Cover : Addr} (F : Fun K "go" "Cover.go" s_Cover_go f fd) (hm : Meth K C_Cover "go" f) (bd : Binds K fd ["self", "taken", "left"] []) (bn : Bn mg) {j : Nat} (O_Cover : ObF K C_Cover ["problem", "best", "cost"]) {k_laid : Nat} (C_laid : Cal P w K mg base "laid" ["problem", "taken", "left"] (spP R_laid) k_laid) (h_laid : k_laid ≤ j) {k_first_open : Nat} (C_first_open : Cal P w K mg base "first_open" ["problem", "taken", "left"] (spP R_fo) k_first_open) (h_first_open : k_first_open ≤ j) : ∀ n : Nat, FnOk P w K mg base CX0 (j + n) f fd ["self", "taken", "left"] (spS (R_go C_Cover n))
  | 0 => fn_noS (no_go)
  | n + 1 => by
    have ih := rec_Cover_go F hm bd bn (j := j) O_Cover C_laid h_laid C_first_open h_first_open n
    exact ok_Cover_go (k := j + n) F bn O_Cover C_laid (Nat.le_trans h_laid (Nat.le_add_right j n)) C_first_open (Nat.le_trans h_first_open (Nat.le_add_right j n)) ⟨_, _, ih, hm, bd⟩ (Nat.le_refl _) (len_Cover_go (n + 1)) (sx_Cover_go K C_Cover n)
theorem rec_Cover_prove {C_Cover : Addr} (F : Fun K "prove" "Cover.prove" s_Cover_prove f fd) (hm : Meth K C_Cover "prove" f) (bd : Binds K fd ["self", "taken", "left"] []) (bn : Bn mg) {j : Nat} (O_Cover : ObF K C_Cover ["problem", "best", "cost"]) {k_laid : Nat} (C_laid : Cal P w K mg base "laid" ["problem", "taken", "left"] (spP R_laid) k_laid) (h_laid : k_laid ≤ j) {k_first_open : Nat} (C_first_open : Cal P w K mg base "first_open" ["problem", "taken", "left"] (spP R_fo) k_first_open) (h_first_open : k_first_open ≤ j) {k_met : Nat} (C_met : Cal P w K mg base "met" ["demand", "taken"] (spP R_met) k_met) (h_met : k_met ≤ j) : ∀ n : Nat, FnOk P w K mg base CX0 (j + n) f fd ["self", "taken", "left"] (spS (R_prove C_Cover n))
  | 0 => fn_noS (no_prove)
  | n + 1 => by
    have ih := rec_Cover_prove F hm bd bn (j := j) O_Cover C_laid h_laid C_first_open h_first_open C_met h_met n
    exact ok_Cover_prove (k := j + n) F bn O_Cover C_laid (Nat.le_trans h_laid (Nat.le_add_right j n)) C_first_open (Nat.le_trans h_first_open (Nat.le_add_right j n)) ⟨_, _, ih, hm, bd⟩ (Nat.le_refl _) C_met (Nat.le_trans h_met (Nat.le_add_right j n)) (len_Cover_prove (n + 1)) (sx_Cover_prove K C_Cover n)
theorem rec_fault_at (F : Fun K "fault_at" "fault_at" s_fault_at f fd) (hm : mg "fault_at" = some (.ref f)) (bd : Binds K fd ["problem", "taken", "left", "path", "bound", "tree"] []) (bn : Bn mg) {j : Nat} {k_met : Nat} (C_met : Cal P w K mg base "met" ["demand", "taken"] (spP R_met) k_met) (h_met : k_met ≤ j) {k_shares_right : Nat} (C_shares_right : Cal P w K mg base "shares_right" ["problem", "taken", "left", "bound", "rows"] (spP R_shares) k_shares_right) (h_shares_right : k_shares_right ≤ j) : ∀ n : Nat, FnOk P w K mg base CX0 (j + n) f fd ["problem", "taken", "left", "path", "bound", "tree"] (spP (R_fat n))
  | 0 => fn_noP (no_fat)
  | n + 1 => by
    have ih := rec_fault_at F hm bd bn (j := j) C_met h_met C_shares_right h_shares_right n
    exact ok_fault_at (k := j + n) F bn C_met (Nat.le_trans h_met (Nat.le_add_right j n)) ⟨_, _, ih, hm, F.kp, bd⟩ (Nat.le_refl _) C_shares_right (Nat.le_trans h_shares_right (Nat.le_add_right j n)) (len_fault_at (n + 1)) (sx_fault_at K n)
end
theorem all_mk {l : PySem.W.OpenLaw} {w : World} {K : PySem.W.Frag} {h : Heap} {mg : Str → Option Value} {fa f1 f2 f3 f4 f5 f6 f7 f8 f9 f10 f11 f12 f13 f14 f15 f16 f17 f18 f19 f20 f21 f22 f23 f24 f25 f26 f27 C_Cover : Addr} (X : K.In h) (G : h.Ns mainGlobals mg) (hfa : mg "law" = some (.ref fa))
    {od1 an1 od2 an2 od3 an3 od4 an4 od5 an5 od6 an6 od7 an7 od8 an8 od9 an9 od10 an10 od11 an11 od12 an12 od13 an13 od14 an14 od15 an15 od16 an16 od17 an17 od18 an18 od19 an19 od20 an20 od21 an21 od22 an22 od23 an23 od24 an24 od25 an25 od26 an26 od27 an27 : Option Addr} {sl1 sl2 sl3 sl4 sl5 sl6 sl7 sl8 sl9 sl10 sl11 sl12 sl13 sl14 sl15 sl16 sl17 sl18 sl19 sl20 sl21 sl22 sl23 sl24 sl25 sl26 sl27 : Array (Option Value)}
    {oc1 kV1 dc1 pm1 cd1 ct1 oc2 kV2 dc2 pm2 cd2 ct2 oc3 kV3 dc3 pm3 cd3 ct3 oc4 kV4 dc4 pm4 cd4 ct4 oc5 kV5 dc5 pm5 cd5 ct5 oc6 kV6 dc6 pm6 cd6 ct6 oc7 kV7 dc7 pm7 cd7 ct7 oc8 kV8 dc8 pm8 cd8 ct8 oc9 kV9 dc9 pm9 cd9 ct9 oc10 kV10 dc10 pm10 cd10 ct10 oc11 kV11 dc11 pm11 cd11 ct11 oc12 kV12 dc12 pm12 cd12 ct12 oc13 kV13 dc13 pm13 cd13 ct13 oc14 kV14 dc14 pm14 cd14 ct14 oc15 kV15 dc15 pm15 cd15 ct15 oc16 kV16 dc16 pm16 cd16 ct16 oc17 kV17 dc17 pm17 cd17 ct17 oc18 kV18 dc18 pm18 cd18 ct18 oc19 kV19 dc19 pm19 cd19 ct19 oc20 kV20 dc20 pm20 cd20 ct20 oc21 kV21 dc21 pm21 cd21 ct21 oc22 kV22 dc22 pm22 cd22 ct22 oc23 kV23 dc23 pm23 cd23 ct23 oc24 kV24 dc24 pm24 cd24 ct24 oc25 kV25 dc25 pm25 cd25 ct25 oc26 kV26 dc26 pm26 cd26 ct26 oc27 kV27 dc27 pm27 cd27 ct27 : Value}
    (a1 : PySem.W.nsIn K mainGlobals "met" = some (some (.ref f1))) (l1 : K.lookup f1 = some ⟨oc1, od1, .func (PySem.W.fnOf "met" "met" (defArgs s_met) (defBody s_met) (defScope s_met) .none kV1 dc1 pm1 an1 cd1 ct1), sl1⟩) (c1 : PySem.W.codeIn K cd1 "met" = true) (k1 : PySem.W.keepIn K (.ref f1) = true)
    (a2 : PySem.W.nsIn K mainGlobals "laid" = some (some (.ref f2))) (l2 : K.lookup f2 = some ⟨oc2, od2, .func (PySem.W.fnOf "laid" "laid" (defArgs s_laid) (defBody s_laid) (defScope s_laid) .none kV2 dc2 pm2 an2 cd2 ct2), sl2⟩) (c2 : PySem.W.codeIn K cd2 "laid" = true) (k2 : PySem.W.keepIn K (.ref f2) = true)
    (a3 : PySem.W.nsIn K mainGlobals "first_open" = some (some (.ref f3))) (l3 : K.lookup f3 = some ⟨oc3, od3, .func (PySem.W.fnOf "first_open" "first_open" (defArgs s_first_open) (defBody s_first_open) (defScope s_first_open) .none kV3 dc3 pm3 an3 cd3 ct3), sl3⟩) (c3 : PySem.W.codeIn K cd3 "first_open" = true) (k3 : PySem.W.keepIn K (.ref f3) = true)
    (a4 : PySem.W.nsIn K mainGlobals "cover" = some (some (.ref f4))) (l4 : K.lookup f4 = some ⟨oc4, od4, .func (PySem.W.fnOf "cover" "cover" (defArgs s_cover) (defBody s_cover) (defScope s_cover) .none kV4 dc4 pm4 an4 cd4 ct4), sl4⟩) (c4 : PySem.W.codeIn K cd4 "cover" = true) (k4 : PySem.W.keepIn K (.ref f4) = true)
    (a5 : PySem.W.nsIn K mainGlobals "shares_right" = some (some (.ref f5))) (l5 : K.lookup f5 = some ⟨oc5, od5, .func (PySem.W.fnOf "shares_right" "shares_right" (defArgs s_shares_right) (defBody s_shares_right) (defScope s_shares_right) .none kV5 dc5 pm5 an5 cd5 ct5), sl5⟩) (c5 : PySem.W.codeIn K cd5 "shares_right" = true) (k5 : PySem.W.keepIn K (.ref f5) = true)
    (a6 : PySem.W.nsIn K mainGlobals "fault_at" = some (some (.ref f6))) (l6 : K.lookup f6 = some ⟨oc6, od6, .func (PySem.W.fnOf "fault_at" "fault_at" (defArgs s_fault_at) (defBody s_fault_at) (defScope s_fault_at) .none kV6 dc6 pm6 an6 cd6 ct6), sl6⟩) (c6 : PySem.W.codeIn K cd6 "fault_at" = true) (k6 : PySem.W.keepIn K (.ref f6) = true)
    (a7 : PySem.W.nsIn K mainGlobals "cover_fault" = some (some (.ref f7))) (l7 : K.lookup f7 = some ⟨oc7, od7, .func (PySem.W.fnOf "cover_fault" "cover_fault" (defArgs s_cover_fault) (defBody s_cover_fault) (defScope s_cover_fault) .none kV7 dc7 pm7 an7 cd7 ct7), sl7⟩) (c7 : PySem.W.codeIn K cd7 "cover_fault" = true) (k7 : PySem.W.keepIn K (.ref f7) = true)
    (a8 : PySem.W.nsIn K mainGlobals "way" = some (some (.ref f8))) (l8 : K.lookup f8 = some ⟨oc8, od8, .func (PySem.W.fnOf "way" "way" (defArgs s_way) (defBody s_way) (defScope s_way) .none kV8 dc8 pm8 an8 cd8 ct8), sl8⟩) (c8 : PySem.W.codeIn K cd8 "way" = true) (k8 : PySem.W.keepIn K (.ref f8) = true)
    (a9 : PySem.W.nsIn K mainGlobals "spot_problem" = some (some (.ref f9))) (l9 : K.lookup f9 = some ⟨oc9, od9, .func (PySem.W.fnOf "spot_problem" "spot_problem" (defArgs s_spot_problem) (defBody s_spot_problem) (defScope s_spot_problem) .none kV9 dc9 pm9 an9 cd9 ct9), sl9⟩) (c9 : PySem.W.codeIn K cd9 "spot_problem" = true) (k9 : PySem.W.keepIn K (.ref f9) = true)
    (a10 : PySem.W.nsIn K mainGlobals "fewest_spots" = some (some (.ref f10))) (l10 : K.lookup f10 = some ⟨oc10, od10, .func (PySem.W.fnOf "fewest_spots" "fewest_spots" (defArgs s_fewest_spots) (defBody s_fewest_spots) (defScope s_fewest_spots) .none kV10 dc10 pm10 an10 cd10 ct10), sl10⟩) (c10 : PySem.W.codeIn K cd10 "fewest_spots" = true) (k10 : PySem.W.keepIn K (.ref f10) = true)
    (a11 : PySem.W.nsIn K mainGlobals "fewest_spots_fault" = some (some (.ref f11))) (l11 : K.lookup f11 = some ⟨oc11, od11, .func (PySem.W.fnOf "fewest_spots_fault" "fewest_spots_fault" (defArgs s_fewest_spots_fault) (defBody s_fewest_spots_fault) (defScope s_fewest_spots_fault) .none kV11 dc11 pm11 an11 cd11 ct11), sl11⟩) (c11 : PySem.W.codeIn K cd11 "fewest_spots_fault" = true) (k11 : PySem.W.keepIn K (.ref f11) = true)
    (a12 : PySem.W.nsIn K mainGlobals "reaches" = some (some (.ref f12))) (l12 : K.lookup f12 = some ⟨oc12, od12, .func (PySem.W.fnOf "reaches" "reaches" (defArgs s_reaches) (defBody s_reaches) (defScope s_reaches) .none kV12 dc12 pm12 an12 cd12 ct12), sl12⟩) (c12 : PySem.W.codeIn K cd12 "reaches" = true) (k12 : PySem.W.keepIn K (.ref f12) = true)
    (a13 : PySem.W.nsIn K mainGlobals "least_reach" = some (some (.ref f13))) (l13 : K.lookup f13 = some ⟨oc13, od13, .func (PySem.W.fnOf "least_reach" "least_reach" (defArgs s_least_reach) (defBody s_least_reach) (defScope s_least_reach) .none kV13 dc13 pm13 an13 cd13 ct13), sl13⟩) (c13 : PySem.W.codeIn K cd13 "least_reach" = true) (k13 : PySem.W.keepIn K (.ref f13) = true)
    (a14 : PySem.W.nsIn K mainGlobals "least_reach_fault" = some (some (.ref f14))) (l14 : K.lookup f14 = some ⟨oc14, od14, .func (PySem.W.fnOf "least_reach_fault" "least_reach_fault" (defArgs s_least_reach_fault) (defBody s_least_reach_fault) (defScope s_least_reach_fault) .none kV14 dc14 pm14 an14 cd14 ct14), sl14⟩) (c14 : PySem.W.codeIn K cd14 "least_reach_fault" = true) (k14 : PySem.W.keepIn K (.ref f14) = true)
    (a15 : PySem.W.nsIn K mainGlobals "nearest_spots" = some (some (.ref f15))) (l15 : K.lookup f15 = some ⟨oc15, od15, .func (PySem.W.fnOf "nearest_spots" "nearest_spots" (defArgs s_nearest_spots) (defBody s_nearest_spots) (defScope s_nearest_spots) .none kV15 dc15 pm15 an15 cd15 ct15), sl15⟩) (c15 : PySem.W.codeIn K cd15 "nearest_spots" = true) (k15 : PySem.W.keepIn K (.ref f15) = true)
    (a16 : PySem.W.nsIn K mainGlobals "middle_spot" = some (some (.ref f16))) (l16 : K.lookup f16 = some ⟨oc16, od16, .func (PySem.W.fnOf "middle_spot" "middle_spot" (defArgs s_middle_spot) (defBody s_middle_spot) (defScope s_middle_spot) .none kV16 dc16 pm16 an16 cd16 ct16), sl16⟩) (c16 : PySem.W.codeIn K cd16 "middle_spot" = true) (k16 : PySem.W.keepIn K (.ref f16) = true)
    (a17 : PySem.W.nsIn K mainGlobals "_law_draw" = some (some (.ref f17))) (l17 : K.lookup f17 = some ⟨oc17, od17, .func (PySem.W.fnOf "_law_draw" "_law_draw" (defArgs s_l_draw) (defBody s_l_draw) (defScope s_l_draw) .none kV17 dc17 pm17 an17 cd17 ct17), sl17⟩) (c17 : PySem.W.codeIn K cd17 "_law_draw" = true) (k17 : PySem.W.keepIn K (.ref f17) = true)
    (a18 : PySem.W.nsIn K mainGlobals "_law_way" = some (some (.ref f18))) (l18 : K.lookup f18 = some ⟨oc18, od18, .func (PySem.W.fnOf "_law_way" "_law_way" (defArgs s_l_way) (defBody s_l_way) (defScope s_l_way) .none kV18 dc18 pm18 an18 cd18 ct18), sl18⟩) (c18 : PySem.W.codeIn K cd18 "_law_way" = true) (k18 : PySem.W.keepIn K (.ref f18) = true)
    (a19 : PySem.W.nsIn K mainGlobals "_law_problem" = some (some (.ref f19))) (l19 : K.lookup f19 = some ⟨oc19, od19, .func (PySem.W.fnOf "_law_problem" "_law_problem" (defArgs s_l_problem) (defBody s_l_problem) (defScope s_l_problem) .none kV19 dc19 pm19 an19 cd19 ct19), sl19⟩) (c19 : PySem.W.codeIn K cd19 "_law_problem" = true) (k19 : PySem.W.keepIn K (.ref f19) = true)
    (a20 : PySem.W.nsIn K mainGlobals "_law_fault" = some (some (.ref f20))) (l20 : K.lookup f20 = some ⟨oc20, od20, .func (PySem.W.fnOf "_law_fault" "_law_fault" (defArgs s_l_fault) (defBody s_l_fault) (defScope s_l_fault) .none kV20 dc20 pm20 an20 cd20 ct20), sl20⟩) (c20 : PySem.W.codeIn K cd20 "_law_fault" = true) (k20 : PySem.W.keepIn K (.ref f20) = true)
    (a21 : PySem.W.nsIn K mainGlobals "_law_least" = some (some (.ref f21))) (l21 : K.lookup f21 = some ⟨oc21, od21, .func (PySem.W.fnOf "_law_least" "_law_least" (defArgs s_l_least) (defBody s_l_least) (defScope s_l_least) .none kV21 dc21 pm21 an21 cd21 ct21), sl21⟩) (c21 : PySem.W.codeIn K cd21 "_law_least" = true) (k21 : PySem.W.keepIn K (.ref f21) = true)
    (a22 : PySem.W.nsIn K mainGlobals "_law_reaches" = some (some (.ref f22))) (l22 : K.lookup f22 = some ⟨oc22, od22, .func (PySem.W.fnOf "_law_reaches" "_law_reaches" (defArgs s_l_reaches) (defBody s_l_reaches) (defScope s_l_reaches) .none kV22 dc22 pm22 an22 cd22 ct22), sl22⟩) (c22 : PySem.W.codeIn K cd22 "_law_reaches" = true) (k22 : PySem.W.keepIn K (.ref f22) = true)
    (a23 : PySem.W.nsIn K mainGlobals "_law_reach_fault" = some (some (.ref f23))) (l23 : K.lookup f23 = some ⟨oc23, od23, .func (PySem.W.fnOf "_law_reach_fault" "_law_reach_fault" (defArgs s_l_reach_fault) (defBody s_l_reach_fault) (defScope s_l_reach_fault) .none kV23 dc23 pm23 an23 cd23 ct23), sl23⟩) (c23 : PySem.W.codeIn K cd23 "_law_reach_fault" = true) (k23 : PySem.W.keepIn K (.ref f23) = true)
    (a24 : PySem.W.nsIn K mainGlobals "law" = some (some (.ref f24))) (l24 : K.lookup f24 = some ⟨oc24, od24, .func (PySem.W.fnOf "law" "law" (defArgs s_law) (defBody s_law) (defScope s_law) .none kV24 dc24 pm24 an24 cd24 ct24), sl24⟩) (c24 : PySem.W.codeIn K cd24 "law" = true) (k24 : PySem.W.keepIn K (.ref f24) = true)
    (a25 : PySem.W.findIn K (.ref C_Cover) "__init__" = some (some (.ref f25))) (i25 : PySem.W.isFn K (.ref f25) = true) (l25 : K.lookup f25 = some ⟨oc25, od25, .func (PySem.W.fnOf "__init__" "Cover.__init__" (defArgs s_Cover_init) (defBody s_Cover_init) (defScope s_Cover_init) .none kV25 dc25 pm25 an25 cd25 ct25), sl25⟩) (c25 : PySem.W.codeIn K cd25 "Cover.__init__" = true) (k25 : PySem.W.keepIn K (.ref f25) = true)
    (a26 : PySem.W.findIn K (.ref C_Cover) "go" = some (some (.ref f26))) (i26 : PySem.W.isFn K (.ref f26) = true) (l26 : K.lookup f26 = some ⟨oc26, od26, .func (PySem.W.fnOf "go" "Cover.go" (defArgs s_Cover_go) (defBody s_Cover_go) (defScope s_Cover_go) .none kV26 dc26 pm26 an26 cd26 ct26), sl26⟩) (c26 : PySem.W.codeIn K cd26 "Cover.go" = true) (k26 : PySem.W.keepIn K (.ref f26) = true)
    (a27 : PySem.W.findIn K (.ref C_Cover) "prove" = some (some (.ref f27))) (i27 : PySem.W.isFn K (.ref f27) = true) (l27 : K.lookup f27 = some ⟨oc27, od27, .func (PySem.W.fnOf "prove" "Cover.prove" (defArgs s_Cover_prove) (defBody s_Cover_prove) (defScope s_Cover_prove) .none kV27 dc27 pm27 an27 cd27 ct27), sl27⟩) (c27 : PySem.W.codeIn K cd27 "Cover.prove" = true) (k27 : PySem.W.keepIn K (.ref f27) = true)
    (aC_Cover : PySem.W.nsIn K mainGlobals "Cover" = some (some (.ref C_Cover))) (pg_Cover : PySem.W.plainGet K C_Cover Str.empty = true) (hd_Cover : PySem.W.hasDictIn K C_Cover = true) (po_Cover : PySem.W.plainOver K C_Cover = true) (sa_Cover : PySem.W.findIn K (.ref C_Cover) "__setattr__" = some (some (.builtin "object.__setattr__"))) (mk_Cover : PySem.W.makesIn K C_Cover = true) (kc_Cover : PySem.W.keepIn K (.ref C_Cover) = true)
    (n_Cover_0 : PySem.W.findIn K (.ref C_Cover) "problem" = some none) (n_Cover_1 : PySem.W.findIn K (.ref C_Cover) "best" = some none) (n_Cover_2 : PySem.W.findIn K (.ref C_Cover) "cost" = some none)
    (z1 : PySem.W.nsIn K mainGlobals "len" = some none) (z2 : PySem.W.nsIn K mainGlobals "range" = some none) (z3 : PySem.W.nsIn K mainGlobals "min" = some none) (z4 : PySem.W.nsIn K mainGlobals "max" = some none) (z5 : PySem.W.nsIn K mainGlobals "abs" = some none) (z6 : PySem.W.nsIn K mainGlobals "sum" = some none) (z7 : PySem.W.nsIn K mainGlobals "int" = some none) (z8 : PySem.W.nsIn K mainGlobals "list" = some none) (z9 : PySem.W.nsIn K mainGlobals "tuple" = some none) (z10 : PySem.W.nsIn K mainGlobals "sorted" = some none) (z11 : PySem.W.nsIn K mainGlobals "isinstance" = some none) (z12 : PySem.W.nsIn K mainGlobals "enumerate" = some none) (z13 : PySem.W.nsIn K mainGlobals "zip" = some none) (z14 : PySem.W.nsIn K mainGlobals "set" = some none) (z15 : PySem.W.nsIn K mainGlobals "repr" = some none) (z16 : PySem.W.nsIn K mainGlobals "all" = some none) (z17 : PySem.W.nsIn K mainGlobals "any" = some none) (z18 : PySem.W.nsIn K mainGlobals "dict" = some none) (z19 : PySem.W.nsIn K mainGlobals "reversed" = some none) (z20 : PySem.W.nsIn K mainGlobals "str" = some none) :
    ∃ fd : FuncData, (∀ (s : Shared) (v : Value), BindsTo s fd ⟨[v], []⟩ [("script", v)]) ∧ ∀ base : Heap, K.In base → base.Ns mainGlobals mg → TopOk l.prog w K mg base fa fd ["script"] (spP R_law) := by
  have e := hfa.symm.trans (PySem.W.mg_of X G a24)
  cases e
  have bn : Bn mg := ⟨PySem.W.mg_none_of X G z1, PySem.W.mg_none_of X G z2, PySem.W.mg_none_of X G z3, PySem.W.mg_none_of X G z4, PySem.W.mg_none_of X G z5, PySem.W.mg_none_of X G z6, PySem.W.mg_none_of X G z7, PySem.W.mg_none_of X G z8, PySem.W.mg_none_of X G z9, PySem.W.mg_none_of X G z10, PySem.W.mg_none_of X G z11, PySem.W.mg_none_of X G z12, PySem.W.mg_none_of X G z13, PySem.W.mg_none_of X G z14, PySem.W.mg_none_of X G z15, PySem.W.mg_none_of X G z16, PySem.W.mg_none_of X G z17, PySem.W.mg_none_of X G z18, PySem.W.mg_none_of X G z19, PySem.W.mg_none_of X G z20⟩
  have O_Cover : ObF K C_Cover ["problem", "best", "cost"] := ⟨⟨pg_Cover, hd_Cover, po_Cover, sa_Cover⟩, fun f hf => by
    simp only [List.mem_cons, List.not_mem_nil, or_false] at hf
    rcases hf with rfl | rfl | rfl
    · exact n_Cover_0
    · exact n_Cover_1
    · exact n_Cover_2⟩
  have F1 := fun_mk (st := s_met) l1 c1 k1
  have b1 := F1.binds (ps := ["demand", "taken"]) fun _ _ _ _ _ _ us hl => match us, hl with | [_, _], _ => rfl
  have F2 := fun_mk (st := s_laid) l2 c2 k2
  have b2 := F2.binds (ps := ["problem", "taken", "left"]) fun _ _ _ _ _ _ us hl => match us, hl with | [_, _, _], _ => rfl
  have F3 := fun_mk (st := s_first_open) l3 c3 k3
  have b3 := F3.binds (ps := ["problem", "taken", "left"]) fun _ _ _ _ _ _ us hl => match us, hl with | [_, _, _], _ => rfl
  have F4 := fun_mk (st := s_cover) l4 c4 k4
  have b4 := F4.binds (ps := ["problem"]) fun _ _ _ _ _ _ us hl => match us, hl with | [_], _ => rfl
  have F5 := fun_mk (st := s_shares_right) l5 c5 k5
  have b5 := F5.binds (ps := ["problem", "taken", "left", "bound", "rows"]) fun _ _ _ _ _ _ us hl => match us, hl with | [_, _, _, _, _], _ => rfl
  have F6 := fun_mk (st := s_fault_at) l6 c6 k6
  have b6 := F6.binds (ps := ["problem", "taken", "left", "path", "bound", "tree"]) fun _ _ _ _ _ _ us hl => match us, hl with | [_, _, _, _, _, _], _ => rfl
  have F7 := fun_mk (st := s_cover_fault) l7 c7 k7
  have b7 := F7.binds (ps := ["problem", "told"]) fun _ _ _ _ _ _ us hl => match us, hl with | [_, _], _ => rfl
  have F8 := fun_mk (st := s_way) l8 c8 k8
  have b8 := F8.binds (ps := ["one", "other"]) fun _ _ _ _ _ _ us hl => match us, hl with | [_, _], _ => rfl
  have F9 := fun_mk (st := s_spot_problem) l9 c9 k9
  have b9 := F9.binds (ps := ["spots", "racks", "reach"]) fun _ _ _ _ _ _ us hl => match us, hl with | [_, _, _], _ => rfl
  have F10 := fun_mk (st := s_fewest_spots) l10 c10 k10
  have b10 := F10.binds (ps := ["spots", "racks", "reach"]) fun _ _ _ _ _ _ us hl => match us, hl with | [_, _, _], _ => rfl
  have F11 := fun_mk (st := s_fewest_spots_fault) l11 c11 k11
  have b11 := F11.binds (ps := ["spots", "racks", "reach", "told"]) fun _ _ _ _ _ _ us hl => match us, hl with | [_, _, _, _], _ => rfl
  have F12 := fun_mk (st := s_reaches) l12 c12 k12
  have b12 := F12.binds (ps := ["spots", "racks"]) fun _ _ _ _ _ _ us hl => match us, hl with | [_, _], _ => rfl
  have F13 := fun_mk (st := s_least_reach) l13 c13 k13
  have b13 := F13.binds (ps := ["spots", "racks", "count"]) fun _ _ _ _ _ _ us hl => match us, hl with | [_, _, _], _ => rfl
  have F14 := fun_mk (st := s_least_reach_fault) l14 c14 k14
  have b14 := F14.binds (ps := ["spots", "racks", "count", "told"]) fun _ _ _ _ _ _ us hl => match us, hl with | [_, _, _, _], _ => rfl
  have F15 := fun_mk (st := s_nearest_spots) l15 c15 k15
  have b15 := F15.binds (ps := ["spots", "racks", "chosen"]) fun _ _ _ _ _ _ us hl => match us, hl with | [_, _, _], _ => rfl
  have F16 := fun_mk (st := s_middle_spot) l16 c16 k16
  have b16 := F16.binds (ps := ["racks"]) fun _ _ _ _ _ _ us hl => match us, hl with | [_], _ => rfl
  have F17 := fun_mk (st := s_l_draw) l17 c17 k17
  have b17 := F17.binds (ps := ["state", "script", "size"]) fun _ _ _ _ _ _ us hl => match us, hl with | [_, _, _], _ => rfl
  have F18 := fun_mk (st := s_l_way) l18 c18 k18
  have b18 := F18.binds (ps := ["one", "other"]) fun _ _ _ _ _ _ us hl => match us, hl with | [_, _], _ => rfl
  have F19 := fun_mk (st := s_l_problem) l19 c19 k19
  have b19 := F19.binds (ps := ["spots", "racks", "reach"]) fun _ _ _ _ _ _ us hl => match us, hl with | [_, _, _], _ => rfl
  have F20 := fun_mk (st := s_l_fault) l20 c20 k20
  have b20 := F20.binds (ps := ["spots", "racks", "reach", "told"]) fun _ _ _ _ _ _ us hl => match us, hl with | [_, _, _, _], _ => rfl
  have F21 := fun_mk (st := s_l_least) l21 c21 k21
  have b21 := F21.binds (ps := ["spots", "racks", "reach"]) fun _ _ _ _ _ _ us hl => match us, hl with | [_, _, _], _ => rfl
  have F22 := fun_mk (st := s_l_reaches) l22 c22 k22
  have b22 := F22.binds (ps := ["spots", "racks"]) fun _ _ _ _ _ _ us hl => match us, hl with | [_, _], _ => rfl
  have F23 := fun_mk (st := s_l_reach_fault) l23 c23 k23
  have b23 := F23.binds (ps := ["spots", "racks", "count", "told"]) fun _ _ _ _ _ _ us hl => match us, hl with | [_, _, _, _], _ => rfl
  have F24 := fun_mk (st := s_law) l24 c24 k24
  have b24 := F24.binds (ps := ["script"]) fun _ _ _ _ _ _ us hl => match us, hl with | [_], _ => rfl
  have F25 := fun_mk (st := s_Cover_init) l25 c25 k25
  have b25 := F25.binds (ps := ["self", "problem"]) fun _ _ _ _ _ _ us hl => match us, hl with | [_, _], _ => rfl
  have F26 := fun_mk (st := s_Cover_go) l26 c26 k26
  have b26 := F26.binds (ps := ["self", "taken", "left"]) fun _ _ _ _ _ _ us hl => match us, hl with | [_, _, _], _ => rfl
  have F27 := fun_mk (st := s_Cover_prove) l27 c27 k27
  have b27 := F27.binds (ps := ["self", "taken", "left"]) fun _ _ _ _ _ _ us hl => match us, hl with | [_, _, _], _ => rfl
  refine ⟨PySem.W.fnOf "law" "law" (defArgs s_law) (defBody s_law) (defScope s_law) .none kV24 dc24 pm24 an24 cd24 ct24, fun s v => .of_eq rfl, fun base _ _ => ?_⟩
  have C_l_draw : Cal l.prog w K mg base "_law_draw" ["state", "script", "size"] (spS R_draw) 1 := ⟨_, _, ok_l_draw (k := 0) F17 bn len_l_draw (sx_draw K), PySem.W.mg_of X G a17, F17.kp, b17⟩
  have C_l_way : Cal l.prog w K mg base "_law_way" ["one", "other"] (spP R_way) 1 := ⟨_, _, ok_l_way (k := 0) F18 bn len_l_way (sx_l_way K), PySem.W.mg_of X G a18, F18.kp, b18⟩
  have C_l_problem : Cal l.prog w K mg base "_law_problem" ["spots", "racks", "reach"] (spP R_prob) 2 := ⟨_, _, ok_l_problem (k := 1) F19 bn C_l_way (by decide) len_l_problem (sx_l_problem K), PySem.W.mg_of X G a19, F19.kp, b19⟩
  have C_l_least : Cal l.prog w K mg base "_law_least" ["spots", "racks", "reach"] (spP R_lst) 3 := ⟨_, _, ok_l_least (k := 2) F21 bn C_l_problem (by decide) len_l_least (sx_l_least K), PySem.W.mg_of X G a21, F21.kp, b21⟩
  have C_way : Cal l.prog w K mg base "way" ["one", "other"] (spP R_way) 1 := ⟨_, _, ok_way (k := 0) F8 bn len_way (sx_way K), PySem.W.mg_of X G a8, F8.kp, b8⟩
  have C_spot_problem : Cal l.prog w K mg base "spot_problem" ["spots", "racks", "reach"] (spP R_prob) 2 := ⟨_, _, ok_spot_problem (k := 1) F9 bn C_way (by decide) len_spot_problem (sx_spot_problem K), PySem.W.mg_of X G a9, F9.kp, b9⟩
  have M_Cover_init : CalC l.prog w K mg base C_Cover "Cover" ["self", "problem"] (spS (R_init C_Cover)) 1 := ⟨_, _, ok_Cover_init (k := 0) F25 bn O_Cover len_Cover_init (sx_Cover_init K C_Cover), PySem.W.mg_of X G aC_Cover, ⟨mk_Cover, a25, i25, kc_Cover⟩, b25⟩
  have C_met : Cal l.prog w K mg base "met" ["demand", "taken"] (spP R_met) 1 := ⟨_, _, ok_met (k := 0) F1 bn len_met (sx_met K), PySem.W.mg_of X G a1, F1.kp, b1⟩
  have C_laid : Cal l.prog w K mg base "laid" ["problem", "taken", "left"] (spP R_laid) 2 := ⟨_, _, ok_laid (k := 1) F2 bn C_met (by decide) len_laid (sx_laid K), PySem.W.mg_of X G a2, F2.kp, b2⟩
  have C_first_open : Cal l.prog w K mg base "first_open" ["problem", "taken", "left"] (spP R_fo) 2 := ⟨_, _, ok_first_open (k := 1) F3 bn C_met (by decide) len_first_open (sx_first_open K), PySem.W.mg_of X G a3, F3.kp, b3⟩
  have M_Cover_go : CalM l.prog w K mg base C_Cover "go" ["self", "taken", "left"] (spS (R_go C_Cover 7)) 9 := ⟨_, _, rec_Cover_go F26 ⟨a26, i26, F26.kp⟩ b26 bn (j := 2) O_Cover C_laid (by decide) C_first_open (by decide) 7, ⟨a26, i26, F26.kp⟩, b26⟩
  have M_Cover_prove : CalM l.prog w K mg base C_Cover "prove" ["self", "taken", "left"] (spS (R_prove C_Cover 7)) 9 := ⟨_, _, rec_Cover_prove F27 ⟨a27, i27, F27.kp⟩ b27 bn (j := 2) O_Cover C_laid (by decide) C_first_open (by decide) C_met (by decide) 7, ⟨a27, i27, F27.kp⟩, b27⟩
  have C_cover : Cal l.prog w K mg base "cover" ["problem"] (spP R_cover) 10 := ⟨_, _, ok_cover (k := 9) F4 bn O_Cover M_Cover_init (by decide) M_Cover_go (by decide) M_Cover_prove (by decide) len_cover (sx_cover K C_Cover), PySem.W.mg_of X G a4, F4.kp, b4⟩
  have C_fewest_spots : Cal l.prog w K mg base "fewest_spots" ["spots", "racks", "reach"] (spP R_few) 11 := ⟨_, _, ok_fewest_spots (k := 10) F10 bn C_spot_problem (by decide) C_cover (by decide) len_fewest_spots (sx_fewest_spots K), PySem.W.mg_of X G a10, F10.kp, b10⟩
  have C_l_reaches : Cal l.prog w K mg base "_law_reaches" ["spots", "racks"] (spP R_rch) 2 := ⟨_, _, ok_l_reaches (k := 1) F22 bn C_l_way (by decide) len_l_reaches (sx_l_reaches K), PySem.W.mg_of X G a22, F22.kp, b22⟩
  have C_reaches : Cal l.prog w K mg base "reaches" ["spots", "racks"] (spP R_rch) 2 := ⟨_, _, ok_reaches (k := 1) F12 bn C_way (by decide) len_reaches (sx_reaches K), PySem.W.mg_of X G a12, F12.kp, b12⟩
  have C_least_reach : Cal l.prog w K mg base "least_reach" ["spots", "racks", "count"] (spP R_lr) 12 := ⟨_, _, ok_least_reach (k := 11) F13 bn C_reaches (by decide) C_fewest_spots (by decide) len_least_reach (sx_least_reach K), PySem.W.mg_of X G a13, F13.kp, b13⟩
  have C_nearest_spots : Cal l.prog w K mg base "nearest_spots" ["spots", "racks", "chosen"] (spP R_near) 2 := ⟨_, _, ok_nearest_spots (k := 1) F15 bn C_way (by decide) len_nearest_spots (sx_nearest_spots K), PySem.W.mg_of X G a15, F15.kp, b15⟩
  have C_shares_right : Cal l.prog w K mg base "shares_right" ["problem", "taken", "left", "bound", "rows"] (spP R_shares) 2 := ⟨_, _, ok_shares_right (k := 1) F5 bn C_met (by decide) len_shares_right (sx_shares_right K), PySem.W.mg_of X G a5, F5.kp, b5⟩
  have C_fault_at : Cal l.prog w K mg base "fault_at" ["problem", "taken", "left", "path", "bound", "tree"] (spP (R_fat 7)) 9 := ⟨_, _, rec_fault_at F6 (PySem.W.mg_of X G a6) b6 bn (j := 2) C_met (by decide) C_shares_right (by decide) 7, PySem.W.mg_of X G a6, F6.kp, b6⟩
  have C_cover_fault : Cal l.prog w K mg base "cover_fault" ["problem", "told"] (spP R_jud) 10 := ⟨_, _, ok_cover_fault (k := 9) F7 bn C_fault_at (by decide) C_met (by decide) len_cover_fault (sx_cover_fault K), PySem.W.mg_of X G a7, F7.kp, b7⟩
  have C_l_fault : Cal l.prog w K mg base "_law_fault" ["spots", "racks", "reach", "told"] (spP R_fj) 11 := ⟨_, _, ok_l_fault (k := 10) F20 bn C_l_problem (by decide) C_cover_fault (by decide) len_l_fault (sx_l_fault K), PySem.W.mg_of X G a20, F20.kp, b20⟩
  have C_fewest_spots_fault : Cal l.prog w K mg base "fewest_spots_fault" ["spots", "racks", "reach", "told"] (spP R_fj) 11 := ⟨_, _, ok_fewest_spots_fault (k := 10) F11 bn C_spot_problem (by decide) C_cover_fault (by decide) len_fewest_spots_fault (sx_fewest_spots_fault K), PySem.W.mg_of X G a11, F11.kp, b11⟩
  have C_l_reach_fault : Cal l.prog w K mg base "_law_reach_fault" ["spots", "racks", "count", "told"] (spP R_rj) 12 := ⟨_, _, ok_l_reach_fault (k := 11) F23 bn C_l_reaches (by decide) C_l_fault (by decide) len_l_reach_fault (sx_l_reach_fault K), PySem.W.mg_of X G a23, F23.kp, b23⟩
  have C_least_reach_fault : Cal l.prog w K mg base "least_reach_fault" ["spots", "racks", "count", "told"] (spP R_rj) 12 := ⟨_, _, ok_least_reach_fault (k := 11) F14 bn C_reaches (by decide) C_fewest_spots_fault (by decide) len_least_reach_fault (sx_least_reach_fault K), PySem.W.mg_of X G a14, F14.kp, b14⟩
  have C_middle_spot : Cal l.prog w K mg base "middle_spot" ["racks"] (spP R_mid) 2 := ⟨_, _, ok_middle_spot (k := 1) F16 bn C_way (by decide) len_middle_spot (sx_middle_spot K), PySem.W.mg_of X G a16, F16.kp, b16⟩
  exact top_law (k := 12) F24 bn C_l_draw (by decide) C_l_least (by decide) C_fewest_spots (by decide) C_l_reaches (by decide) C_least_reach (by decide) C_nearest_spots (by decide) C_l_fault (by decide) C_fewest_spots_fault (by decide) C_l_reach_fault (by decide) C_least_reach_fault (by decide) C_l_way (by decide) C_middle_spot (by decide) ⟨rfl, by decide, by decide⟩ len_law (sx_law K)
theorem walk {l : PySem.W.OpenLaw} {q : Program} {loose : List Str} {XP : (Str → Option Value) → Heap → Prop} {YP : World → Heap → Prop} {d : DefRec} {K : Params → PySem.W.Frag} (hn : l.most = some 63) (hdf : d.params.defaults = [])
    (hY : ∀ (w : World) (h : Heap), YP w h → (K w.params).In h) (nl : ∀ w : World, noLs (K w.params) = true)
    (F : ∀ (w : World) (mg : Str → Option Value) (fa : Addr) (h : Heap), (K w.params).In h → h.Ns mainGlobals mg → mg d.name = some (.ref fa) →
      ∃ fd : FuncData, (∀ (s : Shared) (u : Value), BindsTo s fd ⟨[u], []⟩ [("script", u)]) ∧ ∀ base : Heap, (K w.params).In base → base.Ns mainGlobals mg → TopOk l.prog w (K w.params) mg base fa fd ["script"] (spP R_law)) :
    PySem.W.WalkO q loose XP YP l.row.toRowW d [] (fun f vs => PySem.call f vs) :=
  walk_top (n := 63) (x := "script") (R := R_law) hn (by decide) hdf hY nl F fun ns hl => ⟨ns, rfl, rfl⟩
end Law_k41
open PySem PySem.W PyProof.Rows
set_option maxHeartbeats 0 in
theorem PySem.Challenge.cw_firescore_k41_whole_spots_holds : PySem.Challenge.rw_firescore_k41_whole_spots.Holds := by
  w_on; o_law; k_head; (case hw => w_witness2)
  k_fill
  refine Law_k41.walk (l := PySem.Challenge.rw_firescore_k41_whole_spots) rfl rfl (fun w h Y => PySem.W.kIn_of Y) (fun w => ?NL) ?F
  case NL => rfl
  case F =>
    intro w mg fa h KX G hmg
    refine' Law_k41.all_mk KX G hmg ?a1 ?l1 ?c1 ?k1 ?a2 ?l2 ?c2 ?k2 ?a3 ?l3 ?c3 ?k3 ?a4 ?l4 ?c4 ?k4 ?a5 ?l5 ?c5 ?k5 ?a6 ?l6 ?c6 ?k6 ?a7 ?l7 ?c7 ?k7 ?a8 ?l8 ?c8 ?k8 ?a9 ?l9 ?c9 ?k9 ?a10 ?l10 ?c10 ?k10 ?a11 ?l11 ?c11 ?k11 ?a12 ?l12 ?c12 ?k12 ?a13 ?l13 ?c13 ?k13 ?a14 ?l14 ?c14 ?k14 ?a15 ?l15 ?c15 ?k15 ?a16 ?l16 ?c16 ?k16 ?a17 ?l17 ?c17 ?k17 ?a18 ?l18 ?c18 ?k18 ?a19 ?l19 ?c19 ?k19 ?a20 ?l20 ?c20 ?k20 ?a21 ?l21 ?c21 ?k21 ?a22 ?l22 ?c22 ?k22 ?a23 ?l23 ?c23 ?k23 ?a24 ?l24 ?c24 ?k24 ?a25 ?i25 ?l25 ?c25 ?k25 ?a26 ?i26 ?l26 ?c26 ?k26 ?a27 ?i27 ?l27 ?c27 ?k27 ?aC_Cover ?pg_Cover ?hd_Cover ?po_Cover ?sa_Cover ?mk_Cover ?kc_Cover ?n_Cover_0 ?n_Cover_1 ?n_Cover_2 ?z1 ?z2 ?z3 ?z4 ?z5 ?z6 ?z7 ?z8 ?z9 ?z10 ?z11 ?z12 ?z13 ?z14 ?z15 ?z16 ?z17 ?z18 ?z19 ?z20
    (case aC_Cover => k_is)
    (case a1 => k_is); (case l1 => k_is); (case c1 => k_is); (case k1 => k_is)
    (case a2 => k_is); (case l2 => k_is); (case c2 => k_is); (case k2 => k_is)
    (case a3 => k_is); (case l3 => k_is); (case c3 => k_is); (case k3 => k_is)
    (case a4 => k_is); (case l4 => k_is); (case c4 => k_is); (case k4 => k_is)
    (case a5 => k_is); (case l5 => k_is); (case c5 => k_is); (case k5 => k_is)
    (case a6 => k_is); (case l6 => k_is); (case c6 => k_is); (case k6 => k_is)
    (case a7 => k_is); (case l7 => k_is); (case c7 => k_is); (case k7 => k_is)
    (case a8 => k_is); (case l8 => k_is); (case c8 => k_is); (case k8 => k_is)
    (case a9 => k_is); (case l9 => k_is); (case c9 => k_is); (case k9 => k_is)
    (case a10 => k_is); (case l10 => k_is); (case c10 => k_is); (case k10 => k_is)
    (case a11 => k_is); (case l11 => k_is); (case c11 => k_is); (case k11 => k_is)
    (case a12 => k_is); (case l12 => k_is); (case c12 => k_is); (case k12 => k_is)
    (case a13 => k_is); (case l13 => k_is); (case c13 => k_is); (case k13 => k_is)
    (case a14 => k_is); (case l14 => k_is); (case c14 => k_is); (case k14 => k_is)
    (case a15 => k_is); (case l15 => k_is); (case c15 => k_is); (case k15 => k_is)
    (case a16 => k_is); (case l16 => k_is); (case c16 => k_is); (case k16 => k_is)
    (case a17 => k_is); (case l17 => k_is); (case c17 => k_is); (case k17 => k_is)
    (case a18 => k_is); (case l18 => k_is); (case c18 => k_is); (case k18 => k_is)
    (case a19 => k_is); (case l19 => k_is); (case c19 => k_is); (case k19 => k_is)
    (case a20 => k_is); (case l20 => k_is); (case c20 => k_is); (case k20 => k_is)
    (case a21 => k_is); (case l21 => k_is); (case c21 => k_is); (case k21 => k_is)
    (case a22 => k_is); (case l22 => k_is); (case c22 => k_is); (case k22 => k_is)
    (case a23 => k_is); (case l23 => k_is); (case c23 => k_is); (case k23 => k_is)
    (case a24 => k_is); (case l24 => k_is); (case c24 => k_is); (case k24 => k_is)
    (case a25 => k_is); (case l25 => k_is); (case c25 => k_is); (case k25 => k_is)
    (case i25 => k_is)
    (case a26 => k_is); (case l26 => k_is); (case c26 => k_is); (case k26 => k_is)
    (case i26 => k_is)
    (case a27 => k_is); (case l27 => k_is); (case c27 => k_is); (case k27 => k_is)
    (case i27 => k_is)
    (case pg_Cover => k_is)
    (case hd_Cover => k_is)
    (case po_Cover => k_is)
    (case sa_Cover => k_is)
    (case mk_Cover => k_is)
    (case kc_Cover => k_is)
    (case n_Cover_0 => k_is)
    (case n_Cover_1 => k_is)
    (case n_Cover_2 => k_is)
    (case z1 => k_is)
    (case z2 => k_is)
    (case z3 => k_is)
    (case z4 => k_is)
    (case z5 => k_is)
    (case z6 => k_is)
    (case z7 => k_is)
    (case z8 => k_is)
    (case z9 => k_is)
    (case z10 => k_is)
    (case z11 => k_is)
    (case z12 => k_is)
    (case z13 => k_is)
    (case z14 => k_is)
    (case z15 => k_is)
    (case z16 => k_is)
    (case z17 => k_is)
    (case z18 => k_is)
    (case z19 => k_is)
    (case z20 => k_is)
