import PyProof.Rows.All
import Wide.All
import OpenK.AllK
import Wide.FinOn
import HandS.ForMost
import HandS.Deep
import HandS.TupAny
import HandS.IsInst
import HandS.RevRange
import HandS.Small
import HandS.Defaults
import KE.DataEq
import PyProof.StrBlock2
import KE.GoesEnum
import HandS.Iter
import HandS.Codes
import HandS.Strs
import HandS.SetFor
import HandS.SortRule
import HandS.SortKw
import KE.SortKeyHeap
import HandS.More
import HandS.ClsMeth
import HandS.ExcInit
import HandS.ExcInitHot
import HandS.ExcField
import PyProof.AutoSeq1
import Lean
import KE.KStateDown
import HandS.WordsExc
import HandS.Head0
import HandS.Head1
import HandS.Head2
import HandS.HeadEnd
import HandS.HeadHook1
import HandS.HeadHook2
import PySem.Challenge.RW_makeswood_k93_whole_joins_against_past
set_option Elab.async false
set_option linter.all false
set_option maxRecDepth 100000
-- part MwA
set_option maxHeartbeats 4000000
/-! A logic over plain data (numbers, texts, None, tuples of these; lists of these that a def owns): what stands in the slots is told as data, the heap is told once. -/
namespace Mw
open PySem PySem.Spec PyProof.Rows L2
inductive D where
  | non
  | int (i : Int)
  | str (s : Str)
  | tup (ds : List D)
mutual
def DV (H : Hp) (v : V) : D → Prop
  | .non => v = .non
  | .int i => v = .int i
  | .str s => v = .str s
  | .tup ds => ∃ a vs, v = .ref a ∧ H a = some (.tup vs) ∧ DVs H vs ds
def DVs (H : Hp) (vs : List V) : List D → Prop
  | [] => vs = []
  | d :: ds => ∃ v r, vs = v :: r ∧ DV H v d ∧ DVs H r ds
end
/-- tuples stand as they stood -/
def TupS (H H' : Hp) : Prop := ∀ a vs, H a = some (.tup vs) → H' a = some (.tup vs)
theorem TupS.of {H H' : Hp} (e : Same H H') : TupS H H' := fun a vs h => e a _ h
theorem TupS.trans {H H1 H2 : Hp} (e : TupS H H1) (f : TupS H1 H2) : TupS H H2 := fun a vs h => f a _ (e a _ h)
theorem TupS.refl (H : Hp) : TupS H H := fun _ _ h => h
mutual
theorem DV.ts {H H' : Hp} (e : TupS H H') : ∀ (d : D) (v : V), DV H v d → DV H' v d
  | .non, _, h => h
  | .int _, _, h => h
  | .str _, _, h => h
  | .tup ds, _, h => by
    obtain ⟨a, vs, e1, e2, e3⟩ := h
    exact ⟨a, vs, e1, e a vs e2, DVs.ts e ds vs e3⟩
theorem DVs.ts {H H' : Hp} (e : TupS H H') : ∀ (ds : List D) (vs : List V), DVs H vs ds → DVs H' vs ds
  | [], _, h => h
  | d :: ds, _, h => by
    obtain ⟨v, r, e1, e2, e3⟩ := h
    exact ⟨v, r, e1, DV.ts e d v e2, DVs.ts e ds r e3⟩
end
theorem DV.mono {H H' : Hp} {v : V} {d : D} (e : Same H H') (h : DV H v d) : DV H' v d := DV.ts (TupS.of e) d v h
theorem DVs.mono {H H' : Hp} {vs : List V} {ds : List D} (e : Same H H') (h : DVs H vs ds) : DVs H' vs ds := DVs.ts (TupS.of e) ds vs h
theorem DVs.length {H : Hp} : ∀ {ds : List D} {vs : List V}, DVs H vs ds → vs.length = ds.length
  | [], _, h => by
    have h : _ = [] := h
    rw [h]
    rfl
  | d :: ds, _, h => by
    obtain ⟨v, r, e1, e2, e3⟩ := h
    rw [e1, List.length_cons, List.length_cons, DVs.length e3]
theorem DVs.get {H : Hp} : ∀ {ds : List D} {vs : List V} {i : Nat} {d : D}, DVs H vs ds → ds[i]? = some d → ∃ v, vs[i]? = some v ∧ DV H v d
  | [], _, _, _, _, h2 => by simp at h2
  | d :: ds, _, 0, d', h, h2 => by
    obtain ⟨v, r, e1, e2, e3⟩ := h
    have e : d = d' := by simpa using h2
    subst e
    exact ⟨v, by rw [e1]; rfl, e2⟩
  | d :: ds, _, i + 1, d', h, h2 => by
    obtain ⟨v, r, e1, e2, e3⟩ := h
    obtain ⟨u, h3, h4⟩ := DVs.get (i := i) (d := d') e3 (by simpa using h2)
    exact ⟨u, by rw [e1]; simpa using h3, h4⟩
theorem DVs.at_ {H : Hp} : ∀ {ds : List D} {vs : List V} {i : Nat} {v : V}, DVs H vs ds → vs[i]? = some v → ∃ d, ds[i]? = some d ∧ DV H v d
  | [], _, _, _, h, h2 => by
    have h : _ = [] := h
    rw [h] at h2
    simp at h2
  | d :: ds, _, 0, v', h, h2 => by
    obtain ⟨v, r, e1, e2, e3⟩ := h
    rw [e1] at h2
    have e : v = v' := by simpa using h2
    subst e
    exact ⟨d, rfl, e2⟩
  | d :: ds, _, i + 1, v', h, h2 => by
    obtain ⟨v, r, e1, e2, e3⟩ := h
    rw [e1] at h2
    obtain ⟨u, h3, h4⟩ := DVs.at_ (i := i) (v := v') e3 (by simpa using h2)
    exact ⟨u, by simpa using h3, h4⟩
theorem DVs.append {H : Hp} : ∀ {ds es : List D} {vs us : List V}, DVs H vs ds → DVs H us es → DVs H (vs ++ us) (ds ++ es)
  | [], _, _, _, h, h' => by
    have h : _ = [] := h
    rw [h]
    exact h'
  | d :: ds, _, _, _, h, h' => by
    obtain ⟨v, r, e1, e2, e3⟩ := h
    rw [e1]
    exact ⟨v, _, rfl, e2, DVs.append e3 h'⟩
theorem DVs.take {H : Hp} : ∀ {ds : List D} {vs : List V} (n : Nat), DVs H vs ds → DVs H (vs.take n) (ds.take n)
  | _, _, 0, _ => rfl
  | [], _, n + 1, h => by
    have h : _ = [] := h
    rw [h]
    rfl
  | d :: ds, _, n + 1, h => by
    obtain ⟨v, r, e1, e2, e3⟩ := h
    rw [e1]
    exact ⟨v, _, rfl, e2, DVs.take n e3⟩
theorem DVs.drop {H : Hp} : ∀ {ds : List D} {vs : List V} (n : Nat), DVs H vs ds → DVs H (vs.drop n) (ds.drop n)
  | _, _, 0, h => h
  | [], _, n + 1, h => by
    have h : _ = [] := h
    rw [h]
    rfl
  | d :: ds, _, n + 1, h => by
    obtain ⟨v, r, e1, e2, e3⟩ := h
    rw [e1]
    exact DVs.drop n e3
theorem DVs.set {H : Hp} {v : V} {d : D} (hv : DV H v d) : ∀ {ds : List D} {vs : List V} (n : Nat), DVs H vs ds → DVs H (vs.set n v) (ds.set n d)
  | [], _, n, h => by
    have h : _ = [] := h
    rw [h]
    rfl
  | d :: ds, _, 0, h => by
    obtain ⟨v, r, e1, e2, e3⟩ := h
    rw [e1]
    exact ⟨_, _, rfl, hv, e3⟩
  | d :: ds, _, n + 1, h => by
    obtain ⟨v, r, e1, e2, e3⟩ := h
    rw [e1]
    exact ⟨v, _, rfl, e2, DVs.set hv n e3⟩
theorem DVs.nil {H : Hp} : DVs H [] [] := rfl
theorem DVs.cons {H : Hp} {v : V} {d : D} {vs : List V} {ds : List D} (h : DV H v d) (h' : DVs H vs ds) : DVs H (v :: vs) (d :: ds) := ⟨v, vs, rfl, h, h'⟩
theorem DVs.one {H : Hp} {v : V} {d : D} (h : DV H v d) : DVs H [v] [d] := .cons h .nil
theorem DVs.strs {H : Hp} : ∀ {ss : List Str} {vs : List V}, DVs H vs (ss.map D.str) → vs = ss.map V.str
  | [], _, h => h
  | s :: ss, _, h => by
    obtain ⟨v, r, e1, e2, e3⟩ := h
    have e2 : v = .str s := e2
    rw [e1, e2, DVs.strs e3]
    rfl
theorem DVs.ofStrs {H : Hp} : ∀ {ss : List Str}, DVs H (ss.map V.str) (ss.map D.str)
  | [] => rfl
  | s :: ss => ⟨.str s, _, rfl, rfl, DVs.ofStrs⟩
theorem DVs.ints {H : Hp} : ∀ {ss : List Int} {vs : List V}, DVs H vs (ss.map D.int) → vs = ss.map V.int
  | [], _, h => h
  | s :: ss, _, h => by
    obtain ⟨v, r, e1, e2, e3⟩ := h
    have e2 : v = .int s := e2
    rw [e1, e2, DVs.ints e3]
    rfl
theorem DVs.ofInts {H : Hp} : ∀ {ss : List Int}, DVs H (ss.map V.int) (ss.map D.int)
  | [] => rfl
  | s :: ss => ⟨.int s, _, rfl, rfl, DVs.ofInts⟩
/-! ### data as the library's data -/
mutual
def D.toP : D → PyData
  | .non => .none
  | .int i => .int i
  | .str s => .str s
  | .tup ds => .tuple (D.toPs ds)
def D.toPs : List D → List PyData
  | [] => []
  | d :: ds => D.toP d :: D.toPs ds
end
theorem D.toPs_map : ∀ ds : List D, D.toPs ds = ds.map D.toP
  | [] => rfl
  | d :: ds => by
    show D.toP d :: D.toPs ds = _
    rw [D.toPs_map ds]
    rfl
mutual
theorem DV.dp {K : PySem.W.Frag} {H : Hp} : ∀ (d : D) (v : V), DV H v d → Dp K H v d.toP
  | .non, _, h => by
    have h : _ = V.non := h
    rw [h]
    exact .non
  | .int i, _, h => by
    have h : _ = V.int i := h
    rw [h]
    exact .int i
  | .str s, _, h => by
    have h : _ = V.str s := h
    rw [h]
    exact .str s
  | .tup ds, _, h => by
    obtain ⟨a, vs, e1, e2, e3⟩ := h
    rw [e1]
    exact .tup (.inl (.inl e2)) (DVs.dp ds vs e3)
theorem DVs.dp {K : PySem.W.Frag} {H : Hp} : ∀ (ds : List D) (vs : List V), DVs H vs ds → DpAll K H vs (D.toPs ds)
  | [], _, h => by
    have h : _ = [] := h
    rw [h]
    exact .nil
  | d :: ds, _, h => by
    obtain ⟨v, r, e1, e2, e3⟩ := h
    rw [e1]
    exact .cons (DV.dp d v e2) (DVs.dp ds r e3)
end
mutual
theorem D.can : ∀ d : D, d.toP.plain = true
  | .non => rfl
  | .int _ => rfl
  | .str _ => rfl
  | .tup ds => by
    show PyData.plain (.tuple (D.toPs ds)) = true
    simp only [PyData.plain]
    exact D.cans ds
theorem D.cans : ∀ ds : List D, PyData.plainAll (D.toPs ds) = true
  | [] => rfl
  | d :: ds => by
    show PyData.plainAll (D.toP d :: D.toPs ds) = true
    simp only [PyData.plainAll, D.can d, D.cans ds, Bool.and_self]
end
mutual
theorem D.eqv : ∀ d e : D, PyData.eqv d.toP e.toP = true ↔ d = e
  | .non, .non => by simp [D.toP, PyData.eqv]
  | .non, .int _ => by simp [D.toP, PyData.eqv]
  | .non, .str _ => by simp [D.toP, PyData.eqv]
  | .non, .tup _ => by simp [D.toP, PyData.eqv]
  | .int _, .non => by simp [D.toP, PyData.eqv]
  | .int _, .int _ => by simp [D.toP, PyData.eqv]
  | .int _, .str _ => by simp [D.toP, PyData.eqv]
  | .int _, .tup _ => by simp [D.toP, PyData.eqv]
  | .str _, .non => by simp [D.toP, PyData.eqv]
  | .str _, .int _ => by simp [D.toP, PyData.eqv]
  | .str _, .str _ => by simp [D.toP, PyData.eqv]
  | .str _, .tup _ => by simp [D.toP, PyData.eqv]
  | .tup _, .non => by simp [D.toP, PyData.eqv]
  | .tup _, .int _ => by simp [D.toP, PyData.eqv]
  | .tup _, .str _ => by simp [D.toP, PyData.eqv]
  | .tup ds, .tup es => by
    show PyData.eqv (.tuple (D.toPs ds)) (.tuple (D.toPs es)) = true ↔ _
    simp only [PyData.eqv]
    rw [D.eqvs ds es]
    constructor
    · intro h; rw [h]
    · intro h; injection h
theorem D.eqvs : ∀ ds es : List D, PyData.eqvAll (D.toPs ds) (D.toPs es) = true ↔ ds = es
  | [], [] => by simp [D.toPs, PyData.eqvAll]
  | [], _ :: _ => by simp [D.toPs, PyData.eqvAll]
  | _ :: _, [] => by simp [D.toPs, PyData.eqvAll]
  | d :: ds, e :: es => by
    show PyData.eqvAll (D.toP d :: D.toPs ds) (D.toP e :: D.toPs es) = true ↔ _
    simp only [PyData.eqvAll, Bool.and_eq_true]
    rw [D.eqv d e, D.eqvs ds es]
    constructor
    · rintro ⟨h1, h2⟩; rw [h1, h2]
    · intro h; injection h with h1 h2; exact ⟨h1, h2⟩
end
noncomputable instance : DecidableEq D := fun a b => Classical.propDecidable _
theorem D.eqv_dec (d e : D) : PyData.eqv d.toP e.toP = decide (d = e) := by
  by_cases h : d = e
  · rw [decide_eq_true h]; exact (D.eqv d e).mpr h
  · rw [decide_eq_false h]
    cases q : PyData.eqv d.toP e.toP with
    | false => rfl
    | true => exact absurd ((D.eqv d e).mp q) h
theorem D.eqvs_dec (d e : List D) : PyData.eqvAll (D.toPs d) (D.toPs e) = decide (d = e) := by
  by_cases h : d = e
  · rw [decide_eq_true h]; exact (D.eqvs d e).mpr h
  · rw [decide_eq_false h]
    cases q : PyData.eqvAll (D.toPs d) (D.toPs e) with
    | false => rfl
    | true => exact absurd ((D.eqvs d e).mp q) h
mutual
def D.dep : D → Nat
  | .tup ds => D.deps ds + 1
  | .non | .int _ | .str _ => 0
def D.deps : List D → Nat
  | [] => 0
  | d :: ds => max (D.dep d) (D.deps ds)
end
mutual
theorem D.dep_eq : ∀ d : D, d.toP.depth = d.dep
  | .non => by simp [D.toP, PyData.depth, D.dep]
  | .int _ => by simp [D.toP, PyData.depth, D.dep]
  | .str _ => by simp [D.toP, PyData.depth, D.dep]
  | .tup ds => by
    show PyData.depth (.tuple (D.toPs ds)) = _
    simp only [PyData.depth, D.dep]
    rw [D.deps_eq ds]
theorem D.deps_eq : ∀ ds : List D, PyData.depthAll (D.toPs ds) = D.deps ds
  | [] => by simp [D.toPs, PyData.depthAll, D.deps]
  | d :: ds => by
    show PyData.depthAll (D.toP d :: D.toPs ds) = _
    simp only [PyData.depthAll, D.deps]
    rw [D.dep_eq d, D.deps_eq ds]
end
theorem D.deps_le {n : Nat} : ∀ {ds : List D}, (∀ d ∈ ds, d.dep ≤ n) → D.deps ds ≤ n
  | [], _ => by simp [D.deps]
  | d :: ds, h => by
    have h1 := h d List.mem_cons_self
    have h2 := D.deps_le (ds := ds) fun x hx => h x (List.mem_cons_of_mem _ hx)
    simp only [D.deps]
    omega
theorem D.dep_mem {d : D} : ∀ {ds : List D}, d ∈ ds → d.dep ≤ D.deps ds
  | [], h => by cases h
  | e :: ds, h => by
    simp only [D.deps]
    rcases List.mem_cons.mp h with q | q
    · rw [q]; omega
    · have := D.dep_mem q
      omega
end Mw
-- part MwB
set_option maxHeartbeats 4000000
/-! Frames as data: StD; the judgements EvX (an expression), EvT (a test), ExS (a statement). -/
namespace Mw
open PySem PySem.Spec PyProof.Rows L2
/-! ### what is handed in, what comes back -/
/-- something else that is told of a value, and that stays -/
structure Hd where
  ok : Hp → V → Prop
  mono : ∀ {H H' : Hp} {v : V}, Same H H' → ok H v → ok H' v
inductive AV where
  | hand (P : Hd)
  | dat (d : D)
  | lst (ds : List D)
  | tab (m : List (List D))
  | val (v : V)
def Rws (H : Hp) : List Addr → List (List D) → Prop
  | [], [] => True
  | r :: rs, row :: m => (∃ vs, H r = some (.lst vs) ∧ DVs H vs row) ∧ Rws H rs m
  | _, _ => False
def AVok (H : Hp) (v : V) : AV → Prop
  | .dat d => DV H v d
  | .lst ds => ∃ a vs, v = .ref a ∧ H a = some (.lst vs) ∧ DVs H vs ds
  | .tab m => ∃ a rs, v = .ref a ∧ H a = some (.lst (rs.map V.ref)) ∧ Rws H rs m
  | .val u => v = u
  | .hand P => P.ok H v
def AVs (H : Hp) (vs : List V) : List AV → Prop
  | [] => vs = []
  | a :: as => ∃ v r, vs = v :: r ∧ AVok H v a ∧ AVs H r as
theorem Rws.mono {H H' : Hp} (e : Same H H') : ∀ {rs : List Addr} {m : List (List D)}, Rws H rs m → Rws H' rs m
  | [], [], _ => trivial
  | [], _ :: _, h => h.elim
  | _ :: _, [], h => h.elim
  | r :: rs, row :: m, h => by
    obtain ⟨⟨vs, h1, h2⟩, h3⟩ := h
    exact ⟨⟨vs, e _ _ h1, h2.mono e⟩, Rws.mono e h3⟩
theorem Rws.length {H : Hp} : ∀ {rs : List Addr} {m : List (List D)}, Rws H rs m → rs.length = m.length
  | [], [], _ => rfl
  | [], _ :: _, h => h.elim
  | _ :: _, [], h => h.elim
  | r :: rs, row :: m, h => by
    rw [List.length_cons, List.length_cons, Rws.length h.2]
theorem Rws.get {H : Hp} : ∀ {rs : List Addr} {m : List (List D)} {i : Nat} {row : List D}, Rws H rs m → m[i]? = some row → ∃ r vs, rs[i]? = some r ∧ H r = some (.lst vs) ∧ DVs H vs row
  | [], [], _, _, _, h2 => by simp at h2
  | [], _ :: _, _, _, h, _ => h.elim
  | _ :: _, [], _, _, h, _ => h.elim
  | r :: rs, row :: m, 0, row', h, h2 => by
    obtain ⟨⟨vs, h1, h3⟩, _⟩ := h
    have e : row = row' := by simpa using h2
    subst e
    exact ⟨r, vs, rfl, h1, h3⟩
  | r :: rs, row :: m, i + 1, row', h, h2 => by
    obtain ⟨r', vs, h3, h4⟩ := Rws.get (i := i) (row := row') h.2 (by simpa using h2)
    exact ⟨r', vs, by simpa using h3, h4⟩
theorem AVok.mono {H H' : Hp} {v : V} (e : Same H H') : ∀ {a : AV}, AVok H v a → AVok H' v a
  | .dat _, h => DV.mono e h
  | .lst _, h => by
    obtain ⟨a, vs, h1, h2, h3⟩ := h
    exact ⟨a, vs, h1, e _ _ h2, h3.mono e⟩
  | .tab _, h => by
    obtain ⟨a, vs, h1, h2, h3⟩ := h
    exact ⟨a, vs, h1, e _ _ h2, h3.mono e⟩
  | .val _, h => h
  | .hand P, h => P.mono e h
theorem AVs.mono {H H' : Hp} (e : Same H H') : ∀ {as : List AV} {vs : List V}, AVs H vs as → AVs H' vs as
  | [], _, h => h
  | a :: as, _, h => by
    obtain ⟨v, r, h1, h2, h3⟩ := h
    exact ⟨v, r, h1, h2.mono e, h3.mono e⟩
theorem AVs.length {H : Hp} : ∀ {as : List AV} {vs : List V}, AVs H vs as → vs.length = as.length
  | [], _, h => by
    have h : _ = [] := h
    rw [h]
    rfl
  | a :: as, _, h => by
    obtain ⟨v, r, h1, h2, h3⟩ := h
    rw [h1, List.length_cons, List.length_cons, h3.length]
/-! ### the frame -/
/-- a change of the heap away from what a slot owns -/
def Away (F : List Addr) (H H' : Hp) : Prop := TupS H H' ∧ ∀ a ∈ F, ∀ o, H a = some o → H' a = some o
/-- something else that a slot owns -/
structure Rgn where
  ok : Hp → V → List Addr → Prop
  away : ∀ {H H' : Hp} {v : V} {F : List Addr}, Away F H H' → ok H v F → ok H' v F
  inn : ∀ {H : Hp} {v : V} {F : List Addr}, ok H v F → ∀ a ∈ F, ∃ o, H a = some o ∧ ∀ vs, o ≠ .tup vs
  hd : Hd
  toHd : ∀ {H : Hp} {v : V} {F : List Addr}, ok H v F → hd.ok H v
inductive SV where
  | gen (G : Rgn)
  | hand (P : Hd)
  | no
  | dat (d : D)
  | own (ds : List D)
  | otab (m : List (List D))
  | lst (ds : List D)
  | tab (m : List (List D))
  | val (v : V)
def SV.av : SV → Option AV
  | .no => none
  | .dat d => some (.dat d)
  | .own ds => some (.lst ds)
  | .otab m => some (.tab m)
  | .lst ds => some (.lst ds)
  | .tab m => some (.tab m)
  | .val v => some (.val v)
  | .hand P => some (.hand P)
  | .gen G => some (.hand G.hd)
def AV.sv : AV → SV
  | .dat d => .dat d
  | .lst ds => .lst ds
  | .tab m => .tab m
  | .val v => .val v
  | .hand P => .hand P
def SVok (H0 H : Hp) (o : Option V) (F : List Addr) : SV → Prop
  | .no => F = []
  | .dat d => F = [] ∧ ∃ v, o = some v ∧ DV H v d
  | .own ds => ∃ a vs, F = [a] ∧ o = some (.ref a) ∧ H a = some (.lst vs) ∧ DVs H vs ds
  | .otab m => ∃ a rs, F = a :: rs ∧ o = some (.ref a) ∧ H a = some (.lst (rs.map V.ref)) ∧ Rws H rs m
  | .lst ds => F = [] ∧ ∃ v, o = some v ∧ AVok H0 v (.lst ds)
  | .tab m => F = [] ∧ ∃ v, o = some v ∧ AVok H0 v (.tab m)
  | .val v => F = [] ∧ o = some v
  | .hand P => F = [] ∧ ∃ v, o = some v ∧ P.ok H0 v
  | .gen G => ∃ v, o = some v ∧ G.ok H v F
/-- slots, what each owns, what is told of each -/
def SVs (H0 H : Hp) : L2.St → List (List Addr) → List SV → Prop
  | [], [], [] => True
  | o :: σ, F :: Fs, x :: S => SVok H0 H o F x ∧ SVs H0 H σ Fs S
  | _, _, _ => False
structure StD (H0 H : Hp) (σ : L2.St) (S : List SV) : Prop where
  ex : Same H0 H
  fs : ∃ Fs, SVs H0 H σ Fs S ∧ Fs.flatten.Nodup ∧ ∀ a ∈ Fs.flatten, H0 a = none
theorem SVs.length {H0 H : Hp} : ∀ {σ : L2.St} {Fs : List (List Addr)} {S : List SV}, SVs H0 H σ Fs S → σ.length = S.length ∧ Fs.length = S.length
  | [], [], [], _ => ⟨rfl, rfl⟩
  | o :: σ, F :: Fs, x :: S, h => by
    obtain ⟨h1, h2⟩ := SVs.length h.2
    exact ⟨by rw [List.length_cons, List.length_cons, h1], by rw [List.length_cons, List.length_cons, h2]⟩
  | [], [], _ :: _, h => h.elim
  | [], _ :: _, _, h => h.elim
  | _ :: _, [], _, h => h.elim
  | _ :: _, _ :: _, [], h => h.elim
theorem SVs.get {H0 H : Hp} : ∀ {σ : L2.St} {Fs : List (List Addr)} {S : List SV} {i : Nat} {x : SV}, SVs H0 H σ Fs S → S[i]? = some x → ∃ o F, σ[i]? = some o ∧ Fs[i]? = some F ∧ SVok H0 H o F x
  | [], [], [], _, _, _, h2 => by simp at h2
  | o :: σ, F :: Fs, x :: S, 0, y, h, h2 => by
    have e : x = y := by simpa using h2
    subst e
    exact ⟨o, F, rfl, rfl, h.1⟩
  | o :: σ, F :: Fs, x :: S, i + 1, y, h, h2 => by
    obtain ⟨o', F', h3, h4, h5⟩ := SVs.get (i := i) (x := y) h.2 (by simpa using h2)
    exact ⟨o', F', by simpa using h3, by simpa using h4, h5⟩
  | [], [], _ :: _, _, _, h, _ => h.elim
  | [], _ :: _, _, _, _, h, _ => h.elim
  | _ :: _, [], _, _, _, h, _ => h.elim
  | _ :: _, _ :: _, [], _, _, h, _ => h.elim
theorem Rws.away {H H' : Hp} (t : TupS H H') : ∀ {rs : List Addr} {m : List (List D)}, (∀ a ∈ rs, ∀ o, H a = some o → H' a = some o) → Rws H rs m → Rws H' rs m
  | [], [], _, _ => trivial
  | [], _ :: _, _, h => h.elim
  | _ :: _, [], _, h => h.elim
  | r :: rs, row :: m, k, h => by
    obtain ⟨⟨vs, h1, h2⟩, h3⟩ := h
    exact ⟨⟨vs, k r List.mem_cons_self _ h1, DVs.ts t _ _ h2⟩, Rws.away t (fun a ha => k a (List.mem_cons_of_mem _ ha)) h3⟩
theorem SVok.away {H0 H H' : Hp} {o : Option V} {F : List Addr} (w : Away F H H') : ∀ {x : SV}, SVok H0 H o F x → SVok H0 H' o F x
  | .no, h => h
  | .dat _, h => by
    obtain ⟨h1, v, h2, h3⟩ := h
    exact ⟨h1, v, h2, DV.ts w.1 _ _ h3⟩
  | .own _, h => by
    obtain ⟨a, vs, h1, h2, h3, h4⟩ := h
    exact ⟨a, vs, h1, h2, w.2 a (by rw [h1]; exact List.mem_cons_self) _ h3, DVs.ts w.1 _ _ h4⟩
  | .otab _, h => by
    obtain ⟨a, rs, h1, h2, h3, h4⟩ := h
    exact ⟨a, rs, h1, h2, w.2 a (by rw [h1]; exact List.mem_cons_self) _ h3, Rws.away w.1 (fun b hb => w.2 b (by rw [h1]; exact List.mem_cons_of_mem _ hb)) h4⟩
  | .lst _, h => h
  | .tab _, h => h
  | .val _, h => h
  | .hand _, h => h
  | .gen G, h => by
    obtain ⟨v, h1, h2⟩ := h
    exact ⟨v, h1, G.away w h2⟩
theorem Away.of {F : List Addr} {H H' : Hp} (e : Same H H') : Away F H H' := ⟨TupS.of e, fun a _ o h => e a o h⟩
theorem SVok.base {H0 H1 H : Hp} {o : Option V} {F : List Addr} (e : Same H0 H1) : ∀ {x : SV}, SVok H0 H o F x → SVok H1 H o F x
  | .no, h => h
  | .dat _, h => h
  | .own _, h => h
  | .otab _, h => h
  | .lst _, h => by
    obtain ⟨h1, v, h2, h3⟩ := h
    exact ⟨h1, v, h2, h3.mono e⟩
  | .tab _, h => by
    obtain ⟨h1, v, h2, h3⟩ := h
    exact ⟨h1, v, h2, h3.mono e⟩
  | .val _, h => h
  | .hand P, h => by
    obtain ⟨h1, v, h2, h3⟩ := h
    exact ⟨h1, v, h2, P.mono e h3⟩
  | .gen _, h => h
theorem SVs.imp {H0 H H1 H' : Hp} : ∀ {σ : L2.St} {Fs : List (List Addr)} {S : List SV}, (∀ F ∈ Fs, ∀ o x, SVok H0 H o F x → SVok H1 H' o F x) → SVs H0 H σ Fs S → SVs H1 H' σ Fs S
  | [], [], [], _, _ => trivial
  | o :: σ, F :: Fs, x :: S, k, h => ⟨k F List.mem_cons_self o x h.1, SVs.imp (fun F' hF => k F' (List.mem_cons_of_mem _ hF)) h.2⟩
  | [], [], _ :: _, _, h => h.elim
  | [], _ :: _, _, _, h => h.elim
  | _ :: _, [], _, _, h => h.elim
  | _ :: _, _ :: _, [], _, h => h.elim
theorem StD.grow {H0 H H' : Hp} {σ : L2.St} {S : List SV} (h : StD H0 H σ S) (e : Same H H') : StD H0 H' σ S := by
  obtain ⟨ex, Fs, h1, h2, h3⟩ := h
  exact ⟨ex.trans e, Fs, SVs.imp (fun F _ o x q => q.away (.of e)) h1, h2, h3⟩
/-- a later base: all that no slot owns -/
theorem StD.rebase {H0 H H' : Hp} {σ : L2.St} {S : List SV} (h : StD H0 H σ S) (e : Same H H') :
    ∃ H1, Same H0 H1 ∧ Same H1 H' ∧ StD H1 H' σ S ∧ TupS H' H1 ∧ ∀ p o, H p = none → H' p = some o → H1 p = some o := by
  obtain ⟨ex, Fs, h1, h2, h3⟩ := id h
  have listy : ∀ {σ : L2.St} {Fs : List (List Addr)} {S : List SV}, SVs H0 H σ Fs S → ∀ a ∈ Fs.flatten, ∃ o, H a = some o ∧ ∀ vs, o ≠ .tup vs := by
    intro σ
    induction σ with
    | nil =>
      intro Fs S q a ha
      match Fs, S, q, ha with
      | [], [], _, ha => simp at ha
    | cons o σ ih =>
      intro Fs S q a ha
      match Fs, S, q, ha with
      | F :: Fs, x :: S, q, ha =>
        rw [List.flatten_cons, List.mem_append] at ha
        rcases ha with ha | ha
        · have q1 : SVok H0 H o F x := q.1
          cases x with
          | no =>
            have z : F = [] := q1
            rw [z] at ha; cases ha
          | dat d =>
            have z : F = [] := q1.1
            rw [z] at ha; cases ha
          | own ds =>
            obtain ⟨b, vs, z1, _, z2, _⟩ := q1
            rw [z1] at ha
            have e : a = b := by simpa using ha
            exact ⟨.lst vs, by rw [e]; exact z2, fun _ k => by cases k⟩
          | otab m =>
            obtain ⟨b, rs, z1, _, z2, z3⟩ := q1
            rw [z1] at ha
            rcases List.mem_cons.mp ha with z | z
            · exact ⟨_, by rw [z]; exact z2, fun _ k => by cases k⟩
            · have : ∀ {rs : List Addr} {m : List (List D)}, Rws H rs m → ∀ r ∈ rs, ∃ vs, H r = some (.lst vs) := by
                intro rs
                induction rs with
                | nil => intro m _ r hr; cases hr
                | cons r rs ihr =>
                  intro m hm r' hr
                  match m, hm with
                  | row :: m, hm =>
                    rcases List.mem_cons.mp hr with z | z
                    · obtain ⟨vs, k, _⟩ := hm.1
                      exact ⟨vs, by rw [z]; exact k⟩
                    · exact ihr hm.2 r' z
              obtain ⟨vs, k⟩ := this z3 a z
              exact ⟨_, k, fun _ k => by cases k⟩
          | lst ds =>
            have z : F = [] := q1.1
            rw [z] at ha; cases ha
          | tab m =>
            have z : F = [] := q1.1
            rw [z] at ha; cases ha
          | val v =>
            have z : F = [] := q1.1
            rw [z] at ha; cases ha
          | hand P =>
            have z : F = [] := q1.1
            rw [z] at ha; cases ha
          | gen G =>
            obtain ⟨v, _, z⟩ := q1
            exact G.inn z a ha
        · exact ih q.2 a ha
  refine ⟨fun b => if b ∈ Fs.flatten then none else H' b, fun a o q => ?_, fun a o q => ?_, ?_, fun a vs q => ?_, fun p o q1 q2 => ?_⟩
  · have na : ¬ a ∈ Fs.flatten := fun z => by rw [h3 a z] at q; cases q
    show (if a ∈ Fs.flatten then none else H' a) = some o
    rw [if_neg na]
    exact e _ _ (ex _ _ q)
  · have q : (if a ∈ Fs.flatten then none else H' a) = some o := q
    by_cases na : a ∈ Fs.flatten
    · rw [if_pos na] at q; cases q
    · rw [if_neg na] at q; exact q
  · have ss : Same H0 (fun b => if b ∈ Fs.flatten then none else H' b) := fun a o q => by
      have na : ¬ a ∈ Fs.flatten := fun z => by rw [h3 a z] at q; cases q
      show (if a ∈ Fs.flatten then none else H' a) = some o
      rw [if_neg na]
      exact e _ _ (ex _ _ q)
    refine ⟨fun a o q => ?_, Fs, SVs.imp (fun F _ o x q => (q.base ss).away (.of e)) h1, h2, fun a ha => if_pos ha⟩
    have q : (if a ∈ Fs.flatten then none else H' a) = some o := q
    by_cases na : a ∈ Fs.flatten
    · rw [if_pos na] at q; cases q
    · rw [if_neg na] at q; exact q
  · have na : ¬ a ∈ Fs.flatten := fun z => by
      obtain ⟨ws, k, kt⟩ := listy h1 a z
      have k2 := e _ _ k
      rw [q] at k2
      cases k2
      exact kt _ rfl
    show (if a ∈ Fs.flatten then none else H' a) = _
    rw [if_neg na]
    exact q
  · have na : ¬ p ∈ Fs.flatten := fun z => by
      obtain ⟨ws, k, _⟩ := listy h1 p z
      rw [q1] at k
      cases k
    show (if p ∈ Fs.flatten then none else H' p) = _
    rw [if_neg na]
    exact q2
theorem StD.get {H0 H : Hp} {σ : L2.St} {S : List SV} {i : Nat} {x : SV} {a : AV} (h : StD H0 H σ S) (hi : S[i]? = some x) (ha : x.av = some a) : ∃ v, σ[i]? = some (some v) ∧ AVok H v a := by
  obtain ⟨ex, Fs, h1, h2, h3⟩ := h
  obtain ⟨o, F, h4, h5, h6⟩ := h1.get hi
  cases x with
  | no => cases ha
  | dat d =>
    cases ha
    obtain ⟨_, v, h7, h8⟩ := h6
    exact ⟨v, by rw [h4, h7], h8⟩
  | own ds =>
    cases ha
    obtain ⟨b, vs, _, h7, h8, h9⟩ := h6
    exact ⟨.ref b, by rw [h4, h7], b, vs, rfl, h8, h9⟩
  | otab m =>
    cases ha
    obtain ⟨b, rs, _, h7, h8, h9⟩ := h6
    exact ⟨.ref b, by rw [h4, h7], b, rs, rfl, h8, h9⟩
  | lst ds =>
    cases ha
    obtain ⟨_, v, h7, h8⟩ := h6
    exact ⟨v, by rw [h4, h7], h8.mono ex⟩
  | tab m =>
    cases ha
    obtain ⟨_, v, h7, h8⟩ := h6
    exact ⟨v, by rw [h4, h7], h8.mono ex⟩
  | val v =>
    cases ha
    obtain ⟨_, h7⟩ := h6
    exact ⟨v, by rw [h4, h7], rfl⟩
  | hand P =>
    cases ha
    obtain ⟨_, v, h7, h8⟩ := h6
    exact ⟨v, by rw [h4, h7], P.mono ex h8⟩
  | gen G =>
    cases ha
    obtain ⟨v, h7, h8⟩ := h6
    exact ⟨v, by rw [h4, h7], G.toHd h8⟩
/-! one slot set -/
theorem SVs.set {H0 H H' : Hp} {o : Option V} {F' : List Addr} {y : SV} : ∀ {σ : L2.St} {Fs : List (List Addr)} {S : List SV} (i : Nat), (∀ F ∈ Fs.set i F', ∀ o x, SVok H0 H o F x → SVok H0 H' o F x) → SVok H0 H' o F' y → SVs H0 H σ Fs S → SVs H0 H' (σ.set i o) (Fs.set i F') (S.set i y)
  | [], [], [], _, _, _, _ => trivial
  | o' :: σ, F :: Fs, x :: S, 0, k, hy, h => ⟨hy, SVs.imp (fun F hF => k F (List.mem_cons_of_mem _ hF)) h.2⟩
  | o' :: σ, F :: Fs, x :: S, i + 1, k, hy, h => ⟨k F List.mem_cons_self _ _ h.1, SVs.set i (fun F hF => k F (List.mem_cons_of_mem _ hF)) hy h.2⟩
  | [], [], _ :: _, _, _, _, h => h.elim
  | [], _ :: _, _, _, _, _, h => h.elim
  | _ :: _, [], _, _, _, _, h => h.elim
  | _ :: _, _ :: _, [], _, _, _, h => h.elim
theorem flat_set_sub {α : Type} {F : List α} {a : α} : ∀ {Fs : List (List α)} {i : Nat}, a ∈ (Fs.set i F).flatten → a ∈ F ∨ a ∈ Fs.flatten
  | [], _, h => .inr h
  | G :: Gs, 0, h => by
    have h : a ∈ (F :: Gs).flatten := h
    rw [List.flatten_cons, List.mem_append] at h
    rcases h with h | h
    · exact .inl h
    · exact .inr (by rw [List.flatten_cons, List.mem_append]; exact .inr h)
  | G :: Gs, i + 1, h => by
    have h : a ∈ (G :: Gs.set i F).flatten := h
    rw [List.flatten_cons, List.mem_append] at h
    rw [List.flatten_cons, List.mem_append]
    rcases h with h | h
    · exact .inr (.inl h)
    · rcases flat_set_sub h with q | q
      · exact .inl q
      · exact .inr (.inr q)
theorem flat_set_nodup {α : Type} {F : List α} (hF : F.Nodup) : ∀ {Fs : List (List α)} (i : Nat), Fs.flatten.Nodup → (∀ a ∈ F, ¬ a ∈ Fs.flatten) → (Fs.set i F).flatten.Nodup
  | [], _, h, _ => h
  | G :: Gs, 0, h, k => by
    show (F :: Gs).flatten.Nodup
    rw [List.flatten_cons] at h ⊢
    obtain ⟨h1, h2, h3⟩ := List.nodup_append.mp h
    refine List.nodup_append.mpr ⟨hF, h2, fun a ha b hb e => k a ha ?_⟩
    rw [List.flatten_cons, List.mem_append, e]
    exact .inr hb
  | G :: Gs, i + 1, h, k => by
    show (G :: Gs.set i F).flatten.Nodup
    rw [List.flatten_cons] at h ⊢
    obtain ⟨h1, h2, h3⟩ := List.nodup_append.mp h
    refine List.nodup_append.mpr ⟨h1, flat_set_nodup hF i h2 fun a ha z => k a ha (by rw [List.flatten_cons, List.mem_append]; exact .inr z), fun a ha b hb e => ?_⟩
    rcases flat_set_sub hb with q | q
    · exact k b q (by rw [List.flatten_cons, List.mem_append, ← e]; exact .inl ha)
    · exact h3 a ha b q e
/-- a slot that owns nothing -/
theorem StD.put {H0 H : Hp} {σ : L2.St} {S : List SV} {x : SV} {o : Option V} (i : Nat) (h : StD H0 H σ S) (hx : SVok H0 H o [] x) : StD H0 H (σ.set i o) (S.set i x) := by
  obtain ⟨ex, Fs, h1, h2, h3⟩ := h
  refine ⟨ex, Fs.set i [], SVs.set i (fun _ _ _ _ q => q) hx h1, flat_set_nodup List.nodup_nil i h2 (fun a ha => by cases ha), fun a ha => ?_⟩
  rcases flat_set_sub ha with q | q
  · cases q
  · exact h3 a q
theorem SVs.listy {H0 H : Hp} : ∀ {σ : L2.St} {Fs : List (List Addr)} {S : List SV}, SVs H0 H σ Fs S → ∀ a ∈ Fs.flatten, ∃ o, H a = some o
  | [], [], [], _, a, ha => by simp at ha
  | o :: σ, F :: Fs, x :: S, h, a, ha => by
    rw [List.flatten_cons, List.mem_append] at ha
    rcases ha with ha | ha
    · have q1 : SVok H0 H o F x := h.1
      cases x with
      | no =>
        have z : F = [] := q1
        rw [z] at ha; cases ha
      | dat d =>
        have z : F = [] := q1.1
        rw [z] at ha; cases ha
      | own ds =>
        obtain ⟨b, vs, z1, _, z2, _⟩ := q1
        rw [z1] at ha
        have e : a = b := by simpa using ha
        exact ⟨_, by rw [e]; exact z2⟩
      | otab m =>
        obtain ⟨b, rs, z1, _, z2, z3⟩ := q1
        rw [z1] at ha
        rcases List.mem_cons.mp ha with z | z
        · exact ⟨_, by rw [z]; exact z2⟩
        · obtain ⟨j, hj⟩ := List.mem_iff_getElem?.mp z
          have hl := z3.length
          have hj2 : j < m.length := by
            have := (List.getElem?_eq_some_iff.mp hj).1
            omega
          obtain ⟨r, vs, k1, k2, _⟩ := z3.get (List.getElem?_eq_getElem hj2)
          rw [hj] at k1
          cases k1
          exact ⟨_, k2⟩
      | lst ds =>
        have z : F = [] := q1.1
        rw [z] at ha; cases ha
      | tab m =>
        have z : F = [] := q1.1
        rw [z] at ha; cases ha
      | val v =>
        have z : F = [] := q1.1
        rw [z] at ha; cases ha
      | hand v =>
        have z : F = [] := q1.1
        rw [z] at ha; cases ha
      | gen G =>
        obtain ⟨v, _, z⟩ := q1
        obtain ⟨o, k, _⟩ := G.inn z a ha
        exact ⟨o, k⟩
    · exact SVs.listy h.2 a ha
  | [], [], _ :: _, h, _, _ => h.elim
  | [], _ :: _, _, h, _, _ => h.elim
  | _ :: _, [], _, h, _, _ => h.elim
  | _ :: _, _ :: _, [], h, _, _ => h.elim
/-- a slot that owns new things -/
theorem StD.putF {H0 H H' : Hp} {σ : L2.St} {S : List SV} {x : SV} {o : Option V} {F : List Addr} (i : Nat) (h : StD H0 H σ S) (e : Same H H') (hF : F.Nodup) (hn : ∀ a ∈ F, H a = none) (hx : SVok H0 H' o F x) : StD H0 H' (σ.set i o) (S.set i x) := by
  obtain ⟨ex, Fs, h1, h2, h3⟩ := h
  refine ⟨ex.trans e, Fs.set i F, SVs.set i (fun _ _ _ _ q => q.away (.of e)) hx h1, flat_set_nodup hF i h2 (fun a ha z => ?_), fun a ha => ?_⟩
  · obtain ⟨o, k⟩ := h1.listy a z
    rw [hn a ha] at k
    cases k
  · rcases flat_set_sub ha with q | q
    · exact ex.free (hn a q)
    · exact h3 a q
/-- a slot's own list changes -/
theorem mem_flat {α : Type} {Fs : List (List α)} {i : Nat} {F : List α} {a : α} (h : Fs[i]? = some F) (ha : a ∈ F) : a ∈ Fs.flatten :=
  List.mem_flatten.mpr ⟨F, List.mem_of_getElem? h, ha⟩
theorem SVs.mutate {H0 H H' : Hp} {o' : Option V} {F F' : List Addr} {y : SV} : ∀ {σ : L2.St} {Fs : List (List Addr)} {S : List SV} (i : Nat), SVs H0 H σ Fs S → Fs.flatten.Nodup → Fs[i]? = some F → σ[i]? = some o' →
    (∀ G o x, (∀ a ∈ G, ¬ a ∈ F) → SVok H0 H o G x → SVok H0 H' o G x) → SVok H0 H' o' F' y → SVs H0 H' σ (Fs.set i F') (S.set i y)
  | [], [], [], _, _, _, h, _, _, _ => by simp at h
  | o :: σ, G :: Fs, x :: S, 0, h, hn, hF, ho, k, hy => by
    have eF : G = F := by simpa using hF
    have eo : o = o' := by simpa using ho
    subst eF eo
    rw [List.flatten_cons] at hn
    obtain ⟨_, _, h3⟩ := List.nodup_append.mp hn
    exact ⟨hy, SVs.imp (fun F1 hF1 o x q => k F1 o x (fun a ha z => h3 a z a (List.mem_flatten.mpr ⟨F1, hF1, ha⟩) rfl) q) h.2⟩
  | o :: σ, G :: Fs, x :: S, i + 1, h, hn, hF, ho, k, hy => by
    have hF : Fs[i]? = some F := by simpa using hF
    have ho : σ[i]? = some o' := by simpa using ho
    rw [List.flatten_cons] at hn
    obtain ⟨_, h2, h3⟩ := List.nodup_append.mp hn
    exact ⟨k G o x (fun a ha z => h3 a ha a (mem_flat hF z) rfl) h.1, SVs.mutate i h.2 h2 hF ho k hy⟩
  | [], [], _ :: _, _, h, _, _, _, _, _ => h.elim
  | [], _ :: _, _, _, h, _, _, _, _, _ => h.elim
  | _ :: _, [], _, _, h, _, _, _, _, _ => h.elim
  | _ :: _, _ :: _, [], _, h, _, _, _, _, _ => h.elim
theorem Away.lst {F : List Addr} {H : Hp} {a : Addr} {vs ws : List V} (ha : H a = some (.lst vs)) (hF : ¬ a ∈ F) : Away F H (upd H a (.lst ws)) := by
  refine ⟨fun b us q => ?_, fun b hb o q => ?_⟩
  · rw [upd_ne (ne_of q ha (by intro z; cases z))]
    exact q
  · rw [upd_ne (fun e => hF (by rw [← e]; exact hb))]
    exact q
theorem TupS.lst {H : Hp} {a : Addr} {vs ws : List V} (ha : H a = some (.lst vs)) : TupS H (upd H a (.lst ws)) := (Away.lst (F := []) ha (by simp)).1
/-- an own list changes -/
theorem StD.mut {H0 H : Hp} {σ : L2.St} {S : List SV} {i : Nat} {ds es : List D} (h : StD H0 H σ S) (hi : S[i]? = some (.own ds)) : ∃ a vs, σ[i]? = some (some (.ref a)) ∧ H a = some (.lst vs) ∧ DVs H vs ds ∧
    ∀ {H' : Hp} {ws : List V}, Same H H' → DVs H' ws es → StD H0 (upd H' a (.lst ws)) σ (S.set i (.own es)) := by
  obtain ⟨ex, Fs, h1, h2, h3⟩ := h
  obtain ⟨o, F, h4, h5, h6⟩ := h1.get hi
  obtain ⟨a, vs, h7, h8, h9, h10⟩ := h6
  refine ⟨a, vs, by rw [h4, h8], h9, h10, fun {H' ws} e hw => ?_⟩
  have hm : ∀ b, b ∈ F → b ∈ Fs.flatten := fun b hb => mem_flat h5 hb
  have na : H0 a = none := h3 a (hm a (by rw [h7]; exact List.mem_cons_self))
  refine ⟨fun b o q => ?_, Fs.set i F, SVs.mutate (o' := o) i h1 h2 h5 h4 (fun G o x hG q => ?_) ⟨a, ws, h7, h8, upd_same, DVs.ts (TupS.lst (e _ _ h9)) _ _ hw⟩, ?_, fun b hb => ?_⟩
  · rw [upd_ne (ne_of_none q na)]
    exact e _ _ (ex _ _ q)
  · exact (q.away (.of e)).away (Away.lst (e _ _ h9) (fun z => hG a z (by rw [h7]; exact List.mem_cons_self)))
  · have eF : Fs.set i F = Fs := by
      apply List.ext_getElem?
      intro j
      by_cases ej : j = i
      · rw [ej, List.getElem?_set_self (List.getElem?_eq_some_iff.mp h5).1, h5]
      · rw [List.getElem?_set_ne (fun z => ej z.symm)]
    rw [eF]
    exact h2
  · rcases flat_set_sub hb with q | q
    · exact h3 b (hm b q)
    · exact h3 b q
theorem Rws.mem {H : Hp} : ∀ {rs : List Addr} {m : List (List D)}, Rws H rs m → ∀ r ∈ rs, ∃ vs, H r = some (.lst vs)
  | [], [], _, r, hr => by cases hr
  | [], _ :: _, h, _, _ => h.elim
  | _ :: _, [], h, _, _ => h.elim
  | r :: rs, row :: m, h, r', hr => by
    rcases List.mem_cons.mp hr with z | z
    · obtain ⟨vs, k, _⟩ := h.1
      exact ⟨vs, by rw [z]; exact k⟩
    · exact Rws.mem h.2 r' z
theorem Rws.set {H : Hp} {r : Addr} {ws : List V} {row : List D} : ∀ {rs : List Addr} {m : List (List D)} (i : Nat), Rws H rs m → rs.Nodup → rs[i]? = some r → DVs H ws row → Rws (upd H r (.lst ws)) rs (m.set i row)
  | [], [], _, _, _, h, _ => by simp at h
  | [], _ :: _, _, h, _, _, _ => h.elim
  | _ :: _, [], _, h, _, _, _ => h.elim
  | r' :: rs, row' :: m, 0, h, hn, hr, hw => by
    have e : r' = r := by simpa using hr
    subst e
    obtain ⟨⟨vs, h1, h2⟩, h3⟩ := h
    obtain ⟨hn1, hn2⟩ := List.nodup_cons.mp hn
    refine ⟨⟨ws, upd_same, DVs.ts (TupS.lst h1) _ _ hw⟩, Rws.away (TupS.lst h1) (fun a ha o q => ?_) h3⟩
    rw [upd_ne (fun z => hn1 (by rw [← z]; exact ha))]
    exact q
  | r' :: rs, row' :: m, i + 1, h, hn, hr, hw => by
    have hr : rs[i]? = some r := by simpa using hr
    obtain ⟨⟨vs, h1, h2⟩, h3⟩ := h
    obtain ⟨hn1, hn2⟩ := List.nodup_cons.mp hn
    have hm : r ∈ rs := List.mem_of_getElem? hr
    obtain ⟨us, hu⟩ := Rws.mem h3 r hm
    refine ⟨⟨vs, ?_, DVs.ts (TupS.lst hu) _ _ h2⟩, Rws.set i h3 hn2 hr hw⟩
    rw [upd_ne (fun z => hn1 (by rw [z]; exact hm))]
    exact h1
/-- a row of an own table changes -/
theorem StD.mutRow {H0 H : Hp} {σ : L2.St} {S : List SV} {i j : Nat} {m : List (List D)} {row new : List D} (h : StD H0 H σ S) (hi : S[i]? = some (.otab m)) (hj : m[j]? = some row) : ∃ (a : Addr) (rs : List Addr) (r : Addr) (vs : List V), σ[i]? = some (some (.ref a)) ∧ H a = some (.lst (rs.map V.ref)) ∧ rs[j]? = some r ∧ rs.length = m.length ∧ H r = some (.lst vs) ∧ DVs H vs row ∧
    ∀ {H' : Hp} {ws : List V}, Same H H' → DVs H' ws new → StD H0 (upd H' r (.lst ws)) σ (S.set i (.otab (m.set j new))) := by
  obtain ⟨ex, Fs, h1, h2, h3⟩ := h
  obtain ⟨o, F, h4, h5, h6⟩ := h1.get hi
  obtain ⟨a, rs, h7, h8, h9, h10⟩ := h6
  obtain ⟨r, vs, k1, k2, k3⟩ := h10.get hj
  have hm : ∀ b, b ∈ F → b ∈ Fs.flatten := fun b hb => mem_flat h5 hb
  have hr : r ∈ F := by rw [h7]; exact List.mem_cons_of_mem _ (List.mem_of_getElem? k1)
  have hFn : F.Nodup := by
    have := List.mem_of_getElem? h5
    exact (List.Sublist.nodup (List.sublist_flatten_of_mem this) h2)
  rw [h7] at hFn
  obtain ⟨hn1, hn2⟩ := List.nodup_cons.mp hFn
  have nra : r ≠ a := fun z => hn1 (by rw [← z]; exact List.mem_of_getElem? k1)
  refine ⟨a, rs, r, vs, by rw [h4, h8], h9, k1, h10.length, k2, k3, fun {H' ws} e hw => ?_⟩
  have na : H0 r = none := h3 r (hm r hr)
  refine ⟨fun b o q => ?_, Fs.set i F, SVs.mutate (o' := o) i h1 h2 h5 h4 (fun G o x hG q => ?_) ⟨a, rs, h7, h8, ?_, Rws.set j (h10.mono e) hn2 k1 hw⟩, ?_, fun b hb => ?_⟩
  · rw [upd_ne (ne_of_none q na)]
    exact e _ _ (ex _ _ q)
  · exact (q.away (.of e)).away (Away.lst (e _ _ k2) (fun z => hG r z hr))
  · rw [upd_ne nra.symm]
    exact e _ _ h9
  · have eF : Fs.set i F = Fs := by
      apply List.ext_getElem?
      intro j
      by_cases ej : j = i
      · rw [ej, List.getElem?_set_self (List.getElem?_eq_some_iff.mp h5).1, h5]
      · rw [List.getElem?_set_ne (fun z => ej z.symm)]
    rw [eF]
    exact h2
  · rcases flat_set_sub hb with q | q
    · exact h3 b (hm b q)
    · exact h3 b q
theorem flat_set_nodup2 {α : Type} {F F' : List α} (hF : F'.Nodup) : ∀ {Fs : List (List α)} (i : Nat), Fs.flatten.Nodup → Fs[i]? = some F → (∀ a ∈ F', a ∈ F ∨ ¬ a ∈ Fs.flatten) → (Fs.set i F').flatten.Nodup
  | [], _, h, _, _ => h
  | G :: Gs, 0, h, e, k => by
    have e : G = F := by simpa using e
    subst e
    show (F' :: Gs).flatten.Nodup
    rw [List.flatten_cons] at h ⊢
    obtain ⟨h1, h2, h3⟩ := List.nodup_append.mp h
    refine List.nodup_append.mpr ⟨hF, h2, fun a ha b hb e => ?_⟩
    rcases k a ha with q | q
    · exact h3 a q b hb e
    · exact q (by rw [List.flatten_cons, List.mem_append, e]; exact .inr hb)
  | G :: Gs, i + 1, h, e, k => by
    have e : Gs[i]? = some F := by simpa using e
    show (G :: Gs.set i F').flatten.Nodup
    rw [List.flatten_cons] at h ⊢
    obtain ⟨h1, h2, h3⟩ := List.nodup_append.mp h
    refine List.nodup_append.mpr ⟨h1, flat_set_nodup2 hF i h2 e fun a ha => ?_, fun a ha b hb eab => ?_⟩
    · rcases k a ha with q | q
      · exact .inl q
      · exact .inr fun z => q (by rw [List.flatten_cons, List.mem_append]; exact .inr z)
    · rcases flat_set_sub hb with q | q
      · rcases k b q with z | z
        · exact h3 a ha b (mem_flat e z) eab
        · exact z (by rw [List.flatten_cons, List.mem_append, ← eab]; exact .inl ha)
      · exact h3 a ha b q eab
/-- what a slot owns changes -/
theorem StD.mutG {H0 H : Hp} {σ : L2.St} {S : List SV} {i : Nat} {G : Rgn} (h : StD H0 H σ S) (hi : S[i]? = some (.gen G)) : ∃ v F, σ[i]? = some (some v) ∧ G.ok H v F ∧ F.Nodup ∧ (∀ a ∈ F, H0 a = none) ∧
    ∀ {H' : Hp} {F' : List Addr} {G' : Rgn}, TupS H H' → (∀ a o, H a = some o → ¬ a ∈ F → H' a = some o) → F'.Nodup → (∀ a ∈ F', a ∈ F ∨ H a = none) → G'.ok H' v F' → StD H0 H' σ (S.set i (.gen G')) := by
  obtain ⟨ex, Fs, h1, h2, h3⟩ := h
  obtain ⟨o, F, h4, h5, h6⟩ := h1.get hi
  obtain ⟨v, h7, h8⟩ := h6
  subst h7
  have hm : ∀ b, b ∈ F → b ∈ Fs.flatten := fun b hb => mem_flat h5 hb
  refine ⟨v, F, h4, h8, (List.sublist_flatten_of_mem (List.mem_of_getElem? h5)).nodup h2, fun a ha => h3 a (hm a ha), fun {H' F' G'} ts st hn hf hg => ?_⟩
  refine ⟨fun b o q => ?_, Fs.set i F', SVs.mutate (o' := some v) i h1 h2 h5 h4 (fun G o x hG q => q.away ⟨ts, fun a ha o q => st a o q (hG a ha)⟩) ⟨v, rfl, hg⟩, flat_set_nodup2 hn i h2 h5 fun a ha => ?_, fun a ha => ?_⟩
  · refine st b o (ex b o q) fun z => ?_
    rw [h3 b (hm b z)] at q
    cases q
  · rcases hf a ha with q | q
    · exact .inl q
    · refine .inr fun z => ?_
      obtain ⟨o, k⟩ := h1.listy a z
      rw [q] at k
      cases k
  · rcases flat_set_sub ha with q | q
    · rcases hf a q with z | z
      · exact h3 a (hm a z)
      · exact ex.free z
    · exact h3 a q
/-! less known -/
def SV.le : SV → SV → Prop
  | .no, _ => True
  | x, y => x = y
def SLe : List SV → List SV → Prop
  | [], [] => True
  | x :: S, y :: S' => SV.le x y ∧ SLe S S'
  | _, _ => False
theorem SVs.le {H0 H : Hp} : ∀ {S S' : List SV} {σ : L2.St} {Fs : List (List Addr)}, SLe S S' → SVs H0 H σ Fs S' → ∃ Gs, SVs H0 H σ Gs S ∧ List.Sublist Gs.flatten Fs.flatten
  | [], [], [], [], _, _ => ⟨[], trivial, List.Sublist.refl _⟩
  | x :: S, y :: S', o :: σ, F :: Fs, l, h => by
    obtain ⟨Gs, h1, h2⟩ := SVs.le l.2 h.2
    have l1 : SV.le x y := l.1
    by_cases ex : x = y
    · refine ⟨F :: Gs, ⟨by rw [ex]; exact h.1, h1⟩, ?_⟩
      rw [List.flatten_cons, List.flatten_cons]
      exact List.Sublist.append (List.Sublist.refl _) h2
    · have e : x = .no := by
        cases x with
        | no => rfl
        | dat d => exact absurd l1 ex
        | own d => exact absurd l1 ex
        | otab d => exact absurd l1 ex
        | lst d => exact absurd l1 ex
        | tab d => exact absurd l1 ex
        | val d => exact absurd l1 ex
        | hand d => exact absurd l1 ex
        | gen d => exact absurd l1 ex
      refine ⟨[] :: Gs, ⟨by rw [e]; exact rfl, h1⟩, ?_⟩
      rw [List.flatten_cons, List.flatten_cons, List.nil_append]
      exact List.Sublist.trans h2 (List.sublist_append_right _ _)
  | [], _ :: _, _, _, l, _ => l.elim
  | _ :: _, [], _, _, l, _ => l.elim
  | [], [], _ :: _, [], _, h => h.elim
  | [], [], [], _ :: _, _, h => h.elim
  | [], [], _ :: _, _ :: _, _, h => h.elim
  | _ :: _, _ :: _, [], [], _, h => h.elim
  | _ :: _, _ :: _, [], _ :: _, _, h => h.elim
  | _ :: _, _ :: _, _ :: _, [], _, h => h.elim
theorem StD.le {H0 H : Hp} {σ : L2.St} {S S' : List SV} (l : SLe S S') (h : StD H0 H σ S') : StD H0 H σ S := by
  obtain ⟨ex, Fs, h1, h2, h3⟩ := h
  obtain ⟨Gs, g1, g2⟩ := h1.le l
  exact ⟨ex, Gs, g1, g2.nodup h2, fun a ha => h3 a (g2.subset ha)⟩
/-! a def's own beginning -/
theorem SVs.start {H : Hp} : ∀ {as : List AV} {vs : List V}, AVs H vs as → SVs H H (vs.map some) (as.map fun _ => []) (as.map AV.sv)
  | [], _, h => by
    have h : _ = [] := h
    rw [h]
    exact trivial
  | a :: as, _, h => by
    obtain ⟨v, r, h1, h2, h3⟩ := h
    rw [h1]
    refine ⟨?_, SVs.start h3⟩
    cases a with
    | dat d => exact ⟨rfl, v, rfl, h2⟩
    | lst d => exact ⟨rfl, v, rfl, h2⟩
    | tab d => exact ⟨rfl, v, rfl, h2⟩
    | val d => exact ⟨rfl, congrArg some h2⟩
    | hand d => exact ⟨rfl, v, rfl, h2⟩
theorem SVs.nos {H0 H : Hp} : ∀ n : Nat, SVs H0 H (List.replicate n none) (List.replicate n []) (List.replicate n .no)
  | 0 => trivial
  | n + 1 => ⟨rfl, SVs.nos n⟩
theorem SVs.append {H0 H : Hp} {σ' : L2.St} {Fs' : List (List Addr)} {S' : List SV} : ∀ {σ : L2.St} {Fs : List (List Addr)} {S : List SV}, SVs H0 H σ Fs S → SVs H0 H σ' Fs' S' → SVs H0 H (σ ++ σ') (Fs ++ Fs') (S ++ S')
  | [], [], [], _, h' => h'
  | o :: σ, F :: Fs, x :: S, h, h' => ⟨h.1, SVs.append h.2 h'⟩
  | [], [], _ :: _, h, _ => h.elim
  | [], _ :: _, _, h, _ => h.elim
  | _ :: _, [], _, h, _ => h.elim
  | _ :: _, _ :: _, [], h, _ => h.elim
theorem flat_nils {α β : Type} : ∀ (l : List β) (n : Nat), ((l.map fun _ => ([] : List α)) ++ List.replicate n []).flatten = []
  | [], 0 => rfl
  | [], n + 1 => flat_nils ([] : List β) n
  | _ :: l, n => flat_nils l n
theorem StD.start {H : Hp} {as : List AV} {vs : List V} {N : List Str} (h : AVs H vs as) : StD H H (start N vs) (as.map AV.sv ++ List.replicate (N.length - as.length) .no) := by
  have hl := h.length
  refine ⟨Same.refl H, (as.map fun _ => []) ++ List.replicate (N.length - as.length) [], ?_, ?_, ?_⟩
  · unfold L2.start
    rw [hl]
    exact SVs.append (SVs.start h) (SVs.nos _)
  · rw [flat_nils]
    exact List.nodup_nil
  · rw [flat_nils]
    intro a ha
    cases ha
end Mw
-- part MwC
set_option maxHeartbeats 4000000
/-! Operators by values beside those of the layer; the judgement EvX and its rules. -/
namespace Mw
open PySem PySem.Spec PyProof.Rows L2
theorem room64 {k : Nat} {A : Around} (hr : Room k A) : A.units + 64 < cLine := by
  have := hr.un
  omega
section
variable {X : Cx}
/-! ### operators -/
def rAddA (K : PySem.W.Frag) : R2 := fun x y H Q => rI0 (fun i j => .int (i + j)) x y H Q ∨ (∃ i j, x = .str i ∧ y = .str j ∧ i.length + j.length ≤ sizeLine ∧ Q (.str (i ++ j)) H) ∨ rCatA K x y H Q ∨ rCat x y H Q
theorem op_addA : OpR X (binaryOp .Add) (rAddA X.K) := op_add.or (op_add_str.or (op_catA.or op_cat))
def rRepS : R2 := fun x y H Q => ∃ (i : Str) (j : Int), x = .str i ∧ y = .int j ∧ MulOk i j ∧ Q (.str (Txt.mul i j)) H
theorem op_repS : OpR X (binaryOp .Mult) rRepS := by
  intro pins s σ H x y v u Q I rx ry q
  obtain ⟨i, j, rfl, rfl, hz, q⟩ := q
  obtain ⟨t, rfl⟩ := rx
  obtain ⟨t', rfl⟩ := ry
  exact SB.mul hz fun t' tk => ⟨.str (Txt.mul i j), H, I.tok _, ⟨_, rfl⟩, q⟩
def rMulA : R2 := fun x y H Q => rI CMul (fun i j => .int (i * j)) x y H Q ∨ rRepS x y H Q ∨ rRep x y H Q
theorem op_mulA : OpR X (binaryOp .Mult) rMulA := op_mul.or (op_repS.or op_rep)
def rLtA : R2 := fun x y H Q => rI0 (fun i j => .bl (decide (i < j))) x y H Q ∨ (∃ i j, x = .str i ∧ y = .str j ∧ Q (.bl (decide (i.cps.toList < j.cps.toList))) H)
theorem op_ltA : OpR X (compareOp .Lt) rLtA := op_lt.or op_lt_str
/-- == and != of data -/
def rEqP (K : PySem.W.Frag) : R2 := fun x y H Q => ∃ d e, Dp K H x d ∧ Dp K H y e ∧ d.plain = true ∧ e.plain = true ∧ min d.depth e.depth ≤ 63 ∧ Q (.bl (PyData.eqv d e)) H
def rNeP (K : PySem.W.Frag) : R2 := fun x y H Q => ∃ d e, Dp K H x d ∧ Dp K H y e ∧ d.plain = true ∧ e.plain = true ∧ min d.depth e.depth ≤ 63 ∧ Q (.bl (!PyData.eqv d e)) H
theorem op_eqP (hu : X.A.units + 64 < cLine) : OpR X (compareOp .Eq) (rEqP X.K) := by
  intro pins s σ H x y v u Q I rx ry q
  obtain ⟨d, e, hd, he, pd, pe, hm, q⟩ := q
  obtain ⟨as, r1⟩ := Dp.reads I d x v hd rx
  obtain ⟨bs, r2⟩ := Dp.reads I e y u he ry
  exact SeqAt.eq_plain r1 r2 pd pe (by omega) ⟨.bl _, H, I, rfl, q⟩
theorem op_neP (hu : X.A.units + 64 < cLine) : OpR X (compareOp .NotEq) (rNeP X.K) := by
  intro pins s σ H x y v u Q I rx ry q
  obtain ⟨d, e, hd, he, pd, pe, hm, q⟩ := q
  obtain ⟨as, r1⟩ := Dp.reads I d x v hd rx
  obtain ⟨bs, r2⟩ := Dp.reads I e y u he ry
  exact SeqAt.ne_plain r1 r2 pd pe (by omega) ⟨.bl _, H, I, rfl, q⟩
/-- x in a tuple, a list of data -/
def rInP (K : PySem.W.Frag) (neg : Bool) : R2 := fun x y H Q => ∃ d ds, Dp K H x d ∧ (Dp K H y (.tuple ds) ∨ Dp K H y (.list ds)) ∧ d.plain = true ∧ PyData.plainAll ds = true ∧ min (PyData.depthAll ds) d.depth ≤ 62 ∧ Q (.bl (if neg then !ds.any fun z => PyData.eqv z d else ds.any fun z => PyData.eqv z d)) H
theorem op_inP (hu : X.A.units + 64 < cLine) : OpR X (compareOp .In) (rInP X.K false) := by
  intro pins s σ H x y v u Q I rx ry q
  obtain ⟨d, ds, hd, he, pd, pe, hm, q⟩ := q
  obtain ⟨as, r1⟩ := Dp.reads I d x v hd rx
  rcases he with he | he
  · obtain ⟨bs, r2⟩ := Dp.reads I (.tuple ds) y u he ry
    exact SeqAt.in_tuple_data r2 r1 pe pd (by omega) ⟨.bl _, H, I, rfl, q⟩
  · obtain ⟨bs, r2⟩ := Dp.reads I (.list ds) y u he ry
    exact SeqAt.in_list_data r2 r1 pe pd (by omega) ⟨.bl _, H, I, rfl, q⟩
theorem op_notInP (hu : X.A.units + 64 < cLine) : OpR X (compareOp .NotIn) (rInP X.K true) := by
  intro pins s σ H x y v u Q I rx ry q
  obtain ⟨d, ds, hd, he, pd, pe, hm, q⟩ := q
  obtain ⟨as, r1⟩ := Dp.reads I d x v hd rx
  rcases he with he | he
  · obtain ⟨bs, r2⟩ := Dp.reads I (.tuple ds) y u he ry
    exact SeqAt.notIn_tuple_data r2 r1 pe pd (by omega) ⟨.bl _, H, I, rfl, q⟩
  · obtain ⟨bs, r2⟩ := Dp.reads I (.list ds) y u he ry
    exact SeqAt.notIn_list_data r2 r1 pe pd (by omega) ⟨.bl _, H, I, rfl, q⟩
def rSlP (K : PySem.W.Frag) : V → Option Int → Option Int → Hp → VK → Prop := fun x lo hi H Q => rSlA K x lo hi H Q ∨ rSlL K x lo hi H Q ∨ rSlS x lo hi H Q
theorem sl_any : SlR X (rSlP X.K) := sl_tupA.or (sl_list.or sl_str)
def rLenA (K : PySem.W.Frag) : List V → Hp → VK → Prop := fun xs H Q => (∃ p ys, xs = [.ref p] ∧ (SqL K H p ys ∨ SqT K H p ys) ∧ Q (.int ys.length) H) ∨ (∃ z, xs = [.str z] ∧ z.length ≤ sizeLine ∧ Q (.int z.length) H)
theorem call_lenA : CallR X (.builtin "len") (rLenA X.K) := call_len_seq.or call_len_str
def rIntA : List V → Hp → VK → Prop := fun xs H Q => (∃ i, xs = [.int i] ∧ Q (.int i) H) ∨ ∃ k, xs = [.bl k] ∧ Q (.int (if k then 1 else 0)) H
theorem call_intA : CallR X (.type "int") rIntA := call_int1
def rStrA : List V → Hp → VK → Prop := fun xs H Q => ∃ i, xs = [.int i] ∧ i.natAbs.log2 < 1920 ∧ Q (.str (toString i)) H
theorem call_strA : CallR X (.type "str") rStrA := call_str_int
def rMaxA : List V → Hp → VK → Prop := fun xs H Q => ∃ i j, xs = [.int i, .int j] ∧ Q (.int (if j > i then j else i)) H
theorem call_maxA (hc : X.calm = true) : CallR X (.builtin "max") rMaxA := call_max2 hc
def rTupA (K : PySem.W.Frag) : List V → Hp → VK → Prop := fun xs H Q => ∃ p ys, xs = [.ref p] ∧ ((SqL K H p ys ∧ ∀ l, H l = none → Q (.ref l) (upd H l (.tup ys))) ∨ (SqT K H p ys ∧ Q (.ref p) H))
theorem call_tupA : CallR X (.type "tuple") (rTupA X.K) := call_tuple_of
def rJoinA (K : PySem.W.Frag) : V → List V → Hp → VK → Prop := fun x xs H Q => ∃ a p, ∃ ys : List Str, x = .str a ∧ xs = [.ref p] ∧ (SqL K H p (ys.map V.str) ∨ SqT K H p (ys.map V.str)) ∧ (ys.map (·.length)).sum + ys.length * a.length ≤ 16777216 ∧ Q (.str (Txt.join a ys)) H
theorem mt_joinA : MtR X "str.join" (rJoinA X.K) := mt_join
def rIsNA : R2 := fun x y H Q => y = .non ∧ Q (.bl (decide (x = .non))) H
theorem op_isNA : OpR X (compareOp .Is) rIsNA := op_isN
def rNotNA : R2 := fun x y H Q => y = .non ∧ Q (.bl (!decide (x = .non))) H
theorem op_notNA : OpR X (compareOp .IsNot) rNotNA := op_notN
end
/-! ### an expression is worth .. -/
section
variable {K : PySem.W.Frag} {H0 : Hp} {S : List SV}
def EvX (H0 : Hp) (S : List SV) (te : TE) (a : AV) : Prop := ∀ σ H, StD H0 H σ S → ∀ Q : VK, (∀ v H', Same H H' → AVok H' v a → Q v H') → te σ H Q
/-- a new list, a new table -/
def EvN (H0 : Hp) (S : List SV) (te : TE) (ds : List D) : Prop := ∀ σ H, StD H0 H σ S → ∀ Q : VK, (∀ p vs H', Same H H' → H p = none → H' p = some (.lst vs) → DVs H' vs ds → Q (.ref p) H') → te σ H Q
def EvNT (H0 : Hp) (S : List SV) (te : TE) (m : List (List D)) : Prop := ∀ σ H, StD H0 H σ S → ∀ Q : VK, (∀ (p : Addr) (rs : List Addr) H', Same H H' → (p :: rs).Nodup → (∀ a ∈ p :: rs, H a = none) → H' p = some (.lst (rs.map V.ref)) → Rws H' rs m → Q (.ref p) H') → te σ H Q
def EvT (H0 : Hp) (S : List SV) (tt : TT) (b : Bool) : Prop := ∀ σ H, StD H0 H σ S → ∀ Q : Bool → Hp → Prop, (∀ H', Same H H' → Q b H') → tt σ H Q
def EvA (H0 : Hp) (S : List SV) (ta : TA) (as : List AV) : Prop := ∀ σ H, StD H0 H σ S → ∀ Q : List V → Hp → Prop, (∀ vs H', Same H H' → AVs H' vs as → Q vs H') → ta σ H Q
/-- data, of which something is told -/
def EvP (H0 : Hp) (S : List SV) (te : TE) (P : D → Prop) : Prop := ∀ σ H, StD H0 H σ S → ∀ Q : VK, (∀ d v H', P d → Same H H' → DV H' v d → Q v H') → te σ H Q
def EvO (H0 : Hp) (S : List SV) (to : TO) (o : Option Int) : Prop := ∀ σ H, StD H0 H σ S → ∀ Q : Option Int → Hp → Prop, (∀ H', Same H H' → Q o H') → to σ H Q
theorem EvN.x {te : TE} {ds : List D} (h : EvN H0 S te ds) : EvX H0 S te (.lst ds) := fun σ H hs Q q => h σ H hs Q fun p vs H' e _ h1 h2 => q _ H' e ⟨p, vs, rfl, h1, h2⟩
theorem EvNT.x {te : TE} {m : List (List D)} (h : EvNT H0 S te m) : EvX H0 S te (.tab m) := fun σ H hs Q q => h σ H hs Q fun p rs H' e _ _ h1 h2 => q _ H' e ⟨p, rs, rfl, h1, h2⟩
theorem EvX.p {te : TE} {d : D} {P : D → Prop} (h : EvX H0 S te (.dat d)) (hp : P d) : EvP H0 S te P := fun σ H hs Q q => h σ H hs Q fun v H' e hv => q d v H' hp e hv
theorem EvX.is {te : TE} {a b : AV} (h : EvX H0 S te a) (e : a = b) : EvX H0 S te b := e ▸ h
theorem x_var {i : Nat} {x : SV} {a : AV} (h : S[i]? = some x) (ha : x.av = some a) : EvX H0 S (tVar i) a := fun σ H hs Q q => by
  obtain ⟨v, h1, h2⟩ := hs.get h ha
  exact ⟨v, h1, q v H (Same.refl H) h2⟩
theorem x_vd {i : Nat} {d : D} (h : S[i]? = some (.dat d)) : EvX H0 S (tVar i) (.dat d) := x_var h rfl
theorem x_vo {i : Nat} {d : List D} (h : S[i]? = some (.own d)) : EvX H0 S (tVar i) (.lst d) := x_var h rfl
theorem x_vl {i : Nat} {d : List D} (h : S[i]? = some (.lst d)) : EvX H0 S (tVar i) (.lst d) := x_var h rfl
theorem x_vt {i : Nat} {d : List (List D)} (h : S[i]? = some (.tab d)) : EvX H0 S (tVar i) (.tab d) := x_var h rfl
theorem x_vot {i : Nat} {d : List (List D)} (h : S[i]? = some (.otab d)) : EvX H0 S (tVar i) (.tab d) := x_var h rfl
theorem x_vv {i : Nat} {d : V} (h : S[i]? = some (.val d)) : EvX H0 S (tVar i) (.val d) := x_var h rfl
theorem x_ci {i : Int} : EvX H0 S (tC (.int i)) (.dat (.int i)) := fun σ H hs Q q => q _ H (Same.refl H) rfl
theorem x_cs {s : Str} : EvX H0 S (tC (.str s)) (.dat (.str s)) := fun σ H hs Q q => q _ H (Same.refl H) rfl
theorem x_cn : EvX H0 S (tC .non) (.dat .non) := fun σ H hs Q q => q _ H (Same.refl H) rfl
theorem x_cb {b : Bool} : EvX H0 S (tC (.bl b)) (.val (.bl b)) := fun σ H hs Q q => q _ H (Same.refl H) rfl
theorem x_cv {v : V} : EvX H0 S (tC v) (.val v) := fun σ H hs Q q => q _ H (Same.refl H) rfl
/-- two operands -/
theorem x_op2 {r : R2} {ta tb : TE} {a b c : AV} (ha : EvX H0 S ta a) (hb : EvX H0 S tb b) (hr : ∀ v u H Q, AVok H v a → AVok H u b → (∀ w H', Same H H' → AVok H' w c → Q w H') → r v u H Q) : EvX H0 S (tOp r ta tb) c := fun σ H hs Q q =>
  ha σ H hs _ fun v H1 e1 h1 => hb σ H1 (hs.grow e1) _ fun u H2 e2 h2 => hr v u H2 Q (h1.mono e2) h2 fun w H3 e3 h3 => q w H3 ((e1.trans e2).trans e3) h3
theorem n_op2 {r : R2} {ta tb : TE} {a b : AV} {ds : List D} (ha : EvX H0 S ta a) (hb : EvX H0 S tb b) (hr : ∀ v u H Q, AVok H v a → AVok H u b → (∀ p vs H', Same H H' → H p = none → H' p = some (.lst vs) → DVs H' vs ds → Q (.ref p) H') → r v u H Q) : EvN H0 S (tOp r ta tb) ds := fun σ H hs Q q =>
  ha σ H hs _ fun v H1 e1 h1 => hb σ H1 (hs.grow e1) _ fun u H2 e2 h2 => hr v u H2 Q (h1.mono e2) h2 fun p vs H3 e3 n h3 h4 => q p vs H3 ((e1.trans e2).trans e3) ((e1.trans e2).free n) h3 h4
theorem x_int2 {g : Int → Int → V} {ta tb : TE} {i j : Int} {c : AV} (hc : ∀ H, AVok H (g i j) c) (ha : EvX H0 S ta (.dat (.int i))) (hb : EvX H0 S tb (.dat (.int j))) : EvX H0 S (tOp (rI0 g) ta tb) c :=
  x_op2 ha hb fun v u H Q h1 h2 q => ⟨i, j, h1, h2, q _ H (Same.refl H) (hc H)⟩
theorem x_intC {C : Int → Int → Prop} {g : Int → Int → V} {ta tb : TE} {i j : Int} {c : AV} (hc : ∀ H, AVok H (g i j) c) (hC : C i j) (ha : EvX H0 S ta (.dat (.int i))) (hb : EvX H0 S tb (.dat (.int j))) : EvX H0 S (tOp (rI C g) ta tb) c :=
  x_op2 ha hb fun v u H Q h1 h2 q => ⟨i, j, h1, h2, hC, q _ H (Same.refl H) (hc H)⟩
theorem x_sub {ta tb : TE} {i j : Int} (ha : EvX H0 S ta (.dat (.int i))) (hb : EvX H0 S tb (.dat (.int j))) : EvX H0 S (tOp (rI0 fun i j => .int (i - j)) ta tb) (.dat (.int (i - j))) := x_int2 (fun _ => rfl) ha hb
theorem x_mod {ta tb : TE} {i j : Int} (ha : EvX H0 S ta (.dat (.int i))) (hb : EvX H0 S tb (.dat (.int j))) (hj : 0 < j) : EvX H0 S (tOp (rI (fun _ j => 0 < j) fun i j => .int (i % j)) ta tb) (.dat (.int (i % j))) := x_intC (fun _ => rfl) hj ha hb
theorem x_div {ta tb : TE} {i j : Int} (ha : EvX H0 S ta (.dat (.int i))) (hb : EvX H0 S tb (.dat (.int j))) (hj : CDiv i j) : EvX H0 S (tOp (rI CDiv fun i j => .int (i / j)) ta tb) (.dat (.int (i / j))) := x_intC (fun _ => rfl) hj ha hb
theorem x_addI {ta tb : TE} {i j : Int} (ha : EvX H0 S ta (.dat (.int i))) (hb : EvX H0 S tb (.dat (.int j))) : EvX H0 S (tOp (rAddA K) ta tb) (.dat (.int (i + j))) :=
  x_op2 ha hb fun v u H Q h1 h2 q => .inl ⟨i, j, h1, h2, q _ H (Same.refl H) rfl⟩
theorem x_addS {ta tb : TE} {i j : Str} (ha : EvX H0 S ta (.dat (.str i))) (hb : EvX H0 S tb (.dat (.str j))) (hz : i.length + j.length ≤ sizeLine) : EvX H0 S (tOp (rAddA K) ta tb) (.dat (.str (i ++ j))) :=
  x_op2 ha hb fun v u H Q h1 h2 q => .inr (.inl ⟨i, j, h1, h2, hz, q _ H (Same.refl H) rfl⟩)
theorem x_addT {ta tb : TE} {ds es : List D} (ha : EvX H0 S ta (.dat (.tup ds))) (hb : EvX H0 S tb (.dat (.tup es))) (hz : ds.length + es.length ≤ sizeLine) : EvX H0 S (tOp (rAddA K) ta tb) (.dat (.tup (ds ++ es))) :=
  x_op2 ha hb fun v u H Q h1 h2 q => by
    obtain ⟨a, vs, e1, e2, e3⟩ := h1
    obtain ⟨b, us, f1, f2, f3⟩ := h2
    refine .inr (.inr (.inl ⟨a, b, vs, us, e1, f1, .inl (.inl e2), .inl (.inl f2), by rw [e3.length, f3.length]; exact hz, fun z => ?_, fun _ z => ?_, fun _ _ p hp => ?_⟩))
    · have e : ds = [] := by
        have := e3.length
        rw [z] at this
        exact List.length_eq_zero_iff.mp this.symm
      exact q _ H (Same.refl H) ⟨b, us, rfl, f2, by rw [e]; exact f3⟩
    · have e : es = [] := by
        have := f3.length
        rw [z] at this
        exact List.length_eq_zero_iff.mp this.symm
      exact q _ H (Same.refl H) ⟨a, vs, rfl, e2, by rw [e, List.append_nil]; exact e3⟩
    · have s1 : Same H (upd H p (.tup (vs ++ us))) := fun b o e => by
        rw [upd_ne (ne_of_none e hp)]
        exact e
      exact q _ _ s1 ⟨p, _, rfl, upd_same, (e3.append f3).mono s1⟩
theorem same_new {H : Hp} {p : Addr} {o : HO} (h : H p = none) : Same H (upd H p o) := fun b u e => by
  rw [upd_ne (ne_of_none e h)]
  exact e
theorem n_addL {ta tb : TE} {ds es : List D} (ha : EvX H0 S ta (.lst ds)) (hb : EvX H0 S tb (.lst es)) (hz : ds.length + es.length ≤ sizeLine) : EvN H0 S (tOp (rAddA K) ta tb) (ds ++ es) :=
  n_op2 ha hb fun v u H Q h1 h2 q => by
    obtain ⟨a, vs, e1, e2, e3⟩ := h1
    obtain ⟨b, us, f1, f2, f3⟩ := h2
    exact .inr (.inr (.inr ⟨a, b, vs, us, e1, f1, e2, f2, by rw [e3.length, f3.length]; exact hz, fun p hp => q p _ _ (same_new hp) hp upd_same ((e3.append f3).mono (same_new hp))⟩))
theorem x_mulI {ta tb : TE} {i j : Int} (ha : EvX H0 S ta (.dat (.int i))) (hb : EvX H0 S tb (.dat (.int j))) (hc : CMul i j) : EvX H0 S (tOp rMulA ta tb) (.dat (.int (i * j))) :=
  x_op2 ha hb fun v u H Q h1 h2 q => .inl ⟨i, j, h1, h2, hc, q _ H (Same.refl H) rfl⟩
theorem x_mulS {ta tb : TE} {i : Str} {j : Int} (ha : EvX H0 S ta (.dat (.str i))) (hb : EvX H0 S tb (.dat (.int j))) (hc : MulOk i j) : EvX H0 S (tOp rMulA ta tb) (.dat (.str (Txt.mul i j))) :=
  x_op2 ha hb fun v u H Q h1 h2 q => .inr (.inl ⟨i, j, h1, h2, hc, q _ H (Same.refl H) rfl⟩)
theorem DVs.rep {H : Hp} {vs : List V} {ds : List D} (h : DVs H vs ds) : ∀ n : Nat, DVs H (List.replicate n vs).flatten (List.replicate n ds).flatten
  | 0 => rfl
  | n + 1 => by
    rw [List.replicate_succ, List.replicate_succ, List.flatten_cons, List.flatten_cons]
    exact h.append (DVs.rep h n)
theorem n_mulL {ta tb : TE} {ds : List D} {j : Int} (ha : EvX H0 S ta (.lst ds)) (hb : EvX H0 S tb (.dat (.int j))) (h1 : -(2 ^ 63) ≤ j) (h2 : j < 2 ^ 63) (hz : ds.length * j.toNat ≤ sizeLine) : EvN H0 S (tOp rMulA ta tb) (List.replicate j.toNat ds).flatten :=
  n_op2 ha hb fun v u H Q k1 k2 q => by
    obtain ⟨a, vs, e1, e2, e3⟩ := k1
    exact .inr (.inr ⟨a, j, vs, e1, k2, e2, h1, h2, by rw [e3.length]; exact hz, fun p hp => q p _ _ (same_new hp) hp upd_same ((e3.rep _).mono (same_new hp))⟩)
theorem x_ltI {ta tb : TE} {i j : Int} (ha : EvX H0 S ta (.dat (.int i))) (hb : EvX H0 S tb (.dat (.int j))) : EvX H0 S (tOp rLtA ta tb) (.val (.bl (decide (i < j)))) :=
  x_op2 ha hb fun v u H Q h1 h2 q => .inl ⟨i, j, h1, h2, q _ H (Same.refl H) rfl⟩
theorem x_ltS {ta tb : TE} {i j : Str} (ha : EvX H0 S ta (.dat (.str i))) (hb : EvX H0 S tb (.dat (.str j))) : EvX H0 S (tOp rLtA ta tb) (.val (.bl (decide (i.cps.toList < j.cps.toList)))) :=
  x_op2 ha hb fun v u H Q h1 h2 q => .inr ⟨i, j, h1, h2, q _ H (Same.refl H) rfl⟩
theorem x_le {ta tb : TE} {i j : Int} (ha : EvX H0 S ta (.dat (.int i))) (hb : EvX H0 S tb (.dat (.int j))) : EvX H0 S (tOp (rI0 fun i j => .bl (decide (i ≤ j))) ta tb) (.val (.bl (decide (i ≤ j)))) := x_int2 (fun _ => rfl) ha hb
theorem x_gt {ta tb : TE} {i j : Int} (ha : EvX H0 S ta (.dat (.int i))) (hb : EvX H0 S tb (.dat (.int j))) : EvX H0 S (tOp (rI0 fun i j => .bl (decide (j < i))) ta tb) (.val (.bl (decide (j < i)))) := x_int2 (fun _ => rfl) ha hb
theorem x_eq {ta tb : TE} {d e : D} (ha : EvX H0 S ta (.dat d)) (hb : EvX H0 S tb (.dat e)) (hd : min d.dep e.dep ≤ 60) : EvX H0 S (tOp (rEqP K) ta tb) (.val (.bl (decide (d = e)))) :=
  x_op2 ha hb fun v u H Q h1 h2 q => ⟨d.toP, e.toP, DV.dp d v h1, DV.dp e u h2, D.can d, D.can e, by rw [D.dep_eq, D.dep_eq]; omega, by rw [D.eqv_dec]; exact q _ H (Same.refl H) rfl⟩
theorem x_ne {ta tb : TE} {d e : D} (ha : EvX H0 S ta (.dat d)) (hb : EvX H0 S tb (.dat e)) (hd : min d.dep e.dep ≤ 60) : EvX H0 S (tOp (rNeP K) ta tb) (.val (.bl (!decide (d = e)))) :=
  x_op2 ha hb fun v u H Q h1 h2 q => ⟨d.toP, e.toP, DV.dp d v h1, DV.dp e u h2, D.can d, D.can e, by rw [D.dep_eq, D.dep_eq]; omega, by rw [D.eqv_dec]; exact q _ H (Same.refl H) rfl⟩
theorem lst_dp {H : Hp} {v : V} {ds : List D} (h : AVok H v (.lst ds)) : Dp K H v (.list (D.toPs ds)) := by
  obtain ⟨a, vs, e1, e2, e3⟩ := h
  rw [e1]
  exact .lst (.inl (.inl e2)) (DVs.dp ds vs e3)
theorem eqv_list (ds es : List D) : PyData.eqv (.list (D.toPs ds)) (.list (D.toPs es)) = decide (ds = es) := by
  simp only [PyData.eqv]
  exact D.eqvs_dec ds es
theorem plain_list (ds : List D) : PyData.plain (.list (D.toPs ds)) = true := by
  simp only [PyData.plain]
  exact D.cans ds
theorem depth_list (ds : List D) : PyData.depth (.list (D.toPs ds)) = D.deps ds + 1 := by
  simp only [PyData.depth]
  rw [D.deps_eq]
theorem x_eqL {ta tb : TE} {d e : List D} (ha : EvX H0 S ta (.lst d)) (hb : EvX H0 S tb (.lst e)) (hd : min (D.deps d) (D.deps e) ≤ 60) : EvX H0 S (tOp (rEqP K) ta tb) (.val (.bl (decide (d = e)))) :=
  x_op2 ha hb fun v u H Q h1 h2 q => ⟨_, _, lst_dp h1, lst_dp h2, plain_list d, plain_list e, by rw [depth_list, depth_list]; omega, by rw [eqv_list]; exact q _ H (Same.refl H) rfl⟩
theorem x_neL {ta tb : TE} {d e : List D} (ha : EvX H0 S ta (.lst d)) (hb : EvX H0 S tb (.lst e)) (hd : min (D.deps d) (D.deps e) ≤ 60) : EvX H0 S (tOp (rNeP K) ta tb) (.val (.bl (!decide (d = e)))) :=
  x_op2 ha hb fun v u H Q h1 h2 q => ⟨_, _, lst_dp h1, lst_dp h2, plain_list d, plain_list e, by rw [depth_list, depth_list]; omega, by rw [eqv_list]; exact q _ H (Same.refl H) rfl⟩
theorem any_toPs (ds : List D) (d : D) : ((D.toPs ds).any fun z => PyData.eqv z d.toP) = decide (d ∈ ds) := by
  rw [D.toPs_map, List.any_map]
  by_cases h : d ∈ ds
  · rw [decide_eq_true h]
    exact List.any_eq_true.mpr ⟨d, h, (D.eqv d d).mpr rfl⟩
  · rw [decide_eq_false h]
    cases q : ds.any ((fun z => PyData.eqv z d.toP) ∘ D.toP) with
    | false => rfl
    | true =>
      obtain ⟨z, h1, h2⟩ := List.any_eq_true.mp q
      exact absurd ((D.eqv z d).mp h2 ▸ h1) h
theorem x_inT {ta tb : TE} {d : D} {ds : List D} (ha : EvX H0 S ta (.dat d)) (hb : EvX H0 S tb (.dat (.tup ds))) (hd : min (D.deps ds) d.dep ≤ 60) : EvX H0 S (tOp (rInP K false) ta tb) (.val (.bl (decide (d ∈ ds)))) :=
  x_op2 ha hb fun v u H Q h1 h2 q => ⟨d.toP, D.toPs ds, DV.dp d v h1, .inl (DV.dp (.tup ds) u h2), D.can d, D.cans ds, by rw [D.dep_eq, D.deps_eq]; omega, by rw [any_toPs]; exact q _ H (Same.refl H) rfl⟩
theorem x_inL {ta tb : TE} {d : D} {ds : List D} (ha : EvX H0 S ta (.dat d)) (hb : EvX H0 S tb (.lst ds)) (hd : min (D.deps ds) d.dep ≤ 60) : EvX H0 S (tOp (rInP K false) ta tb) (.val (.bl (decide (d ∈ ds)))) :=
  x_op2 ha hb fun v u H Q h1 h2 q => ⟨d.toP, D.toPs ds, DV.dp d v h1, .inr (lst_dp h2), D.can d, D.cans ds, by rw [D.dep_eq, D.deps_eq]; omega, by rw [any_toPs]; exact q _ H (Same.refl H) rfl⟩
theorem x_niL {ta tb : TE} {d : D} {ds : List D} (ha : EvX H0 S ta (.dat d)) (hb : EvX H0 S tb (.lst ds)) (hd : min (D.deps ds) d.dep ≤ 60) : EvX H0 S (tOp (rInP K true) ta tb) (.val (.bl (!decide (d ∈ ds)))) :=
  x_op2 ha hb fun v u H Q h1 h2 q => ⟨d.toP, D.toPs ds, DV.dp d v h1, .inr (lst_dp h2), D.can d, D.cans ds, by rw [D.dep_eq, D.deps_eq]; omega, by rw [any_toPs]; exact q _ H (Same.refl H) rfl⟩
theorem dv_non {H : Hp} {v : V} : ∀ {d : D}, DV H v d → decide (v = .non) = decide (d = .non)
  | .non, h => by
    have h : v = .non := h
    rw [h, decide_eq_true rfl, decide_eq_true rfl]
  | .int i, h => by
    have h : v = .int i := h
    rw [h, decide_eq_false (fun z => nomatch z), decide_eq_false (fun z => nomatch z)]
  | .str i, h => by
    have h : v = .str i := h
    rw [h, decide_eq_false (fun z => nomatch z), decide_eq_false (fun z => nomatch z)]
  | .tup i, h => by
    obtain ⟨a, vs, h, _⟩ := h
    rw [h, decide_eq_false (fun z => nomatch z), decide_eq_false (fun z => nomatch z)]
theorem x_isN {ta tb : TE} {d : D} (ha : EvX H0 S ta (.dat d)) (hb : EvX H0 S tb (.dat .non)) : EvX H0 S (tOp rIsNA ta tb) (.val (.bl (decide (d = .non)))) :=
  x_op2 ha hb fun v u H Q h1 h2 q => ⟨h2, by rw [dv_non h1]; exact q _ H (Same.refl H) rfl⟩
theorem x_notN {ta tb : TE} {d : D} (ha : EvX H0 S ta (.dat d)) (hb : EvX H0 S tb (.dat .non)) : EvX H0 S (tOp rNotNA ta tb) (.val (.bl (!decide (d = .non)))) :=
  x_op2 ha hb fun v u H Q h1 h2 q => ⟨h2, by rw [dv_non h1]; exact q _ H (Same.refl H) rfl⟩
/-! subscripts and slices -/
theorem x_ixT {ta tb : TE} {ds : List D} {d : D} {i : Int} {k : Nat} (ha : EvX H0 S ta (.dat (.tup ds))) (hb : EvX H0 S tb (.dat (.int i))) (hi : i = (k : Int)) (hd : ds[k]? = some d) : EvX H0 S (tOp (rIx K) ta tb) (.dat d) :=
  x_op2 ha hb fun v u H Q h1 h2 q => by
    obtain ⟨a, vs, e1, e2, e3⟩ := h1
    obtain ⟨w, g1, g2⟩ := e3.get hd
    exact .inr (.inl ⟨a, vs, i, w, e1, h2, .inl (.inl e2), by rw [hi]; exact atI_nat g1, q _ H (Same.refl H) g2⟩)
theorem x_ixL {ta tb : TE} {ds : List D} {d : D} {i : Int} {k : Nat} (ha : EvX H0 S ta (.lst ds)) (hb : EvX H0 S tb (.dat (.int i))) (hi : i = (k : Int)) (hd : ds[k]? = some d) : EvX H0 S (tOp (rIx K) ta tb) (.dat d) :=
  x_op2 ha hb fun v u H Q h1 h2 q => by
    obtain ⟨a, vs, e1, e2, e3⟩ := h1
    obtain ⟨w, g1, g2⟩ := e3.get hd
    exact .inl ⟨a, vs, i, w, e1, h2, .inl (.inl e2), by rw [hi]; exact atI_nat g1, q _ H (Same.refl H) g2⟩
theorem x_ixR {ta tb : TE} {m : List (List D)} {row : List D} {i : Int} {k : Nat} (ha : EvX H0 S ta (.tab m)) (hb : EvX H0 S tb (.dat (.int i))) (hi : i = (k : Int)) (hd : m[k]? = some row) : EvX H0 S (tOp (rIx K) ta tb) (.lst row) :=
  x_op2 ha hb fun v u H Q h1 h2 q => by
    obtain ⟨a, rs, e1, e2, e3⟩ := h1
    obtain ⟨r, vs, g1, g2, g3⟩ := e3.get hd
    exact .inl ⟨a, _, i, .ref r, e1, h2, .inl (.inl e2), by rw [hi]; exact atI_nat (by rw [List.getElem?_map, g1]; rfl), q _ H (Same.refl H) ⟨r, vs, rfl, g2, g3⟩⟩
theorem x_ixS {ta tb : TE} {s : Str} {c : Nat} {i : Int} {k : Nat} (ha : EvX H0 S ta (.dat (.str s))) (hb : EvX H0 S tb (.dat (.int i))) (hi : i = (k : Int)) (hz : s.length ≤ sizeLine) (hd : s.cps.toList[k]? = some c) : EvX H0 S (tOp (rIx K) ta tb) (.dat (.str ⟨#[c]⟩)) :=
  x_op2 ha hb fun v u H Q h1 h2 q => .inr (.inr ⟨s, i, c, h1, h2, hz, by rw [hi]; exact atI_nat hd, q _ H (Same.refl H) rfl⟩)
theorem o_no : EvO H0 S tNoPart none := fun σ H hs Q q => q H (Same.refl H)
theorem o_some {te : TE} {i : Int} (h : EvX H0 S te (.dat (.int i))) : EvO H0 S (tPart te) (some i) := fun σ H hs Q q => h σ H hs _ fun v H' e hv => ⟨i, hv, q H' e⟩
def cutD (xs : List D) (lo hi : Option Int) : List D := (xs.drop (HT.sIx xs.length 0 lo)).take (HT.sIx xs.length xs.length hi - HT.sIx xs.length 0 lo)
theorem DVs.cut {H : Hp} {vs : List V} {ds : List D} (h : DVs H vs ds) (lo hi : Option Int) : DVs H (cutV vs lo hi) (cutD ds lo hi) := by
  unfold cutV cutD
  rw [h.length]
  exact (h.drop _).take _
theorem x_slT {ta : TE} {tl th : TO} {ds : List D} {lo hi : Option Int} (ha : EvX H0 S ta (.dat (.tup ds))) (hl : EvO H0 S tl lo) (hh : EvO H0 S th hi) : EvX H0 S (L2.tSl (rSlP K) ta tl th) (.dat (.tup (cutD ds lo hi))) := fun σ H hs Q q =>
  ha σ H hs _ fun v H1 e1 h1 => hl σ H1 (hs.grow e1) _ fun H2 e2 => hh σ H2 (hs.grow (e1.trans e2)) _ fun H3 e3 => by
    obtain ⟨a, vs, g1, g2, g3⟩ := h1.mono (e2.trans e3)
    refine .inl ⟨a, vs, g1, .inl (.inl g2), fun z => ?_, fun _ p hp => ?_⟩
    · refine q _ H3 ((e1.trans e2).trans e3) ⟨a, vs, rfl, g2, ?_⟩
      have e : cutV vs lo hi = vs := by
        unfold cutV
        rw [z.1, z.2, List.drop_zero, Nat.sub_zero, List.take_length]
      have := g3.cut lo hi
      rw [e] at this
      exact this
    · exact q _ _ (((e1.trans e2).trans e3).trans (same_new hp)) ⟨p, _, rfl, upd_same, (g3.cut lo hi).mono (same_new hp)⟩
theorem n_slL {ta : TE} {tl th : TO} {ds : List D} {lo hi : Option Int} (ha : EvX H0 S ta (.lst ds)) (hl : EvO H0 S tl lo) (hh : EvO H0 S th hi) : EvN H0 S (L2.tSl (rSlP K) ta tl th) (cutD ds lo hi) := fun σ H hs Q q =>
  ha σ H hs _ fun v H1 e1 h1 => hl σ H1 (hs.grow e1) _ fun H2 e2 => hh σ H2 (hs.grow (e1.trans e2)) _ fun H3 e3 => by
    obtain ⟨a, vs, g1, g2, g3⟩ := h1.mono (e2.trans e3)
    exact .inr (.inl ⟨a, vs, g1, .inl (.inl g2), fun p hp => q p _ _ (((e1.trans e2).trans e3).trans (same_new hp)) (((e1.trans e2).trans e3).free hp) upd_same ((g3.cut lo hi).mono (same_new hp))⟩)
theorem x_slS {ta : TE} {tl th : TO} {s : Str} {lo hi : Option Int} (ha : EvX H0 S ta (.dat (.str s))) (hl : EvO H0 S tl lo) (hh : EvO H0 S th hi) (hz : s.length ≤ sizeLine) : EvX H0 S (L2.tSl (rSlP K) ta tl th) (.dat (.str (cutS s lo hi))) := fun σ H hs Q q =>
  ha σ H hs _ fun v H1 e1 h1 => hl σ H1 (hs.grow e1) _ fun H2 e2 => hh σ H2 (hs.grow (e1.trans e2)) _ fun H3 e3 => .inr (.inr ⟨s, h1, hz, q _ H3 ((e1.trans e2).trans e3) rfl⟩)
theorem cutD_nat (ds : List D) (a b : Nat) : cutD ds (some (a : Int)) (some (b : Int)) = (ds.take b).drop a := by
  unfold cutD
  rw [show HT.sIx ds.length 0 (some (a : Int)) = min a ds.length from HT.sIx_nat ds.length 0 a, show HT.sIx ds.length ds.length (some (b : Int)) = min b ds.length from HT.sIx_nat ds.length ds.length b, List.drop_take]
  by_cases h : a ≤ ds.length
  · rw [Nat.min_eq_left h]
    by_cases h2 : b ≤ ds.length
    · rw [Nat.min_eq_left h2]
    · rw [Nat.min_eq_right (by omega), List.take_of_length_le (by rw [List.length_drop]; omega), List.take_of_length_le (by rw [List.length_drop]; omega)]
  · rw [Nat.min_eq_right (show ds.length ≤ a by omega), List.drop_of_length_le (Nat.le_refl _), List.drop_of_length_le (show ds.length ≤ a by omega), List.take_nil, List.take_nil]
theorem cutD_from (ds : List D) (a : Nat) : cutD ds (some (a : Int)) none = ds.drop a := by
  unfold cutD
  rw [show HT.sIx ds.length 0 (some (a : Int)) = min a ds.length from HT.sIx_nat ds.length 0 a, HT.sIx_none]
  by_cases h : a ≤ ds.length
  · rw [Nat.min_eq_left h, List.take_of_length_le (by rw [List.length_drop]; omega)]
  · rw [Nat.min_eq_right (by omega), List.drop_of_length_le (by omega), List.drop_of_length_le (by omega), List.take_nil]
/-! arguments, displays, calls -/
theorem a_nil : EvA H0 S tNil [] := fun σ H hs Q q => q _ H (Same.refl H) rfl
theorem a_cons {te : TE} {tr : TA} {a : AV} {as : List AV} (h : EvX H0 S te a) (hr : EvA H0 S tr as) : EvA H0 S (tCons te tr) (a :: as) := fun σ H hs Q q =>
  h σ H hs _ fun v H1 e1 h1 => hr σ H1 (hs.grow e1) _ fun vs H2 e2 h2 => q _ H2 (e1.trans e2) ⟨v, vs, rfl, h1.mono e2, h2⟩
theorem AVs.dvs {H : Hp} : ∀ {ds : List D} {vs : List V}, AVs H vs (ds.map AV.dat) → DVs H vs ds
  | [], _, h => h
  | d :: ds, _, h => by
    obtain ⟨v, r, h1, h2, h3⟩ := h
    exact ⟨v, r, h1, h2, AVs.dvs h3⟩
def EvDs (H0 : Hp) (S : List SV) (ta : TA) (ds : List D) : Prop := ∀ σ H, StD H0 H σ S → ∀ Q : List V → Hp → Prop, (∀ vs H', Same H H' → DVs H' vs ds → Q vs H') → ta σ H Q
theorem d_nil : EvDs H0 S tNil [] := fun σ H hs Q q => q _ H (Same.refl H) rfl
theorem d_cons {te : TE} {tr : TA} {d : D} {ds : List D} (h : EvX H0 S te (.dat d)) (hr : EvDs H0 S tr ds) : EvDs H0 S (tCons te tr) (d :: ds) := fun σ H hs Q q =>
  h σ H hs _ fun v H1 e1 h1 => hr σ H1 (hs.grow e1) _ fun vs H2 e2 h2 => q _ H2 (e1.trans e2) ⟨v, vs, rfl, DV.mono e2 h1, h2⟩
theorem x_tup {ta : TA} {ds : List D} (h : EvDs H0 S ta ds) (hz : ds.length ≤ sizeLine) : EvX H0 S (tTup ta) (.dat (.tup ds)) := fun σ H hs Q q =>
  h σ H hs _ fun vs H1 e1 h1 => ⟨by rw [h1.length]; exact hz, fun p hp => q _ _ (e1.trans (same_new hp)) ⟨p, vs, rfl, upd_same, h1.mono (same_new hp)⟩⟩
theorem n_lst {ta : TA} {ds : List D} (h : EvDs H0 S ta ds) (hz : ds.length ≤ sizeLine) : EvN H0 S (tLst ta) ds := fun σ H hs Q q =>
  h σ H hs _ fun vs H1 e1 h1 => ⟨by rw [h1.length]; exact hz, fun p hp => q p vs _ (e1.trans (same_new hp)) (e1.free hp) upd_same (h1.mono (same_new hp))⟩
theorem x_call {sp : Sp} {ta : TA} {E : XK} {as : List AV} {a : AV} (h : EvA H0 S ta as) (hs : ∀ vs H Q, Same H0 H → AVs H vs as → (∀ v H', Same H H' → AVok H' v a → Q v H') → sp vs H Q E) : EvX H0 S (tCall sp [] E ta) a := fun σ H hσ Q q =>
  h σ H hσ _ fun vs H1 e1 h1 => by
    rw [List.append_nil]
    exact hs vs H1 Q (hσ.ex.trans e1) h1 fun v H2 e2 h2 => q v H2 (e1.trans e2) h2
theorem n_call {sp : Sp} {ta : TA} {E : XK} {as : List AV} {ds : List D} (h : EvA H0 S ta as) (hs : ∀ vs H Q, Same H0 H → AVs H vs as → (∀ p us H', Same H H' → H p = none → H' p = some (.lst us) → DVs H' us ds → Q (.ref p) H') → sp vs H Q E) : EvN H0 S (tCall sp [] E ta) ds := fun σ H hσ Q q =>
  h σ H hσ _ fun vs H1 e1 h1 => by
    rw [List.append_nil]
    exact hs vs H1 Q (hσ.ex.trans e1) h1 fun p us H2 e2 n h2 h3 => q p us H2 (e1.trans e2) (e1.free n) h2 h3
theorem nt_call {sp : Sp} {ta : TA} {E : XK} {as : List AV} {m : List (List D)} (h : EvA H0 S ta as) (hs : ∀ vs H Q, Same H0 H → AVs H vs as → (∀ (p : Addr) (rs : List Addr) H', Same H H' → (p :: rs).Nodup → (∀ a ∈ p :: rs, H a = none) → H' p = some (.lst (rs.map V.ref)) → Rws H' rs m → Q (.ref p) H') → sp vs H Q E) : EvNT H0 S (tCall sp [] E ta) m := fun σ H hσ Q q =>
  h σ H hσ _ fun vs H1 e1 h1 => by
    rw [List.append_nil]
    exact hs vs H1 Q (hσ.ex.trans e1) h1 fun p rs H2 e2 k n h2 h3 => q p rs H2 (e1.trans e2) k (fun a ha => e1.free (n a ha)) h2 h3
theorem p_call {sp : Sp} {ta : TA} {E : XK} {as : List AV} {P : D → Prop} (h : EvA H0 S ta as) (hs : ∀ vs H Q, Same H0 H → AVs H vs as → (∀ d v H', P d → Same H H' → DV H' v d → Q v H') → sp vs H Q E) : EvP H0 S (tCall sp [] E ta) P := fun σ H hσ Q q =>
  h σ H hσ _ fun vs H1 e1 h1 => by
    rw [List.append_nil]
    exact hs vs H1 Q (hσ.ex.trans e1) h1 fun d v H2 hp e2 h2 => q d v H2 hp (e1.trans e2) h2
theorem x_cb1 {r : List V → Hp → VK → Prop} {ta : TA} {as : List AV} {a : AV} (h : EvA H0 S ta as) (hr : ∀ vs H Q, AVs H vs as → (∀ v H', Same H H' → AVok H' v a → Q v H') → r vs H Q) : EvX H0 S (tCB r ta) a := fun σ H hs Q q =>
  h σ H hs _ fun vs H1 e1 h1 => hr vs H1 Q h1 fun v H2 e2 h2 => q v H2 (e1.trans e2) h2
theorem n_cb1 {r : List V → Hp → VK → Prop} {ta : TA} {as : List AV} {ds : List D} (h : EvA H0 S ta as) (hr : ∀ vs H Q, AVs H vs as → (∀ p us H', Same H H' → H p = none → H' p = some (.lst us) → DVs H' us ds → Q (.ref p) H') → r vs H Q) : EvN H0 S (tCB r ta) ds := fun σ H hs Q q =>
  h σ H hs _ fun vs H1 e1 h1 => hr vs H1 Q h1 fun p us H2 e2 n h2 h3 => q p us H2 (e1.trans e2) (e1.free n) h2 h3
theorem AVs.one {H : Hp} {vs : List V} {a : AV} (h : AVs H vs [a]) : ∃ v, vs = [v] ∧ AVok H v a := by
  obtain ⟨v, r, h1, h2, h3⟩ := h
  have h3 : r = [] := h3
  exact ⟨v, by rw [h1, h3], h2⟩
theorem AVs.two {H : Hp} {vs : List V} {a b : AV} (h : AVs H vs [a, b]) : ∃ v u, vs = [v, u] ∧ AVok H v a ∧ AVok H u b := by
  obtain ⟨v, r, h1, h2, h3⟩ := h
  obtain ⟨u, h4, h5⟩ := AVs.one h3
  exact ⟨v, u, by rw [h1, h4], h2, h5⟩
theorem AVs.three {H : Hp} {vs : List V} {a b c : AV} (h : AVs H vs [a, b, c]) : ∃ v u w, vs = [v, u, w] ∧ AVok H v a ∧ AVok H u b ∧ AVok H w c := by
  obtain ⟨v, r, h1, h2, h3⟩ := h
  obtain ⟨u, w, h4, h5, h6⟩ := AVs.two h3
  exact ⟨v, u, w, by rw [h1, h4], h2, h5, h6⟩
theorem x_lenT {te : TE} {ds : List D} (h : EvX H0 S te (.dat (.tup ds))) : EvX H0 S (tCB (rLenA K) (tCons te tNil)) (.dat (.int ds.length)) := x_cb1 (a_cons h a_nil) fun vs H Q hv q => by
  obtain ⟨v, e, a, us, e1, e2, e3⟩ := AVs.one hv
  subst e e1
  exact .inl ⟨a, us, rfl, .inr (.inl (.inl e2)), q _ H (Same.refl H) (by rw [← e3.length]; rfl)⟩
theorem x_lenL {te : TE} {ds : List D} (h : EvX H0 S te (.lst ds)) : EvX H0 S (tCB (rLenA K) (tCons te tNil)) (.dat (.int ds.length)) := x_cb1 (a_cons h a_nil) fun vs H Q hv q => by
  obtain ⟨v, e, a, us, e1, e2, e3⟩ := AVs.one hv
  subst e e1
  exact .inl ⟨a, us, rfl, .inl (.inl (.inl e2)), q _ H (Same.refl H) (by rw [← e3.length]; rfl)⟩
theorem x_lenS {te : TE} {s : Str} (h : EvX H0 S te (.dat (.str s))) (hz : s.length ≤ sizeLine) : EvX H0 S (tCB (rLenA K) (tCons te tNil)) (.dat (.int s.length)) := x_cb1 (a_cons h a_nil) fun vs H Q hv q => by
  obtain ⟨v, e, e1⟩ := AVs.one hv
  have e1 : v = .str s := e1
  subst e e1
  exact .inr ⟨s, rfl, hz, q _ H (Same.refl H) rfl⟩
theorem x_intB {te : TE} {b : Bool} (h : EvX H0 S te (.val (.bl b))) : EvX H0 S (tCB rIntA (tCons te tNil)) (.dat (.int (if b then 1 else 0))) := x_cb1 (a_cons h a_nil) fun vs H Q hv q => by
  obtain ⟨v, e, e1⟩ := AVs.one hv
  have e1 : v = .bl b := e1
  subst e e1
  exact .inr ⟨b, rfl, q _ H (Same.refl H) rfl⟩
theorem x_strI {te : TE} {i : Int} (h : EvX H0 S te (.dat (.int i))) (hz : i.natAbs.log2 < 1920) : EvX H0 S (tCB rStrA (tCons te tNil)) (.dat (.str (toString i))) := x_cb1 (a_cons h a_nil) fun vs H Q hv q => by
  obtain ⟨v, e, e1⟩ := AVs.one hv
  have e1 : v = .int i := e1
  subst e e1
  exact ⟨i, rfl, hz, q _ H (Same.refl H) rfl⟩
theorem x_max {ta tb : TE} {i j : Int} (ha : EvX H0 S ta (.dat (.int i))) (hb : EvX H0 S tb (.dat (.int j))) : EvX H0 S (tCB rMaxA (tCons ta (tCons tb tNil))) (.dat (.int (max i j))) := x_cb1 (a_cons ha (a_cons hb a_nil)) fun vs H Q hv q => by
  obtain ⟨v, u, e, e1, e2⟩ := AVs.two hv
  have e1 : v = .int i := e1
  have e2 : u = .int j := e2
  subst e e1 e2
  have e3 : (if j > i then j else i) = max i j := by
    by_cases h : j > i
    · rw [if_pos h]; omega
    · rw [if_neg h]; omega
  exact ⟨i, j, rfl, by rw [e3]; exact q _ H (Same.refl H) rfl⟩
theorem x_tupL {te : TE} {ds : List D} (h : EvX H0 S te (.lst ds)) : EvX H0 S (tCB (rTupA K) (tCons te tNil)) (.dat (.tup ds)) := x_cb1 (a_cons h a_nil) fun vs H Q hv q => by
  obtain ⟨v, e, a, us, e1, e2, e3⟩ := AVs.one hv
  subst e e1
  exact ⟨a, us, rfl, .inl ⟨.inl (.inl e2), fun l hl => q _ _ (same_new hl) ⟨l, us, rfl, upd_same, e3.mono (same_new hl)⟩⟩⟩
theorem x_tupT {te : TE} {ds : List D} (h : EvX H0 S te (.dat (.tup ds))) : EvX H0 S (tCB (rTupA K) (tCons te tNil)) (.dat (.tup ds)) := x_cb1 (a_cons h a_nil) fun vs H Q hv q => by
  obtain ⟨v, e, a, us, e1, e2, e3⟩ := AVs.one hv
  subst e e1
  exact ⟨a, us, rfl, .inr ⟨.inl (.inl e2), q _ _ (Same.refl H) ⟨a, us, rfl, e2, e3⟩⟩⟩
theorem x_sum {te : TE} {ns : List Int} (h : EvX H0 S te (.lst (ns.map D.int))) : EvX H0 S (tCB (rSum K) (tCons te tNil)) (.dat (.int ns.sum)) := x_cb1 (a_cons h a_nil) fun vs H Q hv q => by
  obtain ⟨v, e, a, us, e1, e2, e3⟩ := AVs.one hv
  subst e e1
  exact ⟨a, ns, rfl, .inl (.inl (by rw [e2, e3.ints])), q _ _ (Same.refl H) rfl⟩
theorem x_join {ta tb : TE} {s : Str} {ss : List Str} (ha : EvX H0 S ta (.dat (.str s))) (hb : EvX H0 S tb (.lst (ss.map D.str))) (hz : (ss.map (·.length)).sum + ss.length * s.length ≤ 16777216) : EvX H0 S (tM1 (rJoinA K) ta tb) (.dat (.str (Txt.join s ss))) := fun σ H hs Q q =>
  ha σ H hs _ fun v H1 e1 h1 => ⟨⟨s, h1⟩, hb σ H1 (hs.grow e1) _ fun u H2 e2 h2 => by
    obtain ⟨a, us, g1, g2, g3⟩ := h2
    exact ⟨s, a, ss, h1, by rw [g1], .inl (.inl (.inl (by rw [g2, g3.strs]))), hz, q _ _ (e1.trans e2) rfl⟩⟩
/-- isinstance of data -/
def D.isStr : D → Bool
  | .str _ => true
  | _ => false
def D.isTup : D → Bool
  | .tup _ => true
  | _ => false
/-! tests -/
theorem t_val {te : TE} {b : Bool} (h : EvX H0 S te (.val (.bl b))) : EvT H0 S (tB te) b := fun σ H hs Q q => h σ H hs _ fun v H' e hv => ⟨b, hv, q H' e⟩
theorem t_cmp {te : TE} {b : Bool} (h : EvX H0 S te (.val (.bl b))) : EvT H0 S (tTest te) b := fun σ H hs Q q => h σ H hs _ fun v H' e hv => ⟨b, hv, q H' e⟩
theorem t_and {t u : TT} {a b : Bool} (h : EvT H0 S t a) (h2 : a = true → EvT H0 S u b) : EvT H0 S (tAnd t u) (a && b) := fun σ H hs Q q => h σ H hs _ fun H1 e1 => by
  cases a with
  | true =>
    rw [if_pos rfl]
    exact h2 rfl σ H1 (hs.grow e1) Q fun H2 e2 => q H2 (e1.trans e2)
  | false =>
    rw [if_neg Bool.false_ne_true]
    exact q H1 e1
theorem t_or {t u : TT} {a b : Bool} (h : EvT H0 S t a) (h2 : a = false → EvT H0 S u b) : EvT H0 S (tOr t u) (a || b) := fun σ H hs Q q => h σ H hs _ fun H1 e1 => by
  cases a with
  | true =>
    rw [if_pos rfl]
    exact q H1 e1
  | false =>
    rw [if_neg Bool.false_ne_true]
    exact h2 rfl σ H1 (hs.grow e1) Q fun H2 e2 => q H2 (e1.trans e2)
theorem t_not {t : TT} {a : Bool} (h : EvT H0 S t a) : EvT H0 S (tNot t) (!a) := fun σ H hs Q q => h σ H hs _ fun H1 e1 => q H1 e1
theorem t_is {t : TT} {a b : Bool} (h : EvT H0 S t a) (e : a = b) : EvT H0 S t b := e ▸ h
theorem x_andV {ta tb : TE} {a b : Bool} (h : EvX H0 S ta (.val (.bl a))) (h2 : a = true → EvX H0 S tb (.val (.bl b))) : EvX H0 S (tAndV ta tb) (.val (.bl (a && b))) := fun σ H hs Q q => h σ H hs _ fun v H1 e1 hv => ⟨a, hv, by
  cases a with
  | true =>
    rw [if_pos rfl]
    exact h2 rfl σ H1 (hs.grow e1) Q fun w H2 e2 hw => q w H2 (e1.trans e2) hw
  | false =>
    rw [if_neg Bool.false_ne_true]
    exact q _ H1 e1 rfl⟩
end
end Mw
-- part MwD
set_option maxHeartbeats 4000000
/-! Statements, targets, loops, comprehensions over frames as data. -/
namespace Mw
open PySem PySem.Spec PyProof.Rows L2
section
variable {K : PySem.W.Frag} {H0 : Hp} {S : List SV} {R : V → Hp → Prop} {N : Hp → List SV → Prop}
theorem x_isStr {te : TE} {d : D} (h : EvX H0 S te (.dat d)) : EvX H0 S (tCB (rIsi K) (tCons te (tCons (tC (.ty "str")) tNil))) (.val (.bl d.isStr)) := x_cb1 (a_cons h (a_cons x_cv a_nil)) fun vs H Q hv q => by
  obtain ⟨v, u, e, e1, e2⟩ := AVs.two hv
  have e2 : u = .ty "str" := e2
  subst e e2
  cases d with
  | non =>
    have e1 : v = .non := e1
    subst e1
    exact ⟨_, _, _, _, false, rfl, .ty "str", .base .non, kit_ty (by decide +kernel), q _ H (Same.refl H) rfl⟩
  | int i =>
    have e1 : v = .int i := e1
    subst e1
    exact ⟨_, _, _, _, false, rfl, .ty "str", .base (.int i), kit_ty (by decide +kernel), q _ H (Same.refl H) rfl⟩
  | str i =>
    have e1 : v = .str i := e1
    subst e1
    exact ⟨_, _, _, _, true, rfl, .ty "str", .base (.str i), kit_ty (by decide +kernel), q _ H (Same.refl H) rfl⟩
  | tup i =>
    obtain ⟨a, us, e1, e2, _⟩ := e1
    subst e1
    exact ⟨_, _, _, _, false, rfl, .ty "str", .base (.tup e2), kit_ty (by decide +kernel), q _ H (Same.refl H) rfl⟩
theorem x_isTup {te : TE} {d : D} (h : EvX H0 S te (.dat d)) : EvX H0 S (tCB (rIsi K) (tCons te (tCons (tC (.ty "tuple")) tNil))) (.val (.bl d.isTup)) := x_cb1 (a_cons h (a_cons x_cv a_nil)) fun vs H Q hv q => by
  obtain ⟨v, u, e, e1, e2⟩ := AVs.two hv
  have e2 : u = .ty "tuple" := e2
  subst e e2
  cases d with
  | non =>
    have e1 : v = .non := e1
    subst e1
    exact ⟨_, _, _, _, false, rfl, .ty "tuple", .base .non, kit_ty (by decide +kernel), q _ H (Same.refl H) rfl⟩
  | int i =>
    have e1 : v = .int i := e1
    subst e1
    exact ⟨_, _, _, _, false, rfl, .ty "tuple", .base (.int i), kit_ty (by decide +kernel), q _ H (Same.refl H) rfl⟩
  | str i =>
    have e1 : v = .str i := e1
    subst e1
    exact ⟨_, _, _, _, false, rfl, .ty "tuple", .base (.str i), kit_ty (by decide +kernel), q _ H (Same.refl H) rfl⟩
  | tup i =>
    obtain ⟨a, us, e1, e2, _⟩ := e1
    subst e1
    exact ⟨_, _, _, _, true, rfl, .ty "tuple", .base (.tup e2), kit_ty (by decide +kernel), q _ H (Same.refl H) rfl⟩
/-! ### statements -/
def ExS (H0 : Hp) (R : V → Hp → Prop) (t : TS) (S : List SV) (N : Hp → List SV → Prop) : Prop :=
  ∀ (D : Ends) (σ : L2.St) (H : Hp), StD H0 H σ S → (∀ H1 S' σ' H', Same H0 H1 → N H1 S' → StD H1 H' σ' S' → D.nx σ' H') → (∀ v H', R v H' → D.rt v H') → t D σ H
theorem ExS.run {t : TS} {D : Ends} {σ : L2.St} {H : Hp} (h : ExS H R t S (fun _ _ => False)) (hs : StD H H σ S) (hr : ∀ v H', R v H' → D.rt v H') : t D σ H := h D σ H hs (fun _ _ _ _ _ f _ => f.elim) hr
theorem ExS.imp {t : TS} {N' : Hp → List SV → Prop} (h : ExS H0 R t S N') (k : ∀ H1 S', Same H0 H1 → N' H1 S' → N H1 S') : ExS H0 R t S N := fun D σ H hs hn hr => h D σ H hs (fun H1 S' σ' H' e n hs' => hn H1 S' σ' H' e (k H1 S' e n) hs') hr
theorem s_seq {t u : TS} (h : ExS H0 R t S (fun H1 S' => ExS H1 R u S' fun H2 S'' => N H2 S'')) : ExS H0 R (tSeq t u) S N := fun D σ H hs hn hr => h { D with nx := u D } σ H hs (fun H1 S' σ' H' e hx hs' => hx D σ' H' hs' (fun H2 S2 σ2 H2' e2 n hs2 => hn H2 S2 σ2 H2' (e.trans e2) n hs2) hr) hr
theorem s_cut {t u : TS} (N' : Hp → List SV → Prop) (h : ExS H0 R t S N') (k : ∀ H1 S', Same H0 H1 → N' H1 S' → ExS H1 R u S' N) : ExS H0 R (tSeq t u) S N :=
  s_seq (h.imp fun H1 S' e n => k H1 S' e n)
theorem s_next (h : N H0 S) : ExS H0 R tNext S N := fun D σ H hs hn hr => hn H0 S σ H (Same.refl H0) h hs
theorem s_le {t : TS} {S' : List SV} (l : SLe S S') (h : ExS H0 R t S N) : ExS H0 R t S' N := fun D σ H hs hn hr => h D σ H (hs.le l) hn hr
def SV.of : AV → Option SV
  | .dat d => some (.dat d)
  | .val v => some (.val v)
  | _ => none
theorem s_asg {te : TE} {i : Nat} {d : D} (h : EvX H0 S te (.dat d)) (k : N H0 (S.set i (.dat d))) : ExS H0 R (tAsg te (gName i)) S N := fun D σ H hs hn hr =>
  h σ H hs _ fun v H1 e1 h1 => hn H0 _ _ H1 (Same.refl H0) k (StD.put i (hs.grow e1) ⟨rfl, v, rfl, h1⟩)
theorem s_asgV {te : TE} {i : Nat} {v : V} (h : EvX H0 S te (.val v)) (k : N H0 (S.set i (.val v))) : ExS H0 R (tAsg te (gName i)) S N := fun D σ H hs hn hr =>
  h σ H hs _ fun u H1 e1 h1 => hn H0 _ _ H1 (Same.refl H0) k (StD.put i (hs.grow e1) ⟨rfl, congrArg some h1⟩)
theorem s_asgP {te : TE} {i : Nat} {P : D → Prop} (h : EvP H0 S te P) (k : ∀ d, P d → N H0 (S.set i (.dat d))) : ExS H0 R (tAsg te (gName i)) S N := fun D σ H hs hn hr =>
  h σ H hs _ fun d v H1 hp e1 h1 => hn H0 _ _ H1 (Same.refl H0) (k d hp) (StD.put i (hs.grow e1) ⟨rfl, v, rfl, h1⟩)
theorem s_asgN {te : TE} {i : Nat} {ds : List D} (h : EvN H0 S te ds) (k : N H0 (S.set i (.own ds))) : ExS H0 R (tAsg te (gName i)) S N := fun D σ H hs hn hr =>
  h σ H hs _ fun p vs H1 e1 n h1 h2 => hn H0 _ _ H1 (Same.refl H0) k (StD.putF (F := [p]) i hs e1 (by simp) (fun a ha => by rw [List.mem_singleton.mp ha]; exact n) ⟨p, vs, rfl, rfl, h1, h2⟩)
theorem s_asgNT {te : TE} {i : Nat} {m : List (List D)} (h : EvNT H0 S te m) (k : N H0 (S.set i (.otab m))) : ExS H0 R (tAsg te (gName i)) S N := fun D σ H hs hn hr =>
  h σ H hs _ fun p rs H1 e1 nd n h1 h2 => hn H0 _ _ H1 (Same.refl H0) k (StD.putF (F := p :: rs) i hs e1 nd n ⟨p, rs, rfl, rfl, h1, h2⟩)
theorem s_ret {te : TE} {d : D} (h : EvX H0 S te (.dat d)) (k : ∀ v H', Same H0 H' → DV H' v d → R v H') : ExS H0 R (tRet te) S N := fun D σ H hs hn hr =>
  h σ H hs _ fun v H1 e1 h1 => hr v H1 (k v H1 (hs.ex.trans e1) h1)
theorem s_retV {te : TE} {v : V} (h : EvX H0 S te (.val v)) (k : ∀ H', Same H0 H' → R v H') : ExS H0 R (tRet te) S N := fun D σ H hs hn hr =>
  h σ H hs _ fun u H1 e1 h1 => by
    have h1 : u = v := h1
    rw [h1]
    exact hr v H1 (k H1 (hs.ex.trans e1))
theorem s_retP {te : TE} {P : D → Prop} (h : EvP H0 S te P) (k : ∀ d v H', P d → Same H0 H' → DV H' v d → R v H') : ExS H0 R (tRet te) S N := fun D σ H hs hn hr =>
  h σ H hs _ fun d v H1 hp e1 h1 => hr v H1 (k d v H1 hp (hs.ex.trans e1) h1)
theorem s_retN {te : TE} {ds : List D} (h : EvN H0 S te ds) (k : ∀ p vs H', Same H0 H' → H0 p = none → H' p = some (.lst vs) → DVs H' vs ds → R (.ref p) H') : ExS H0 R (tRet te) S N := fun D σ H hs hn hr =>
  h σ H hs _ fun p vs H1 e1 n h1 h2 => hr _ H1 (k p vs H1 (hs.ex.trans e1) (hs.ex.free n) h1 h2)
/-- an own list handed back -/
theorem s_retO {i : Nat} {ds : List D} (h : S[i]? = some (.own ds)) (k : ∀ p vs H', Same H0 H' → H0 p = none → H' p = some (.lst vs) → DVs H' vs ds → R (.ref p) H') : ExS H0 R (tRet (tVar i)) S N := fun D σ H hs hn hr => by
  obtain ⟨ex, Fs, h1, h2, h3⟩ := id hs
  obtain ⟨o, F, h4, h5, a, vs, h6, h7, h8, h9⟩ := h1.get h
  exact ⟨.ref a, by rw [h4, h7], hr _ H (k a vs H ex (h3 a (mem_flat h5 (by rw [h6]; exact List.mem_cons_self))) h8 h9)⟩
theorem s_retOT {i : Nat} {m : List (List D)} (h : S[i]? = some (.otab m)) (k : ∀ (p : Addr) (rs : List Addr) H', Same H0 H' → (p :: rs).Nodup → (∀ a ∈ p :: rs, H0 a = none) → H' p = some (.lst (rs.map V.ref)) → Rws H' rs m → R (.ref p) H') : ExS H0 R (tRet (tVar i)) S N := fun D σ H hs hn hr => by
  obtain ⟨ex, Fs, h1, h2, h3⟩ := id hs
  obtain ⟨o, F, h4, h5, a, rs, h6, h7, h8, h9⟩ := h1.get h
  refine ⟨.ref a, by rw [h4, h7], hr _ H (k a rs H ex ?_ (fun b hb => h3 b (mem_flat h5 (by rw [h6]; exact hb))) h8 h9)⟩
  rw [← h6]
  exact (List.sublist_flatten_of_mem (List.mem_of_getElem? h5)).nodup h2
theorem s_if {c : TT} {t u : TS} {b : Bool} (h : EvT H0 S c b) (h1 : b = true → ExS H0 R t S N) (h2 : b = false → ExS H0 R u S N) : ExS H0 R (tIfS c t u) S N := fun D σ H hs hn hr =>
  h σ H hs _ fun H1 e1 => by
    cases b with
    | true =>
      rw [if_pos rfl]
      exact h1 rfl D σ H1 (hs.grow e1) hn hr
    | false =>
      rw [if_neg Bool.false_ne_true]
      exact h2 rfl D σ H1 (hs.grow e1) hn hr
theorem s_never : ¬ (∃ σ H, StD H0 H σ S) → ExS H0 R tNever S N := fun k D σ H hs _ _ => (k ⟨σ, H, hs⟩).elim
theorem s_drop {te : TE} {a : AV} (h : EvX H0 S te a) (k : N H0 S) : ExS H0 R (tDrop te) S N := fun D σ H hs hn hr => h σ H hs _ fun v H1 e1 _ => hn H0 S σ H1 (Same.refl H0) k (hs.grow e1)
/-- xs.append(e), xs an own list -/
theorem s_app {i : Nat} {te : TE} {ds : List D} {d : D} (hi : S[i]? = some (.own ds)) (h : EvX H0 S te (.dat d)) (hz : ds.length < sizeLine) (k : N H0 (S.set i (.own (ds ++ [d])))) : ExS H0 R (tDrop (tBM K "list" rAppend (tVar i) (tCons te tNil))) S N := fun D σ H hs hn hr => by
  obtain ⟨a, vs, h1, h2, h3, h4⟩ := StD.mut (es := ds ++ [d]) hs hi
  exact ⟨.ref a, h1, .inl ⟨rfl, vs, .inl (.inl h2)⟩, h σ H hs _ fun v H1 e1 hv => ⟨a, vs, v, rfl, rfl, e1 _ _ h2, by rw [h3.length]; exact hz, hn H0 _ _ _ (Same.refl H0) k (h4 e1 ((h3.mono e1).append (.one hv)))⟩⟩
theorem s_appP {i : Nat} {te : TE} {ds : List D} {P : D → Prop} (hi : S[i]? = some (.own ds)) (h : EvP H0 S te P) (hz : ds.length < sizeLine) (k : ∀ d, P d → N H0 (S.set i (.own (ds ++ [d])))) : ExS H0 R (tDrop (tBM K "list" rAppend (tVar i) (tCons te tNil))) S N := fun D σ H hs hn hr => by
  obtain ⟨a, vs, h1, h2, h3, _⟩ := StD.mut (es := ds) hs hi
  refine ⟨.ref a, h1, .inl ⟨rfl, vs, .inl (.inl h2)⟩, h σ H hs _ fun d v H1 hp e1 hv => ?_⟩
  obtain ⟨a', vs', h1', h2', h3', h4⟩ := StD.mut (es := ds ++ [d]) hs hi
  have ea : a' = a := by
    rw [h1] at h1'
    cases h1'
    rfl
  subst ea
  exact ⟨a', vs', v, rfl, rfl, e1 _ _ h2', by rw [h3'.length]; exact hz, hn H0 _ _ _ (Same.refl H0) (k d hp) (h4 e1 ((h3'.mono e1).append (.one hv)))⟩
/-- xs[i] = e, xs an own list -/
theorem s_setL {i : Nat} {te ti : TE} {ds : List D} {d : D} {z : Int} {j : Nat} (hi : S[i]? = some (.own ds)) (h : EvX H0 S te (.dat d)) (hx : EvX H0 S ti (.dat (.int z))) (hz : z = (j : Int)) (hj : j < ds.length) (k : N H0 (S.set i (.own (ds.set j d)))) : ExS H0 R (tAsg te (gSub (tVar i) ti rSetL)) S N := fun D σ H hs hn hr => by
  obtain ⟨a, vs, h1, h2, h3, h4⟩ := StD.mut (es := ds.set j d) hs hi
  refine h σ H hs _ fun v H1 e1 hv => ⟨.ref a, h1, hx σ H1 (hs.grow e1) _ fun w H2 e2 hw => ⟨a, vs, z, j, rfl, hw, e2 _ _ (e1 _ _ h2), ?_, hn H0 _ _ _ (Same.refl H0) k (h4 (e1.trans e2) (DVs.set (DV.mono e2 hv) j (h3.mono (e1.trans e2))))⟩⟩
  rw [hz, h3.length]
  unfold ixN
  rw [if_pos (by omega), if_pos (by omega)]
  simp
/-- m[i][j] = e, m an own table -/
theorem s_setT {i : Nat} {te ti tj : TE} {m : List (List D)} {row : List D} {d : D} {y z : Int} {n j : Nat} (hi : S[i]? = some (.otab m)) (hm : m[n]? = some row) (h : EvX H0 S te (.dat d)) (hy : EvX H0 S ti (.dat (.int y))) (hx : EvX H0 S tj (.dat (.int z))) (ey : y = (n : Int)) (hz : z = (j : Int)) (hj : j < row.length) (k : N H0 (S.set i (.otab (m.set n (row.set j d))))) :
    ExS H0 R (tAsg te (gSub (tOp (rIx K) (tVar i) ti) tj rSetL)) S N := fun D σ H hs hn hr => by
  obtain ⟨a, rs, r, vs, h1, h2, h3, hl, h4, h5, h6⟩ := StD.mutRow (new := row.set j d) hs hi hm
  refine h σ H hs _ fun v H1 e1 hv => ⟨.ref a, h1, hy σ H1 (hs.grow e1) _ fun w H2 e2 hw => .inl ⟨a, _, y, .ref r, rfl, hw, .inl (.inl ((e1.trans e2) _ _ h2)), by rw [ey]; exact atI_nat (by rw [List.getElem?_map, h3]; rfl), hx σ H2 (hs.grow (e1.trans e2)) _ fun u H3 e3 hu => ⟨r, vs, z, j, rfl, hu, ((e1.trans e2).trans e3) _ _ h4, ?_, hn H0 _ _ _ (Same.refl H0) k (h6 ((e1.trans e2).trans e3) (DVs.set (DV.mono (e2.trans e3) hv) j (h5.mono ((e1.trans e2).trans e3))))⟩⟩⟩
  rw [hz, h5.length]
  unfold ixN
  rw [if_pos (by omega), if_pos (by omega)]
  simp
/-- m[i].append(e), m an own table -/
theorem s_appT {i : Nat} {te ti : TE} {m : List (List D)} {row : List D} {d : D} {y : Int} {n : Nat} (hi : S[i]? = some (.otab m)) (hm : m[n]? = some row) (hy : EvX H0 S ti (.dat (.int y))) (ey : y = (n : Int)) (h : EvX H0 S te (.dat d)) (hz : row.length < sizeLine) (k : N H0 (S.set i (.otab (m.set n (row ++ [d]))))) :
    ExS H0 R (tDrop (tBM K "list" rAppend (tOp (rIx K) (tVar i) ti) (tCons te tNil))) S N := fun D σ H hs hn hr => by
  obtain ⟨a, rs, r, vs, h1, h2, h3, hl, h4, h5, h6⟩ := StD.mutRow (new := row ++ [d]) hs hi hm
  refine ⟨.ref a, h1, hy σ H hs _ fun w H2 e2 hw => .inl ⟨a, _, y, .ref r, rfl, hw, .inl (.inl (e2 _ _ h2)), by rw [ey]; exact atI_nat (by rw [List.getElem?_map, h3]; rfl), .inl ⟨rfl, vs, .inl (.inl (e2 _ _ h4))⟩, h σ H2 (hs.grow e2) _ fun v H3 e3 hv => ⟨r, vs, v, rfl, rfl, (e2.trans e3) _ _ h4, by rw [h5.length]; exact hz, hn H0 _ _ _ (Same.refl H0) k (h6 (e2.trans e3) ((h5.mono (e2.trans e3)).append (.one hv)))⟩⟩⟩
/-- xs.extend(ys), both lists -/
theorem s_ext {i : Nat} {te : TE} {ds es : List D} (hi : S[i]? = some (.own ds)) (h : EvX H0 S te (.lst es)) (hz : ds.length + es.length ≤ sizeLine) (k : N H0 (S.set i (.own (ds ++ es)))) : ExS H0 R (tDrop (tBM K "list" rExtend (tVar i) (tCons te tNil))) S N := fun D σ H hs hn hr => by
  obtain ⟨a, vs, h1, h2, h3, h4⟩ := StD.mut (es := ds ++ es) hs hi
  refine ⟨.ref a, h1, .inl ⟨rfl, vs, .inl (.inl h2)⟩, h σ H hs _ fun v H1 e1 hv => ?_⟩
  obtain ⟨b, us, g1, g2, g3⟩ := hv
  exact ⟨a, b, vs, us, rfl, by rw [g1], e1 _ _ h2, g2, by rw [h3.length, g3.length]; exact hz, hn H0 _ _ _ (Same.refl H0) k (h4 e1 ((h3.mono e1).append g3))⟩
/-! ### targets -/
/-- d put into a target makes S2 of S; js: the slots -/
def EvG (H0 : Hp) (g : TG) (js : List Nat) (d : D) (S S2 : List SV) : Prop := ∀ σ H v, StD H0 H σ S → DV H v d → ∀ Q : L2.St → Hp → Prop, (∀ σ', StD H0 H σ' S2 → (∀ vs : List Nat, (∀ j ∈ js, j ∈ vs) → wipe σ' vs = wipe σ vs) → Q σ' H) → g v σ H Q
theorem wipe_get {σ : L2.St} {i : Nat} : ∀ {vs : List Nat}, (wipe σ vs)[i]? = if i ∈ vs then (σ[i]?).map fun _ => none else σ[i]?
  | [] => by simp [wipe]
  | v :: vs => by
    unfold wipe
    by_cases hi : i = v
    · subst hi
      rw [if_pos List.mem_cons_self]
      cases e : σ[i]? with
      | none =>
        have hl : σ.length ≤ i := List.getElem?_eq_none_iff.mp e
        rw [List.getElem?_eq_none_iff.mpr (by rw [List.length_set, wipe_length]; exact hl)]
        rfl
      | some o =>
        have hl : i < σ.length := (List.getElem?_eq_some_iff.mp e).1
        rw [List.getElem?_set_self (by rw [wipe_length]; exact hl)]
        rfl
    · rw [List.getElem?_set_ne (fun z => hi z.symm), wipe_get]
      by_cases hm : i ∈ vs
      · rw [if_pos hm, if_pos (List.mem_cons_of_mem _ hm)]
      · rw [if_neg hm, if_neg (fun z => (List.mem_cons.mp z).elim hi hm)]
theorem wipe_set {σ : L2.St} {j : Nat} {x : Option V} {vs : List Nat} (h : j ∈ vs) : wipe (σ.set j x) vs = wipe σ vs := by
  apply List.ext_getElem?
  intro i
  rw [wipe_get, wipe_get]
  by_cases hm : i ∈ vs
  · rw [if_pos hm, if_pos hm]
    by_cases e : i = j
    · subst e
      cases q : σ[i]? with
      | none =>
        have hl : σ.length ≤ i := List.getElem?_eq_none_iff.mp q
        rw [List.getElem?_eq_none_iff.mpr (by rw [List.length_set]; exact hl)]
      | some o => rw [List.getElem?_set_self (List.getElem?_eq_some_iff.mp q).1]; rfl
    · rw [List.getElem?_set_ne (fun z => e z.symm)]
  · rw [if_neg hm, if_neg hm, List.getElem?_set_ne (fun z => hm (by rw [← z]; exact h))]
theorem wipe_wipe {σ : L2.St} {vs : List Nat} : wipe (wipe σ vs) vs = wipe σ vs := by
  apply List.ext_getElem?
  intro i
  rw [wipe_get, wipe_get]
  by_cases hm : i ∈ vs
  · rw [if_pos hm, if_pos hm]
    cases q : σ[i]? <;> rfl
  · rw [if_neg hm, if_neg hm]
theorem g_name {j : Nat} {d : D} : EvG H0 (gName j) [j] d S (S.set j (.dat d)) := fun σ H v hs hv Q q =>
  q _ (StD.put (x := .dat d) (o := some v) j hs ⟨rfl, v, rfl, hv⟩) fun vs hvs => wipe_set (hvs j List.mem_cons_self)
/-- names that take data one by one -/
def setAll (S : List SV) : List Nat → List D → List SV
  | j :: js, d :: ds => setAll (S.set j (.dat d)) js ds
  | _, _ => S
def gAll : List Nat → TGs
  | [] => gNil
  | j :: js => gCons (gName j) (gAll js)
theorem gAll_ok : ∀ {js : List Nat} {ds : List D} {S : List SV} {σ : L2.St} {H : Hp} {vs : List V}, js.length = ds.length → StD H0 H σ S → DVs H vs ds → ∀ Q : L2.St → Hp → Prop, (∀ σ', StD H0 H σ' (setAll S js ds) → (∀ ws : List Nat, (∀ j ∈ js, j ∈ ws) → wipe σ' ws = wipe σ ws) → Q σ' H) → gAll js vs σ H Q
  | [], [], S, σ, H, vs, _, hs, hv, Q, q => ⟨hv, q σ hs fun _ _ => rfl⟩
  | j :: js, d :: ds, S, σ, H, vs, hl, hs, hv, Q, q => by
    obtain ⟨v, r, e1, e2, e3⟩ := hv
    refine ⟨v, r, e1, ?_⟩
    show gAll js r (σ.set j (some v)) H Q
    exact gAll_ok (by simpa using hl) (StD.put (x := .dat d) (o := some v) j hs ⟨rfl, v, rfl, e2⟩) e3 Q fun σ' hs' hw => q σ' hs' fun ws hws => by
      rw [hw ws fun i hi => hws i (List.mem_cons_of_mem _ hi), wipe_set (hws j List.mem_cons_self)]
  | [], _ :: _, _, _, _, _, hl, _, _, _, _ => by simp at hl
  | _ :: _, [], _, _, _, _, hl, _, _, _, _ => by simp at hl
theorem g_tup {n : Nat} {js : List Nat} {ds : List D} (hn : ds.length = n) (hl : js.length = ds.length) : EvG H0 (gTup K n (gAll js)) js (.tup ds) S (setAll S js ds) := fun σ H v hs hv Q q => by
  obtain ⟨a, vs, e1, e2, e3⟩ := hv
  exact ⟨a, vs, e1, .inl (.inl e2), by rw [e3.length]; exact hn, gAll_ok hl hs e3 Q q⟩
theorem s_asgG {te : TE} {g : TG} {js : List Nat} {d : D} {S2 : List SV} (h : EvX H0 S te (.dat d)) (hg : EvG H0 g js d S S2) (k : N H0 S2) : ExS H0 R (tAsg te g) S N := fun D σ H hs hn hr =>
  h σ H hs _ fun v H1 e1 h1 => hg σ H1 v (hs.grow e1) h1 _ fun σ' hs' _ => hn H0 S2 σ' H1 (Same.refl H0) k hs'
theorem s_asgGP {te : TE} {g : TG} {js : List Nat} {P : D → Prop} {S2 : D → List SV} (h : EvP H0 S te P) (hg : ∀ d, P d → EvG H0 g js d S (S2 d)) (k : ∀ d, P d → N H0 (S2 d)) : ExS H0 R (tAsg te g) S N := fun D σ H hs hn hr =>
  h σ H hs _ fun d v H1 hp e1 h1 => hg d hp σ H1 v (hs.grow e1) h1 _ fun σ' hs' _ => hn H0 _ σ' H1 (Same.refl H0) (k d hp) hs'
theorem s_par {ta : TA} {i j : Nat} {d e : D} (h : EvDs H0 S ta [d, e]) (k : N H0 ((S.set i (.dat d)).set j (.dat e))) : ExS H0 R (tPar i j ta) S N := fun D σ H hs hn hr =>
  h σ H hs _ fun vs H1 e1 hv => by
    obtain ⟨v, r, g1, g2, w, r', g3, g4, g5⟩ := hv
    have g5 : r' = [] := g5
    exact ⟨v, w, by rw [g1, g3, g5], hn H0 _ _ H1 (Same.refl H0) k (StD.put j (StD.put i (hs.grow e1) ⟨rfl, v, rfl, g2⟩) ⟨rfl, w, rfl, g4⟩)⟩
/-! ### for -/
/-- over the items xs of a tuple -/
theorem s_forT {tl : TE} {g : TG} {tb : TS} {xs : List D} {js : List Nat} (hx : EvX H0 S tl (.dat (.tup xs))) (I : Nat → List SV → Prop) (h0 : I 0 S)
    (hs : ∀ H1, Same H0 H1 → ∀ (i : Nat) x S', xs[i]? = some x → I i S' → ∃ S2, EvG H1 g js x S' S2 ∧ ExS H1 R tb S2 fun _ S3 => I (i + 1) S3) (hd : ∀ H1, Same H0 H1 → ∀ S', I xs.length S' → N H1 S') : ExS H0 R (tFor (iTup K tl) g tb) S N := fun D σ H hσ hn hr =>
  hx σ H hσ _ fun v H' e1 hv => by
    obtain ⟨a, vs, g1, g2, g3⟩ := hv
    obtain ⟨H1, f1, f2, f3, f4, _⟩ := hσ.rebase e1
    refine ⟨a, g1, ⟨vs, .inl (.inl g2)⟩, for_tup (K := K) (a := a) (xs := vs) (fun i σ' H'' => ∃ H2 S', Same H1 H2 ∧ I i S' ∧ StD H2 H'' σ' S') ⟨H1, S, Same.refl _, h0, f3⟩ (fun i σ' H'' _ q => ?_) (fun i x σ' H'' hi q => ?_) fun σ' H'' q => ?_⟩
    · obtain ⟨H2, S', q1, q2, q3⟩ := q
      exact .inl (.inl (q3.ex _ _ (q1 _ _ (f4 _ _ g2))))
    · obtain ⟨H2, S', q1, q2, q3⟩ := q
      obtain ⟨d, k1, k2⟩ := (DVs.ts f4 _ _ g3).at_ hi
      obtain ⟨S2, k3, k4⟩ := hs H2 (f1.trans q1) i d S' k1 q2
      refine k3 σ' H'' x q3 (DV.mono (q1.trans q3.ex) k2) _ fun σ2 hs2 _ => ?_
      exact k4 _ σ2 H'' hs2 (fun H3 S3 σ3 H3' e3 n3 hs3 => ⟨H3, S3, q1.trans e3, n3, hs3⟩) hr
    · obtain ⟨H2, S', q1, q2, q3⟩ := q
      rw [g3.length] at q2
      exact hn H2 S' σ' H'' (f1.trans q1) (hd H2 (f1.trans q1) S' q2) q3
/-- over a new list -/
theorem s_forN {tl : TE} {g : TG} {tb : TS} {xs : List D} {js : List Nat} (hx : EvN H0 S tl xs) (I : Nat → List SV → Prop) (h0 : I 0 S)
    (hs : ∀ H1, Same H0 H1 → ∀ (i : Nat) x S', xs[i]? = some x → I i S' → ∃ S2, EvG H1 g js x S' S2 ∧ ExS H1 R tb S2 fun _ S3 => I (i + 1) S3) (hd : ∀ H1, Same H0 H1 → ∀ S', I xs.length S' → N H1 S') : ExS H0 R (tFor (iList K tl) g tb) S N := fun D σ H hσ hn hr =>
  hx σ H hσ _ fun a vs H' e1 n g2 g3 => by
    obtain ⟨H1, f1, f2, f3, f4, f5⟩ := hσ.rebase e1
    refine ⟨a, rfl, ⟨vs, .inl (.inl g2)⟩, for_list (K := K) (a := a) (xs := vs) (fun i σ' H'' => ∃ H2 S', Same H1 H2 ∧ I i S' ∧ StD H2 H'' σ' S') ⟨H1, S, Same.refl _, h0, f3⟩ (fun i σ' H'' _ q => ?_) (fun i x σ' H'' hi q => ?_) fun σ' H'' q => ?_⟩
    · obtain ⟨H2, S', q1, q2, q3⟩ := q
      exact .inl (.inl (q3.ex _ _ (q1 _ _ (f5 _ _ n g2))))
    · obtain ⟨H2, S', q1, q2, q3⟩ := q
      obtain ⟨d, k1, k2⟩ := (DVs.ts f4 _ _ g3).at_ hi
      obtain ⟨S2, k3, k4⟩ := hs H2 (f1.trans q1) i d S' k1 q2
      refine k3 σ' H'' x q3 (DV.mono (q1.trans q3.ex) k2) _ fun σ2 hs2 _ => ?_
      exact k4 _ σ2 H'' hs2 (fun H3 S3 σ3 H3' e3 n3 hs3 => ⟨H3, S3, q1.trans e3, n3, hs3⟩) hr
    · obtain ⟨H2, S', q1, q2, q3⟩ := q
      rw [g3.length] at q2
      exact hn H2 S' σ' H'' (f1.trans q1) (hd H2 (f1.trans q1) S' q2) q3
/-- over a list that was handed in -/
theorem s_forH {j : Nat} {g : TG} {tb : TS} {xs : List D} {js : List Nat} (hx : S[j]? = some (.lst xs)) (I : Nat → List SV → Prop) (h0 : I 0 S)
    (hs : ∀ H1, Same H0 H1 → ∀ (i : Nat) x S', xs[i]? = some x → I i S' → ∃ S2, EvG H1 g js x S' S2 ∧ ExS H1 R tb S2 fun _ S3 => I (i + 1) S3) (hd : ∀ H1, Same H0 H1 → ∀ S', I xs.length S' → N H1 S') : ExS H0 R (tFor (iList K (tVar j)) g tb) S N := fun D σ H hσ hn hr => by
  obtain ⟨ex, Fs, h1, h2, h3⟩ := id hσ
  obtain ⟨o, F, h4, h5, _, v, h6, a, vs, g1, g2, g3⟩ := h1.get hx
  refine ⟨v, by rw [h4, h6], a, g1, ⟨vs, .inl (.inl (ex _ _ g2))⟩, for_list (K := K) (a := a) (xs := vs) (fun i σ' H'' => ∃ H2 S', Same H0 H2 ∧ I i S' ∧ StD H2 H'' σ' S') ⟨H0, S, Same.refl _, h0, hσ⟩ (fun i σ' H'' _ q => ?_) (fun i x σ' H'' hi q => ?_) fun σ' H'' q => ?_⟩
  · obtain ⟨H2, S', q1, q2, q3⟩ := q
    exact .inl (.inl (q3.ex _ _ (q1 _ _ g2)))
  · obtain ⟨H2, S', q1, q2, q3⟩ := q
    obtain ⟨d, k1, k2⟩ := g3.at_ hi
    obtain ⟨S2, k3, k4⟩ := hs H2 q1 i d S' k1 q2
    refine k3 σ' H'' x q3 (DV.mono (q1.trans q3.ex) k2) _ fun σ2 hs2 _ => ?_
    exact k4 _ σ2 H'' hs2 (fun H3 S3 σ3 H3' e3 n3 hs3 => ⟨H3, S3, q1.trans e3, n3, hs3⟩) hr
  · obtain ⟨H2, S', q1, q2, q3⟩ := q
    rw [g3.length] at q2
    exact hn H2 S' σ' H'' q1 (hd H2 q1 S' q2) q3
/-- for i in range(n), range(a, b) -/
theorem s_forR1 {te : TE} {j : Nat} {tb : TS} {n : Int} (hx : EvX H0 S te (.dat (.int n))) (hn : -(2 ^ 62) ≤ n ∧ n < 2 ^ 62) (I : Nat → List SV → Prop) (h0 : I 0 S)
    (hs : ∀ H1, Same H0 H1 → ∀ (i : Nat) S', i < n.toNat → I i S' → ExS H1 R tb (S'.set j (.dat (.int (i : Int)))) fun _ S3 => I (i + 1) S3) (hd : ∀ H1, Same H0 H1 → ∀ S', I n.toNat S' → N H1 S') : ExS H0 R (tFor (iRng1 (tCons te tNil)) (gName j) tb) S N := fun D σ H hσ hnx hr =>
  hx σ H hσ _ fun v H' e1 hv => by
    have hv : v = .int n := hv
    subst hv
    refine ⟨n, rfl, hn.1, hn.2, for_range (lo := 0) (n := n.toNat) (fun i σ' H'' => ∃ H2 S', Same H0 H2 ∧ I i S' ∧ StD H2 H'' σ' S') ⟨H0, S, Same.refl _, h0, hσ.grow e1⟩ (fun i σ' H'' hi q => ?_) fun σ' H'' q => ?_⟩
    · obtain ⟨H2, S', q1, q2, q3⟩ := q
      have e0 : (0 : Int) + (i : Int) = (i : Int) := Int.zero_add _
      show tb _ (σ'.set j (some (.int ((0 : Int) + (i : Int))))) H''
      rw [e0]
      exact hs H2 q1 i S' hi q2 _ _ H'' (StD.put j q3 ⟨rfl, _, rfl, rfl⟩) (fun H3 S3 σ3 H3' e3 n3 hs3 => ⟨H3, S3, q1.trans e3, n3, hs3⟩) hr
    · obtain ⟨H2, S', q1, q2, q3⟩ := q
      exact hnx H2 S' σ' H'' q1 (hd H2 q1 S' q2) q3
theorem s_forR2 {ta te : TE} {j : Nat} {tb : TS} {a b : Int} (ha : EvX H0 S ta (.dat (.int a))) (hb : EvX H0 S te (.dat (.int b))) (hn : -(2 ^ 62) ≤ a ∧ a < 2 ^ 62 ∧ -(2 ^ 62) ≤ b ∧ b < 2 ^ 62) (I : Nat → List SV → Prop) (h0 : I 0 S)
    (hs : ∀ H1, Same H0 H1 → ∀ (i : Nat) S', i < (b - a).toNat → I i S' → ExS H1 R tb (S'.set j (.dat (.int (a + (i : Int))))) fun _ S3 => I (i + 1) S3) (hd : ∀ H1, Same H0 H1 → ∀ S', I (b - a).toNat S' → N H1 S') : ExS H0 R (tFor (iRng2 (tCons ta (tCons te tNil))) (gName j) tb) S N := fun D σ H hσ hnx hr =>
  ha σ H hσ _ fun v H' e1 hv => hb σ H' (hσ.grow e1) _ fun u H'' e2 hu => by
    have hv : v = .int a := hv
    have hu : u = .int b := hu
    subst hv hu
    refine ⟨a, b, rfl, hn, for_range (lo := a) (n := (b - a).toNat) (fun i σ' H'' => ∃ H2 S', Same H0 H2 ∧ I i S' ∧ StD H2 H'' σ' S') ⟨H0, S, Same.refl _, h0, hσ.grow (e1.trans e2)⟩ (fun i σ' H'' hi q => ?_) fun σ' H'' q => ?_⟩
    · obtain ⟨H2, S', q1, q2, q3⟩ := q
      exact hs H2 q1 i S' hi q2 _ _ H'' (StD.put j q3 ⟨rfl, _, rfl, rfl⟩) (fun H3 S3 σ3 H3' e3 n3 hs3 => ⟨H3, S3, q1.trans e3, n3, hs3⟩) hr
    · obtain ⟨H2, S', q1, q2, q3⟩ := q
      exact hnx H2 S' σ' H'' q1 (hd H2 q1 S' q2) q3
/-- for i in reversed(range(n)): the turn's number is n - 1 - i -/
theorem s_forRev {te : TE} {j : Nat} {tb : TS} {n : Nat} (hx : EvX H0 S te (.dat (.int (n : Int)))) (hn : (n : Int) < 2 ^ 62) (I : Nat → List SV → Prop) (h0 : I 0 S)
    (hs : ∀ H1, Same H0 H1 → ∀ (i : Nat) S', i < n → I i S' → ExS H1 R tb (S'.set j (.dat (.int ((n - 1 - i : Nat) : Int)))) fun _ S3 => I (i + 1) S3) (hd : ∀ H1, Same H0 H1 → ∀ S', I n S' → N H1 S') : ExS H0 R (tFor (iRevR (tRg1 te)) (gName j) tb) S N := fun D σ H hσ hnx hr =>
  hx σ H hσ _ fun v H' e1 hv => by
    have hv : v = .int (n : Int) := hv
    subst hv
    have e0 : ((n : Int) - 0).toNat = n := by omega
    refine ⟨(n : Int), rfl, by omega, by omega, by omega, hn, ?_⟩
    rw [e0]
    refine for_rangeC (lo := 0 + (n : Int) - 1) (c := -1) (n := n) (fun i σ' H'' => ∃ H2 S', Same H0 H2 ∧ I i S' ∧ StD H2 H'' σ' S') ⟨H0, S, Same.refl _, h0, hσ.grow e1⟩ (fun i σ' H'' hi q => ?_) fun σ' H'' q => ?_
    · obtain ⟨H2, S', q1, q2, q3⟩ := q
      have ez : (0 : Int) + (n : Int) - 1 + (i : Nat) * (-1) = ((n - 1 - i : Nat) : Int) := by omega
      rw [ez]
      exact hs H2 q1 i S' hi q2 _ _ H'' (StD.put j q3 ⟨rfl, _, rfl, rfl⟩) (fun H3 S3 σ3 H3' e3 n3 hs3 => ⟨H3, S3, q1.trans e3, n3, hs3⟩) hr
    · obtain ⟨H2, S', q1, q2, q3⟩ := q
      exact hnx H2 S' σ' H'' q1 (hd H2 q1 S' q2) q3
/-- while -/
theorem s_while {c : TT} {tb : TS} (I : Nat → List SV → Prop) (m0 : Nat) (h0 : I m0 S)
    (hs : ∀ H1, Same H0 H1 → ∀ m S', I m S' → ∃ b, EvT H1 S' c b ∧ (b = true → ExS H1 R tb S' fun _ S3 => ∃ m', m' < m ∧ I m' S3) ∧ (b = false → N H1 S')) : ExS H0 R (tWhile c tb) S N := fun D σ H hσ hn hr =>
  ⟨fun m σ' H' => ∃ H1 S', Same H0 H1 ∧ I m S' ∧ StD H1 H' σ' S', ⟨m0, H0, S, Same.refl _, h0, hσ⟩, fun m σ' H' q => by
    obtain ⟨H1, S', q1, q2, q3⟩ := q
    obtain ⟨b, k1, k2, k3⟩ := hs H1 q1 m S' q2
    refine k1 σ' H' q3 _ fun H2 e2 => ?_
    cases b with
    | true =>
      rw [if_pos rfl]
      refine ⟨fun σ2 H2 => ∃ m', m' < m ∧ ∃ H3 S3, Same H0 H3 ∧ I m' S3 ∧ StD H3 H2 σ2 S3, fun σ2 H2 z => z, ?_⟩
      exact k2 rfl _ σ' H2 (q3.grow e2) (fun H3 S3 σ3 H3' e3 n3 hs3 => by
        obtain ⟨m', l, n4⟩ := n3
        exact ⟨m', l, H3, S3, q1.trans e3, n4, hs3⟩) hr
    | false =>
      rw [if_neg Bool.false_ne_true]
      exact hn H1 S' σ' H2 q1 (k3 rfl) (q3.grow e2)⟩
/-! ### comprehensions -/
def wipeS (S : List SV) : List Nat → List SV
  | [] => S
  | v :: vs => (wipeS S vs).set v .no
theorem StD.wipe {H : Hp} {σ : L2.St} (h : StD H0 H σ S) : ∀ vs : List Nat, StD H0 H (L2.wipe σ vs) (wipeS S vs)
  | [] => h
  | v :: vs => StD.put v (StD.wipe h vs) rfl
/-- what a turn of a comprehension does -/
def Turn1 (H0 : Hp) (S : List SV) (vs : List Nat) (g : TG) (tt : TT) (te : TE) (x : D) (b : Bool) (y : D) : Prop :=
  ∃ js S2, EvG H0 g js x (wipeS S vs) S2 ∧ (∀ j ∈ js, j ∈ vs) ∧ EvT H0 S2 tt b ∧ (b = true → EvX H0 S2 te (.dat y))
/-- over the items of a tuple (a list): what stays, what becomes of it -/
theorem lc_core1 {it : It} {g : TG} {tt : TT} {te : TE} {vs : List Nat} {xs : List D} {us : List V} {p : D → Bool} {f : D → D} {σ : L2.St} {H H1 : Hp} (hz : xs.length ≤ 16777216)
    (hσ : StD H0 H σ S) (e1 : Same H H1) (hv : DVs H1 us xs)
    (goes : ∀ H2, Same H1 H2 → ∀ i, i < us.length → it.go i H2 ∧ ∀ x H3, it.yld i H2 x H3 → H3 = H2 ∧ us[i]? = some x) (stop : ∀ H2, Same H1 H2 → it.stop us.length H2)
    (ht : ∀ (i : Nat) x, xs[i]? = some x → Turn1 H0 S vs g tt te x (p x) (f x)) (Q : V → Hp → Prop) (q : ∀ a ws H', Same H1 H' → H1 a = none → H' a = some (.lst ws) → DVs H' ws ((xs.filter p).map f) → Q (.ref a) H') :
    ∀ D, H1 D = none → ∃ W : Nat → Nat → Hp → Prop, (∃ m, W 0 m (upd H1 D (.lst []))) ∧ ∀ i m H, W i m H →
      (it.stop i H ∧ Q (.ref D) H) ∨ (it.go i H ∧ ∃ Nx : Hp → Prop, (∀ H', Nx H' → ∃ m', m' < m ∧ W (i + 1) m' H') ∧ ∀ x H', it.yld i H x H' → g x (L2.wipe σ vs) H' fun σ2 H2 => L2.wipe σ2 vs = L2.wipe σ vs ∧ tt σ2 H2 fun b H3 =>
        if b = true then te σ2 H3 fun y H4 => ∃ acc, H4 D = some (.lst acc) ∧ acc.length < sizeLine ∧ Nx (upd H4 D (.lst (acc ++ [y]))) else Nx H3) := by
  intro Dl hD
  refine ⟨fun i m H' => m = us.length - i ∧ i ≤ us.length ∧ Same H1 H' ∧ ∃ acc, H' Dl = some (.lst acc) ∧ DVs H' acc (((xs.take i).filter p).map f), ⟨us.length, rfl, Nat.zero_le _, same_new hD, [], upd_same, rfl⟩, ?_⟩
  rintro i m H' ⟨rfl, hi, s1, acc, hacc, hds⟩
  by_cases hlt : i < us.length
  · obtain ⟨k1, k2⟩ := goes H' s1 i hlt
    refine .inr ⟨k1, fun H' => Same H1 H' ∧ ∃ acc, H' Dl = some (.lst acc) ∧ DVs H' acc (((xs.take (i + 1)).filter p).map f), fun H2 h2 => ⟨us.length - (i + 1), by omega, rfl, hlt, h2⟩, fun x H3 hy => ?_⟩
    obtain ⟨rfl, hx⟩ := k2 x H3 hy
    obtain ⟨d, hd, dv⟩ := hv.at_ hx
    obtain ⟨js, S2, hg, hjs, htt, hte⟩ := ht i d hd
    have hlen : acc.length ≤ i := by
      rw [hds.length, List.length_map]
      exact Nat.le_trans (List.length_filter_le _ _) (by rw [List.length_take]; omega)
    have hil : i < xs.length := (List.getElem?_eq_some_iff.mp hd).1
    have etake : xs.take (i + 1) = xs.take i ++ [d] := by rw [List.take_add_one, hd]; rfl
    have hsw := (StD.wipe (hσ.grow (e1.trans s1)) vs)
    refine hg _ H3 x hsw (DV.mono s1 dv) _ fun σ2 hs2 hw => ⟨by rw [hw vs hjs, wipe_wipe], htt σ2 H3 hs2 _ fun H4 e4 => ?_⟩
    cases hp : p d with
    | true =>
      rw [if_pos rfl]
      refine hte hp σ2 H4 (hs2.grow e4) _ fun v H5 e5 dv5 => ⟨acc, e5 _ _ (e4 _ _ hacc), by rw [sizeLine_eq]; omega, ?_⟩
      have hold : H5 Dl = some (.lst acc) := e5 _ _ (e4 _ _ hacc)
      refine ⟨fun b o z => ?_, acc ++ [v], upd_same, ?_⟩
      · rw [upd_ne (ne_of_none z hD)]
        exact e5 _ _ (e4 _ _ (s1 _ _ z))
      · rw [etake, List.filter_append, List.map_append]
        have ef : ([d].filter p).map f = [f d] := by
          rw [List.filter_cons, if_pos hp]
          rfl
        rw [ef]
        exact DVs.ts (TupS.lst hold) _ _ ((hds.mono (e4.trans e5)).append (.one dv5))
    | false =>
      rw [if_neg Bool.false_ne_true]
      refine ⟨s1.trans e4, acc, e4 _ _ hacc, ?_⟩
      rw [etake, List.filter_append, List.map_append]
      have ef : ([d].filter p).map f = [] := by
        rw [List.filter_cons, if_neg (by rw [hp]; exact Bool.false_ne_true)]
        rfl
      rw [ef, List.append_nil]
      exact hds.mono e4
  · have e : i = us.length := by omega
    subst e
    refine .inl ⟨stop H' s1, q Dl acc H' s1 hD hacc ?_⟩
    rw [List.take_of_length_le (by rw [hv.length]; exact Nat.le_refl _)] at hds
    exact hds
theorem n_lcT {tl : TE} {g : TG} {tt : TT} {te : TE} {vs : List Nat} {xs : List D} (p : D → Bool) (f : D → D) (hx : EvX H0 S tl (.dat (.tup xs))) (hz : xs.length ≤ 16777216)
    (ht : ∀ (i : Nat) x, xs[i]? = some x → Turn1 H0 S vs g tt te x (p x) (f x)) : EvN H0 S (tLc (iTup K tl) g tt te vs) ((xs.filter p).map f) := fun σ H hσ Q q =>
  hx σ H hσ _ fun v H1 e1 hv => by
    obtain ⟨a, us, g1, g2, g3⟩ := hv
    refine ⟨a, g1, ⟨us, .inl (.inl g2)⟩, lc_core1 (it := Itt K a) hz hσ e1 g3 (fun H2 e2 i hi => ⟨⟨us, us[i], .inl (.inl (e2 _ _ g2)), by simp [hi]⟩, fun x H3 hy => ⟨hy.1, hy.2 us (.inl (.inl (e2 _ _ g2)))⟩⟩) (fun H2 e2 => ⟨us, .inl (.inl (e2 _ _ g2)), Nat.le_refl _⟩) ht _ fun b ws H' e n h1 h2 => q b ws H' (e1.trans e) (e1.free n) h1 h2⟩
theorem n_lcL {tl : TE} {g : TG} {tt : TT} {te : TE} {vs : List Nat} {xs : List D} (p : D → Bool) (f : D → D) (hx : EvX H0 S tl (.lst xs)) (hz : xs.length ≤ 16777216)
    (ht : ∀ (i : Nat) x, xs[i]? = some x → Turn1 H0 S vs g tt te x (p x) (f x)) : EvN H0 S (tLc (iList K tl) g tt te vs) ((xs.filter p).map f) := fun σ H hσ Q q =>
  hx σ H hσ _ fun v H1 e1 hv => by
    obtain ⟨a, us, g1, g2, g3⟩ := hv
    refine ⟨a, g1, ⟨us, .inl (.inl g2)⟩, lc_core1 (it := Itl K a) hz hσ e1 g3 (fun H2 e2 i hi => ⟨⟨us, us[i], .inl (.inl (e2 _ _ g2)), by simp [hi]⟩, fun x H3 hy => ⟨hy.1, hy.2 us (.inl (.inl (e2 _ _ g2)))⟩⟩) (fun H2 e2 => ⟨us, .inl (.inl (e2 _ _ g2)), Nat.le_refl _⟩) ht _ fun b ws H' e n h1 h2 => q b ws H' (e1.trans e) (e1.free n) h1 h2⟩
/-- over range(a, b) -/
def intsD (a : Int) (n : Nat) : List D := (List.range n).map fun (i : Nat) => D.int (a + (i : Int))
theorem intsD_get {a : Int} {n i : Nat} (h : i < n) : (intsD a n)[i]? = some (.int (a + (i : Int))) := by
  unfold intsD
  rw [List.getElem?_map, List.getElem?_range h]
  rfl
theorem intsD_dvs {H : Hp} (a : Int) (n : Nat) : DVs H ((List.range n).map fun (i : Nat) => V.int (a + (i : Int))) (intsD a n) := by
  have : ∀ l : List Nat, DVs H (l.map fun (i : Nat) => V.int (a + (i : Int))) (l.map fun (i : Nat) => D.int (a + (i : Int))) := fun l => by
    induction l with
    | nil => rfl
    | cons x l ih => exact ⟨_, _, rfl, rfl, ih⟩
  exact this _
theorem n_lcR1 {tl : TE} {g : TG} {tt : TT} {te : TE} {vs : List Nat} {n : Int} (p : D → Bool) (f : D → D) (hx : EvX H0 S tl (.dat (.int n))) (hn : -(2 ^ 62) ≤ n ∧ n ≤ 16777216)
    (ht : ∀ i : Nat, i < n.toNat → Turn1 H0 S vs g tt te (.int (i : Int)) (p (.int (i : Int))) (f (.int (i : Int)))) : EvN H0 S (tLc (iRng1 (tCons tl tNil)) g tt te vs) (((intsD 0 n.toNat).filter p).map f) := fun σ H hσ Q q =>
  hx σ H hσ _ fun v H1 e1 hv => by
    have hv : v = .int n := hv
    subst hv
    refine ⟨n, rfl, hn.1, by omega, lc_core1 (it := Itr 0 n.toNat) (by unfold intsD; rw [List.length_map, List.length_range]; omega) hσ e1 (intsD_dvs 0 n.toNat) (fun H2 e2 i hi => ?_) (fun H2 e2 => ?_) (fun i x hx => ?_) _ fun b ws H' e n h1 h2 => q b ws H' (e1.trans e) (e1.free n) h1 h2⟩
    · rw [List.length_map, List.length_range] at hi
      refine ⟨hi, fun x H3 hy => ⟨hy.1, ?_⟩⟩
      rw [List.getElem?_map, List.getElem?_range hi, hy.2]
      rfl
    · show n.toNat ≤ _
      rw [List.length_map, List.length_range]
      exact Nat.le_refl _
    · have hi : i < n.toNat := by
        have := (List.getElem?_eq_some_iff.mp hx).1
        unfold intsD at this
        rw [List.length_map, List.length_range] at this
        exact this
      rw [intsD_get hi] at hx
      have e0 : (0 : Int) + (i : Int) = (i : Int) := Int.zero_add _
      rw [e0] at hx
      cases hx
      exact ht i hi
theorem n_lcR2 {ta tl : TE} {g : TG} {tt : TT} {te : TE} {vs : List Nat} {a b : Int} (p : D → Bool) (f : D → D) (ha : EvX H0 S ta (.dat (.int a))) (hx : EvX H0 S tl (.dat (.int b))) (hn : -(2 ^ 62) ≤ a ∧ a < 2 ^ 62 ∧ -(2 ^ 62) ≤ b ∧ b < 2 ^ 62) (hz : (b - a).toNat ≤ 16777216)
    (ht : ∀ i : Nat, i < (b - a).toNat → Turn1 H0 S vs g tt te (.int (a + (i : Int))) (p (.int (a + (i : Int)))) (f (.int (a + (i : Int))))) : EvN H0 S (tLc (iRng2 (tCons ta (tCons tl tNil))) g tt te vs) (((intsD a (b - a).toNat).filter p).map f) := fun σ H hσ Q q =>
  ha σ H hσ _ fun u H1' e1' hu => hx σ H1' (hσ.grow e1') _ fun v H1 e1 hv => by
    have hu : u = .int a := hu
    have hv : v = .int b := hv
    subst hv hu
    refine ⟨a, b, rfl, hn, lc_core1 (it := Itr a (b - a).toNat) (by unfold intsD; rw [List.length_map, List.length_range]; omega) hσ (e1'.trans e1) (intsD_dvs a (b - a).toNat) (fun H2 e2 i hi => ?_) (fun H2 e2 => ?_) (fun i x hx => ?_) _ fun b ws H' e n h1 h2 => q b ws H' ((e1'.trans e1).trans e) ((e1'.trans e1).free n) h1 h2⟩
    · rw [List.length_map, List.length_range] at hi
      refine ⟨hi, fun x H3 hy => ⟨hy.1, ?_⟩⟩
      rw [List.getElem?_map, List.getElem?_range hi, hy.2]
      rfl
    · show (b - a).toNat ≤ _
      rw [List.length_map, List.length_range]
      exact Nat.le_refl _
    · have hi : i < (b - a).toNat := by
        have := (List.getElem?_eq_some_iff.mp hx).1
        unfold intsD at this
        rw [List.length_map, List.length_range] at this
        exact this
      rw [intsD_get hi] at hx
      cases hx
      exact ht i hi
/-- no test -/
theorem t_yes : EvT H0 S tYes true := fun σ H hs Q q => q H (Same.refl H)
theorem filter_all {α : Type} (l : List α) : l.filter (fun _ => true) = l := by
  induction l with
  | nil => rfl
  | cons x l ih => rw [List.filter_cons, if_pos rfl, ih]
theorem EvN.is {te : TE} {a b : List D} (h : EvN H0 S te a) (e : a = b) : EvN H0 S te b := e ▸ h
end
end Mw
-- part MwE
set_option maxHeartbeats 4000000
/-! Defs by their names; the built-ins' names. -/
namespace Mw
open PySem PySem.Spec PyProof.Rows L2
/-- the module's name x is a def that keeps sp -/
def Has (P : Program) (w : World) (K : PySem.W.Frag) (mg : Str → Option Value) (base : Heap) (k : Nat) (x : Str) (ps : List Str) (sp : Sp) : Prop :=
  ∃ f fd, mg x = some (.ref f) ∧ FnOk P w K mg base CX0 k f fd ps sp ∧ PySem.W.keepIn K (.ref f) = true ∧ Binds K fd ps []
theorem pe_has {X : Cx} {k j : Nat} {x : Str} {ps : List Str} {sp : Sp} {e : Expr} {es : List Expr} {t : TA} {p pos : Pos} (G : Has X.prog X.w X.K X.mg X.base k x ps sp) (hr : Room j X.A) (hk : k ≤ j) (hg : Gl X x) (ha : PA X (e :: es) t)
    (hdb : (x == ("__debug__" : Str)) = false := by decide) (he : starEach (e :: es) X.env = (false, eval e X.env) :: starEach es X.env := by rfl) (hpl : (backTo pos (starEach es X.env)).any (·.1) = false := by rfl) : PE X (.Call (.Name x p) (e :: es) [] pos) (tCall sp [] E0 t) := by
  obtain ⟨f, fd, h1, h2, h3, h4⟩ := G
  exact pe_call h2 (hr.mono hk) hg h1 h3 h4 .nil pass0 ha hdb he hpl
/-- a def of the text's top -/
def DefAt (K : PySem.W.Frag) (mg : Str → Option Value) (x : Str) (st : Stmt) : Prop := ∃ f fd, mg x = some (.ref f) ∧ FunD K x x (defArgs st) (defBody st) (defScope st) [] [] f fd
theorem DefAt.has {P : Program} {w : World} {K : PySem.W.Frag} {mg : Str → Option Value} {base : Heap} {x : Str} {st : Stmt} {N ps : List Str} {k : Nat} {sp : Sp} (F : DefAt K mg x st) (S : FnScope N ps (defScope st)) (hb : ∀ (kV doc pm : Value) (an : Option Addr) (cdv ct : Value) (us : List Value), us.length = ps.length → bindArgs (PySem.W.fnOf x x (defArgs st) (defBody st) (defScope st) .none kV doc pm an cdv ct) ⟨us, []⟩ = pure (ps.zip us))
    (len : ∀ vs H Q E, sp vs H Q E → vs.length = ps.length)
    (hbody : ∀ (f : Addr) (cdv : Value) (A : Around) (outer : List Env) (s : Shared) (H : Hp) (vs : List V) (Q : VK) (E : XK), Room k (A.deeper (envOfC x (defScope st) s.heap.objs.size f cdv)) → sp vs H Q E →
      ∃ t, PSs (cxOf CX0 P w K mg base N x (defScope st) f cdv A outer s H E).nox (defBody st) t ∧ t { nx := fun _ H' => Q .non H', rt := Q } (start N vs) H) : Has P w K mg base (k + 1) x ps sp := by
  obtain ⟨f, fd, h1, h2⟩ := F
  exact ⟨f, fd, h1, h2.ok S len (fun cdv A outer s H vs Q E hr h => by
    obtain ⟨t, k1, k2⟩ := hbody f cdv A outer s H vs Q E hr h
    exact ⟨t, k1.nox, k2⟩), h2.kp, h2.bindsN hb⟩
/-- the built-ins' names are nobody's own -/
structure Gs (mg : Str → Option Value) : Prop where
  len : mg "len" = none
  str : mg "str" = none
  isin : mg "isinstance" = none
  range : mg "range" = none
  rev : mg "reversed" = none
  max : mg "max" = none
  sum : mg "sum" = none
  sorted : mg "sorted" = none
  enum : mg "enumerate" = none
  tuple : mg "tuple" = none
  set : mg "set" = none
  dict : mg "dict" = none
  int : mg "int" = none
theorem b_len : bootBuiltins "len" = some (.builtin "len") := PySem.boot_len
theorem b_str : bootBuiltins "str" = some (.type "str") := by decide +kernel
theorem b_tuple : bootBuiltins "tuple" = some (.type "tuple") := by decide +kernel
theorem b_int : bootBuiltins "int" = some (.type "int") := by decide +kernel
theorem b_max : bootBuiltins "max" = some (.builtin "max") := by decide +kernel
theorem b_sum : bootBuiltins "sum" = some (.builtin "sum") := by decide +kernel
theorem b_sorted : bootBuiltins "sorted" = some (.builtin "sorted") := by decide +kernel
theorem b_isin : bootBuiltins "isinstance" = some (.builtin "isinstance") := by decide +kernel
theorem b_set : bootBuiltins "set" = some (.type "set") := by decide +kernel
theorem b_dict : bootBuiltins "dict" = some (.type "dict") := by decide +kernel
theorem AVs.len {H : Hp} {as : List AV} {vs : List V} {n : Nat} (h : AVs H vs as) (e : as.length = n) : vs.length = n := by rw [h.length, e]
/-- from a def's promise to its body by frames -/
theorem ExS.enter {t : TS} {N : List Str} {as : List AV} {vs : List V} {H : Hp} {Q : VK} {S : List SV} (h : AVs H vs as) (eS : as.map AV.sv ++ List.replicate (N.length - as.length) .no = S) (k : ExS H Q t S (fun _ _ => False)) : t { nx := fun _ H' => Q .non H', rt := Q } (start N vs) H :=
  ExS.run k (eS ▸ StD.start h) fun _ _ z => z
/-- a rest of a text without a place -/
def topS (i : Nat) : Stmt := PySem.Challenge.pw_makeswood_k93_whole_joins_against_past.main.body.getD i (.Pass ⟨0, 0, 0, 0⟩)
end Mw
-- part MwS1
set_option maxHeartbeats 4000000
/-! enumerate over a tuple; a tuple behind a list (extend); a list against an empty list. -/
namespace PySem
open AutoSeq1 (wpAny_loadPart')
set_option maxHeartbeats 1000000 in
theorem mw_enum_new {v : Value} {o : Obj} {H : Heap → Prop} (B : Begins v o H) :
    Meets (Builtin.«enumerate.__new__» ⟨[.type "enumerate", v], []⟩) (fun _ R s => H s.heap ∧
      R (.ok (.ret (.ref (s.heap.push o).objs.size))) { s with heap := (s.heap.push o).push { cls := .type "enumerate", data := .fields #[.none, .bool false, .ref s.heap.objs.size, rawInt 0, .none, .none] } }) :=
  .of_wp fun prog w A R s hh => by
    obtain ⟨hp, g, d, tk, os⟩ := s
    obtain ⟨hh1, hh2⟩ := hh
    have hsub := sub_enumerate
    have st : ∀ {A' : Around} {E : Value → Shared → Prop} {Q : Value → Shared → Prop}, Q (.ref hp.objs.size) ⟨hp.push o, g, d, tk, os⟩ → wpAny (model prog w) A' (pyIter v) Q E ⟨hp, g, d, tk, os⟩ :=
      fun q => B.iter prog w _ _ ⟨hp, g, d, tk, os⟩ _ hh1 q
    wp_walk using st
    refine wpAny_stack_any fun stk => wpAny_pure ?_
    split
    · rename_i c _ _ _ _ _
      cases (c == Value.type "enumerate") <;> (wp_walk using st; exact ⟨_, rfl, hh2⟩)
    · wp_walk using st
      exact ⟨_, rfl, hh2⟩
theorem mw_call_enum {prog : Program} {w : World} {A : Around} {E : Value → Shared → Prop} {s : Shared} {v : Value} {o : Obj} {H : Heap → Prop} {Q : Value → Shared → Prop} (B : Begins v o H) (h1 : H s.heap)
    (h : ∀ h', IsEnum h' (s.heap.objs.size + 1) s.heap.objs.size 0 .none → h'.get? s.heap.objs.size = some o → h'.objs.size = s.heap.objs.size + 2 →
      (∀ b o, s.heap.get? b = some o → h'.get? b = some o) → Q (.ref (s.heap.objs.size + 1)) { s with heap := h' }) :
    wpAny (model prog w) A (call (.type "enumerate") [v]) Q E s := by
  refine callType_new F.called_enumerate (by decide) (F.typeCall_enumerate_1 _) (F.newCall_enumerate_1 _) (fun obj => F.args_object_init_2 obj _) F.entry_enumerate_new (mw_enum_new B) ⟨h1, ?_⟩
  have hz : (s.heap.push o).objs.size = s.heap.objs.size + 1 := Heap.size_push ..
  show _ ∧ _
  rw [hz]
  have he : IsEnum ((s.heap.push o).push { cls := .type "enumerate", data := .fields #[.none, .bool false, .ref s.heap.objs.size, rawInt 0, .none, .none] }) (s.heap.objs.size + 1) s.heap.objs.size 0 .none := by
    have z := Heap.get?_push_size (s.heap.push o) (o := { cls := .type "enumerate", data := .fields #[.none, .bool false, .ref s.heap.objs.size, rawInt 0, .none, .none] }) rfl
    rw [hz] at z
    exact z
  refine ⟨⟨_, he, rfl⟩, h _ he (Heap.get?_push_of_some _ (Heap.get?_push_size _ B.free)) ?_ fun b o x => Heap.get?_push_of_some _ (Heap.get?_push_of_some _ x)⟩
  rw [Heap.size_push, hz]
end PySem
namespace Mw
open PySem PySem.Spec PyProof.Rows L2
/-- enumerate over the tuple at a: each item in a new pair -/
def IteT (K : PySem.W.Frag) (a : Addr) : It where
  go := fun i H => ∃ (xs : List V) (x : V), SqT K H a xs ∧ xs[i]? = some x
  yld := fun i H v H' => ∃ T x, v = .ref T ∧ H T = none ∧ H' = upd H T (.tup [.int (i : Nat), x]) ∧ ∀ xs, SqT K H a xs → xs[i]? = some x
  stop := fun i H => ∃ xs : List V, SqT K H a xs ∧ xs.length = i
theorem turn_enumT {P : Program} {w : World} {K : PySem.W.Frag} {elts : List Expr} {kk : Nat} {tpos : Pos} (a e it : Addr) :
    Turn P w K (.Tuple elts kk tpos) (IteT K a) [e, it] e (fun i h => (∃ old, IsEnum h e it ((i : Nat) : Int) old) ∧ h.IsTupleIter it a i ∧ e ≠ it) where
  mem := List.mem_cons_self
  obj := fun i h st b hb => by
    obtain ⟨⟨old, he⟩, ⟨o, ho, hc, hd⟩, _⟩ := st
    have hb' : b = e ∨ b = it := by simpa using hb
    rcases hb' with rfl | rfl
    · exact ⟨_, he, fun v q => nomatch q⟩
    · exact ⟨o, ho, fun v q => by rw [hd] at q; cases q⟩
  keep := fun i h h' st k => let ⟨⟨old, he⟩, hi, hne⟩ := st; ⟨⟨old, k e (by simp) _ he⟩, hi.at fun o q => k it (by simp) o q, hne⟩
  item := by
    intro X hP hw hK hc i pins s σ H E I hf st hg
    subst hP hw hK
    obtain ⟨⟨old, he⟩, hit, hne⟩ := st
    obtain ⟨xs, x, hq, hx⟩ := hg
    obtain ⟨its, rv, p, hz⟩ := I.tuple hq
    obtain ⟨u, hu, ru⟩ := rv.get hx
    have hel : e < s.heap.objs.size := Heap.lt_size he
    have hil : it < s.heap.objs.size := by obtain ⟨_, q, _⟩ := hit; exact Heap.lt_size q
    have nai : a ≠ it := fun z => by
      obtain ⟨o1, q1, q2, _⟩ := p
      obtain ⟨o2, q3, q4, _⟩ := hit
      rw [z, q3] at q1
      cases q1
      rw [q4] at q2
      injection q2 with z2
      exact absurd z2 (by decide)
    have nae : a ≠ e := fun z => by
      obtain ⟨o1, q1, q2, _⟩ := p
      rw [z, he] at q1
      cases q1
      injection q2 with z2
      exact absurd z2 (by decide)
    have hh : X.A.in1.handled = none := I.ok.hd hc
    have hlt : i < its.toArray.size := by
      have z := (List.getElem?_eq_some_iff.mp hu).1
      simpa using z
    refine wpAny_pyNext_enum_itemD (Draws.tuple hh it a nai its.toArray) he ⟨hit, p⟩ hlt hne (by simp [hne, nae.symm]) fun y h' tk hy ho hst hT hsz hk => ?_
    have ey : y = u := by
      have hy : its.toArray[i]? = some y := hy
      have z : its.toArray[i]? = some u := by simpa using hu
      rw [z] at hy
      exact (Option.some.inj hy).symm
    subst ey
    refine ⟨_, rfl, wpAny_letOwnedTupleGo_enum (s := { s with heap := h', toks := tk + 1 }) ho fun h'' he' sb => ?_⟩
    have hT2 : h''.get? s.heap.objs.size = some { cls := .type "tuple", data := .seq #[.int i tk, y] } := (sb.2 _ (Nat.ne_of_gt hel)).trans hT
    have new : ObjOk X.prog X.w (upd H s.heap.objs.size (.tup [.int (i : Nat), x])) h'' s.heap.objs.size (.tup [.int (i : Nat), x]) :=
      ⟨by show 2 ≤ sizeLine; decide, [.int i tk, y], .cons ⟨_, rfl⟩ (.cons ru .nil), ⟨_, hT2, rfl, _, rfl⟩⟩
    have I1 : Inv X pins σ (upd H s.heap.objs.size (.tup [.int (i : Nat), x])) { s with heap := h'', toks := tk + 1 } :=
      I.turnedNew (ch := [e, it]) (fun b ob hb q => (sb.2 b (fun z => hb (by simp [z]))).trans (hk b ob (fun z => hb (by simp [z])) (fun z => hb (by simp [z])) q)) hf (Nat.le_refl _) new
    refine ⟨.ref s.heap.objs.size, _, I1, rfl, ⟨_, x, rfl, I.hok.fresh (Nat.le_refl _), rfl, fun ys hy2 => by rw [I.tuple_inj hy2 hq]; exact hx⟩, ⟨⟨y, ?_⟩, hst.1.at fun o q => (sb.2 it (Ne.symm hne)).trans q, hne⟩, fun b hb => ?_⟩
    · have e1 : ((i + 1 : Nat) : Int) = (i : Int) + 1 := by omega
      rw [e1]
      exact he'
    · have hb' : b = e ∨ b = it := by simpa using hb
      have hbl : b < s.heap.objs.size := by rcases hb' with rfl | rfl <;> assumption
      rw [upd_ne (Nat.ne_of_lt hbl)]
      exact (hf b hb).1
  done := by
    intro X hP hw hK hc i pins s σ H E I hf st hg
    subst hP hw hK
    obtain ⟨⟨old, he⟩, hit, hne⟩ := st
    obtain ⟨xs, hq, hx⟩ := hg
    obtain ⟨its, rv, p, hz⟩ := I.tuple hq
    obtain ⟨f0, f1, f2, f3, f4, f5⟩ := hf it (by simp)
    have nai : a ≠ it := fun z => by
      obtain ⟨o1, q1, q2, _⟩ := p
      obtain ⟨o2, q3, q4, _⟩ := hit
      rw [z, q3] at q1
      cases q1
      rw [q4] at q2
      injection q2 with z2
      exact absurd z2 (by decide)
    have hh : X.A.in1.handled = none := I.ok.hd hc
    have hl := rv.length
    have es : i = its.toArray.size := by simp; omega
    have hit' : s.heap.IsTupleIter it a its.toArray.size := by rw [← es]; exact hit
    have D := Draws.tuple (prog := X.prog) (w := X.w) hh it a nai its.toArray
    exact wpAny_pyNext_enum_endD D he ⟨hit', p⟩ fun h' eb => ⟨rfl, I.turned (t' := s.toks) (fun b o hb q => eb b o hb q) f0 f1 f3 f4 f5⟩
  self := fun A i s Q E st h => let ⟨⟨_, he⟩, _⟩ := st; wpAny_pyIter_enum he h
def iEnumT (K : PySem.W.Frag) (ta : TA) : TI := fun σ H R => ta σ H fun vs H1 => ∃ a xs, vs = [.ref a] ∧ SqT K H1 a xs ∧ R (IteT K a) H1
theorem pi_enumT {X : Cx} {e : Expr} {ta : TA} {p pos tpos : Pos} {elts : List Expr} {kk : Nat} (hg : Gl X "enumerate") (hm : X.mg "enumerate" = none) (ha : PA X [e] ta) (hs : starEach [e] X.env = [(false, eval e X.env)] := by rfl) :
    PI X (.Tuple elts kk tpos) (.Call (.Name "enumerate" p) [e] [] pos) (iEnumT X.K ta) := by
  refine ⟨fun pins s σ H R I h => ?_⟩
  refine Call_ (ld_blt I hg hm boot_enumerate (PyProof.Rows.callWith_type1 (thn (ha.run pos pins s σ H _ I h) fun us s1 ⟨vs, H1, I1, r1, q1⟩ => ?_) hs rfl))
  obtain ⟨a, xs, ex, hq, q⟩ := q1
  subst ex
  cases r1 with
  | cons r rr =>
    cases rr
    cases r
    obtain ⟨its, rv, p', hz⟩ := I1.tuple hq
    refine mw_call_enum (begins_tuple a its.toArray) p' fun h' he hit hsz hk => wpAny_pyIter_enum he ?_
    have I2 : Inv X pins σ H1 { s1 with heap := h' } := I1.kept (t' := s1.toks) hk
    refine ⟨s1.heap.objs.size + 1, [s1.heap.objs.size + 1, s1.heap.objs.size], _, _, H1, rfl, I2, turn_enumT a (s1.heap.objs.size + 1) s1.heap.objs.size, ⟨⟨.none, he⟩, ⟨_, hit, rfl, rfl⟩, Nat.succ_ne_self _⟩, fun b hb => ?_, q⟩
    have hb' : b = s1.heap.objs.size + 1 ∨ b = s1.heap.objs.size := by simpa using hb
    have hle : s1.heap.objs.size ≤ b := by rcases hb' with rfl | rfl <;> omega
    exact I1.fpOk hle (I1.hok.fresh hle)
/-- for k, x in enumerate(t) -/
theorem s_forE {K : PySem.W.Frag} {H0 : Hp} {S : List SV} {R : V → Hp → Prop} {N : Hp → List SV → Prop} {tl : TE} {g : TG} {tb : TS} {xs : List D} {js : List Nat} (hx : EvX H0 S tl (.dat (.tup xs))) (I : Nat → List SV → Prop) (h0 : I 0 S)
    (hs : ∀ H1, Same H0 H1 → ∀ (i : Nat) x S', xs[i]? = some x → I i S' → ∃ S2, EvG H1 g js (.tup [.int (i : Int), x]) S' S2 ∧ ExS H1 R tb S2 fun _ S3 => I (i + 1) S3) (hd : ∀ H1, Same H0 H1 → ∀ S', I xs.length S' → N H1 S') : ExS H0 R (tFor (iEnumT K (tCons tl tNil)) g tb) S N := fun D σ H hσ hn hr =>
  hx σ H hσ _ fun v H' e1 hv => by
    obtain ⟨a, vs, g1, g2, g3⟩ := hv
    obtain ⟨H1, f1, f2, f3, f4, _⟩ := hσ.rebase e1
    refine ⟨a, vs, by rw [g1], .inl (.inl g2), fun i m σ' H'' => m = vs.length - i ∧ i ≤ vs.length ∧ ∃ H2 S', Same H1 H2 ∧ I i S' ∧ StD H2 H'' σ' S', ⟨vs.length, rfl, Nat.zero_le _, H1, S, Same.refl _, h0, f3⟩, ?_⟩
    rintro i m σ' H'' ⟨rfl, hi, H2, S', q1, q2, q3⟩
    have hsq : SqT K H'' a vs := .inl (.inl (q3.ex _ _ (q1 _ _ (f4 _ _ g2))))
    by_cases hlt : i < vs.length
    · refine .inr ⟨⟨vs, vs[i], hsq, by simp [hlt]⟩, fun σ2 H3 => ∃ H4 S3, Same H1 H4 ∧ I (i + 1) S3 ∧ StD H4 H3 σ2 S3, fun σ2 H3 z => ⟨vs.length - (i + 1), by omega, rfl, hlt, z⟩, fun x H3 hy => ?_⟩
      obtain ⟨T, y, rfl, nT, rfl, hy⟩ := hy
      have hi2 := hy vs hsq
      obtain ⟨d, k1, k2⟩ := (DVs.ts f4 _ _ g3).at_ hi2
      obtain ⟨S2, k3, k4⟩ := hs H2 (f1.trans q1) i d S' k1 q2
      have sT : Same H'' (upd H'' T (.tup [.int (i : Nat), y])) := same_new nT
      refine k3 σ' _ _ (q3.grow sT) ⟨T, [.int (i : Int), y], rfl, upd_same, .int (i : Int), [y], rfl, rfl, y, [], rfl, DV.mono ((q1.trans q3.ex).trans sT) k2, rfl⟩ _ fun σ2 hs2 _ => ?_
      exact k4 _ σ2 _ hs2 (fun H3 S3 σ3 H3' e3 n3 hs3 => ⟨H3, S3, q1.trans e3, n3, hs3⟩) hr
    · have e : i = vs.length := by omega
      subst e
      refine .inl ⟨⟨vs, hsq, rfl⟩, ?_⟩
      rw [g3.length] at q2
      exact hn H2 S' σ' H'' (f1.trans q1) (hd H2 (f1.trans q1) S' q2) q3
end Mw
-- part MwP
set_option maxHeartbeats 4000000
/-! What the program computes, in plain Lean: pairs, changes, runs, joins. -/
namespace Mw
open PySem
theorem drop_get {α : Type} {l : List α} {i : Nat} {x : α} (h : l[i]? = some x) : l.drop i = x :: l.drop (i + 1) := by
  obtain ⟨h1, h2⟩ := List.getElem?_eq_some_iff.mp h
  rw [← h2]
  exact List.drop_eq_getElem_cons h1
theorem take_map_get {α β : Type} {l : List α} {i : Nat} {x : α} (f : α → β) (h : l[i]? = some x) : (l.take (i + 1)).map f = (l.take i).map f ++ [f x] := by
  rw [List.take_add_one, h, List.map_append]
  rfl
/-- nothing deep -/
def Low (ds : List D) : Prop := ∀ d ∈ ds, d.dep ≤ 20
theorem Low.tup {ds : List D} (h : Low ds) : (D.tup ds).dep ≤ 21 := by
  have := D.deps_le h
  simp only [D.dep]
  omega
theorem Low.drop {ds : List D} (h : Low ds) (n : Nat) : Low (ds.drop n) := fun d hd => h d (List.mem_of_mem_drop hd)
theorem Low.take {ds : List D} (h : Low ds) (n : Nat) : Low (ds.take n) := fun d hd => h d (List.mem_of_mem_take hd)
theorem Low.append {ds es : List D} (h : Low ds) (k : Low es) : Low (ds ++ es) := fun d hd => (List.mem_append.mp hd).elim (h d) (k d)
theorem low_min {ds : List D} (h : Low ds) (e : D) : min (D.tup ds).dep e.dep ≤ 60 := by
  have := h.tup
  omega
structure Cut where
  a : Nat
  o : List D
  p : List D
abbrev Cut.d (c : Cut) : D := .tup [.int (c.a : Int), .tup c.o, .tup c.p]
abbrev Cut.e (c : Cut) : Nat := c.a + c.o.length
abbrev cutsD (cs : List Cut) : List D := cs.map Cut.d
/-- the most pairs -/
noncomputable def lcs : List D → List D → Nat
  | [], _ => 0
  | _ :: _, [] => 0
  | x :: xs, y :: ys => if x = y then max (max (lcs xs (y :: ys)) (lcs (x :: xs) ys)) (1 + lcs xs ys) else max (lcs xs (y :: ys)) (lcs (x :: xs) ys)
termination_by a b => a.length + b.length
decreasing_by all_goals (simp only [List.length_cons]; omega)
/-- the first place from j on with which x makes many -/
noncomputable def fstK (x : D) (xs : List D) (many : Nat) : List D → Nat → Option Nat
  | [], _ => none
  | y :: ys, j => if x = y ∧ 1 + lcs xs ys = many then some j else fstK x xs many ys (j + 1)
/-- the first pair -/
noncomputable def nxt (many : Nat) (ys : List D) (j : Nat) : List D → Nat → Option (Nat × Nat)
  | [], _ => none
  | x :: xs, i => match fstK x xs many ys j with
    | some k => some (i, k)
    | none => nxt many ys j xs (i + 1)
/-- the pairs -/
noncomputable def prs : List D → Nat → List D → Nat → List (Nat × Nat)
  | [], _, _, _ => []
  | x :: xs, i, ys, j => if lcs (x :: xs) ys = 0 then [] else match fstK x xs (lcs (x :: xs) ys) ys j with
    | some k => (i, k) :: prs xs (i + 1) (ys.drop (k + 1 - j)) (k + 1)
    | none => prs xs (i + 1) ys j
/-- the cuts between pairs -/
def cutIf (A B : List D) (i h j t : Nat) : List Cut := if i < h ∨ j < t then [⟨i, (A.take h).drop i, (B.take t).drop j⟩] else []
def cutsGo (A B : List D) : List (Nat × Nat) → Nat → Nat → List Cut
  | [], _, _ => []
  | (h, t) :: ps, i, j => cutIf A B i h j t ++ cutsGo A B ps (h + 1) (t + 1)
noncomputable def chg (A B : List D) : List Cut := cutsGo A B (prs A 0 B 0 ++ [(A.length, B.length)]) 0 0
/-- what comes of A from p on -/
def lay (A : List D) : List Cut → Nat → List D
  | [], p => A.drop p
  | c :: cs, p => (A.take c.a).drop p ++ c.p ++ lay A cs c.e
/-- what comes of A from p to e -/
def layTo (A : List D) (e : Nat) : List Cut → Nat → List D
  | [], p => (A.take e).drop p
  | c :: cs, p => (A.take c.a).drop p ++ c.p ++ layTo A e cs c.e
/-- cuts that fit A from p on, none meets the next -/
def Fits (A : List D) : Nat → List Cut → Prop
  | _, [] => True
  | p, c :: cs => p ≤ c.a ∧ c.e ≤ A.length ∧ (A.take c.e).drop c.a = c.o ∧ Fits A (c.e + 1) cs
theorem Fits.mono {A : List D} {p q : Nat} : ∀ {cs : List Cut}, Fits A p cs → q ≤ p → Fits A q cs
  | [], _, _ => trivial
  | c :: cs, h, e => ⟨Nat.le_trans e h.1, h.2⟩
def tch (c d : Cut) : Bool := decide (c.a ≤ d.e) && decide (d.a ≤ c.e)
def growI (d : Cut) : Int := (d.p.length : Int) - (d.o.length : Int)
/-- how many items more there are ahead of a -/
def moreI (ds : List Cut) (a : Nat) : Int := ((ds.filter fun d => decide (d.a < a)).map growI).sum
/-- two sides' cuts, rising -/
def mrg : List Cut → List Cut → List (Bool × Cut)
  | [], ds => ds.map fun d => (true, d)
  | c :: cs, [] => (c :: cs).map fun d => (false, d)
  | c :: cs, d :: ds => if c.a < d.a ∨ (c.a = d.a ∧ c.o.length ≤ d.o.length) then (false, c) :: mrg cs (d :: ds) else (true, d) :: mrg (c :: cs) ds
termination_by a b => a.length + b.length
decreasing_by all_goals (simp only [List.length_cons]; omega)
structure RunS where
  b : Nat
  e : Nat
  s : List Cut
  t : List Cut
def RunS.new (a : Nat) : RunS := ⟨a, a, [], []⟩
def RunS.take (r : RunS) (x : Bool × Cut) : RunS := if x.1 then ⟨r.b, max r.e x.2.e, r.s, r.t ++ [x.2]⟩ else ⟨r.b, max r.e x.2.e, r.s ++ [x.2], r.t⟩
def grpGo : RunS → List (Bool × Cut) → List RunS
  | r, [] => [r]
  | r, x :: xs => if r.e < x.2.a then r :: grpGo ((RunS.new x.2.a).take x) xs else grpGo (r.take x) xs
def grp : List (Bool × Cut) → List RunS
  | [] => []
  | x :: xs => grpGo ((RunS.new x.2.a).take x) xs
/-! texts -/
def ltS (a b : Str) : Bool := decide (a.cps.toList < b.cps.toList)
def wText (s : Str) : Str := toString (s.length : Int) ++ ":" ++ s
def wLine : D → Str
  | .str s => wText s
  | _ => ""
def wLines (ds : List D) : Str := "[" ++ Txt.join "" (ds.map wLine) ++ "]"
def wItem : D → Str
  | .str s => wText s
  | .tup [_, .tup b, .tup [.tup o, .tup p]] => "(" ++ Txt.join "|" [wLines b, wLines o, wLines p] ++ ")"
  | _ => ""
def wItems (ds : List D) : Str := "[" ++ Txt.join "" (ds.map wItem) ++ "]"
def wPart : D → Str
  | .non => "-"
  | .str s => wText s
  | _ => ""
def wWhere : D → Str
  | .non => "-"
  | .str s => wText s
  | .tup [_, b, .tup [o, p]] => "(" ++ Txt.join "|" [wPart b, wPart o, wPart p] ++ ")"
  | _ => ""
def iCl (b o p : List D) : D := if ltS (wItems p) (wItems o) then .tup [.str "clash", .tup b, .tup [.tup p, .tup o]] else .tup [.str "clash", .tup b, .tup [.tup o, .tup p]]
def wCl (b o p : D) : D := if ltS (wWhere p) (wWhere o) then .tup [.str "clash", b, .tup [p, o]] else .tup [.str "clash", b, .tup [o, p]]
/-! joins -/
noncomputable def outc (A : List D) (r : RunS) : List D :=
  let one := layTo A r.e r.s r.b
  let oth := layTo A r.e r.t r.b
  if r.t = [] ∨ one = oth then one else if r.s = [] then oth else [iCl ((A.take r.e).drop r.b) one oth]
noncomputable def joinGo (A : List D) : List RunS → Nat → List D
  | [], p => A.drop p
  | r :: rs, p => (A.take r.b).drop p ++ outc A r ++ joinGo A rs r.e
noncomputable def joinI (A B C : List D) : List D := joinGo A (grp (mrg (chg A B) (chg A C))) 0
structure Rw where
  w : D
  i : List D
abbrev Rw.d (x : Rw) : D := .tup [x.w, .tup x.i]
theorem Rw.ext {x y : Rw} (h : x.w = y.w) (k : x.i = y.i) : x = y := by
  cases x; cases y; cases h; cases k; rfl
def Rw.none : Rw := ⟨.non, []⟩
noncomputable def joinW (b o p : D) : D := if o = p ∨ p = b then o else if o = b then p else wCl b o p
noncomputable instance : DecidableEq Rw := fun a b => Classical.propDecidable _
noncomputable def joinR (b o p : Rw) : Rw :=
  if o = p ∨ p = b then o else if o = b then p else if o.w = .non then ⟨wCl b.w .non p.w, p.i⟩ else if p.w = .non then ⟨wCl b.w o.w .non, o.i⟩
  else ⟨joinW b.w o.w p.w, joinI b.i o.i p.i⟩
/-- both have a deed, and one of them makes or takes out the row, or both change the where, or cuts touch -/
noncomputable def touchR (b o p : Rw) : Bool := if o = b ∨ p = b then false else if (b.w = .non ∨ o.w = .non ∨ p.w = .non) ∨ (o.w ≠ b.w ∧ p.w ≠ b.w) then true else (chg b.i o.i).any fun c => (chg b.i p.i).any fun d => tch c d
/-! what stands about in these -/
def Line (d : D) : Prop := ∃ s : Str, d = .str s ∧ s.length ≤ 41
def Lines (ds : List D) : Prop := (∀ d ∈ ds, Line d) ∧ ds.length ≤ 10
def Item (d : D) : Prop := Line d ∨ ∃ b o p, d = .tup [.str "clash", .tup b, .tup [.tup o, .tup p]] ∧ Lines b ∧ Lines o ∧ Lines p
def Items (ds : List D) : Prop := (∀ d ∈ ds, Item d) ∧ ds.length ≤ 60
def Part (d : D) : Prop := d = .non ∨ ∃ s : Str, d = .str s ∧ s.length ≤ 60
def Where (d : D) : Prop := Part d ∨ ∃ b o p, d = .tup [.str "clash", b, .tup [o, p]] ∧ Part b ∧ Part o ∧ Part p
end Mw
-- part MwG
set_option maxHeartbeats 4000000
/-! What a def promises: results as data, as new lists, as new tables. -/
namespace Mw
open PySem PySem.Spec PyProof.Rows L2
section
variable {X : Cx} {K : PySem.W.Frag}
theorem ix_seqK (h : X.K = K) : IxR X (rIx K) := h ▸ ix_seq
theorem op_addK (h : X.K = K) : OpR X (binaryOp .Add) (rAddA K) := h ▸ op_addA
theorem op_eqK (h : X.K = K) (hu : X.A.units + 64 < cLine) : OpR X (compareOp .Eq) (rEqP K) := h ▸ op_eqP hu
theorem op_neK (h : X.K = K) (hu : X.A.units + 64 < cLine) : OpR X (compareOp .NotEq) (rNeP K) := h ▸ op_neP hu
theorem op_inK (h : X.K = K) (hu : X.A.units + 64 < cLine) : OpR X (compareOp .In) (rInP K false) := h ▸ op_inP hu
theorem op_niK (h : X.K = K) (hu : X.A.units + 64 < cLine) : OpR X (compareOp .NotIn) (rInP K true) := h ▸ op_notInP hu
theorem sl_anyK (h : X.K = K) : SlR X (rSlP K) := h ▸ sl_any
theorem call_lenK (h : X.K = K) : CallR X (.builtin "len") (rLenA K) := h ▸ call_lenA
theorem call_tupK (h : X.K = K) : CallR X (.type "tuple") (rTupA K) := h ▸ call_tupA
theorem mt_joinK (h : X.K = K) : MtR X "str.join" (rJoinA K) := h ▸ mt_joinA
theorem call_sumK (h : X.K = K) (hc : X.calm = true) : CallR X (.builtin "sum") (rSum K) := h ▸ cr_sum hc
theorem pe_fldK {e : Expr} {f : Str} {pos : Pos} {ta : TE} (h : X.K = K) (he : PE X e ta) (hb : attributeBase e f X.env (eval e X.env) = eval e X.env) : PE X (.Attribute e f pos) (tFld K ta f) := h ▸ pe_fld he hb
theorem call_isiK (h : X.K = K) : CallR X (.builtin "isinstance") (rIsi K) := h ▸ call_isi
end
theorem sz {α : Type} {l : List α} (n : Nat) (h : l.length = n) (k : n ≤ 16000 := by decide) : l.length ≤ sizeLine := by
  rw [h, sizeLine_eq]
  omega
abbrev Rp := Hp → V → Hp → Prop
def RD (d : D) : Rp := fun H v H' => Same H H' ∧ DV H' v d
def RP (P : D → Prop) : Rp := fun H v H' => Same H H' ∧ ∃ d, P d ∧ DV H' v d
def RV (u : V) : Rp := fun H v H' => Same H H' ∧ v = u
def RN (ds : List D) : Rp := fun H v H' => Same H H' ∧ ∃ p vs, v = .ref p ∧ H p = none ∧ H' p = some (.lst vs) ∧ DVs H' vs ds
def RT (m : List (List D)) : Rp := fun H v H' => Same H H' ∧ ∃ (p : Addr) (rs : List Addr), v = .ref p ∧ (p :: rs).Nodup ∧ (∀ a ∈ p :: rs, H a = none) ∧ H' p = some (.lst (rs.map V.ref)) ∧ Rws H' rs m
/-- handed in: av x, where pre x; back comes rp x -/
def SpG {α : Type} (av : α → List AV) (pre : α → Prop) (rp : α → Rp) : Sp := fun vs H Q _ => ∃ x, AVs H vs (av x) ∧ pre x ∧ ∀ v H', rp x H v H' → Q v H'
section
variable {α : Type} {av : α → List AV} {pre : α → Prop} {rp : α → Rp} {K : PySem.W.Frag} {H0 : Hp} {S : List SV} {E : XK} {ta : TA}
theorem x_callD (x : α) {d : D} (h : EvA H0 S ta (av x)) (hp : pre x) (e : rp x = RD d) : EvX H0 S (tCall (SpG av pre rp) [] E ta) (.dat d) := x_call h fun vs H Q _ hv q => ⟨x, hv, hp, fun v H' k => by
  rw [e] at k
  exact q v H' k.1 k.2⟩
theorem x_callV (x : α) {u : V} (h : EvA H0 S ta (av x)) (hp : pre x) (e : rp x = RV u) : EvX H0 S (tCall (SpG av pre rp) [] E ta) (.val u) := x_call h fun vs H Q _ hv q => ⟨x, hv, hp, fun v H' k => by
  rw [e] at k
  exact q v H' k.1 k.2⟩
theorem p_callP (x : α) {P : D → Prop} (h : EvA H0 S ta (av x)) (hp : pre x) (e : rp x = RP P) : EvP H0 S (tCall (SpG av pre rp) [] E ta) P := p_call h fun vs H Q _ hv q => ⟨x, hv, hp, fun v H' k => by
  rw [e] at k
  obtain ⟨k1, d, k2, k3⟩ := k
  exact q d v H' k2 k1 k3⟩
theorem n_callN (x : α) {ds : List D} (h : EvA H0 S ta (av x)) (hp : pre x) (e : rp x = RN ds) : EvN H0 S (tCall (SpG av pre rp) [] E ta) ds := n_call h fun vs H Q _ hv q => ⟨x, hv, hp, fun v H' k => by
  rw [e] at k
  obtain ⟨k1, p, us, k2, k3, k4, k5⟩ := k
  subst k2
  exact q p us H' k1 k3 k4 k5⟩
theorem nt_callT (x : α) {m : List (List D)} (h : EvA H0 S ta (av x)) (hp : pre x) (e : rp x = RT m) : EvNT H0 S (tCall (SpG av pre rp) [] E ta) m := nt_call h fun vs H Q _ hv q => ⟨x, hv, hp, fun v H' k => by
  rw [e] at k
  obtain ⟨k1, p, us, k2, k3, k4, k5, k6⟩ := k
  subst k2
  exact q p us H' k1 k3 k4 k5 k6⟩
end
section
variable {H0 : Hp} {S : List SV} {R : V → Hp → Prop} {N : Hp → List SV → Prop}
theorem x_slN {K : PySem.W.Frag} {ta ti tj : TE} {ds : List D} {i j : Int} (a b : Nat) (ha : EvX H0 S ta (.dat (.tup ds))) (hi : EvX H0 S ti (.dat (.int i))) (hj : EvX H0 S tj (.dat (.int j))) (ei : i = (a : Int)) (ej : j = (b : Int)) : EvX H0 S (L2.tSl (rSlP K) ta (tPart ti) (tPart tj)) (.dat (.tup ((ds.take b).drop a))) := by
  subst ei ej
  rw [← cutD_nat]
  exact x_slT ha (o_some hi) (o_some hj)
theorem x_slF {K : PySem.W.Frag} {ta ti : TE} {ds : List D} {i : Int} (a : Nat) (ha : EvX H0 S ta (.dat (.tup ds))) (hi : EvX H0 S ti (.dat (.int i))) (ei : i = (a : Int)) : EvX H0 S (L2.tSl (rSlP K) ta (tPart ti) tNoPart) (.dat (.tup (ds.drop a))) := by
  subst ei
  rw [← cutD_from]
  exact x_slT ha (o_some hi) o_no
/-- what a def hands back -/
def Gives (H0 : Hp) (rp : Rp) (R : V → Hp → Prop) : Prop := ∀ v H', rp H0 v H' → R v H'
theorem r_D {te : TE} {d : D} (q : Gives H0 (RD d) R) (h : EvX H0 S te (.dat d)) : ExS H0 R (tRet te) S N := s_ret h fun v H' e hv => q v H' ⟨e, hv⟩
theorem r_De {te : TE} {d d' : D} (q : Gives H0 (RD d) R) (h : EvX H0 S te (.dat d')) (e : d' = d) : ExS H0 R (tRet te) S N := r_D q (e ▸ h)
theorem r_V {te : TE} {d : V} (q : Gives H0 (RV d) R) (h : EvX H0 S te (.val d)) : ExS H0 R (tRet te) S N := s_retV h fun H' e => q d H' ⟨e, rfl⟩
theorem r_B {te : TE} {b c : Bool} (q : Gives H0 (RV (.bl b)) R) (h : EvX H0 S te (.val (.bl c))) (e : c = b) : ExS H0 R (tRet te) S N := r_V q (e ▸ h)
theorem r_P {te : TE} {P P' : D → Prop} (q : Gives H0 (RP P) R) (h : EvP H0 S te P') (k : ∀ d, P' d → P d) : ExS H0 R (tRet te) S N := s_retP h fun d v H' hp e hv => q v H' ⟨e, d, k d hp, hv⟩
theorem r_N {te : TE} {d : List D} (q : Gives H0 (RN d) R) (h : EvN H0 S te d) : ExS H0 R (tRet te) S N := s_retN h fun p vs H' e n h1 h2 => q _ H' ⟨e, p, vs, rfl, n, h1, h2⟩
theorem r_O {i : Nat} {d : List D} (q : Gives H0 (RN d) R) (h : S[i]? = some (.own d)) : ExS H0 R (tRet (tVar i)) S N := s_retO h fun p vs H' e n h1 h2 => q _ H' ⟨e, p, vs, rfl, n, h1, h2⟩
theorem r_OT {i : Nat} {m : List (List D)} (q : Gives H0 (RT m) R) (h : S[i]? = some (.otab m)) : ExS H0 R (tRet (tVar i)) S N := s_retOT h fun p rs H' e nd n h1 h2 => q _ H' ⟨e, p, rs, rfl, nd, n, h1, h2⟩
theorem Gives.up {H1 : Hp} {d : D} (e : Same H0 H1) (q : Gives H0 (RD d) R) : Gives H1 (RD d) R := fun v H' k => q v H' ⟨e.trans k.1, k.2⟩
theorem Gives.upV {H1 : Hp} {d : V} (e : Same H0 H1) (q : Gives H0 (RV d) R) : Gives H1 (RV d) R := fun v H' k => q v H' ⟨e.trans k.1, k.2⟩
theorem Gives.upP {H1 : Hp} {P : D → Prop} (e : Same H0 H1) (q : Gives H0 (RP P) R) : Gives H1 (RP P) R := fun v H' k => q v H' ⟨e.trans k.1, k.2⟩
theorem Gives.upN {H1 : Hp} {d : List D} (e : Same H0 H1) (q : Gives H0 (RN d) R) : Gives H1 (RN d) R := fun v H' k => by
  obtain ⟨k1, p, us, k2, k3, k4⟩ := k
  refine q v H' ⟨e.trans k1, p, us, k2, ?_, k4⟩
  exact e.free k3
theorem Gives.upT {H1 : Hp} {d : List (List D)} (e : Same H0 H1) (q : Gives H0 (RT d) R) : Gives H1 (RT d) R := fun v H' k => by
  obtain ⟨k1, p, us, k2, kn, k3, k4⟩ := k
  refine q v H' ⟨e.trans k1, p, us, k2, kn, fun a ha => e.free (k3 a ha), k4⟩
end
theorem DefAt.hasG {P : Program} {w : World} {K : PySem.W.Frag} {mg : Str → Option Value} {base : Heap} {x : Str} {st : Stmt} {N ps : List Str} {k : Nat} {α : Type} {av : α → List AV} {pre : α → Prop} {rp : α → Rp} (F : DefAt K mg x st) (S : FnScope N ps (defScope st)) (hb : ∀ (kV doc pm : Value) (an : Option Addr) (cdv ct : Value) (us : List Value), us.length = ps.length → bindArgs (PySem.W.fnOf x x (defArgs st) (defBody st) (defScope st) .none kV doc pm an cdv ct) ⟨us, []⟩ = pure (ps.zip us))
    (len : ∀ x, (av x).length = ps.length)
    (hbody : ∀ (f : Addr) (cdv : Value) (A : Around) (outer : List Env) (s : Shared) (H : Hp) (E : XK), Room k (A.deeper (envOfC x (defScope st) s.heap.objs.size f cdv)) →
      ∃ t, PSs (cxOf CX0 P w K mg base N x (defScope st) f cdv A outer s H E).nox (defBody st) t ∧ ∀ y, pre y → ∀ H R, Gives H (rp y) R → ExS H R t ((av y).map AV.sv ++ List.replicate (N.length - (av y).length) .no) (fun _ _ => False)) : Has P w K mg base (k + 1) x ps (SpG av pre rp) :=
  F.has S hb (fun vs H Q E h => by
    obtain ⟨y, h, _⟩ := h
    rw [h.length, len]) fun f cdv A outer s H vs Q E hr h => by
    obtain ⟨t, h1, h2⟩ := hbody f cdv A outer s H E hr
    obtain ⟨y, h3, h4, h5⟩ := h
    exact ⟨t, h1, ExS.enter h3 rfl (h2 y h4 H Q h5)⟩
/-- the same for defs of which the result must be told beside the way (no value falls off the end) -/
theorem t_cB {H0 : Hp} {S : List SV} {te : TE} {b c : Bool} (h : EvX H0 S te (.val (.bl b))) (e : b = c) : EvT H0 S (tTest te) c := t_cmp (e ▸ h)
theorem t_vB {H0 : Hp} {S : List SV} {te : TE} {b c : Bool} (h : EvX H0 S te (.val (.bl b))) (e : b = c) : EvT H0 S (tB te) c := t_val (e ▸ h)
end Mw
-- part MwX1
set_option maxHeartbeats 4000000
/-! Lengths of texts. -/
namespace Mw
open PySem
theorem len_join (sep : Str) : ∀ ss : List Str, (Txt.join sep ss).length ≤ (ss.map (·.length)).sum + ss.length * sep.length := fun ss => by
  rw [TL.join_eq]
  induction ss with
  | nil => exact Nat.zero_le _
  | cons x ss ih =>
    cases ss with
    | nil => simp [Str.join]
    | cons y ss =>
      show (x ++ sep ++ Str.join sep (y :: ss)).length ≤ _
      rw [Str.length_append, Str.length_append, List.map_cons, List.sum_cons, List.length_cons, Nat.succ_mul]
      omega
theorem sum_le {n : Nat} : ∀ {ss : List Str}, (∀ s ∈ ss, s.length ≤ n) → (ss.map (·.length)).sum ≤ ss.length * n
  | [], _ => by simp
  | s :: ss, h => by
    have h1 := h s List.mem_cons_self
    have h2 := sum_le (ss := ss) fun x hx => h x (List.mem_cons_of_mem _ hx)
    rw [List.map_cons, List.sum_cons, List.length_cons, Nat.succ_mul]
    omega
theorem len_num : ∀ n : Nat, n ≤ 100 → (Str.ofString (toString (n : Int))).length ≤ 3 := fun n hn => by
  have h : ∀ k : Fin 101, (Str.ofString (toString ((k.val : Nat) : Int))).length ≤ 3 := by decide +kernel
  exact h ⟨n, by omega⟩
theorem len_o : ("(" : Str).length = 1 := by decide +kernel
theorem len_c : (")" : Str).length = 1 := by decide +kernel
theorem len_bo : ("[" : Str).length = 1 := by decide +kernel
theorem len_bc : ("]" : Str).length = 1 := by decide +kernel
theorem len_col : (":" : Str).length = 1 := by decide +kernel
theorem len_bar : ("|" : Str).length = 1 := by decide +kernel
theorem len_min : ("-" : Str).length = 1 := by decide +kernel
theorem len_nil : ("" : Str).length = 0 := by decide +kernel
theorem len_text {s : Str} (h : s.length ≤ 60) : (wText s).length ≤ 64 := by
  unfold wText
  rw [Str.length_append, Str.length_append, len_col]
  have := len_num s.length (by omega)
  omega
theorem len_line {d : D} (h : Line d) : (wLine d).length ≤ 64 := by
  obtain ⟨s, rfl, h⟩ := h
  exact len_text (by omega)
theorem len_lines {ds : List D} (h : Lines ds) : (wLines ds).length ≤ 700 := by
  unfold wLines
  rw [Str.length_append, Str.length_append, len_bo, len_bc]
  have h1 := len_join "" (ds.map wLine)
  have h2 := sum_le (n := 64) (ss := ds.map wLine) fun s hs => by
    obtain ⟨d, hd, rfl⟩ := List.mem_map.mp hs
    exact len_line (h.1 d hd)
  rw [len_nil, List.length_map] at h1
  rw [List.length_map] at h2
  have := h.2
  omega
theorem len_cl3 {a b c : Str} {n : Nat} (h1 : a.length ≤ n) (h2 : b.length ≤ n) (h3 : c.length ≤ n) : (Txt.join "|" [a, b, c]).length ≤ 3 * n + 3 := by
  have h := len_join "|" [a, b, c]
  rw [len_bar] at h
  simp only [List.map_cons, List.map_nil, List.sum_cons, List.sum_nil, List.length_cons, List.length_nil] at h
  omega
theorem len_item {d : D} (h : Item d) : (wItem d).length ≤ 2200 := by
  rcases h with h | ⟨b, o, p, rfl, h1, h2, h3⟩
  · obtain ⟨s, rfl, h⟩ := h
    have := len_text (s := s) (by omega)
    exact Nat.le_trans this (by decide)
  · show ("(" ++ Txt.join "|" [wLines b, wLines o, wLines p] ++ ")").length ≤ _
    rw [Str.length_append, Str.length_append, len_o, len_c]
    have := len_cl3 (len_lines h1) (len_lines h2) (len_lines h3)
    omega
theorem len_items {ds : List D} (h : Items ds) : (wItems ds).length ≤ 200000 := by
  unfold wItems
  rw [Str.length_append, Str.length_append, len_bo, len_bc]
  have h1 := len_join "" (ds.map wItem)
  have h2 := sum_le (n := 2200) (ss := ds.map wItem) fun s hs => by
    obtain ⟨d, hd, rfl⟩ := List.mem_map.mp hs
    exact len_item (h.1 d hd)
  rw [len_nil, List.length_map] at h1
  rw [List.length_map] at h2
  have := h.2
  omega
theorem len_part {d : D} (h : Part d) : (wPart d).length ≤ 64 := by
  rcases h with rfl | ⟨s, rfl, h⟩
  · show ("-" : Str).length ≤ 64
    rw [len_min]; decide
  · exact len_text h
theorem line_dep {d : D} (h : Line d) : d.dep = 0 := by
  obtain ⟨s, rfl, _⟩ := h
  simp [D.dep]
theorem lines_deps {ds : List D} (h : Lines ds) : D.deps ds ≤ 0 := D.deps_le fun d hd => Nat.le_of_eq (line_dep (h.1 d hd))
theorem item_dep {d : D} (h : Item d) : d.dep ≤ 3 := by
  rcases h with h | ⟨b, o, p, rfl, h1, h2, h3⟩
  · rw [line_dep h]; decide
  · have := lines_deps h1
    have := lines_deps h2
    have := lines_deps h3
    simp only [D.dep, D.deps]
    omega
theorem Items.low {ds : List D} (h : Items ds) : Low ds := fun d hd => Nat.le_trans (item_dep (h.1 d hd)) (by decide)
theorem part_dep {d : D} (h : Part d) : d.dep = 0 := by
  rcases h with rfl | ⟨s, rfl, _⟩ <;> simp [D.dep]
theorem where_dep {d : D} (h : Where d) : d.dep ≤ 2 := by
  rcases h with h | ⟨b, o, p, rfl, h1, h2, h3⟩
  · rw [part_dep h]; decide
  · have := part_dep h1
    have := part_dep h2
    have := part_dep h3
    simp only [D.dep, D.deps]
    omega
end Mw
-- part MwJ
set_option maxHeartbeats 4000000
namespace Mw
open PySem PySem.Spec PyProof.Rows L2
section
variable {K : PySem.W.Frag} {H0 : Hp} {S : List SV}
/-- a comprehension without a test -/
theorem n_lcTY {tl : TE} {g : TG} {te : TE} {vs : List Nat} {xs : List D} (f : D → D) (hx : EvX H0 S tl (.dat (.tup xs))) (hz : xs.length ≤ 16777216)
    (ht : ∀ (i : Nat) x, xs[i]? = some x → ∃ js S2, EvG H0 g js x (wipeS S vs) S2 ∧ (∀ j ∈ js, j ∈ vs) ∧ EvX H0 S2 te (.dat (f x))) : EvN H0 S (tLc (iTup K tl) g tYes te vs) (xs.map f) :=
  EvN.is (n_lcT (fun _ => true) f hx hz fun i x h => by
    obtain ⟨js, S2, h1, h2, h3⟩ := ht i x h
    exact ⟨js, S2, h1, h2, t_yes, fun _ => h3⟩) (by rw [filter_all])
theorem n_lcLY {tl : TE} {g : TG} {te : TE} {vs : List Nat} {xs : List D} (f : D → D) (hx : EvX H0 S tl (.lst xs)) (hz : xs.length ≤ 16777216)
    (ht : ∀ (i : Nat) x, xs[i]? = some x → ∃ js S2, EvG H0 g js x (wipeS S vs) S2 ∧ (∀ j ∈ js, j ∈ vs) ∧ EvX H0 S2 te (.dat (f x))) : EvN H0 S (tLc (iList K tl) g tYes te vs) (xs.map f) :=
  EvN.is (n_lcL (fun _ => true) f hx hz fun i x h => by
    obtain ⟨js, S2, h1, h2, h3⟩ := ht i x h
    exact ⟨js, S2, h1, h2, t_yes, fun _ => h3⟩) (by rw [filter_all])
theorem sizeL {n : Nat} (h : n ≤ 1000000) : n ≤ sizeLine := by rw [sizeLine_eq]; omega
theorem sizeJ {n : Nat} (h : n ≤ 1000000) : n ≤ 16777216 := by omega
end
/-! written_text: slots 0 text   -/
abbrev st_written_text : Stmt := topS 5
abbrev N_written_text : List Str := ["text"]
theorem sc_written_text : FnScope N_written_text ["text"] (defScope st_written_text) := ⟨rfl, rfl, rfl, by decide +kernel, rfl, by decide +kernel, by decide +kernel⟩
abbrev sp_written_text : Sp := SpG (α := Str) (fun s => [.dat (.str s)]) (fun s => s.length ≤ 60) (fun s => RD (.str (wText s)))
abbrev H_written_text (P : Program) (w : World) (K : PySem.W.Frag) (mg : Str → Option Value) (base : Heap) : Prop := Has P w K mg base 1 "written_text" ["text"] sp_written_text
theorem has_written_text {P : Program} {w : World} {K : PySem.W.Frag} {mg : Str → Option Value} {base : Heap} (B : Gs mg) (F : DefAt K mg "written_text" st_written_text)  : H_written_text P w K mg base :=
  F.hasG sc_written_text (fun _ _ _ _ _ _ us hl => match us, hl with | [_], _ => rfl) (fun _ => rfl) fun f cdv A outer s H E hr => by
    have hu := room64 hr
    have hu1 := hu_of hr
    refine ⟨_, (pss_one (ps_ret (pe_op (op_addK (K := K) rfl) (pe_op (op_addK (K := K) rfl) (pe_callTy call_strA (by rfl) B.str b_str (pa_cons (pe_callB (call_lenK (K := K) rfl) (by rfl) B.len b_len (pa_cons (pv 0) pa_nil)) pa_nil)) pe_str) (pv 0)))), fun x hp H R q => ?_⟩
    have h1 := len_num x.length (by omega)
    have h2 := len_text hp
    refine r_D q (x_addS (x_addS (x_strI (x_lenS (x_vd rfl) (sizeL (by omega))) ?_) x_cs (sizeL (by rw [len_col]; omega))) (x_vd rfl) (sizeL ?_))
    · have hx : x.length ≤ 60 := hp
      have : ∀ k : Fin 101, (((k.val : Nat) : Int)).natAbs.log2 < 1920 := by decide +kernel
      exact this ⟨x.length, by omega⟩
    · unfold wText at h2
      rw [Str.length_append] at h2
      exact Nat.le_trans h2 (by decide)
/-! written_clash: slots 0 base  1 parts   -/
abbrev st_written_clash : Stmt := topS 6
abbrev N_written_clash : List Str := ["base", "parts"]
theorem sc_written_clash : FnScope N_written_clash ["base", "parts"] (defScope st_written_clash) := ⟨rfl, rfl, rfl, by decide +kernel, rfl, by decide +kernel, by decide +kernel⟩
abbrev sp_written_clash : Sp := SpG (α := Str × List Str) (fun x => [.dat (.str x.1), .lst (x.2.map D.str)]) (fun x => x.1.length ≤ 1000 ∧ (∀ s ∈ x.2, s.length ≤ 1000) ∧ x.2.length ≤ 4) (fun x => RD (.str ("(" ++ Txt.join "|" (x.1 :: x.2) ++ ")")))
abbrev H_written_clash (P : Program) (w : World) (K : PySem.W.Frag) (mg : Str → Option Value) (base : Heap) : Prop := Has P w K mg base 1 "written_clash" ["base", "parts"] sp_written_clash
theorem has_written_clash {P : Program} {w : World} {K : PySem.W.Frag} {mg : Str → Option Value} {base : Heap} (B : Gs mg) (F : DefAt K mg "written_clash" st_written_clash)  : H_written_clash P w K mg base :=
  F.hasG sc_written_clash (fun _ _ _ _ _ _ us hl => match us, hl with | [_, _], _ => rfl) (fun _ => rfl) fun f cdv A outer s H E hr => by
    have hu := room64 hr
    have hu1 := hu_of hr
    refine ⟨_, (pss_one (ps_ret (pe_op (op_addK (K := K) rfl) (pe_op (op_addK (K := K) rfl) pe_str (pe_m1 PySem.F.slot_str_join PySem.F.type_str_join (mt_joinK (K := K) rfl) pe_str (pe_op (op_addK (K := K) rfl) (pe_lst (pa_cons (pv 0) pa_nil)) (pv 1)))) pe_str))), fun x hp H R q => ?_⟩
    obtain ⟨b, ps⟩ := x
    dsimp only at hp q ⊢
    obtain ⟨h1, h2, h3⟩ := hp
    have h1 : b.length ≤ 1000 := h1
    have h3 : ps.length ≤ 4 := h3
    have h4 := sum_le h2
    have h5 := len_join "|" (b :: ps)
    rw [List.map_cons, List.sum_cons, len_bar, List.length_cons] at h5
    have h4 : (ps.map (·.length)).sum ≤ ps.length * 1000 := h4
    have h6 : (ps.map (·.length)).sum ≤ 4000 := by omega
    refine r_D q (x_addS (x_addS x_cs (x_join (ss := b :: ps) x_cs (EvN.x (EvN.is (n_addL (EvN.x (n_lst (d_cons (x_vd rfl) d_nil) (sz 1 rfl))) (x_vl rfl) (sizeL ?_)) rfl)) (sizeJ ?_)) (sizeL ?_)) x_cs (sizeL ?_))
    · rw [List.length_map, List.length_singleton]; omega
    · rw [List.map_cons, List.sum_cons, List.length_cons, len_bar]; omega
    · rw [len_o]; omega
    · rw [Str.length_append, len_o, len_c]; omega
/-! written_where: slots 0 where  1 part   -/
abbrev st_written_where0 : Stmt := topS 7
abbrev N_written_where0 : List Str := ["where", "part"]
theorem sc_written_where0 : FnScope N_written_where0 ["where"] (defScope st_written_where0) := ⟨rfl, rfl, rfl, by decide +kernel, rfl, by decide +kernel, by decide +kernel⟩
abbrev sp_written_where0 : Sp := SpG (α := D) (fun d => [.dat d]) (fun d => Part d) (fun d => RD (.str (wPart d)))
abbrev H_written_where0 (P : Program) (w : World) (K : PySem.W.Frag) (mg : Str → Option Value) (base : Heap) : Prop := Has P w K mg base 2 "written_where" ["where"] sp_written_where0
theorem has_written_where0 {P : Program} {w : World} {K : PySem.W.Frag} {mg : Str → Option Value} {base : Heap} (B : Gs mg) (F : DefAt K mg "written_where" st_written_where0) (G_written_text : H_written_text P w K mg base) : H_written_where0 P w K mg base :=
  F.hasG sc_written_where0 (fun _ _ _ _ _ _ us hl => match us, hl with | [_], _ => rfl) (fun _ => rfl) fun f cdv A outer s H E hr => by
    have hu := room64 hr
    have hu1 := hu_of hr
    refine ⟨_, (pss_cons (ps_if (pt_cmpR op_isNA (pv 0) pe_non (nomark _))
        (pss_one (ps_ret pe_str))
        pss_nil)
      (pss_cons (ps_if (pt_val (pe_callB (call_isiK (K := K) rfl) (by rfl) B.isin b_isin (pa_cons (pv 0) (pa_cons (pe_bltn (v := .ty "str") (by rfl) B.str b_str rfl) pa_nil))))
        (pss_one (ps_ret (pe_has G_written_text hr (by decide) (by rfl) (pa_cons (pv 0) pa_nil))))
        pss_nil)
      (pss_one ps_never))), fun x hp H R q => ?_⟩
    rcases hp with rfl | ⟨s, rfl, hs⟩
    · refine s_seq (s_if (b := true) (t_cB (x_isN (x_vd rfl) x_cn) (decide_eq_true rfl)) (fun _ => ?_) (fun z => nomatch z))
      exact r_D q x_cs
    · refine s_seq (s_if (b := false) (t_cB (x_isN (x_vd rfl) x_cn) (decide_eq_false (fun z => nomatch z))) (fun z => nomatch z) (fun _ => s_next ?_))
      refine s_seq (s_if (b := true) (t_vB (x_isStr (x_vd rfl)) rfl) (fun _ => ?_) (fun z => nomatch z))
      exact r_D q (x_callD s (a_cons (x_vd rfl) a_nil) hs rfl)
/-! written_where: slots 0 where  1 part   -/
abbrev st_written_where : Stmt := topS 7
abbrev N_written_where : List Str := ["where", "part"]
theorem sc_written_where : FnScope N_written_where ["where"] (defScope st_written_where) := ⟨rfl, rfl, rfl, by decide +kernel, rfl, by decide +kernel, by decide +kernel⟩
abbrev sp_written_where : Sp := SpG (α := D) (fun d => [.dat d]) (fun d => Where d) (fun d => RD (.str (wWhere d)))
abbrev H_written_where (P : Program) (w : World) (K : PySem.W.Frag) (mg : Str → Option Value) (base : Heap) : Prop := Has P w K mg base 3 "written_where" ["where"] sp_written_where
theorem has_written_where {P : Program} {w : World} {K : PySem.W.Frag} {mg : Str → Option Value} {base : Heap} (B : Gs mg) (F : DefAt K mg "written_where" st_written_where) (G_written_clash : H_written_clash P w K mg base) (G_written_text : H_written_text P w K mg base) (G_written_where0 : H_written_where0 P w K mg base) : H_written_where P w K mg base :=
  F.hasG sc_written_where (fun _ _ _ _ _ _ us hl => match us, hl with | [_], _ => rfl) (fun _ => rfl) fun f cdv A outer s H E hr => by
    have hu := room64 hr
    have hu1 := hu_of hr
    refine ⟨_, (pss_cons (ps_if (pt_cmpR op_isNA (pv 0) pe_non (nomark _))
        (pss_one (ps_ret pe_str))
        pss_nil)
      (pss_cons (ps_if (pt_val (pe_callB (call_isiK (K := K) rfl) (by rfl) B.isin b_isin (pa_cons (pv 0) (pa_cons (pe_bltn (v := .ty "str") (by rfl) B.str b_str rfl) pa_nil))))
        (pss_one (ps_ret (pe_has G_written_text hr (by decide) (by rfl) (pa_cons (pv 0) pa_nil))))
        pss_nil)
      (pss_one (ps_ret (pe_has G_written_clash hr (by decide) (by rfl) (pa_cons (pe_has G_written_where0 hr (by decide) (by rfl) (pa_cons (pe_ix (ix_seqK (K := K) rfl) (pv 0) pe_int (fun _ _ => rfl)) pa_nil)) (pa_cons (pe_lc (own := [("part", 1)]) (g := gName 1) (tt := tYes) rfl sc_written_where.nd (pi_tup (pe_ix (ix_seqK (K := K) rfl) (pv 0) pe_int (fun _ _ => rfl))) (blkOk_by (own := [("part", 1)]) (N := N_written_where) (sc := defScope st_written_where) (by decide +kernel)) (fun _ _ _ _ _ => (pg_name (i := 1) sc_written_where.nd rfl (Or.inl rfl))) (fun _ _ _ _ _ => pts_nil) (fun _ _ _ _ _ => (pe_has G_written_where0 hr (by decide) (by rfl) (pa_cons (pv 1) pa_nil)))) pa_nil))))))), fun x hp H R q => ?_⟩
    rcases hp with (rfl | ⟨s, rfl, hs⟩) | ⟨b, o, p, rfl, h1, h2, h3⟩
    · refine s_seq (s_if (b := true) (t_cB (x_isN (x_vd rfl) x_cn) (decide_eq_true rfl)) (fun _ => ?_) (fun z => nomatch z))
      exact r_D q x_cs
    · refine s_seq (s_if (b := false) (t_cB (x_isN (x_vd rfl) x_cn) (decide_eq_false (fun z => nomatch z))) (fun z => nomatch z) (fun _ => s_next ?_))
      refine s_seq (s_if (b := true) (t_vB (x_isStr (x_vd rfl)) rfl) (fun _ => ?_) (fun z => nomatch z))
      exact r_D q (x_callD s (a_cons (x_vd rfl) a_nil) hs rfl)
    · refine s_seq (s_if (b := false) (t_cB (x_isN (x_vd rfl) x_cn) (decide_eq_false (fun z => nomatch z))) (fun z => nomatch z) (fun _ => s_next ?_))
      refine s_seq (s_if (b := false) (t_vB (x_isStr (x_vd rfl)) rfl) (fun z => nomatch z) (fun _ => s_next ?_))
      refine r_D q (x_callD (wPart b, [wPart o, wPart p]) (a_cons (x_callD b (a_cons (x_ixT (x_vd rfl) x_ci (k := 1) rfl rfl) a_nil) h1 rfl) (a_cons (EvN.x (n_lcTY (xs := [o, p]) (fun d => .str (wPart d)) (x_ixT (x_vd rfl) x_ci (k := 2) rfl rfl) (by simp) ?_)) a_nil)) ⟨?_, ?_, ?_⟩ rfl)
      · intro i d hd
        have hpd : Part d := by
          have := List.mem_of_getElem? hd
          simp at this
          rcases this with rfl | rfl <;> assumption
        exact ⟨_, _, g_name, by simp, x_callD d (a_cons (x_vd rfl) a_nil) hpd rfl⟩
      · exact Nat.le_trans (len_part h1) (by decide)
      · intro s hs
        have hs : s = wPart o ∨ s = wPart p := by simpa using hs
        rcases hs with rfl | rfl
        · exact Nat.le_trans (len_part h2) (by decide)
        · exact Nat.le_trans (len_part h3) (by decide)
      · exact (by decide : 2 ≤ 4)
/-! written_item: slots 0 item  1 part   -/
abbrev st_written_item0 : Stmt := topS 8
abbrev N_written_item0 : List Str := ["item", "part"]
theorem sc_written_item0 : FnScope N_written_item0 ["item"] (defScope st_written_item0) := ⟨rfl, rfl, rfl, by decide +kernel, rfl, by decide +kernel, by decide +kernel⟩
abbrev sp_written_item0 : Sp := SpG (α := D) (fun d => [.dat d]) (fun d => Line d) (fun d => RD (.str (wLine d)))
abbrev H_written_item0 (P : Program) (w : World) (K : PySem.W.Frag) (mg : Str → Option Value) (base : Heap) : Prop := Has P w K mg base 2 "written_item" ["item"] sp_written_item0
theorem has_written_item0 {P : Program} {w : World} {K : PySem.W.Frag} {mg : Str → Option Value} {base : Heap} (B : Gs mg) (F : DefAt K mg "written_item" st_written_item0) (G_written_text : H_written_text P w K mg base) : H_written_item0 P w K mg base :=
  F.hasG sc_written_item0 (fun _ _ _ _ _ _ us hl => match us, hl with | [_], _ => rfl) (fun _ => rfl) fun f cdv A outer s H E hr => by
    have hu := room64 hr
    have hu1 := hu_of hr
    refine ⟨_, (pss_cons (ps_if (pt_val (pe_callB (call_isiK (K := K) rfl) (by rfl) B.isin b_isin (pa_cons (pv 0) (pa_cons (pe_bltn (v := .ty "str") (by rfl) B.str b_str rfl) pa_nil))))
        (pss_one (ps_ret (pe_has G_written_text hr (by decide) (by rfl) (pa_cons (pv 0) pa_nil))))
        pss_nil)
      (pss_one ps_never)), fun x hp H R q => ?_⟩
    obtain ⟨s, rfl, hs⟩ := hp
    refine s_seq (s_if (b := true) (t_vB (x_isStr (x_vd rfl)) rfl) (fun _ => ?_) (fun z => nomatch z))
    exact r_D q (x_callD s (a_cons (x_vd rfl) a_nil) (Nat.le_trans hs (by decide)) rfl)
/-! written_items: slots 0 items  1 item   -/
abbrev st_written_items0 : Stmt := topS 9
abbrev N_written_items0 : List Str := ["items", "item"]
theorem sc_written_items0 : FnScope N_written_items0 ["items"] (defScope st_written_items0) := ⟨rfl, rfl, rfl, by decide +kernel, rfl, by decide +kernel, by decide +kernel⟩
abbrev sp_written_items0 : Sp := SpG (α := List D) (fun d => [.dat (.tup d)]) (fun d => Lines d) (fun d => RD (.str (wLines d)))
abbrev H_written_items0 (P : Program) (w : World) (K : PySem.W.Frag) (mg : Str → Option Value) (base : Heap) : Prop := Has P w K mg base 3 "written_items" ["items"] sp_written_items0
theorem has_written_items0 {P : Program} {w : World} {K : PySem.W.Frag} {mg : Str → Option Value} {base : Heap} (B : Gs mg) (F : DefAt K mg "written_items" st_written_items0) (G_written_item0 : H_written_item0 P w K mg base) : H_written_items0 P w K mg base :=
  F.hasG sc_written_items0 (fun _ _ _ _ _ _ us hl => match us, hl with | [_], _ => rfl) (fun _ => rfl) fun f cdv A outer s H E hr => by
    have hu := room64 hr
    have hu1 := hu_of hr
    refine ⟨_, (pss_one (ps_ret (pe_op (op_addK (K := K) rfl) (pe_op (op_addK (K := K) rfl) pe_str (pe_m1 PySem.F.slot_str_join PySem.F.type_str_join (mt_joinK (K := K) rfl) pe_str (pe_lc (own := [("item", 1)]) (g := gName 1) (tt := tYes) rfl sc_written_items0.nd (pi_tup (pv 0)) (blkOk_by (own := [("item", 1)]) (N := N_written_items0) (sc := defScope st_written_items0) (by decide +kernel)) (fun _ _ _ _ _ => (pg_name (i := 1) sc_written_items0.nd rfl (Or.inl rfl))) (fun _ _ _ _ _ => pts_nil) (fun _ _ _ _ _ => (pe_has G_written_item0 hr (by decide) (by rfl) (pa_cons (pv 1) pa_nil)))))) pe_str))), fun x hp H R q => ?_⟩
    have h1 := hp.1
    have h2 := hp.2
    have h3 := len_lines hp
    have h4 := sum_le (n := 64) (ss := x.map wLine) fun s hs => by
      obtain ⟨d, hd, rfl⟩ := List.mem_map.mp hs
      exact len_line (h1 d hd)
    rw [List.length_map] at h4
    have h5 := len_join "" (x.map wLine)
    rw [len_nil, List.length_map] at h5
    refine r_D q (x_addS (x_addS x_cs (x_join (ss := x.map wLine) x_cs (EvN.x (EvN.is (n_lcTY (xs := x) (fun d => .str (wLine d)) (x_vd rfl) (by omega) ?_) ?_)) (sizeJ ?_)) (sizeL ?_)) x_cs (sizeL ?_))
    · intro i d hd
      exact ⟨_, _, g_name, by simp, x_callD d (a_cons (x_vd rfl) a_nil) (h1 d (List.mem_of_getElem? hd)) rfl⟩
    · rw [List.map_map]; rfl
    · rw [len_nil]; omega
    · rw [len_bo]; omega
    · rw [Str.length_append, len_bo, len_bc]; omega
/-! written_item: slots 0 item  1 part   -/
abbrev st_written_item : Stmt := topS 8
abbrev N_written_item : List Str := ["item", "part"]
theorem sc_written_item : FnScope N_written_item ["item"] (defScope st_written_item) := ⟨rfl, rfl, rfl, by decide +kernel, rfl, by decide +kernel, by decide +kernel⟩
abbrev sp_written_item : Sp := SpG (α := D) (fun d => [.dat d]) (fun d => Item d) (fun d => RD (.str (wItem d)))
abbrev H_written_item (P : Program) (w : World) (K : PySem.W.Frag) (mg : Str → Option Value) (base : Heap) : Prop := Has P w K mg base 4 "written_item" ["item"] sp_written_item
theorem has_written_item {P : Program} {w : World} {K : PySem.W.Frag} {mg : Str → Option Value} {base : Heap} (B : Gs mg) (F : DefAt K mg "written_item" st_written_item) (G_written_clash : H_written_clash P w K mg base) (G_written_items0 : H_written_items0 P w K mg base) (G_written_text : H_written_text P w K mg base) : H_written_item P w K mg base :=
  F.hasG sc_written_item (fun _ _ _ _ _ _ us hl => match us, hl with | [_], _ => rfl) (fun _ => rfl) fun f cdv A outer s H E hr => by
    have hu := room64 hr
    have hu1 := hu_of hr
    refine ⟨_, (pss_cons (ps_if (pt_val (pe_callB (call_isiK (K := K) rfl) (by rfl) B.isin b_isin (pa_cons (pv 0) (pa_cons (pe_bltn (v := .ty "str") (by rfl) B.str b_str rfl) pa_nil))))
        (pss_one (ps_ret (pe_has G_written_text hr (by decide) (by rfl) (pa_cons (pv 0) pa_nil))))
        pss_nil)
      (pss_one (ps_ret (pe_has G_written_clash hr (by decide) (by rfl) (pa_cons (pe_has G_written_items0 hr (by decide) (by rfl) (pa_cons (pe_ix (ix_seqK (K := K) rfl) (pv 0) pe_int (fun _ _ => rfl)) pa_nil)) (pa_cons (pe_lc (own := [("part", 1)]) (g := gName 1) (tt := tYes) rfl sc_written_item.nd (pi_tup (pe_ix (ix_seqK (K := K) rfl) (pv 0) pe_int (fun _ _ => rfl))) (blkOk_by (own := [("part", 1)]) (N := N_written_item) (sc := defScope st_written_item) (by decide +kernel)) (fun _ _ _ _ _ => (pg_name (i := 1) sc_written_item.nd rfl (Or.inl rfl))) (fun _ _ _ _ _ => pts_nil) (fun _ _ _ _ _ => (pe_has G_written_items0 hr (by decide) (by rfl) (pa_cons (pv 1) pa_nil)))) pa_nil)))))), fun x hp H R q => ?_⟩
    rcases hp with ⟨s, rfl, hs⟩ | ⟨b, o, p, rfl, h1, h2, h3⟩
    · refine s_seq (s_if (b := true) (t_vB (x_isStr (x_vd rfl)) rfl) (fun _ => ?_) (fun z => nomatch z))
      exact r_D q (x_callD s (a_cons (x_vd rfl) a_nil) (Nat.le_trans hs (by decide)) rfl)
    · refine s_seq (s_if (b := false) (t_vB (x_isStr (x_vd rfl)) rfl) (fun z => nomatch z) (fun _ => s_next ?_))
      refine r_D q (x_callD (wLines b, [wLines o, wLines p]) (a_cons (x_callD b (a_cons (x_ixT (x_vd rfl) x_ci (k := 1) rfl rfl) a_nil) h1 rfl) (a_cons (EvN.x (n_lcTY (xs := [.tup o, .tup p]) (fun d => match d with | .tup l => .str (wLines l) | _ => .non) (x_ixT (x_vd rfl) x_ci (k := 2) rfl rfl) (by simp) ?_)) a_nil)) ⟨?_, ?_, ?_⟩ rfl)
      · intro i d hd
        have hpd : ∃ l, d = .tup l ∧ Lines l := by
          have := List.mem_of_getElem? hd
          simp at this
          rcases this with rfl | rfl
          · exact ⟨_, rfl, h2⟩
          · exact ⟨_, rfl, h3⟩
        obtain ⟨l, rfl, hl⟩ := hpd
        exact ⟨_, _, g_name, by simp, x_callD l (a_cons (x_vd rfl) a_nil) hl rfl⟩
      · exact Nat.le_trans (len_lines h1) (by decide)
      · intro s hs
        have hs : s = wLines o ∨ s = wLines p := by simpa using hs
        rcases hs with rfl | rfl
        · exact Nat.le_trans (len_lines h2) (by decide)
        · exact Nat.le_trans (len_lines h3) (by decide)
      · exact (by decide : 2 ≤ 4)
/-! written_items: slots 0 items  1 item   -/
abbrev st_written_items : Stmt := topS 9
abbrev N_written_items : List Str := ["items", "item"]
theorem sc_written_items : FnScope N_written_items ["items"] (defScope st_written_items) := ⟨rfl, rfl, rfl, by decide +kernel, rfl, by decide +kernel, by decide +kernel⟩
abbrev sp_written_items : Sp := SpG (α := List D) (fun d => [.dat (.tup d)]) (fun d => Items d) (fun d => RD (.str (wItems d)))
abbrev H_written_items (P : Program) (w : World) (K : PySem.W.Frag) (mg : Str → Option Value) (base : Heap) : Prop := Has P w K mg base 5 "written_items" ["items"] sp_written_items
theorem has_written_items {P : Program} {w : World} {K : PySem.W.Frag} {mg : Str → Option Value} {base : Heap} (B : Gs mg) (F : DefAt K mg "written_items" st_written_items) (G_written_item : H_written_item P w K mg base) : H_written_items P w K mg base :=
  F.hasG sc_written_items (fun _ _ _ _ _ _ us hl => match us, hl with | [_], _ => rfl) (fun _ => rfl) fun f cdv A outer s H E hr => by
    have hu := room64 hr
    have hu1 := hu_of hr
    refine ⟨_, (pss_one (ps_ret (pe_op (op_addK (K := K) rfl) (pe_op (op_addK (K := K) rfl) pe_str (pe_m1 PySem.F.slot_str_join PySem.F.type_str_join (mt_joinK (K := K) rfl) pe_str (pe_lc (own := [("item", 1)]) (g := gName 1) (tt := tYes) rfl sc_written_items.nd (pi_tup (pv 0)) (blkOk_by (own := [("item", 1)]) (N := N_written_items) (sc := defScope st_written_items) (by decide +kernel)) (fun _ _ _ _ _ => (pg_name (i := 1) sc_written_items.nd rfl (Or.inl rfl))) (fun _ _ _ _ _ => pts_nil) (fun _ _ _ _ _ => (pe_has G_written_item hr (by decide) (by rfl) (pa_cons (pv 1) pa_nil)))))) pe_str))), fun x hp H R q => ?_⟩
    have h1 := hp.1
    have h2 := hp.2
    have h3 := len_items hp
    have h4 := sum_le (n := 2200) (ss := x.map wItem) fun s hs => by
      obtain ⟨d, hd, rfl⟩ := List.mem_map.mp hs
      exact len_item (h1 d hd)
    rw [List.length_map] at h4
    have h5 := len_join "" (x.map wItem)
    rw [len_nil, List.length_map] at h5
    refine r_D q (x_addS (x_addS x_cs (x_join (ss := x.map wItem) x_cs (EvN.x (EvN.is (n_lcTY (xs := x) (fun d => .str (wItem d)) (x_vd rfl) (by omega) ?_) ?_)) (sizeJ ?_)) (sizeL ?_)) x_cs (sizeL ?_))
    · intro i d hd
      exact ⟨_, _, g_name, by simp, x_callD d (a_cons (x_vd rfl) a_nil) (h1 d (List.mem_of_getElem? hd)) rfl⟩
    · rw [List.map_map]; rfl
    · rw [len_nil]; omega
    · rw [len_bo]; omega
    · rw [Str.length_append, len_bo, len_bc]; omega
/-! items_clash: slots 0 base  1 one  2 other   -/
abbrev st_items_clash : Stmt := topS 29
abbrev N_items_clash : List Str := ["base", "one", "other"]
theorem sc_items_clash : FnScope N_items_clash ["base", "one", "other"] (defScope st_items_clash) := ⟨rfl, rfl, rfl, by decide +kernel, rfl, by decide +kernel, by decide +kernel⟩
abbrev sp_items_clash : Sp := SpG (α := List D × List D × List D) (fun x => [.dat (.tup x.1), .dat (.tup x.2.1), .dat (.tup x.2.2)]) (fun x => Items x.2.1 ∧ Items x.2.2) (fun x => RD (iCl x.1 x.2.1 x.2.2))
abbrev H_items_clash (P : Program) (w : World) (K : PySem.W.Frag) (mg : Str → Option Value) (base : Heap) : Prop := Has P w K mg base 6 "items_clash" ["base", "one", "other"] sp_items_clash
theorem has_items_clash {P : Program} {w : World} {K : PySem.W.Frag} {mg : Str → Option Value} {base : Heap} (B : Gs mg) (F : DefAt K mg "items_clash" st_items_clash) (G_written_items : H_written_items P w K mg base) : H_items_clash P w K mg base :=
  F.hasG sc_items_clash (fun _ _ _ _ _ _ us hl => match us, hl with | [_, _, _], _ => rfl) (fun _ => rfl) fun f cdv A outer s H E hr => by
    have hu := room64 hr
    have hu1 := hu_of hr
    refine ⟨_, (pss_cons (ps_if (pt_cmpR op_ltA (pe_has G_written_items hr (by decide) (by rfl) (pa_cons (pv 2) pa_nil)) (pe_has G_written_items hr (by decide) (by rfl) (pa_cons (pv 1) pa_nil)) (nomark _))
        (pss_one (ps_ret (pe_tup (pa_cons pe_str (pa_cons (pv 0) (pa_cons (pe_tup (pa_cons (pv 2) (pa_cons (pv 1) pa_nil))) pa_nil))))))
        pss_nil)
      (pss_one (ps_ret (pe_tup (pa_cons pe_str (pa_cons (pv 0) (pa_cons (pe_tup (pa_cons (pv 1) (pa_cons (pv 2) pa_nil))) pa_nil))))))), fun x hp H R q => ?_⟩
    obtain ⟨b, o, p⟩ := x
    obtain ⟨h1, h2⟩ := hp
    refine s_seq (s_if (b := ltS (wItems p) (wItems o)) (t_cmp (x_ltS (x_callD p (a_cons (x_vd rfl) a_nil) h2 rfl) (x_callD o (a_cons (x_vd rfl) a_nil) h1 rfl))) (fun hd => ?_) (fun hd => s_next ?_))
    · exact r_De q (x_tup (d_cons x_cs (d_cons (x_vd rfl) (d_cons (x_tup (d_cons (x_vd rfl) (d_cons (x_vd rfl) d_nil)) (sz 2 rfl)) d_nil))) (sz 3 rfl)) (by unfold iCl; rw [if_pos hd])
    · exact r_De q (x_tup (d_cons x_cs (d_cons (x_vd rfl) (d_cons (x_tup (d_cons (x_vd rfl) (d_cons (x_vd rfl) d_nil)) (sz 2 rfl)) d_nil))) (sz 3 rfl)) (by unfold iCl; rw [if_neg (by rw [hd]; decide)])
/-! where_clash: slots 0 base  1 one  2 other   -/
abbrev st_where_clash : Stmt := topS 30
abbrev N_where_clash : List Str := ["base", "one", "other"]
theorem sc_where_clash : FnScope N_where_clash ["base", "one", "other"] (defScope st_where_clash) := ⟨rfl, rfl, rfl, by decide +kernel, rfl, by decide +kernel, by decide +kernel⟩
abbrev sp_where_clash : Sp := SpG (α := D × D × D) (fun x => [.dat x.1, .dat x.2.1, .dat x.2.2]) (fun x => Where x.2.1 ∧ Where x.2.2) (fun x => RD (wCl x.1 x.2.1 x.2.2))
abbrev H_where_clash (P : Program) (w : World) (K : PySem.W.Frag) (mg : Str → Option Value) (base : Heap) : Prop := Has P w K mg base 4 "where_clash" ["base", "one", "other"] sp_where_clash
theorem has_where_clash {P : Program} {w : World} {K : PySem.W.Frag} {mg : Str → Option Value} {base : Heap} (B : Gs mg) (F : DefAt K mg "where_clash" st_where_clash) (G_written_where : H_written_where P w K mg base) : H_where_clash P w K mg base :=
  F.hasG sc_where_clash (fun _ _ _ _ _ _ us hl => match us, hl with | [_, _, _], _ => rfl) (fun _ => rfl) fun f cdv A outer s H E hr => by
    have hu := room64 hr
    have hu1 := hu_of hr
    refine ⟨_, (pss_cons (ps_if (pt_cmpR op_ltA (pe_has G_written_where hr (by decide) (by rfl) (pa_cons (pv 2) pa_nil)) (pe_has G_written_where hr (by decide) (by rfl) (pa_cons (pv 1) pa_nil)) (nomark _))
        (pss_one (ps_ret (pe_tup (pa_cons pe_str (pa_cons (pv 0) (pa_cons (pe_tup (pa_cons (pv 2) (pa_cons (pv 1) pa_nil))) pa_nil))))))
        pss_nil)
      (pss_one (ps_ret (pe_tup (pa_cons pe_str (pa_cons (pv 0) (pa_cons (pe_tup (pa_cons (pv 1) (pa_cons (pv 2) pa_nil))) pa_nil))))))), fun x hp H R q => ?_⟩
    obtain ⟨b, o, p⟩ := x
    obtain ⟨h1, h2⟩ := hp
    refine s_seq (s_if (b := ltS (wWhere p) (wWhere o)) (t_cmp (x_ltS (x_callD p (a_cons (x_vd rfl) a_nil) h2 rfl) (x_callD o (a_cons (x_vd rfl) a_nil) h1 rfl))) (fun hd => ?_) (fun hd => s_next ?_))
    · exact r_De q (x_tup (d_cons x_cs (d_cons (x_vd rfl) (d_cons (x_tup (d_cons (x_vd rfl) (d_cons (x_vd rfl) d_nil)) (sz 2 rfl)) d_nil))) (sz 3 rfl)) (by unfold wCl; rw [if_pos hd])
    · exact r_De q (x_tup (d_cons x_cs (d_cons (x_vd rfl) (d_cons (x_tup (d_cons (x_vd rfl) (d_cons (x_vd rfl) d_nil)) (sz 2 rfl)) d_nil))) (sz 3 rfl)) (by unfold wCl; rw [if_neg (by rw [hd]; decide)])
/-! joined_where: slots 0 base  1 one  2 other   -/
abbrev st_joined_where : Stmt := topS 33
abbrev N_joined_where : List Str := ["base", "one", "other"]
theorem sc_joined_where : FnScope N_joined_where ["base", "one", "other"] (defScope st_joined_where) := ⟨rfl, rfl, rfl, by decide +kernel, rfl, by decide +kernel, by decide +kernel⟩
abbrev sp_joined_where : Sp := SpG (α := D × D × D) (fun x => [.dat x.1, .dat x.2.1, .dat x.2.2]) (fun x => Where x.1 ∧ Where x.2.1 ∧ Where x.2.2) (fun x => RD (joinW x.1 x.2.1 x.2.2))
abbrev H_joined_where (P : Program) (w : World) (K : PySem.W.Frag) (mg : Str → Option Value) (base : Heap) : Prop := Has P w K mg base 5 "joined_where" ["base", "one", "other"] sp_joined_where
theorem has_joined_where {P : Program} {w : World} {K : PySem.W.Frag} {mg : Str → Option Value} {base : Heap} (B : Gs mg) (F : DefAt K mg "joined_where" st_joined_where) (G_where_clash : H_where_clash P w K mg base) : H_joined_where P w K mg base :=
  F.hasG sc_joined_where (fun _ _ _ _ _ _ us hl => match us, hl with | [_, _, _], _ => rfl) (fun _ => rfl) fun f cdv A outer s H E hr => by
    have hu := room64 hr
    have hu1 := hu_of hr
    refine ⟨_, (pss_cons (ps_if (PW.pt (pw_or (pt_cmpR (op_eqK (K := K) rfl hu) (pv 1) (pv 2) (nomark _)) (pw_or1 (pt_cmpR (op_eqK (K := K) rfl hu) (pv 2) (pv 0) (nomark _)))))
        (pss_one (ps_ret (pv 1)))
        pss_nil)
      (pss_cons (ps_if (pt_cmpR (op_eqK (K := K) rfl hu) (pv 1) (pv 0) (nomark _))
        (pss_one (ps_ret (pv 2)))
        pss_nil)
      (pss_one (ps_ret (pe_has G_where_clash hr (by decide) (by rfl) (pa_cons (pv 0) (pa_cons (pv 1) (pa_cons (pv 2) pa_nil)))))))), fun x hp H R q => ?_⟩
    obtain ⟨b, o, p⟩ := x
    dsimp only at hp q ⊢
    obtain ⟨h0, h1, h2⟩ := hp
    have d0 := where_dep h0
    have d1 := where_dep h1
    have d2 := where_dep h2
    refine s_seq (s_if (b := decide (o = p) || decide (p = b)) (t_or (t_cmp (x_eq (x_vd rfl) (x_vd rfl) (by omega))) fun _ => t_cmp (x_eq (x_vd rfl) (x_vd rfl) (by omega))) (fun hd => ?_) (fun hd => s_next ?_))
    · simp only [Bool.or_eq_true, decide_eq_true_eq] at hd
      exact r_De q (x_vd rfl) (by unfold joinW; rw [if_pos hd])
    · simp only [Bool.or_eq_false_iff, decide_eq_false_iff_not] at hd
      have hn : ¬ (o = p ∨ p = b) := fun z => z.elim hd.1 hd.2
      refine s_seq (s_if (b := decide (o = b)) (t_cmp (x_eq (x_vd rfl) (x_vd rfl) (by omega))) (fun hd2 => ?_) (fun hd2 => s_next ?_))
      · have hd2 := of_decide_eq_true hd2
        exact r_De q (x_vd rfl) (by unfold joinW; rw [if_neg hn, if_pos hd2])
      · have hd2 := of_decide_eq_false hd2
        exact r_De q (x_callD (b, o, p) (a_cons (x_vd rfl) (a_cons (x_vd rfl) (a_cons (x_vd rfl) a_nil))) ⟨h1, h2⟩ rfl) (by unfold joinW; rw [if_neg hn, if_neg hd2])
end Mw
-- part MwK
set_option maxHeartbeats 4000000
namespace Mw
open PySem PySem.Spec PyProof.Rows L2
theorem join0_snoc (ss : List Str) (x : Str) : Txt.join "" (ss ++ [x]) = Txt.join "" ss ++ x := by
  have e : ("" : Str) = Str.empty := by decide +kernel
  rw [TL.join_eq, TL.join_eq]
  induction ss with
  | nil =>
    show x = Str.empty ++ x
    rw [Str.empty_append]
  | cons y ss ih =>
    cases ss with
    | nil =>
      show y ++ "" ++ x = y ++ x
      rw [e, Str.append_empty]
    | cons z ss =>
      show y ++ "" ++ Str.join "" ((z :: ss) ++ [x]) = (y ++ "" ++ Str.join "" (z :: ss)) ++ x
      rw [ih]
      simp only [Str.append_assoc]
theorem join0_nil : Txt.join "" [] = "" := by decide +kernel
theorem app_nil (x : Str) : x ++ "" = x := by
  have e : ("" : Str) = Str.empty := by decide +kernel
  rw [e, Str.append_empty]
theorem numLog {n : Nat} (h : n ≤ 100) : (((n : Nat) : Int)).natAbs.log2 < 1920 := by
  have : ∀ k : Fin 101, (((k.val : Nat) : Int)).natAbs.log2 < 1920 := by decide +kernel
  exact this ⟨n, by omega⟩
theorem joins_le {f : D → Str} {n : Nat} {ds : List D} (h : ∀ d ∈ ds, (f d).length ≤ n) (i : Nat) : (Txt.join "" ((ds.take i).map f)).length ≤ ds.length * n := by
  have h1 := len_join "" ((ds.take i).map f)
  have h2 := sum_le (n := n) (ss := (ds.take i).map f) fun s hs => by
    obtain ⟨d, hd, rfl⟩ := List.mem_map.mp hs
    exact h d (List.mem_of_mem_take hd)
  rw [len_nil, List.length_map] at h1
  rw [List.length_map, List.length_take] at h2
  have h3 : min i ds.length * n ≤ ds.length * n := Nat.mul_le_mul_right n (Nat.min_le_right _ _)
  omega
/-! _law_text: slots 0 _law_items_here  1 _law_found  2 _law_item_here  3 _law_part  4 _law_parts   -/
abbrev st_l_text0 : Stmt := topS 46
abbrev N_l_text0 : List Str := ["_law_items_here", "_law_found", "_law_item_here", "_law_part", "_law_parts"]
theorem sc_l_text0 : FnScope N_l_text0 ["_law_items_here"] (defScope st_l_text0) := ⟨rfl, rfl, rfl, by decide +kernel, rfl, by decide +kernel, by decide +kernel⟩
abbrev sp_l_text0 : Sp := SpG (α := List D) (fun d => [.dat (.tup d)]) (fun d => Lines d) (fun d => RD (.str (wLines d)))
abbrev H_l_text0 (P : Program) (w : World) (K : PySem.W.Frag) (mg : Str → Option Value) (base : Heap) : Prop := Has P w K mg base 1 "_law_text" ["_law_items_here"] sp_l_text0
theorem has_l_text0 {P : Program} {w : World} {K : PySem.W.Frag} {mg : Str → Option Value} {base : Heap} (B : Gs mg) (F : DefAt K mg "_law_text" st_l_text0)  : H_l_text0 P w K mg base :=
  F.hasG sc_l_text0 (fun _ _ _ _ _ _ us hl => match us, hl with | [_], _ => rfl) (fun _ => rfl) fun f cdv A outer s H E hr => by
    have hu := room64 hr
    have hu1 := hu_of hr
    refine ⟨_, (pss_cons (ps_set (i := 1) sc_l_text0.nd rfl (Or.inl rfl) pe_str)
      (pss_cons (ps_for PassesOwn.never rfl (pi_tup (pv 0)) (pg_name (i := 2) sc_l_text0.nd rfl (Or.inl rfl))
        (pss_one (ps_if (pt_val (pe_callB (call_isiK (K := K) rfl) (by rfl) B.isin b_isin (pa_cons (pv 2) (pa_cons (pe_bltn (v := .ty "str") (by rfl) B.str b_str rfl) pa_nil))))
          (pss_one (ps_set (i := 1) sc_l_text0.nd rfl (Or.inl rfl) (pe_op (op_addK (K := K) rfl) (pe_op (op_addK (K := K) rfl) (pe_op (op_addK (K := K) rfl) (pv 1) (pe_callTy call_strA (by rfl) B.str b_str (pa_cons (pe_callB (call_lenK (K := K) rfl) (by rfl) B.len b_len (pa_cons (pv 2) pa_nil)) pa_nil))) pe_str) (pv 2))))
          (pss_cons ps_never
          (pss_one ps_never)))))
      (pss_one (ps_ret (pe_op (op_addK (K := K) rfl) (pv 1) pe_str))))), fun x hp H R q => ?_⟩
    have hb := joins_le (f := wLine) (n := 64) (ds := x) fun d hd => len_line (hp.1 d hd)
    have hx := hp.2
    refine s_seq (s_asg x_cs ?_)
    refine s_seq (s_forT (xs := x) (js := [2]) (x_vd rfl) (fun i S' => ∃ u v w, S' = [.dat (.tup x), .dat (.str ("[" ++ Txt.join "" ((x.take i).map wLine))), u, v, w]) ⟨_, _, _, rfl⟩ ?_ ?_)
    · rintro H1 e1 i d S' hd ⟨u, v, w, rfl⟩
      obtain ⟨s, rfl, hs⟩ := hp.1 d (List.mem_of_getElem? hd)
      have hn := len_num s.length (by omega)
      have hbi := hb i
      refine ⟨_, g_name, s_if (b := true) (t_vB (x_isStr (x_vd rfl)) rfl) (fun _ => ?_) (fun z => nomatch z)⟩
      refine s_asg (x_addS (x_addS (x_addS (x_vd rfl) (x_strI (x_lenS (x_vd rfl) (sizeL (by omega))) (numLog (by omega))) (sizeL ?_)) x_cs (sizeL ?_)) (x_vd rfl) (sizeL ?_)) ⟨_, _, _, by
        rw [take_map_get _ hd, join0_snoc, show wLine (.str s) = wText s from rfl, wText, Str.append_assoc, Str.append_assoc, Str.append_assoc, Str.append_assoc]
        rfl⟩
      · rw [Str.length_append, len_bo]; omega
      · rw [Str.length_append, Str.length_append, len_bo, len_col]; omega
      · rw [Str.length_append, Str.length_append, Str.length_append, len_bo, len_col]; omega
    · rintro H1 e1 S' ⟨u, v, w, rfl⟩
      have hbi := hb x.length
      exact r_De (q.up e1) (x_addS (x_vd rfl) x_cs (sizeL (by rw [Str.length_append, len_bo, len_bc]; omega))) (by rw [List.take_length]; rfl)
/-! _law_text: slots 0 _law_items_here  1 _law_found  2 _law_item_here  3 _law_part  4 _law_parts   -/
abbrev st_l_text : Stmt := topS 46
abbrev N_l_text : List Str := ["_law_items_here", "_law_found", "_law_item_here", "_law_part", "_law_parts"]
theorem sc_l_text : FnScope N_l_text ["_law_items_here"] (defScope st_l_text) := ⟨rfl, rfl, rfl, by decide +kernel, rfl, by decide +kernel, by decide +kernel⟩
abbrev sp_l_text : Sp := SpG (α := List D) (fun d => [.dat (.tup d)]) (fun d => Items d) (fun d => RD (.str (wItems d)))
abbrev H_l_text (P : Program) (w : World) (K : PySem.W.Frag) (mg : Str → Option Value) (base : Heap) : Prop := Has P w K mg base 2 "_law_text" ["_law_items_here"] sp_l_text
theorem has_l_text {P : Program} {w : World} {K : PySem.W.Frag} {mg : Str → Option Value} {base : Heap} (B : Gs mg) (F : DefAt K mg "_law_text" st_l_text) (G_l_text0 : H_l_text0 P w K mg base) : H_l_text P w K mg base :=
  F.hasG sc_l_text (fun _ _ _ _ _ _ us hl => match us, hl with | [_], _ => rfl) (fun _ => rfl) fun f cdv A outer s H E hr => by
    have hu := room64 hr
    have hu1 := hu_of hr
    refine ⟨_, (pss_cons (ps_set (i := 1) sc_l_text.nd rfl (Or.inl rfl) pe_str)
      (pss_cons (ps_for PassesOwn.never rfl (pi_tup (pv 0)) (pg_name (i := 2) sc_l_text.nd rfl (Or.inl rfl))
        (pss_one (ps_if (pt_val (pe_callB (call_isiK (K := K) rfl) (by rfl) B.isin b_isin (pa_cons (pv 2) (pa_cons (pe_bltn (v := .ty "str") (by rfl) B.str b_str rfl) pa_nil))))
          (pss_one (ps_set (i := 1) sc_l_text.nd rfl (Or.inl rfl) (pe_op (op_addK (K := K) rfl) (pe_op (op_addK (K := K) rfl) (pe_op (op_addK (K := K) rfl) (pv 1) (pe_callTy call_strA (by rfl) B.str b_str (pa_cons (pe_callB (call_lenK (K := K) rfl) (by rfl) B.len b_len (pa_cons (pv 2) pa_nil)) pa_nil))) pe_str) (pv 2))))
          (pss_cons (ps_setLc (i := 4) (own := [("_law_part", 3)]) (g := gName 3) (tt := tYes) rfl sc_l_text.nd rfl rfl (sw_true rfl rfl rfl (by decide +kernel)) (pi_list (pe_lst (pa_cons (pe_ix (ix_seqK (K := K) rfl) (pv 2) pe_int (fun _ _ => rfl)) (pa_cons (pe_ix (ix_seqK (K := K) rfl) (pe_ix (ix_seqK (K := K) rfl) (pv 2) pe_int (fun _ _ => rfl)) pe_int (fun _ _ => rfl)) (pa_cons (pe_ix (ix_seqK (K := K) rfl) (pe_ix (ix_seqK (K := K) rfl) (pv 2) pe_int (fun _ _ => rfl)) pe_int (fun _ _ => rfl)) pa_nil))))) (blkOk_by (own := [("_law_part", 3)]) (N := N_l_text) (sc := defScope st_l_text) (by decide +kernel)) (fun _ _ _ _ _ => (pg_name (i := 3) sc_l_text.nd rfl (Or.inl rfl))) (fun _ _ _ _ _ => pts_nil) (fun _ _ _ _ _ => (pe_has G_l_text0 hr (by decide) (by rfl) (pa_cons (pv 3) pa_nil))))
          (pss_one (ps_set (i := 1) sc_l_text.nd rfl (Or.inl rfl) (pe_op (op_addK (K := K) rfl) (pe_op (op_addK (K := K) rfl) (pe_op (op_addK (K := K) rfl) (pv 1) pe_str) (pe_m1 PySem.F.slot_str_join PySem.F.type_str_join (mt_joinK (K := K) rfl) pe_str (pv 4))) pe_str)))))))
      (pss_one (ps_ret (pe_op (op_addK (K := K) rfl) (pv 1) pe_str))))), fun x hp H R q => ?_⟩
    have hb := joins_le (f := wItem) (n := 2200) (ds := x) fun d hd => len_item (hp.1 d hd)
    have hx := hp.2
    refine s_seq (s_asg x_cs ?_)
    refine s_seq (s_forT (xs := x) (js := [2]) (x_vd rfl) (fun i S' => ∃ u v w, S' = [.dat (.tup x), .dat (.str ("[" ++ Txt.join "" ((x.take i).map wItem))), u, v, w]) ⟨_, _, _, rfl⟩ ?_ ?_)
    · rintro H1 e1 i d S' hd ⟨u, v, w, rfl⟩
      have hbi := hb i
      rcases hp.1 d (List.mem_of_getElem? hd) with ⟨s, rfl, hs⟩ | ⟨b, o, p, rfl, h1, h2, h3⟩
      · have hn := len_num s.length (by omega)
        refine ⟨_, g_name, s_if (b := true) (t_vB (x_isStr (x_vd rfl)) rfl) (fun _ => ?_) (fun z => nomatch z)⟩
        refine s_asg (x_addS (x_addS (x_addS (x_vd rfl) (x_strI (x_lenS (x_vd rfl) (sizeL (by omega))) (numLog (by omega))) (sizeL ?_)) x_cs (sizeL ?_)) (x_vd rfl) (sizeL ?_)) ⟨_, _, _, by
          rw [take_map_get _ hd, join0_snoc, show wItem (.str s) = wText s from rfl, wText, Str.append_assoc, Str.append_assoc, Str.append_assoc, Str.append_assoc]
          rfl⟩
        · rw [Str.length_append, len_bo]; omega
        · rw [Str.length_append, Str.length_append, len_bo, len_col]; omega
        · rw [Str.length_append, Str.length_append, Str.length_append, len_bo, len_col]; omega
      · have hj := len_cl3 (len_lines h1) (len_lines h2) (len_lines h3)
        refine ⟨_, g_name, s_if (b := false) (t_vB (x_isStr (x_vd rfl)) rfl) (fun z => nomatch z) (fun _ => ?_)⟩
        refine s_seq (s_asgN (n_lcLY (xs := [.tup b, .tup o, .tup p]) (fun d => match d with | .tup l => .str (wLines l) | _ => .non) (EvN.x (n_lst (d_cons (x_ixT (x_vd rfl) x_ci (k := 1) rfl rfl) (d_cons (x_ixT (x_ixT (x_vd rfl) x_ci (k := 2) rfl rfl) x_ci (k := 0) rfl rfl) (d_cons (x_ixT (x_ixT (x_vd rfl) x_ci (k := 2) rfl rfl) x_ci (k := 1) rfl rfl) d_nil))) (sz 3 rfl))) (by simp) ?_) ?_)
        · intro i d hd
          have hpd : ∃ l, d = .tup l ∧ Lines l := by
            have := List.mem_of_getElem? hd
            simp at this
            rcases this with rfl | rfl | rfl
            · exact ⟨_, rfl, h1⟩
            · exact ⟨_, rfl, h2⟩
            · exact ⟨_, rfl, h3⟩
          obtain ⟨l, rfl, hl⟩ := hpd
          exact ⟨_, _, g_name, by simp, x_callD l (a_cons (x_vd rfl) a_nil) hl rfl⟩
        refine s_asg (x_addS (x_addS (x_addS (x_vd rfl) x_cs (sizeL ?_)) (x_join (ss := [wLines b, wLines o, wLines p]) x_cs (x_vo rfl) (sizeJ ?_)) (sizeL ?_)) x_cs (sizeL ?_)) ⟨_, _, _, by
          rw [take_map_get _ hd, join0_snoc]
          show _ = [_, SV.dat (.str ("[" ++ (Txt.join "" ((x.take i).map wItem) ++ ("(" ++ Txt.join "|" [wLines b, wLines o, wLines p] ++ ")")))), _, _, _]
          simp only [Str.append_assoc]
          rfl⟩
        · rw [Str.length_append, len_bo, len_o]; omega
        · have a1 := len_lines h1
          have a2 := len_lines h2
          have a3 := len_lines h3
          simp only [List.map_cons, List.map_nil, List.sum_cons, List.sum_nil, List.length_cons, List.length_nil, len_bar]
          omega
        · rw [Str.length_append, Str.length_append, len_bo, len_o]; omega
        · rw [Str.length_append, Str.length_append, Str.length_append, len_bo, len_o, len_c]; omega
    · rintro H1 e1 S' ⟨u, v, w, rfl⟩
      have hbi := hb x.length
      exact r_De (q.up e1) (x_addS (x_vd rfl) x_cs (sizeL (by rw [Str.length_append, len_bo, len_bc]; omega))) (by rw [List.take_length]; rfl)
/-! _law_clash: slots 0 _law_base  1 _law_one  2 _law_other   -/
abbrev st_l_clash : Stmt := topS 47
abbrev N_l_clash : List Str := ["_law_base", "_law_one", "_law_other"]
theorem sc_l_clash : FnScope N_l_clash ["_law_base", "_law_one", "_law_other"] (defScope st_l_clash) := ⟨rfl, rfl, rfl, by decide +kernel, rfl, by decide +kernel, by decide +kernel⟩
abbrev sp_l_clash : Sp := SpG (α := List D × List D × List D) (fun x => [.dat (.tup x.1), .dat (.tup x.2.1), .dat (.tup x.2.2)]) (fun x => Items x.2.1 ∧ Items x.2.2) (fun x => RD (iCl x.1 x.2.1 x.2.2))
abbrev H_l_clash (P : Program) (w : World) (K : PySem.W.Frag) (mg : Str → Option Value) (base : Heap) : Prop := Has P w K mg base 3 "_law_clash" ["_law_base", "_law_one", "_law_other"] sp_l_clash
theorem has_l_clash {P : Program} {w : World} {K : PySem.W.Frag} {mg : Str → Option Value} {base : Heap} (B : Gs mg) (F : DefAt K mg "_law_clash" st_l_clash) (G_l_text : H_l_text P w K mg base) : H_l_clash P w K mg base :=
  F.hasG sc_l_clash (fun _ _ _ _ _ _ us hl => match us, hl with | [_, _, _], _ => rfl) (fun _ => rfl) fun f cdv A outer s H E hr => by
    have hu := room64 hr
    have hu1 := hu_of hr
    refine ⟨_, (pss_cons (ps_if (pt_cmpR op_ltA (pe_has G_l_text hr (by decide) (by rfl) (pa_cons (pv 2) pa_nil)) (pe_has G_l_text hr (by decide) (by rfl) (pa_cons (pv 1) pa_nil)) (nomark _))
        (pss_one (ps_ret (pe_tup (pa_cons pe_str (pa_cons (pe_callTy (call_tupK (K := K) rfl) (by rfl) B.tuple b_tuple (pa_cons (pv 0) pa_nil)) (pa_cons (pe_tup (pa_cons (pe_callTy (call_tupK (K := K) rfl) (by rfl) B.tuple b_tuple (pa_cons (pv 2) pa_nil)) (pa_cons (pe_callTy (call_tupK (K := K) rfl) (by rfl) B.tuple b_tuple (pa_cons (pv 1) pa_nil)) pa_nil))) pa_nil))))))
        pss_nil)
      (pss_one (ps_ret (pe_tup (pa_cons pe_str (pa_cons (pe_callTy (call_tupK (K := K) rfl) (by rfl) B.tuple b_tuple (pa_cons (pv 0) pa_nil)) (pa_cons (pe_tup (pa_cons (pe_callTy (call_tupK (K := K) rfl) (by rfl) B.tuple b_tuple (pa_cons (pv 1) pa_nil)) (pa_cons (pe_callTy (call_tupK (K := K) rfl) (by rfl) B.tuple b_tuple (pa_cons (pv 2) pa_nil)) pa_nil))) pa_nil))))))), fun x hp H R q => ?_⟩
    obtain ⟨b, o, p⟩ := x
    obtain ⟨h1, h2⟩ := hp
    refine s_seq (s_if (b := ltS (wItems p) (wItems o)) (t_cmp (x_ltS (x_callD p (a_cons (x_vd rfl) a_nil) h2 rfl) (x_callD o (a_cons (x_vd rfl) a_nil) h1 rfl))) (fun hd => ?_) (fun hd => s_next ?_))
    · exact r_De q (x_tup (d_cons x_cs (d_cons (x_tupT (x_vd rfl)) (d_cons (x_tup (d_cons (x_tupT (x_vd rfl)) (d_cons (x_tupT (x_vd rfl)) d_nil)) (sz 2 rfl)) d_nil))) (sz 3 rfl)) (by unfold iCl; rw [if_pos hd])
    · exact r_De q (x_tup (d_cons x_cs (d_cons (x_tupT (x_vd rfl)) (d_cons (x_tup (d_cons (x_tupT (x_vd rfl)) (d_cons (x_tupT (x_vd rfl)) d_nil)) (sz 2 rfl)) d_nil))) (sz 3 rfl)) (by unfold iCl; rw [if_neg (by rw [hd]; decide)])
/-! _law_where_text: slots 0 _law_where_here  1 _law_part  2 _law_parts   -/
abbrev st_l_where_text0 : Stmt := topS 57
abbrev N_l_where_text0 : List Str := ["_law_where_here", "_law_part", "_law_parts"]
theorem sc_l_where_text0 : FnScope N_l_where_text0 ["_law_where_here"] (defScope st_l_where_text0) := ⟨rfl, rfl, rfl, by decide +kernel, rfl, by decide +kernel, by decide +kernel⟩
abbrev sp_l_where_text0 : Sp := SpG (α := D) (fun d => [.dat d]) (fun d => Part d) (fun d => RD (.str (wPart d)))
abbrev H_l_where_text0 (P : Program) (w : World) (K : PySem.W.Frag) (mg : Str → Option Value) (base : Heap) : Prop := Has P w K mg base 1 "_law_where_text" ["_law_where_here"] sp_l_where_text0
theorem has_l_where_text0 {P : Program} {w : World} {K : PySem.W.Frag} {mg : Str → Option Value} {base : Heap} (B : Gs mg) (F : DefAt K mg "_law_where_text" st_l_where_text0)  : H_l_where_text0 P w K mg base :=
  F.hasG sc_l_where_text0 (fun _ _ _ _ _ _ us hl => match us, hl with | [_], _ => rfl) (fun _ => rfl) fun f cdv A outer s H E hr => by
    have hu := room64 hr
    have hu1 := hu_of hr
    refine ⟨_, (pss_cons (ps_if (pt_cmpR op_isNA (pv 0) pe_non (nomark _))
        (pss_one (ps_ret pe_str))
        pss_nil)
      (pss_cons (ps_if (pt_val (pe_callB (call_isiK (K := K) rfl) (by rfl) B.isin b_isin (pa_cons (pv 0) (pa_cons (pe_bltn (v := .ty "str") (by rfl) B.str b_str rfl) pa_nil))))
        (pss_one (ps_ret (pe_op (op_addK (K := K) rfl) (pe_op (op_addK (K := K) rfl) (pe_callTy call_strA (by rfl) B.str b_str (pa_cons (pe_callB (call_lenK (K := K) rfl) (by rfl) B.len b_len (pa_cons (pv 0) pa_nil)) pa_nil)) pe_str) (pv 0))))
        pss_nil)
      (pss_cons ps_never
      (pss_one ps_never)))), fun x hp H R q => ?_⟩
    rcases hp with rfl | ⟨s, rfl, hs⟩
    · refine s_seq (s_if (b := true) (t_cB (x_isN (x_vd rfl) x_cn) (decide_eq_true rfl)) (fun _ => ?_) (fun z => nomatch z))
      exact r_D q x_cs
    · have hn := len_num s.length (by omega)
      refine s_seq (s_if (b := false) (t_cB (x_isN (x_vd rfl) x_cn) (decide_eq_false (fun z => nomatch z))) (fun z => nomatch z) (fun _ => s_next ?_))
      refine s_seq (s_if (b := true) (t_vB (x_isStr (x_vd rfl)) rfl) (fun _ => ?_) (fun z => nomatch z))
      refine r_D q (x_addS (x_addS (x_strI (x_lenS (x_vd rfl) (sizeL (by omega))) (numLog (by omega))) x_cs (sizeL ?_)) (x_vd rfl) (sizeL ?_))
      · rw [len_col]; omega
      · rw [Str.length_append, len_col]; omega
/-! _law_where_text: slots 0 _law_where_here  1 _law_part  2 _law_parts   -/
abbrev st_l_where_text : Stmt := topS 57
abbrev N_l_where_text : List Str := ["_law_where_here", "_law_part", "_law_parts"]
theorem sc_l_where_text : FnScope N_l_where_text ["_law_where_here"] (defScope st_l_where_text) := ⟨rfl, rfl, rfl, by decide +kernel, rfl, by decide +kernel, by decide +kernel⟩
abbrev sp_l_where_text : Sp := SpG (α := D) (fun d => [.dat d]) (fun d => Where d) (fun d => RD (.str (wWhere d)))
abbrev H_l_where_text (P : Program) (w : World) (K : PySem.W.Frag) (mg : Str → Option Value) (base : Heap) : Prop := Has P w K mg base 2 "_law_where_text" ["_law_where_here"] sp_l_where_text
theorem has_l_where_text {P : Program} {w : World} {K : PySem.W.Frag} {mg : Str → Option Value} {base : Heap} (B : Gs mg) (F : DefAt K mg "_law_where_text" st_l_where_text) (G_l_where_text0 : H_l_where_text0 P w K mg base) : H_l_where_text P w K mg base :=
  F.hasG sc_l_where_text (fun _ _ _ _ _ _ us hl => match us, hl with | [_], _ => rfl) (fun _ => rfl) fun f cdv A outer s H E hr => by
    have hu := room64 hr
    have hu1 := hu_of hr
    refine ⟨_, (pss_cons (ps_if (pt_cmpR op_isNA (pv 0) pe_non (nomark _))
        (pss_one (ps_ret pe_str))
        pss_nil)
      (pss_cons (ps_if (pt_val (pe_callB (call_isiK (K := K) rfl) (by rfl) B.isin b_isin (pa_cons (pv 0) (pa_cons (pe_bltn (v := .ty "str") (by rfl) B.str b_str rfl) pa_nil))))
        (pss_one (ps_ret (pe_op (op_addK (K := K) rfl) (pe_op (op_addK (K := K) rfl) (pe_callTy call_strA (by rfl) B.str b_str (pa_cons (pe_callB (call_lenK (K := K) rfl) (by rfl) B.len b_len (pa_cons (pv 0) pa_nil)) pa_nil)) pe_str) (pv 0))))
        pss_nil)
      (pss_cons (ps_setLc (i := 2) (own := [("_law_part", 1)]) (g := gName 1) (tt := tYes) rfl sc_l_where_text.nd rfl rfl (sw_true rfl rfl rfl (by decide +kernel)) (pi_list (pe_lst (pa_cons (pe_ix (ix_seqK (K := K) rfl) (pv 0) pe_int (fun _ _ => rfl)) (pa_cons (pe_ix (ix_seqK (K := K) rfl) (pe_ix (ix_seqK (K := K) rfl) (pv 0) pe_int (fun _ _ => rfl)) pe_int (fun _ _ => rfl)) (pa_cons (pe_ix (ix_seqK (K := K) rfl) (pe_ix (ix_seqK (K := K) rfl) (pv 0) pe_int (fun _ _ => rfl)) pe_int (fun _ _ => rfl)) pa_nil))))) (blkOk_by (own := [("_law_part", 1)]) (N := N_l_where_text) (sc := defScope st_l_where_text) (by decide +kernel)) (fun _ _ _ _ _ => (pg_name (i := 1) sc_l_where_text.nd rfl (Or.inl rfl))) (fun _ _ _ _ _ => pts_nil) (fun _ _ _ _ _ => (pe_has G_l_where_text0 hr (by decide) (by rfl) (pa_cons (pv 1) pa_nil))))
      (pss_one (ps_ret (pe_op (op_addK (K := K) rfl) (pe_op (op_addK (K := K) rfl) pe_str (pe_m1 PySem.F.slot_str_join PySem.F.type_str_join (mt_joinK (K := K) rfl) pe_str (pv 2))) pe_str)))))), fun x hp H R q => ?_⟩
    rcases hp with (rfl | ⟨s, rfl, hs⟩) | ⟨b, o, p, rfl, h1, h2, h3⟩
    · refine s_seq (s_if (b := true) (t_cB (x_isN (x_vd rfl) x_cn) (decide_eq_true rfl)) (fun _ => ?_) (fun z => nomatch z))
      exact r_D q x_cs
    · have hn := len_num s.length (by omega)
      refine s_seq (s_if (b := false) (t_cB (x_isN (x_vd rfl) x_cn) (decide_eq_false (fun z => nomatch z))) (fun z => nomatch z) (fun _ => s_next ?_))
      refine s_seq (s_if (b := true) (t_vB (x_isStr (x_vd rfl)) rfl) (fun _ => ?_) (fun z => nomatch z))
      refine r_D q (x_addS (x_addS (x_strI (x_lenS (x_vd rfl) (sizeL (by omega))) (numLog (by omega))) x_cs (sizeL ?_)) (x_vd rfl) (sizeL ?_))
      · rw [len_col]; omega
      · rw [Str.length_append, len_col]; omega
    · have a1 := len_part h1
      have a2 := len_part h2
      have a3 := len_part h3
      have hj := len_cl3 a1 a2 a3
      refine s_seq (s_if (b := false) (t_cB (x_isN (x_vd rfl) x_cn) (decide_eq_false (fun z => nomatch z))) (fun z => nomatch z) (fun _ => s_next ?_))
      refine s_seq (s_if (b := false) (t_vB (x_isStr (x_vd rfl)) rfl) (fun z => nomatch z) (fun _ => s_next ?_))
      refine s_seq (s_asgN (n_lcLY (xs := [b, o, p]) (fun d => .str (wPart d)) (EvN.x (n_lst (d_cons (x_ixT (x_vd rfl) x_ci (k := 1) rfl rfl) (d_cons (x_ixT (x_ixT (x_vd rfl) x_ci (k := 2) rfl rfl) x_ci (k := 0) rfl rfl) (d_cons (x_ixT (x_ixT (x_vd rfl) x_ci (k := 2) rfl rfl) x_ci (k := 1) rfl rfl) d_nil))) (sz 3 rfl))) (by simp) ?_) ?_)
      · intro i d hd
        have hpd : Part d := by
          have := List.mem_of_getElem? hd
          simp at this
          rcases this with rfl | rfl | rfl <;> assumption
        exact ⟨_, _, g_name, by simp, x_callD d (a_cons (x_vd rfl) a_nil) hpd rfl⟩
      refine r_D q (x_addS (x_addS x_cs (x_join (ss := [wPart b, wPart o, wPart p]) x_cs (x_vo rfl) (sizeJ ?_)) (sizeL ?_)) x_cs (sizeL ?_))
      · simp only [List.map_cons, List.map_nil, List.sum_cons, List.sum_nil, List.length_cons, List.length_nil, len_bar]
        omega
      · rw [len_o]; omega
      · rw [Str.length_append, len_o, len_c]; omega
/-! _law_where_clash: slots 0 _law_base  1 _law_one  2 _law_other   -/
abbrev st_l_where_clash : Stmt := topS 58
abbrev N_l_where_clash : List Str := ["_law_base", "_law_one", "_law_other"]
theorem sc_l_where_clash : FnScope N_l_where_clash ["_law_base", "_law_one", "_law_other"] (defScope st_l_where_clash) := ⟨rfl, rfl, rfl, by decide +kernel, rfl, by decide +kernel, by decide +kernel⟩
abbrev sp_l_where_clash : Sp := SpG (α := D × D × D) (fun x => [.dat x.1, .dat x.2.1, .dat x.2.2]) (fun x => Where x.2.1 ∧ Where x.2.2) (fun x => RD (wCl x.1 x.2.1 x.2.2))
abbrev H_l_where_clash (P : Program) (w : World) (K : PySem.W.Frag) (mg : Str → Option Value) (base : Heap) : Prop := Has P w K mg base 3 "_law_where_clash" ["_law_base", "_law_one", "_law_other"] sp_l_where_clash
theorem has_l_where_clash {P : Program} {w : World} {K : PySem.W.Frag} {mg : Str → Option Value} {base : Heap} (B : Gs mg) (F : DefAt K mg "_law_where_clash" st_l_where_clash) (G_l_where_text : H_l_where_text P w K mg base) : H_l_where_clash P w K mg base :=
  F.hasG sc_l_where_clash (fun _ _ _ _ _ _ us hl => match us, hl with | [_, _, _], _ => rfl) (fun _ => rfl) fun f cdv A outer s H E hr => by
    have hu := room64 hr
    have hu1 := hu_of hr
    refine ⟨_, (pss_cons (ps_if (pt_cmpR op_ltA (pe_has G_l_where_text hr (by decide) (by rfl) (pa_cons (pv 2) pa_nil)) (pe_has G_l_where_text hr (by decide) (by rfl) (pa_cons (pv 1) pa_nil)) (nomark _))
        (pss_one (ps_ret (pe_tup (pa_cons pe_str (pa_cons (pv 0) (pa_cons (pe_tup (pa_cons (pv 2) (pa_cons (pv 1) pa_nil))) pa_nil))))))
        pss_nil)
      (pss_one (ps_ret (pe_tup (pa_cons pe_str (pa_cons (pv 0) (pa_cons (pe_tup (pa_cons (pv 1) (pa_cons (pv 2) pa_nil))) pa_nil))))))), fun x hp H R q => ?_⟩
    obtain ⟨b, o, p⟩ := x
    obtain ⟨h1, h2⟩ := hp
    refine s_seq (s_if (b := ltS (wWhere p) (wWhere o)) (t_cmp (x_ltS (x_callD p (a_cons (x_vd rfl) a_nil) h2 rfl) (x_callD o (a_cons (x_vd rfl) a_nil) h1 rfl))) (fun hd => ?_) (fun hd => s_next ?_))
    · exact r_De q (x_tup (d_cons x_cs (d_cons (x_vd rfl) (d_cons (x_tup (d_cons (x_vd rfl) (d_cons (x_vd rfl) d_nil)) (sz 2 rfl)) d_nil))) (sz 3 rfl)) (by unfold wCl; rw [if_pos hd])
    · exact r_De q (x_tup (d_cons x_cs (d_cons (x_vd rfl) (d_cons (x_tup (d_cons (x_vd rfl) (d_cons (x_vd rfl) d_nil)) (sz 2 rfl)) d_nil))) (sz 3 rfl)) (by unfold wCl; rw [if_neg (by rw [hd]; decide)])
end Mw
-- part MwR1
set_option maxHeartbeats 4000000
/-! Runs as objects; methods by their names; a list compared with []. -/
namespace Mw
open PySem PySem.Spec PyProof.Rows L2
/-! ### methods -/
def MethAt (K : PySem.W.Frag) (C : Addr) (m qual : Str) (st : Stmt) : Prop := ∃ f fd, Meth K C m f ∧ FunD K m qual (defArgs st) (defBody st) (defScope st) [] [] f fd
def InitAt (K : PySem.W.Frag) (mg : Str → Option Value) (C : Addr) (x qual : Str) (st : Stmt) : Prop := mg x = some (.ref C) ∧ ∃ f fd, Mk K C f ∧ FunD K "__init__" qual (defArgs st) (defBody st) (defScope st) [] [] f fd
def HasM (P : Program) (w : World) (K : PySem.W.Frag) (mg : Str → Option Value) (base : Heap) (C : Addr) (k : Nat) (m : Str) (ps : List Str) (sp : Sp) : Prop :=
  ∃ f fd, Cls K C ∧ Meth K C m f ∧ FnOk P w K mg base CX0 k f fd ps sp ∧ Binds K fd ps []
def HasI (P : Program) (w : World) (K : PySem.W.Frag) (mg : Str → Option Value) (base : Heap) (C : Addr) (k : Nat) (x : Str) (ps : List Str) (sp : Sp) : Prop :=
  ∃ f fd, mg x = some (.ref C) ∧ Mk K C f ∧ FnOk P w K mg base CX0 k f fd ps sp ∧ Binds K fd ps []
section
variable {P : Program} {w : World} {K : PySem.W.Frag} {mg : Str → Option Value} {base : Heap} {C : Addr} {m qual x : Str} {st : Stmt} {N ps : List Str} {k : Nat} {sp : Sp}
theorem MethAt.has (c : Cls K C) (F : MethAt K C m qual st) (S : FnScope N ps (defScope st)) (hb : ∀ (kV doc pm : Value) (an : Option Addr) (cdv ct : Value) (us : List Value), us.length = ps.length → bindArgs (PySem.W.fnOf m qual (defArgs st) (defBody st) (defScope st) .none kV doc pm an cdv ct) ⟨us, []⟩ = pure (ps.zip us))
    (len : ∀ vs H Q E, sp vs H Q E → vs.length = ps.length)
    (hbody : ∀ (f : Addr) (cdv : Value) (A : Around) (outer : List Env) (s : Shared) (H : Hp) (vs : List V) (Q : VK) (E : XK), Room k (A.deeper (envOfC qual (defScope st) s.heap.objs.size f cdv)) → sp vs H Q E →
      ∃ t, PSs (cxOf CX0 P w K mg base N qual (defScope st) f cdv A outer s H E).nox (defBody st) t ∧ t { nx := fun _ H' => Q .non H', rt := Q } (start N vs) H) : HasM P w K mg base C (k + 1) m ps sp := by
  obtain ⟨f, fd, h1, h2⟩ := F
  exact ⟨f, fd, c, h1, h2.ok S len (fun cdv A outer s H vs Q E hr h => by
    obtain ⟨t, k1, k2⟩ := hbody f cdv A outer s H vs Q E hr h
    exact ⟨t, k1.nox, k2⟩), h2.bindsN hb⟩
theorem InitAt.has (F : InitAt K mg C x qual st) (S : FnScope N ps (defScope st)) (hb : ∀ (kV doc pm : Value) (an : Option Addr) (cdv ct : Value) (us : List Value), us.length = ps.length → bindArgs (PySem.W.fnOf "__init__" qual (defArgs st) (defBody st) (defScope st) .none kV doc pm an cdv ct) ⟨us, []⟩ = pure (ps.zip us))
    (len : ∀ vs H Q E, sp vs H Q E → vs.length = ps.length)
    (hbody : ∀ (f : Addr) (cdv : Value) (A : Around) (outer : List Env) (s : Shared) (H : Hp) (vs : List V) (Q : VK) (E : XK), Room k (A.deeper (envOfC qual (defScope st) s.heap.objs.size f cdv)) → sp vs H Q E →
      ∃ t, PSs (cxOf CX0 P w K mg base N qual (defScope st) f cdv A outer s H E).nox (defBody st) t ∧ t { nx := fun _ H' => Q .non H', rt := Q } (start N vs) H) : HasI P w K mg base C (k + 1) x ps sp := by
  obtain ⟨h0, f, fd, h1, h2⟩ := F
  exact ⟨f, fd, h0, h1, h2.ok S len (fun cdv A outer s H vs Q E hr h => by
    obtain ⟨t, k1, k2⟩ := hbody f cdv A outer s H vs Q E hr h
    exact ⟨t, k1.nox, k2⟩), h2.bindsN hb⟩
theorem MethAt.hasG {α : Type} {av : α → List AV} {pre : α → Prop} {rp : α → Rp} (c : Cls K C) (F : MethAt K C m qual st) (S : FnScope N ps (defScope st)) (hb : ∀ (kV doc pm : Value) (an : Option Addr) (cdv ct : Value) (us : List Value), us.length = ps.length → bindArgs (PySem.W.fnOf m qual (defArgs st) (defBody st) (defScope st) .none kV doc pm an cdv ct) ⟨us, []⟩ = pure (ps.zip us))
    (len : ∀ x, (av x).length = ps.length)
    (hbody : ∀ (f : Addr) (cdv : Value) (A : Around) (outer : List Env) (s : Shared) (H : Hp) (E : XK), Room k (A.deeper (envOfC qual (defScope st) s.heap.objs.size f cdv)) →
      ∃ t, PSs (cxOf CX0 P w K mg base N qual (defScope st) f cdv A outer s H E).nox (defBody st) t ∧ ∀ y, pre y → ∀ H R, Gives H (rp y) R → ExS H R t ((av y).map AV.sv ++ List.replicate (N.length - (av y).length) .no) (fun _ _ => False)) : HasM P w K mg base C (k + 1) m ps (SpG av pre rp) :=
  F.has c S hb (fun vs H Q E h => by
    obtain ⟨y, h, _⟩ := h
    rw [h.length, len]) fun f cdv A outer s H vs Q E hr h => by
    obtain ⟨t, h1, h2⟩ := hbody f cdv A outer s H E hr
    obtain ⟨y, h3, h4, h5⟩ := h
    exact ⟨t, h1, ExS.enter h3 rfl (h2 y h4 H Q h5)⟩
theorem pe_hasM {X : Cx} {j : Nat} {pl : Sem Bool} {e o : Expr} {es : List Expr} {ta : TE} {t : TA} {pos apos : Pos} (G : HasM X.prog X.w X.K X.mg X.base C k m ps sp) (hr : Room j X.A) (hk : k ≤ j) (he : PE X o ta) (ha : PA X (e :: es) t)
    (hst : starEach (e :: es) X.env = (false, eval e X.env) :: starEach es X.env := by rfl) (hpl : (backTo pos (starEach es X.env)).any (·.1) = false := by rfl)
    (ht : eval (.Call (.Attribute o m apos) (e :: es) [] pos) X.env = (do
      let ov ← eval o X.env
      standAt apos.atName
      let (f, first) ← holding [ov] (getMethod ov m pl)
      callWith pos f first (backTo pos (starEach (e :: es) X.env)) (backToKw pos (keywordEach [] X.env))) := by rfl) :
    PE X (.Call (.Attribute o m apos) (e :: es) [] pos) (tMeth C m sp [] E0 ta t) := by
  obtain ⟨f, fd, h0, h1, h2, h4⟩ := G
  exact pe_meth he h0 h1 h2 (hr.mono hk) h4 .nil pass0 ha hst hpl ht
theorem pe_hasI {X : Cx} {j : Nat} {e : Expr} {es : List Expr} {t : TA} {p pos : Pos} (G : HasI X.prog X.w X.K X.mg X.base C k x ps sp) (hr : Room j X.A) (hk : k + 1 ≤ j) (hg : Gl X x) (ha : PA X (e :: es) t) (hdb : (x == ("__debug__" : Str)) = false := by decide)
    (he : starEach (e :: es) X.env = (false, eval e X.env) :: starEach es X.env := by rfl) (hpl : (backTo pos (starEach es X.env)).any (·.1) = false := by rfl) :
    PE X (.Call (.Name x p) (e :: es) [] pos) (tMake C sp [] E0 t) := by
  obtain ⟨f, fd, h0, h1, h2, h4⟩ := G
  exact pe_make h1 h2 (hr.mono hk) hg h0 h4 .nil pass0 ha hdb he hpl
end
/-! ### a list == [] -/
def rEqE (K : PySem.W.Frag) : R2 := fun x y H Q => ∃ p q xs, x = .ref p ∧ y = .ref q ∧ SqL K H p xs ∧ SqL K H q [] ∧ Q (.bl (decide (xs = []))) H
theorem op_eqE {X : Cx} {K : PySem.W.Frag} (hK : X.K = K) (hu : X.A.units + 64 < cLine) : OpR X (compareOp .Eq) (rEqE K) := by
  subst hK
  intro pins s σ H x y v u Q I rx ry h
  obtain ⟨p, q, xs, rfl, rfl, h1, h2, hq⟩ := h
  cases rx
  cases ry
  obtain ⟨its, r, pl, hz⟩ := I.list h1
  obtain ⟨its2, r2, pl2, hz2⟩ := I.list h2
  cases r2
  have hl := r.length
  by_cases e : xs = []
  · rw [decide_eq_true e] at hq
    rw [e] at hl
    have e2 : its = [] := List.length_eq_zero_iff.mp hl.symm
    subst e2
    exact SeqAt.eq_listAt (e := fun _ => true) pl.isList pl2.isList rfl (by omega) (fun j h1 _ => absurd h1 (by simp)) ⟨.bl true, H, I, rfl, hq⟩
  · rw [decide_eq_false e] at hq
    refine SeqAt.eq_list_lengthsAt pl.isList pl2.isList ?_ (by omega) ⟨.bl false, H, I, rfl, hq⟩
    have : xs.length ≠ 0 := fun z => e (List.length_eq_zero_iff.mp z)
    simp only [List.size_toArray, List.length_nil, bne_iff_ne, ne_eq]
    omega
/-! ### runs -/
section
variable {C : Addr}
def RunAt (C : Addr) (H : Hp) (a : Addr) (r : RunS) (F : List Addr) : Prop := ∃ dx t l0 l1 v0 v1, F = [a, dx, l0, l1] ∧ H a = some (.ins C dx [("beginning", .int (r.b : Int)), ("end", .int (r.e : Int)), ("sides", .ref t)]) ∧ H dx = some (.own a) ∧ H t = some (.tup [.ref l0, .ref l1]) ∧
  H l0 = some (.lst v0) ∧ DVs H v0 (cutsD r.s) ∧ H l1 = some (.lst v1) ∧ DVs H v1 (cutsD r.t)
theorem RunAt.away {H H' : Hp} {a : Addr} {r : RunS} {F : List Addr} (w : Away F H H') (h : RunAt C H a r F) : RunAt C H' a r F := by
  obtain ⟨dx, t, l0, l1, v0, v1, rfl, h1, h2, h3, h4, h5, h6, h7⟩ := h
  exact ⟨dx, t, l0, l1, v0, v1, rfl, w.2 a (by simp) _ h1, w.2 dx (by simp) _ h2, w.1 _ _ h3, w.2 l0 (by simp) _ h4, DVs.ts w.1 _ _ h5, w.2 l1 (by simp) _ h6, DVs.ts w.1 _ _ h7⟩
theorem RunAt.mono {H H' : Hp} {a : Addr} {r : RunS} {F : List Addr} (e : Same H H') (h : RunAt C H a r F) : RunAt C H' a r F := h.away (.of e)
theorem RunAt.inn {H : Hp} {a : Addr} {r : RunS} {F : List Addr} (h : RunAt C H a r F) : ∀ b ∈ F, ∃ o, H b = some o ∧ ∀ vs, o ≠ .tup vs := by
  obtain ⟨dx, t, l0, l1, v0, v1, rfl, h1, h2, h3, h4, h5, h6, h7⟩ := h
  intro b hb
  have hb : b = a ∨ b = dx ∨ b = l0 ∨ b = l1 := by simpa using hb
  rcases hb with rfl | rfl | rfl | rfl
  · exact ⟨_, h1, fun _ k => by cases k⟩
  · exact ⟨_, h2, fun _ k => by cases k⟩
  · exact ⟨_, h4, fun _ k => by cases k⟩
  · exact ⟨_, h6, fun _ k => by cases k⟩
def RunHd (C : Addr) (r : RunS) : Hd := ⟨fun H v => ∃ a F, v = .ref a ∧ RunAt C H a r F, fun e h => by
  obtain ⟨a, F, h1, h2⟩ := h
  exact ⟨a, F, h1, h2.mono e⟩⟩
/-- a list of runs -/
def RunsL (C : Addr) (H : Hp) : List Addr → List RunS → List (List Addr) → Prop
  | [], [], [] => True
  | a :: as, r :: rs, F :: Fs => RunAt C H a r F ∧ RunsL C H as rs Fs
  | _, _, _ => False
theorem RunsL.away {H H' : Hp} : ∀ {as : List Addr} {rs : List RunS} {Fs : List (List Addr)}, Away Fs.flatten H H' → RunsL C H as rs Fs → RunsL C H' as rs Fs
  | [], [], [], _, _ => trivial
  | a :: as, r :: rs, F :: Fs, w, h => ⟨h.1.away ⟨w.1, fun b hb => w.2 b (by rw [List.flatten_cons, List.mem_append]; exact .inl hb)⟩, RunsL.away ⟨w.1, fun b hb => w.2 b (by rw [List.flatten_cons, List.mem_append]; exact .inr hb)⟩ h.2⟩
  | [], [], _ :: _, _, h => h.elim
  | [], _ :: _, _, _, h => h.elim
  | _ :: _, [], _, _, h => h.elim
  | _ :: _, _ :: _, [], _, h => h.elim
theorem RunsL.inn {H : Hp} : ∀ {as : List Addr} {rs : List RunS} {Fs : List (List Addr)}, RunsL C H as rs Fs → ∀ b ∈ Fs.flatten, ∃ o, H b = some o ∧ ∀ vs, o ≠ .tup vs
  | [], [], [], _, b, hb => by simp at hb
  | a :: as, r :: rs, F :: Fs, h, b, hb => by
    rw [List.flatten_cons, List.mem_append] at hb
    rcases hb with hb | hb
    · exact h.1.inn b hb
    · exact RunsL.inn h.2 b hb
  | [], [], _ :: _, h, _, _ => h.elim
  | [], _ :: _, _, h, _, _ => h.elim
  | _ :: _, [], _, h, _, _ => h.elim
  | _ :: _, _ :: _, [], h, _, _ => h.elim
theorem RunsL.len {H : Hp} : ∀ {as : List Addr} {rs : List RunS} {Fs : List (List Addr)}, RunsL C H as rs Fs → as.length = rs.length
  | [], [], [], _ => rfl
  | a :: as, r :: rs, F :: Fs, h => by rw [List.length_cons, List.length_cons, RunsL.len h.2]
  | [], [], _ :: _, h => h.elim
  | [], _ :: _, _, h => h.elim
  | _ :: _, [], _, h => h.elim
  | _ :: _, _ :: _, [], h => h.elim
theorem RunsL.get {H : Hp} : ∀ {as : List Addr} {rs : List RunS} {Fs : List (List Addr)} {i : Nat} {a : Addr}, RunsL C H as rs Fs → as[i]? = some a → ∃ r F, rs[i]? = some r ∧ RunAt C H a r F
  | [], [], [], i, a, _, h => by simp at h
  | a :: as, r :: rs, F :: Fs, 0, b, h, hb => by
    have e : a = b := by simpa using hb
    subst e
    exact ⟨r, F, rfl, h.1⟩
  | a :: as, r :: rs, F :: Fs, i + 1, b, h, hb => by
    obtain ⟨r', F', h1, h2⟩ := RunsL.get (i := i) (a := b) h.2 (by simpa using hb)
    exact ⟨r', F', by simpa using h1, h2⟩
  | [], [], _ :: _, _, _, h, _ => h.elim
  | [], _ :: _, _, _, _, h, _ => h.elim
  | _ :: _, [], _, _, _, h, _ => h.elim
  | _ :: _, _ :: _, [], _, _, h, _ => h.elim
theorem RunsL.snoc {H : Hp} {b : Addr} {r' : RunS} {G : List Addr} (hb : RunAt C H b r' G) : ∀ {as : List Addr} {rs : List RunS} {Fs : List (List Addr)}, RunsL C H as rs Fs → RunsL C H (as ++ [b]) (rs ++ [r']) (Fs ++ [G])
  | [], [], [], _ => ⟨hb, trivial⟩
  | a :: as, r :: rs, F :: Fs, h => ⟨h.1, RunsL.snoc hb h.2⟩
  | [], [], _ :: _, h => h.elim
  | [], _ :: _, _, h => h.elim
  | _ :: _, [], _, h => h.elim
  | _ :: _, _ :: _, [], h => h.elim
/-- the last one -/
theorem RunsL.unsnoc {H : Hp} {r : RunS} : ∀ {as : List Addr} {rs : List RunS} {Fs : List (List Addr)}, RunsL C H as (rs ++ [r]) Fs → ∃ as0 b Fs0 G, as = as0 ++ [b] ∧ Fs = Fs0 ++ [G] ∧ RunsL C H as0 rs Fs0 ∧ RunAt C H b r G
  | [a], [], [F], h => ⟨[], a, [], F, rfl, rfl, trivial, h.1⟩
  | a :: as, q :: rs, F :: Fs, h => by
    obtain ⟨as0, b, Fs0, G, h1, h2, h3, h4⟩ := RunsL.unsnoc (as := as) (rs := rs) (Fs := Fs) h.2
    exact ⟨a :: as0, b, F :: Fs0, G, by rw [h1]; rfl, by rw [h2]; rfl, ⟨h.1, h3⟩, h4⟩
  | [], [], _, h => h.elim
  | [], _ :: _, _, h => h.elim
  | _ :: _, _ :: _, [], h => h.elim
  | [_], [], [], h => h.elim
  | _ :: _ :: _, [], [], h => h.elim
  | _ :: _ :: _, [], [_], h => h.2.elim
  | _ :: _ :: _, [], _ :: _ :: _, h => h.2.elim
  | [_], [], _ :: _ :: _, h => h.2.elim
def RunsHd (C : Addr) (rs : List RunS) : Hd := ⟨fun H v => ∃ p as Fs, v = .ref p ∧ H p = some (.lst (as.map V.ref)) ∧ RunsL C H as rs Fs, fun e h => by
  obtain ⟨p, as, Fs, h1, h2, h3⟩ := h
  exact ⟨p, as, Fs, h1, e _ _ h2, h3.away (.of e)⟩⟩
def RunsR (C : Addr) (rs : List RunS) : Rgn where
  ok := fun H v F => ∃ p as Fs, v = .ref p ∧ F = p :: Fs.flatten ∧ H p = some (.lst (as.map V.ref)) ∧ RunsL C H as rs Fs
  away := fun w h => by
    obtain ⟨p, as, Fs, h1, h2, h3, h4⟩ := h
    subst h2
    exact ⟨p, as, Fs, h1, rfl, w.2 p (by simp) _ h3, h4.away ⟨w.1, fun b hb => w.2 b (List.mem_cons_of_mem _ hb)⟩⟩
  inn := fun h b hb => by
    obtain ⟨p, as, Fs, h1, h2, h3, h4⟩ := h
    subst h2
    rcases List.mem_cons.mp hb with z | z
    · rw [z]
      exact ⟨_, h3, fun _ k => by cases k⟩
    · exact h4.inn b z
  hd := RunsHd C rs
  toHd := fun h => by
    obtain ⟨p, as, Fs, h1, h2, h3, h4⟩ := h
    exact ⟨p, as, Fs, h1, h3, h4⟩
end
end Mw
-- part MwF
set_option maxHeartbeats 4000000
namespace Mw
open PySem PySem.Spec PyProof.Rows L2
/-! cut_end: slots 0 cut   -/
abbrev st_cut_end : Stmt := topS 11
abbrev N_cut_end : List Str := ["cut"]
theorem sc_cut_end : FnScope N_cut_end ["cut"] (defScope st_cut_end) := ⟨rfl, rfl, rfl, by decide +kernel, rfl, by decide +kernel, by decide +kernel⟩
abbrev sp_cut_end : Sp := SpG (α := Cut) (fun c => [.dat c.d]) (fun _ => True) (fun c => RD (.int (c.e : Int)))
abbrev H_cut_end (P : Program) (w : World) (K : PySem.W.Frag) (mg : Str → Option Value) (base : Heap) : Prop := Has P w K mg base 1 "cut_end" ["cut"] sp_cut_end
theorem has_cut_end {P : Program} {w : World} {K : PySem.W.Frag} {mg : Str → Option Value} {base : Heap} (B : Gs mg) (F : DefAt K mg "cut_end" st_cut_end)  : H_cut_end P w K mg base :=
  F.hasG sc_cut_end (fun _ _ _ _ _ _ us hl => match us, hl with | [_], _ => rfl) (fun _ => rfl) fun f cdv A outer s H E hr => by
    have hu := room64 hr
    have hu1 := hu_of hr
    refine ⟨_, (pss_one (ps_ret (pe_op (op_addK (K := K) rfl) (pe_ix (ix_seqK (K := K) rfl) (pv 0) pe_int (fun _ _ => rfl)) (pe_callB (call_lenK (K := K) rfl) (by rfl) B.len b_len (pa_cons (pe_ix (ix_seqK (K := K) rfl) (pv 0) pe_int (fun _ _ => rfl)) pa_nil))))), fun x hp H R q => ?_⟩
    exact r_De q (x_addI (x_ixT (x_vd rfl) x_ci rfl rfl) (x_lenT (x_ixT (x_vd rfl) x_ci rfl rfl))) (by rw [Cut.e, Int.natCast_add])
/-! grown: slots 0 cut   -/
abbrev st_grown : Stmt := topS 13
abbrev N_grown : List Str := ["cut"]
theorem sc_grown : FnScope N_grown ["cut"] (defScope st_grown) := ⟨rfl, rfl, rfl, by decide +kernel, rfl, by decide +kernel, by decide +kernel⟩
abbrev sp_grown : Sp := SpG (α := Cut) (fun c => [.dat c.d]) (fun _ => True) (fun c => RD (.int ((c.p.length : Int) - (c.o.length : Int))))
abbrev H_grown (P : Program) (w : World) (K : PySem.W.Frag) (mg : Str → Option Value) (base : Heap) : Prop := Has P w K mg base 1 "grown" ["cut"] sp_grown
theorem has_grown {P : Program} {w : World} {K : PySem.W.Frag} {mg : Str → Option Value} {base : Heap} (B : Gs mg) (F : DefAt K mg "grown" st_grown)  : H_grown P w K mg base :=
  F.hasG sc_grown (fun _ _ _ _ _ _ us hl => match us, hl with | [_], _ => rfl) (fun _ => rfl) fun f cdv A outer s H E hr => by
    have hu := room64 hr
    have hu1 := hu_of hr
    refine ⟨_, (pss_one (ps_ret (pe_op op_sub (pe_callB (call_lenK (K := K) rfl) (by rfl) B.len b_len (pa_cons (pe_ix (ix_seqK (K := K) rfl) (pv 0) pe_int (fun _ _ => rfl)) pa_nil)) (pe_callB (call_lenK (K := K) rfl) (by rfl) B.len b_len (pa_cons (pe_ix (ix_seqK (K := K) rfl) (pv 0) pe_int (fun _ _ => rfl)) pa_nil))))), fun x hp H R q => ?_⟩
    exact r_D q (x_sub (x_lenT (x_ixT (x_vd rfl) x_ci rfl rfl)) (x_lenT (x_ixT (x_vd rfl) x_ci rfl rfl)))
/-! cuts_touch: slots 0 cut  1 other   -/
abbrev st_cuts_touch : Stmt := topS 14
abbrev N_cuts_touch : List Str := ["cut", "other"]
theorem sc_cuts_touch : FnScope N_cuts_touch ["cut", "other"] (defScope st_cuts_touch) := ⟨rfl, rfl, rfl, by decide +kernel, rfl, by decide +kernel, by decide +kernel⟩
abbrev sp_cuts_touch : Sp := SpG (α := Cut × Cut) (fun x => [.dat x.1.d, .dat x.2.d]) (fun _ => True) (fun x => RV (.bl (tch x.1 x.2)))
abbrev H_cuts_touch (P : Program) (w : World) (K : PySem.W.Frag) (mg : Str → Option Value) (base : Heap) : Prop := Has P w K mg base 2 "cuts_touch" ["cut", "other"] sp_cuts_touch
theorem has_cuts_touch {P : Program} {w : World} {K : PySem.W.Frag} {mg : Str → Option Value} {base : Heap} (B : Gs mg) (F : DefAt K mg "cuts_touch" st_cuts_touch) (G_cut_end : H_cut_end P w K mg base) : H_cuts_touch P w K mg base :=
  F.hasG sc_cuts_touch (fun _ _ _ _ _ _ us hl => match us, hl with | [_, _], _ => rfl) (fun _ => rfl) fun f cdv A outer s H E hr => by
    have hu := room64 hr
    have hu1 := hu_of hr
    refine ⟨_, (pss_one (ps_ret (pe_and (pe_cmpR op_le (pe_ix (ix_seqK (K := K) rfl) (pv 0) pe_int (fun _ _ => rfl)) (pe_has G_cut_end hr (by decide) (by rfl) (pa_cons (pv 1) pa_nil)) (nomark _)) (pe_one (pe_cmpR op_le (pe_ix (ix_seqK (K := K) rfl) (pv 1) pe_int (fun _ _ => rfl)) (pe_has G_cut_end hr (by decide) (by rfl) (pa_cons (pv 0) pa_nil)) (nomark _)))))), fun x hp H R q => ?_⟩
    refine r_B q (x_andV (x_le (x_ixT (x_vd rfl) x_ci rfl rfl) (x_callD x.2 (a_cons (x_vd rfl) a_nil) trivial rfl)) fun _ => x_le (x_ixT (x_vd rfl) x_ci rfl rfl) (x_callD x.1 (a_cons (x_vd rfl) a_nil) trivial rfl)) ?_
    simp only [tch, Cut.e, ← Int.natCast_add, Int.ofNat_le]
/-! laid_cuts: slots 0 cuts  1 items  2 found  3 at  4 number  5 cut   -/
abbrev st_laid_cuts : Stmt := topS 12
abbrev N_laid_cuts : List Str := ["cuts", "items", "found", "at", "number", "cut"]
theorem sc_laid_cuts : FnScope N_laid_cuts ["cuts", "items"] (defScope st_laid_cuts) := ⟨rfl, rfl, rfl, by decide +kernel, rfl, by decide +kernel, by decide +kernel⟩
abbrev sp_laid_cuts : Sp := SpG (α := List Cut × List D) (fun x => [.dat (.tup (cutsD x.1)), .dat (.tup x.2)]) (fun x => Low x.2 ∧ Fits x.2 0 x.1 ∧ (lay x.2 x.1 0).length ≤ 10000) (fun x => RD (.tup (lay x.2 x.1 0)))
abbrev H_laid_cuts (P : Program) (w : World) (K : PySem.W.Frag) (mg : Str → Option Value) (base : Heap) : Prop := Has P w K mg base 2 "laid_cuts" ["cuts", "items"] sp_laid_cuts
theorem has_laid_cuts {P : Program} {w : World} {K : PySem.W.Frag} {mg : Str → Option Value} {base : Heap} (B : Gs mg) (F : DefAt K mg "laid_cuts" st_laid_cuts) (G_cut_end : H_cut_end P w K mg base) : H_laid_cuts P w K mg base :=
  F.hasG sc_laid_cuts (fun _ _ _ _ _ _ us hl => match us, hl with | [_, _], _ => rfl) (fun _ => rfl) fun f cdv A outer s H E hr => by
    have hu := room64 hr
    have hu1 := hu_of hr
    refine ⟨_, (pss_cons (ps_set (i := 2) sc_laid_cuts.nd rfl (Or.inl rfl) (pe_tup pa_nil))
      (pss_cons (ps_set (i := 3) sc_laid_cuts.nd rfl (Or.inl rfl) pe_int)
      (pss_cons (ps_for PassesOwn.never rfl (pi_enumT (by rfl) B.enum (pa_cons (pv 0) pa_nil)) (pg_tup (by rfl) (pgs_cons (pg_name (i := 4) sc_laid_cuts.nd rfl (Or.inl rfl)) (pgs_cons (pg_name (i := 5) sc_laid_cuts.nd rfl (Or.inl rfl)) pgs_nil)))
        (pss_cons (ps_if (PW.pt (pw_or (pt_cmpR (op_neK (K := K) rfl hu) (pe_slice (sl_anyK (K := K) rfl) (pv 1) (po_some (pe_ix (ix_seqK (K := K) rfl) (pv 5) pe_int (fun _ _ => rfl))) (po_some (pe_has G_cut_end hr (by decide) (by rfl) (pa_cons (pv 5) pa_nil)))) (pe_ix (ix_seqK (K := K) rfl) (pv 5) pe_int (fun _ _ => rfl)) (nomark _)) (pw_or1 (pt_cmpR op_gt (pe_ix (ix_seqK (K := K) rfl) (pv 5) pe_int (fun _ _ => rfl)) (pe_callB (call_lenK (K := K) rfl) (by rfl) B.len b_len (pa_cons (pv 1) pa_nil)) (nomark _)))))
          (pss_one ps_never)
          pss_nil)
        (pss_cons (ps_set (i := 2) sc_laid_cuts.nd rfl (Or.inl rfl) (pe_op (op_addK (K := K) rfl) (pe_op (op_addK (K := K) rfl) (pv 2) (pe_slice (sl_anyK (K := K) rfl) (pv 1) (po_some (pv 3)) (po_some (pe_ix (ix_seqK (K := K) rfl) (pv 5) pe_int (fun _ _ => rfl))))) (pe_ix (ix_seqK (K := K) rfl) (pv 5) pe_int (fun _ _ => rfl))))
        (pss_one (ps_set (i := 3) sc_laid_cuts.nd rfl (Or.inl rfl) (pe_has G_cut_end hr (by decide) (by rfl) (pa_cons (pv 5) pa_nil)))))))
      (pss_one (ps_ret (pe_op (op_addK (K := K) rfl) (pv 2) (pe_slice (sl_anyK (K := K) rfl) (pv 1) (po_some (pv 3)) po_none))))))), fun x hp H R q => ?_⟩
    obtain ⟨cs, A⟩ := x
    obtain ⟨hl, hf, hz⟩ := hp
    refine s_seq (s_asg (x_tup d_nil (by decide)) ?_)
    refine s_seq (s_asg x_ci ?_)
    refine s_seq (s_forE (xs := cutsD cs) (js := [4, 5]) (x_vd rfl) (fun i S' => ∃ (f : List D) (p : Nat) (u v : SV), S' = [.dat (.tup (cutsD cs)), .dat (.tup A), .dat (.tup f), .dat (.int (p : Int)), u, v] ∧ f ++ lay A (cs.drop i) p = lay A cs 0 ∧ Fits A p (cs.drop i)) ⟨[], 0, _, _, rfl, rfl, hf⟩ ?_ ?_)
    · rintro H1 e1 i c' S' hc ⟨f, p, u, v, rfl, h1, h2⟩
      rw [List.getElem?_map] at hc
      obtain ⟨c, hc2, rfl⟩ := Option.map_eq_some_iff.mp hc
      rw [drop_get hc2] at h1 h2
      obtain ⟨k1, k2, k3, k4⟩ := h2
      have hzz : f.length + ((A.take c.a).drop p).length + c.p.length ≤ 10000 := by
        rw [← h1] at hz
        simp only [lay, List.length_append] at hz ⊢
        omega
      refine ⟨_, g_tup rfl rfl, ?_⟩
      refine s_seq (s_if (b := false) ?_ (fun z => nomatch z) (fun _ => s_next ?_))
      · refine t_is (t_or (t_cmp (x_ne (x_slN c.a c.e (x_vd rfl) (x_ixT (x_vd rfl) x_ci rfl rfl) (x_callD c (a_cons (x_vd rfl) a_nil) trivial rfl) rfl rfl) (x_ixT (x_vd rfl) x_ci rfl rfl) ?_)) fun _ => t_cmp (x_gt (x_ixT (x_vd rfl) x_ci rfl rfl) (x_lenT (x_vd rfl)))) ?_
        · exact low_min ((hl.take _).drop _) _
        · rw [k3]
          have : ¬ ((A.length : Int) < (c.a : Int)) := by
            have : c.a ≤ c.e := by unfold Cut.e; omega
            omega
          simp [this]
      · refine s_seq (s_asg (x_addT (x_addT (x_vd rfl) (x_slN p c.a (x_vd rfl) (x_vd rfl) (x_ixT (x_vd rfl) x_ci rfl rfl) rfl rfl) ?_) (x_ixT (x_vd rfl) x_ci rfl rfl) ?_) ?_)
        · rw [sizeLine_eq]; omega
        · rw [sizeLine_eq, List.length_append]; omega
        · refine s_asg (x_callD c (a_cons (x_vd rfl) a_nil) trivial rfl) ⟨_, c.e, _, _, rfl, ?_, k4.mono (Nat.le_succ _)⟩
          rw [← h1]
          simp only [lay, List.append_assoc]
    · rintro H1 e1 S' ⟨f, p, u, v, rfl, h1, h2⟩
      rw [List.length_map] at h1
      rw [List.drop_length] at h1
      have hzz : f.length + (A.drop p).length ≤ 10000 := by
        rw [← h1] at hz
        simp only [lay, List.length_append] at hz ⊢
        exact hz
      exact r_De (q.up e1) (x_addT (x_vd rfl) (x_slF p (x_vd rfl) (x_vd rfl) rfl) (by rw [sizeLine_eq]; omega)) (congrArg D.tup h1)
/-! shifted: slots 0 cuts  1 others  2 found  3 cut*  4 beside  5 more   -/
abbrev st_shifted : Stmt := topS 16
abbrev N_shifted : List Str := ["cuts", "others", "found", "cut", "beside", "more"]
theorem sc_shifted : FnScope N_shifted ["cuts", "others"] (defScope st_shifted) := ⟨rfl, rfl, rfl, by decide +kernel, rfl, by decide +kernel, by decide +kernel⟩
abbrev sp_shifted : Sp := SpG (α := List Cut × List Cut) (fun x => [.dat (.tup (cutsD x.1)), .dat (.tup (cutsD x.2))]) (fun x => x.1.length ≤ 100 ∧ x.2.length ≤ 100) (fun x => RD (.tup (x.1.map fun c => D.tup [.int ((c.a : Int) + moreI x.2 c.a), .tup c.o, .tup c.p])))
abbrev H_shifted (P : Program) (w : World) (K : PySem.W.Frag) (mg : Str → Option Value) (base : Heap) : Prop := Has P w K mg base 2 "shifted" ["cuts", "others"] sp_shifted
theorem has_shifted {P : Program} {w : World} {K : PySem.W.Frag} {mg : Str → Option Value} {base : Heap} (B : Gs mg) (F : DefAt K mg "shifted" st_shifted) (G_grown : H_grown P w K mg base) : H_shifted P w K mg base :=
  F.hasG sc_shifted (fun _ _ _ _ _ _ us hl => match us, hl with | [_, _], _ => rfl) (fun _ => rfl) fun f cdv A outer s H E hr => by
    have hu := room64 hr
    have hu1 := hu_of hr
    refine ⟨_, (pss_cons (ps_set (i := 2) sc_shifted.nd rfl (Or.inl rfl) (pe_lst pa_nil))
      (pss_cons (ps_for PassesOwn.never rfl (pi_tup (pv 0)) (pg_name (i := 3) sc_shifted.nd rfl (Or.inr rfl))
        (pss_cons (ps_set (i := 5) sc_shifted.nd rfl (Or.inl rfl) (pe_callB (call_sumK (K := K) rfl rfl) (by rfl) B.sum b_sum (pa_cons (pe_lc (own := [("beside", 4)]) (g := gName 4) rfl sc_shifted.nd (pi_tup (pv 1)) (blkOk_by (own := [("beside", 4)]) (N := N_shifted) (sc := defScope st_shifted) (by decide +kernel)) (fun _ _ _ _ _ => (pg_name (i := 4) sc_shifted.nd rfl (Or.inl rfl))) (fun _ _ _ _ _ => (pts_one (pt_cmpR op_ltA (pe_ix (ix_seqK (K := K) rfl) (pv 4) pe_int (fun _ _ => rfl)) (pe_ix (ix_seqK (K := K) rfl) (pv 3) pe_int (fun _ _ => rfl)) (nomark _)))) (fun _ _ _ _ _ => (pe_has G_grown hr (by decide) (by rfl) (pa_cons (pv 4) pa_nil)))) pa_nil)))
        (pss_one (ps_expr (pe_bm PySem.F.plainAttrs_list PySem.F.slot_list_append PySem.F.type_list_append mt_append (pv 2) (pa_cons (pe_tup (pa_cons (pe_op (op_addK (K := K) rfl) (pe_ix (ix_seqK (K := K) rfl) (pv 3) pe_int (fun _ _ => rfl)) (pv 5)) (pa_cons (pe_ix (ix_seqK (K := K) rfl) (pv 3) pe_int (fun _ _ => rfl)) (pa_cons (pe_ix (ix_seqK (K := K) rfl) (pv 3) pe_int (fun _ _ => rfl)) pa_nil)))) pa_nil))))))
      (pss_one (ps_ret (pe_callTy (call_tupK (K := K) rfl) (by rfl) B.tuple b_tuple (pa_cons (pv 2) pa_nil)))))), fun x hp H R q => ?_⟩
    obtain ⟨cs, ds⟩ := x
    have hp1 : cs.length ≤ 100 := hp.1
    have hp2 : ds.length ≤ 100 := hp.2
    refine s_seq (s_asgN (n_lst d_nil (by decide)) ?_)
    refine s_seq (s_forT (xs := cutsD cs) (js := [3]) (x_vd rfl) (fun i S' => ∃ u v w, S' = [.dat (.tup (cutsD cs)), .dat (.tup (cutsD ds)), .own ((cs.take i).map fun c => D.tup [.int ((c.a : Int) + moreI ds c.a), .tup c.o, .tup c.p]), u, v, w]) ⟨_, _, _, rfl⟩ ?_ ?_)
    · rintro H1 e1 i c' S' hc ⟨u, v, w, rfl⟩
      rw [List.getElem?_map] at hc
      obtain ⟨c, hc2, rfl⟩ := Option.map_eq_some_iff.mp hc
      refine ⟨_, g_name, ?_⟩
      refine s_seq (s_asg (x_sum (ns := (ds.filter fun d => decide (d.a < c.a)).map growI) ?_) ?_)
      · refine EvN.x (EvN.is (n_lcT (xs := cutsD ds) (fun d => match d with | .tup [.int a, _, _] => decide (a < (c.a : Int)) | _ => false) (fun d => match d with | .tup [_, .tup o, .tup p] => .int ((p.length : Int) - (o.length : Int)) | _ => .non) (x_vd rfl) (by rw [List.length_map]; omega) ?_) ?_)
        · intro j d hd
          rw [List.getElem?_map] at hd
          obtain ⟨d, hd2, rfl⟩ := Option.map_eq_some_iff.mp hd
          refine ⟨_, _, g_name, by simp, ?_, ?_⟩
          · exact t_cB (x_ltI (x_ixT (x_vd rfl) x_ci rfl rfl) (x_ixT (x_vd rfl) x_ci rfl rfl)) rfl
          · exact fun _ => x_callD d (a_cons (x_vd rfl) a_nil) trivial rfl
        · rw [List.filter_map, List.map_map, List.map_map]
          have e0 : (fun d : Cut => decide (d.a < c.a)) = (fun d => match d with | .tup [.int a, _, _] => decide (a < (c.a : Int)) | _ => false) ∘ Cut.d := by
            funext d
            simp only [Function.comp, Int.ofNat_lt]
          rw [← e0]
          rfl
      · refine s_app rfl (x_tup (d_cons (x_addI (x_ixT (x_vd rfl) x_ci rfl rfl) (x_vd rfl)) (d_cons (x_ixT (x_vd rfl) x_ci rfl rfl) (d_cons (x_ixT (x_vd rfl) x_ci rfl rfl) d_nil))) (sz 3 rfl)) ?_ ?_
        · rw [List.length_map, List.length_take, sizeLine_eq]; omega
        · exact ⟨_, _, _, by rw [take_map_get _ hc2]; rfl⟩
    · rintro H1 e1 S' ⟨u, v, w, rfl⟩
      rw [List.length_map, List.take_length]
      exact r_D (q.up e1) (x_tupL (x_vo rfl))
end Mw
-- part MwR2
set_option maxHeartbeats 4000000
namespace Mw
open PySem PySem.Spec PyProof.Rows L2
structure RunC (K : PySem.W.Frag) (C : Addr) : Prop where
  cls : Cls K C
  nb : NoAttr K C "beginning"
  ne : NoAttr K C "end"
  ns : NoAttr K C "sides"
abbrev flds (b e t : V) : List (Str × V) := [("beginning", b), ("end", e), ("sides", t)]
abbrev flds1 (b : V) : List (Str × V) := [("beginning", b)]
abbrev flds2 (b e : V) : List (Str × V) := [("beginning", b), ("end", e)]
theorem put_b (b : V) : putF "beginning" b [] = flds1 b := rfl
theorem put_e (b e : V) : putF "end" e (flds1 b) = flds2 b e := by
  simp only [putF]
  rw [if_neg (by decide)]
theorem put_s (b e t : V) : putF "sides" t (flds2 b e) = flds b e t := by
  simp only [putF]
  rw [if_neg (by decide), if_neg (by decide)]
theorem put_e2 (b e e2 t : V) : putF "end" e2 (flds b e t) = flds b e2 t := by
  simp only [putF]
  rw [if_neg (by decide)]
  rfl
theorem ltK {α : Type} {l : List α} (n : Nat) (h : l.length = n) (k : n < 1000 := by decide) : l.length < 1000 := by
  rw [h]
  exact k
theorem look_b (b e t : V) : (flds b e t).lookup ("beginning" : Str) = some b := rfl
theorem look_e (b e t : V) : (flds b e t).lookup ("end" : Str) = some e := rfl
theorem look_s (b e t : V) : (flds b e t).lookup ("sides" : Str) = some t := rfl
/-! reading -/
section
variable {K : PySem.W.Frag} {H0 : Hp} {S : List SV} {C : Addr}
def SidesHd (r : RunS) : Hd := ⟨fun H v => ∃ t l0 l1 v0 v1, v = .ref t ∧ H t = some (.tup [.ref l0, .ref l1]) ∧ H l0 = some (.lst v0) ∧ DVs H v0 (cutsD r.s) ∧ H l1 = some (.lst v1) ∧ DVs H v1 (cutsD r.t), fun e h => by
  obtain ⟨t, l0, l1, v0, v1, h1, h2, h3, h4, h5, h6⟩ := h
  exact ⟨t, l0, l1, v0, v1, h1, e _ _ h2, e _ _ h3, h4.mono e, e _ _ h5, h6.mono e⟩⟩
theorem x_fldB (RC : RunC K C) {te : TE} {r : RunS} (h : EvX H0 S te (.hand (RunHd C r))) : EvX H0 S (tFld K te "beginning") (.dat (.int (r.b : Int))) := fun σ H hs Q q => h σ H hs _ fun v H1 e1 hv => by
  obtain ⟨a, F, rfl, dx, t, l0, l1, v0, v1, rfl, h1, h2, h3, h4, h5, h6, h7⟩ := hv
  exact ⟨a, C, dx, _, _, rfl, h1, RC.cls, RC.nb, look_b _ _ _, q _ H1 e1 rfl⟩
theorem x_fldE (RC : RunC K C) {te : TE} {r : RunS} (h : EvX H0 S te (.hand (RunHd C r))) : EvX H0 S (tFld K te "end") (.dat (.int (r.e : Int))) := fun σ H hs Q q => h σ H hs _ fun v H1 e1 hv => by
  obtain ⟨a, F, rfl, dx, t, l0, l1, v0, v1, rfl, h1, h2, h3, h4, h5, h6, h7⟩ := hv
  exact ⟨a, C, dx, _, _, rfl, h1, RC.cls, RC.ne, look_e _ _ _, q _ H1 e1 rfl⟩
theorem x_fldS (RC : RunC K C) {te : TE} {r : RunS} (h : EvX H0 S te (.hand (RunHd C r))) : EvX H0 S (tFld K te "sides") (.hand (SidesHd r)) := fun σ H hs Q q => h σ H hs _ fun v H1 e1 hv => by
  obtain ⟨a, F, rfl, dx, t, l0, l1, v0, v1, rfl, h1, h2, h3, h4, h5, h6, h7⟩ := hv
  exact ⟨a, C, dx, _, _, rfl, h1, RC.cls, RC.ns, look_s _ _ _, q _ H1 e1 ⟨t, l0, l1, v0, v1, rfl, h3, h4, h5, h6, h7⟩⟩
def sideI (b : Bool) : Int := if b then 1 else 0
def RunS.side (r : RunS) (b : Bool) : List Cut := if b then r.t else r.s
theorem x_ixSide {te ti : TE} {r : RunS} {b : Bool} {i : Int} (h : EvX H0 S te (.hand (SidesHd r))) (hi : EvX H0 S ti (.dat (.int i))) (ei : i = sideI b) : EvX H0 S (tOp (rIx K) te ti) (.lst (cutsD (r.side b))) :=
  x_op2 h hi fun v u H Q h1 h2 q => by
    obtain ⟨t, l0, l1, v0, v1, rfl, k1, k2, k3, k4, k5⟩ := h1
    have h2 : u = .int i := h2
    subst h2 ei
    cases b with
    | false => exact .inr (.inl ⟨t, _, 0, .ref l0, rfl, rfl, .inl (.inl k1), rfl, q _ H (Same.refl H) ⟨l0, v0, rfl, k2, k3⟩⟩)
    | true => exact .inr (.inl ⟨t, _, 1, .ref l1, rfl, rfl, .inl (.inl k1), rfl, q _ H (Same.refl H) ⟨l1, v1, rfl, k4, k5⟩⟩)
theorem x_vh {i : Nat} {P : Hd} (h : S[i]? = some (.hand P)) : EvX H0 S (tVar i) (.hand P) := x_var h rfl
theorem x_meth {sp : Sp} {ta : TE} {tb : TA} {E : XK} {m : Str} {r : RunS} {as : List AV} {a : AV} (h1 : EvX H0 S ta (.hand (RunHd C r))) (hm : (flds .non .non .non).lookup m = none) (h2 : EvA H0 S tb as)
    (hs : ∀ vs H Q, Same H0 H → AVs H vs (.hand (RunHd C r) :: as) → (∀ v H', Same H H' → AVok H' v a → Q v H') → sp vs H Q E) : EvX H0 S (tMeth C m sp [] E ta tb) a := fun σ H hσ Q q =>
  h1 σ H hσ _ fun v H1 e1 hv => by
    obtain ⟨b, F, rfl, hR⟩ := hv
    obtain ⟨dx, t, l0, l1, v0, v1, rfl, k1, k2, k3, k4, k5, k6, k7⟩ := id hR
    refine ⟨b, dx, _, rfl, k1, ?_, h2 σ H1 (hσ.grow e1) _ fun vs H2 e2 hvs => ?_⟩
    · have : ∀ x y z : V, (flds x y z).lookup m = none := fun x y z => by
        simp only [flds] at hm ⊢
        simp only [List.lookup_cons, List.lookup_nil] at hm ⊢
        split at hm <;> first | cases hm | skip
        split at hm <;> first | cases hm | skip
        split at hm <;> first | cases hm | skip
        rfl
      exact this _ _ _
    · rw [List.append_nil]
      exact hs _ H2 Q ((hσ.ex.trans e1).trans e2) ⟨.ref b, vs, rfl, ⟨b, _, rfl, hR.mono e2⟩, hvs⟩ fun v H3 e3 h3 => q v H3 ((e1.trans e2).trans e3) h3
theorem x_methD {α : Type} {av : α → List AV} {pre : α → Prop} {rp : α → Rp} (x : α) {ta : TE} {tb : TA} {E : XK} {m : Str} {r : RunS} {as : List AV} {d : D} (h1 : EvX H0 S ta (.hand (RunHd C r))) (h2 : EvA H0 S tb as) (hav : av x = .hand (RunHd C r) :: as) (hp : pre x) (e : rp x = RD d) (hm : (flds .non .non .non).lookup m = none := by decide) :
    EvX H0 S (tMeth C m (SpG av pre rp) [] E ta tb) (.dat d) := x_meth h1 hm h2 fun vs H Q _ hv q => ⟨x, by rw [hav]; exact hv, hp, fun v H' k => by
  rw [e] at k
  exact q v H' k.1 k.2⟩
end
/-! Run.__init__: slots 0 self  1 beginning   -/
abbrev st_Run_init : Stmt := inClass (topS 28) 0
abbrev N_Run_init : List Str := ["self", "beginning"]
theorem sc_Run_init : FnScope N_Run_init ["self", "beginning"] (defScope st_Run_init) := ⟨rfl, rfl, rfl, by decide +kernel, rfl, by decide +kernel, by decide +kernel⟩
def sp_Run_init (C : Addr) : Sp := fun vs H Q _ => ∃ (a dx : Addr) (b : Nat), vs = [.ref a, .int (b : Int)] ∧ H a = some (.ins C dx []) ∧ H dx = some (.own a) ∧ dx ≠ a ∧ ∀ H' F, RunAt C H' a (RunS.new b) F → F.Nodup → (∀ c ∈ F, c = a ∨ c = dx ∨ H c = none) → (∀ c o, H c = some o → c ≠ a → H' c = some o) → Q .non H'
abbrev H_Run_init (P : Program) (w : World) (K : PySem.W.Frag) (mg : Str → Option Value) (base : Heap) (C : Addr) : Prop := HasI P w K mg base C 1 "Run" ["self", "beginning"] (sp_Run_init C)
theorem has_Run_init {P : Program} {w : World} {K : PySem.W.Frag} {mg : Str → Option Value} {base : Heap} {C : Addr} (RC : RunC K C) (F : InitAt K mg C "Run" "Run.__init__" st_Run_init) : H_Run_init P w K mg base C :=
  F.has sc_Run_init (fun _ _ _ _ _ _ us hl => match us, hl with | [_, _], _ => rfl) (fun vs H Q E h => by obtain ⟨a, dx, b, rfl, _⟩ := h; rfl) fun f cdv A outer s H vs Q E hr h => by
    obtain ⟨a, dx, b, rfl, h1, h2, h3, q⟩ := h
    refine ⟨_, (pss_cons (ps_fld (pv 0) (pv 1) rfl)
      (pss_cons (ps_fld (pv 0) (pv 1) rfl)
      (pss_one (ps_fld (pv 0) (pe_tup (pa_cons (pe_lst pa_nil) (pa_cons (pe_lst pa_nil) pa_nil))) rfl)))), ?_⟩
    have hda : dx ≠ a := h3
    refine ⟨_, rfl, .ref a, rfl, a, C, dx, [], rfl, h1, RC.cls, RC.nb, by decide, ?_⟩
    rw [put_b]
    refine ⟨_, rfl, .ref a, rfl, a, C, dx, _, rfl, upd_same, RC.cls, RC.ne, ltK 1 rfl, ?_⟩
    rw [put_e, upd_upd]
    refine ⟨sz 0 rfl, fun l0 hl0 => ⟨sz 0 rfl, fun l1 hl1 => ⟨sz 2 rfl, fun t ht => ⟨.ref a, rfl, a, C, dx, flds2 (.int (b : Int)) (.int (b : Int)), rfl, ?_, RC.cls, RC.ns, ltK 2 rfl, ?_⟩⟩⟩⟩
    · have n0 : a ≠ l0 := ne_of_none upd_same hl0
      have n1 : a ≠ l1 := fun z => by rw [← z, upd_ne n0, upd_same] at hl1; cases hl1
      have nt : a ≠ t := fun z => by rw [← z, upd_ne n1, upd_ne n0, upd_same] at ht; cases ht
      rw [upd_ne nt, upd_ne n1, upd_ne n0, upd_same]
    · rw [put_s]
      have n0 : a ≠ l0 := ne_of_none upd_same hl0
      have n1 : a ≠ l1 := fun z => by rw [← z, upd_ne n0, upd_same] at hl1; cases hl1
      have nt : a ≠ t := fun z => by rw [← z, upd_ne n1, upd_ne n0, upd_same] at ht; cases ht
      have d0 : dx ≠ l0 := fun z => by rw [← z, upd_ne hda, h2] at hl0; cases hl0
      have d1 : dx ≠ l1 := fun z => by rw [← z, upd_ne d0, upd_ne hda, h2] at hl1; cases hl1
      have dt : dx ≠ t := fun z => by rw [← z, upd_ne d1, upd_ne d0, upd_ne hda, h2] at ht; cases ht
      have l01 : l0 ≠ l1 := fun z => by rw [← z, upd_same] at hl1; cases hl1
      have l0t : l0 ≠ t := fun z => by rw [← z, upd_ne l01, upd_same] at ht; cases ht
      have l1t : l1 ≠ t := fun z => by rw [← z, upd_same] at ht; cases ht
      refine q _ [a, dx, l0, l1] ⟨dx, t, l0, l1, [], [], rfl, upd_same, ?_, ?_, ?_, rfl, ?_, rfl⟩ ?_ (fun c hc => ?_) fun c o hc hca => ?_
      · rw [upd_ne hda, upd_ne dt, upd_ne d1, upd_ne d0, upd_ne hda, h2]
      · rw [upd_ne nt.symm, upd_same]
      · rw [upd_ne n0.symm, upd_ne l0t, upd_ne l01, upd_same]
      · rw [upd_ne n1.symm, upd_ne l1t, upd_same]
      · simp [n0, n1, nt, d0, d1, l01, hda.symm]
      · have hc : c = a ∨ c = dx ∨ c = l0 ∨ c = l1 := by simpa using hc
        rcases hc with rfl | rfl | rfl | rfl
        · exact .inl rfl
        · exact .inr (.inl rfl)
        · refine .inr (.inr ?_)
          rw [upd_ne n0.symm] at hl0
          exact hl0
        · refine .inr (.inr ?_)
          rw [upd_ne l01.symm, upd_ne n1.symm] at hl1
          exact hl1
      · have c0 : c ≠ l0 := fun z => by rw [← z, upd_ne hca, hc] at hl0; cases hl0
        have c1 : c ≠ l1 := fun z => by rw [← z, upd_ne c0, upd_ne hca, hc] at hl1; cases hl1
        have ct : c ≠ t := fun z => by rw [← z, upd_ne c1, upd_ne c0, upd_ne hca, hc] at ht; cases ht
        rw [upd_ne hca, upd_ne ct, upd_ne c1, upd_ne c0, upd_ne hca, hc]
/-! Run.take: slots 0 self  1 side  2 cut   -/
abbrev st_Run_take : Stmt := inClass (topS 28) 1
abbrev N_Run_take : List Str := ["self", "side", "cut"]
theorem sc_Run_take : FnScope N_Run_take ["self", "side", "cut"] (defScope st_Run_take) := ⟨rfl, rfl, rfl, by decide +kernel, rfl, by decide +kernel, by decide +kernel⟩
def sp_Run_take (C : Addr) : Sp := fun vs H Q _ => ∃ (a : Addr) (x : Bool × Cut) (r : RunS) (F : List Addr) (vc : V), vs = [.ref a, .int (sideI x.1), vc] ∧ RunAt C H a r F ∧ F.Nodup ∧ DV H vc x.2.d ∧ r.s.length ≤ 100 ∧ r.t.length ≤ 100 ∧ ∀ H', RunAt C H' a (r.take x) F → TupS H H' → (∀ c o, H c = some o → ¬ c ∈ F → H' c = some o) → (∀ c, H c = none → H' c = none) → Q .non H'
abbrev H_Run_take (P : Program) (w : World) (K : PySem.W.Frag) (mg : Str → Option Value) (base : Heap) (C : Addr) : Prop := HasM P w K mg base C 1 "take" ["self", "side", "cut"] (sp_Run_take C)
theorem has_Run_take {P : Program} {w : World} {K : PySem.W.Frag} {mg : Str → Option Value} {base : Heap} {C : Addr} (B : Gs mg) (RC : RunC K C) (F : MethAt K C "take" "Run.take" st_Run_take) : H_Run_take P w K mg base C :=
  F.has RC.cls sc_Run_take (fun _ _ _ _ _ _ us hl => match us, hl with | [_, _, _], _ => rfl) (fun vs H Q E h => by obtain ⟨a, x, r, F, vc, rfl, _⟩ := h; rfl) fun f cdv A outer s H vs Q E hr h => by
    obtain ⟨a, x, r, F, vc, rfl, hR, nd, hvc, z1, z2, q⟩ := h
    refine ⟨_, (pss_cons (ps_expr (pe_bm PySem.F.plainAttrs_list PySem.F.slot_list_append PySem.F.type_list_append mt_append (pe_ix (ix_seqK (K := K) rfl) (pe_fldK (K := K) rfl (pv 0) rfl) (pv 1) (fun _ _ => rfl)) (pa_cons (pv 2) pa_nil)))
      (pss_one (ps_fld (pv 0) (pe_callB (call_maxA rfl) (by rfl) B.max b_max (pa_cons (pe_fldK (K := K) rfl (pv 0) rfl) (pa_cons (pe_op (op_addK (K := K) rfl) (pe_ix (ix_seqK (K := K) rfl) (pv 2) pe_int (fun _ _ => rfl)) (pe_callB (call_lenK (K := K) rfl) (by rfl) B.len b_len (pa_cons (pe_ix (ix_seqK (K := K) rfl) (pv 2) pe_int (fun _ _ => rfl)) pa_nil))) pa_nil))) rfl))), ?_⟩
    obtain ⟨dx, t, l0, l1, v0, v1, rfl, h1, h2, h3, h4, h5, h6, h7⟩ := hR
    obtain ⟨tc, us, rfl, hc1, u0, us', rfl, e0, u1, us'', rfl, e1, u2, us3, rfl, e2, hc5⟩ := hvc
    have hc5 : us3 = [] := hc5
    subst hc5
    have e0 : u0 = .int (x.2.a : Int) := e0
    subst e0
    obtain ⟨to, uo, rfl, ho1, ho2⟩ := e1
    have hmx : (if ((x.2.a : Int) + (uo.length : Int)) > (r.e : Int) then ((x.2.a : Int) + (uo.length : Int)) else (r.e : Int)) = ((max r.e x.2.e : Nat) : Int) := by
      rw [ho2.length]
      unfold Cut.e
      split <;> omega
    obtain ⟨b, c⟩ := x
    have nds : a ≠ dx ∧ a ≠ l0 ∧ a ≠ l1 ∧ dx ≠ l0 ∧ dx ≠ l1 ∧ l0 ≠ l1 := by
      simp at nd
      exact ⟨nd.1.1, nd.1.2.1, nd.1.2.2, nd.2.1.1, nd.2.1.2, nd.2.2⟩
    obtain ⟨n1, n2, n3, n4, n5, n6⟩ := nds
    have tl0 : tc ≠ l0 := ne_of hc1 h4 (by intro z; cases z)
    have tl1 : tc ≠ l1 := ne_of hc1 h6 (by intro z; cases z)
    have ol0 : to ≠ l0 := ne_of ho1 h4 (by intro z; cases z)
    have ol1 : to ≠ l1 := ne_of ho1 h6 (by intro z; cases z)
    have ts0 : t ≠ l0 := ne_of h3 h4 (by intro z; cases z)
    have ts1 : t ≠ l1 := ne_of h3 h6 (by intro z; cases z)
    have tsa : t ≠ a := ne_of h3 h1 (by intro z; cases z)
    cases b with
    | false =>
      have hfin : ∀ Z : Hp, Z = upd H l0 (.lst (v0 ++ [.ref tc])) → Z a = some (.ins C dx (flds (.int (r.b : Int)) (.int (r.e : Int)) (.ref t))) → Q .non (upd Z a (.ins C dx (flds (.int (r.b : Int)) (.int ((max r.e c.e : Nat) : Int)) (.ref t)))) := fun Z hZ hZa => by
        subst hZ
        have tsu : TupS H (upd (upd H l0 (.lst (v0 ++ [.ref tc]))) a (.ins C dx (flds (.int (r.b : Int)) (.int ((max r.e c.e : Nat) : Int)) (.ref t)))) := fun b vs hb => by
          rw [upd_ne (ne_of hb h1 (by intro z; cases z)), upd_ne (ne_of hb h4 (by intro z; cases z))]
          exact hb
        have hvcd : DV H (.ref tc) c.d := ⟨tc, _, rfl, hc1, _, _, rfl, rfl, _, _, rfl, ⟨to, uo, rfl, ho1, ho2⟩, _, _, rfl, e2, rfl⟩
        refine q _ ⟨dx, t, l0, l1, v0 ++ [.ref tc], v1, rfl, upd_same, ?_, tsu _ _ h3, ?_, ?_, ?_, DVs.ts tsu _ _ h7⟩ tsu (fun d o hd hn => ?_) fun d hd => ?_
        · rw [upd_ne n1.symm, upd_ne n4, h2]
        · rw [upd_ne n2.symm, upd_same]
        · show DVs _ _ (cutsD (r.s ++ [c]))
          unfold cutsD
          rw [List.map_append]
          exact (DVs.ts tsu _ _ h5).append (.one (DV.ts tsu _ _ hvcd))
        · rw [upd_ne n3.symm, upd_ne n6.symm, h6]
        · rw [upd_ne (fun z => hn (by rw [z]; simp)), upd_ne (fun z => hn (by rw [z]; simp)), hd]
        · rw [upd_ne (fun z => by rw [z, h1] at hd; cases hd), upd_ne (fun z => by rw [z, h4] at hd; cases hd), hd]
      refine ⟨_, rfl, a, C, dx, _, _, rfl, h1, RC.cls, RC.ns, look_s _ _ _, _, rfl, .inr (.inl ⟨t, _, 0, .ref l0, rfl, rfl, .inl (.inl h3), rfl, .inl ⟨rfl, v0, .inl (.inl h4)⟩, _, rfl, l0, v0, _, rfl, rfl, h4, ?_, ?_⟩)⟩
      · rw [h5.length, List.length_map, sizeLine_eq]; omega
      have ha2 : upd H l0 (.lst (v0 ++ [.ref tc])) a = some (.ins C dx (flds (.int (r.b : Int)) (.int (r.e : Int)) (.ref t))) := by rw [upd_ne n2, h1]
      have hc2 : upd H l0 (.lst (v0 ++ [.ref tc])) tc = some (.tup (.int (c.a : Int) :: .ref to :: [u2])) := by rw [upd_ne tl0]; exact hc1
      have ho3 : upd H l0 (.lst (v0 ++ [.ref tc])) to = some (.tup uo) := by rw [upd_ne ol0]; exact ho1
      refine ⟨_, rfl, a, C, dx, _, _, rfl, ha2, RC.cls, RC.ne, look_e _ _ _, _, rfl, .inr (.inl ⟨tc, _, 0, _, rfl, rfl, .inl (.inl hc2), rfl, _, rfl, .inr (.inl ⟨tc, _, 1, _, rfl, rfl, .inl (.inl hc2), rfl, .inl ⟨to, uo, rfl, .inr (.inl (.inl ho3)), .inl ⟨_, _, rfl, rfl, (r.e : Int), _, rfl, _, rfl, a, C, dx, _, rfl, ha2, RC.cls, RC.ne, ltK 3 rfl, ?_⟩⟩⟩)⟩)⟩
      rw [put_e2, hmx]
      exact hfin _ rfl ha2
    | true =>
      have hfin : ∀ Z : Hp, Z = upd H l1 (.lst (v1 ++ [.ref tc])) → Z a = some (.ins C dx (flds (.int (r.b : Int)) (.int (r.e : Int)) (.ref t))) → Q .non (upd Z a (.ins C dx (flds (.int (r.b : Int)) (.int ((max r.e c.e : Nat) : Int)) (.ref t)))) := fun Z hZ hZa => by
        subst hZ
        have tsu : TupS H (upd (upd H l1 (.lst (v1 ++ [.ref tc]))) a (.ins C dx (flds (.int (r.b : Int)) (.int ((max r.e c.e : Nat) : Int)) (.ref t)))) := fun b vs hb => by
          rw [upd_ne (ne_of hb h1 (by intro z; cases z)), upd_ne (ne_of hb h6 (by intro z; cases z))]
          exact hb
        have hvcd : DV H (.ref tc) c.d := ⟨tc, _, rfl, hc1, _, _, rfl, rfl, _, _, rfl, ⟨to, uo, rfl, ho1, ho2⟩, _, _, rfl, e2, rfl⟩
        refine q _ ⟨dx, t, l0, l1, v0, v1 ++ [.ref tc], rfl, upd_same, ?_, tsu _ _ h3, ?_, DVs.ts tsu _ _ h5, ?_, ?_⟩ tsu (fun d o hd hn => ?_) fun d hd => ?_
        · rw [upd_ne n1.symm, upd_ne n5, h2]
        · rw [upd_ne n2.symm, upd_ne n6, h4]
        · rw [upd_ne n3.symm, upd_same]
        · show DVs _ _ (cutsD (r.t ++ [c]))
          unfold cutsD
          rw [List.map_append]
          exact (DVs.ts tsu _ _ h7).append (.one (DV.ts tsu _ _ hvcd))
        · rw [upd_ne (fun z => hn (by rw [z]; simp)), upd_ne (fun z => hn (by rw [z]; simp)), hd]
        · rw [upd_ne (fun z => by rw [z, h1] at hd; cases hd), upd_ne (fun z => by rw [z, h6] at hd; cases hd), hd]
      refine ⟨_, rfl, a, C, dx, _, _, rfl, h1, RC.cls, RC.ns, look_s _ _ _, _, rfl, .inr (.inl ⟨t, _, 1, .ref l1, rfl, rfl, .inl (.inl h3), rfl, .inl ⟨rfl, v1, .inl (.inl h6)⟩, _, rfl, l1, v1, _, rfl, rfl, h6, ?_, ?_⟩)⟩
      · rw [h7.length, List.length_map, sizeLine_eq]; omega
      have ha2 : upd H l1 (.lst (v1 ++ [.ref tc])) a = some (.ins C dx (flds (.int (r.b : Int)) (.int (r.e : Int)) (.ref t))) := by rw [upd_ne n3, h1]
      have hc2 : upd H l1 (.lst (v1 ++ [.ref tc])) tc = some (.tup (.int (c.a : Int) :: .ref to :: [u2])) := by rw [upd_ne tl1]; exact hc1
      have ho3 : upd H l1 (.lst (v1 ++ [.ref tc])) to = some (.tup uo) := by rw [upd_ne ol1]; exact ho1
      refine ⟨_, rfl, a, C, dx, _, _, rfl, ha2, RC.cls, RC.ne, look_e _ _ _, _, rfl, .inr (.inl ⟨tc, _, 0, _, rfl, rfl, .inl (.inl hc2), rfl, _, rfl, .inr (.inl ⟨tc, _, 1, _, rfl, rfl, .inl (.inl hc2), rfl, .inl ⟨to, uo, rfl, .inr (.inl (.inl ho3)), .inl ⟨_, _, rfl, rfl, (r.e : Int), _, rfl, _, rfl, a, C, dx, _, rfl, ha2, RC.cls, RC.ne, ltK 3 rfl, ?_⟩⟩⟩)⟩)⟩
      rw [put_e2, hmx]
      exact hfin _ rfl ha2
end Mw
-- part MwN1
set_option maxHeartbeats 4000000
namespace Mw
open PySem PySem.Spec PyProof.Rows L2
/-- the script: a list of whole numbers that is read -/
def ScrHd (K : PySem.W.Frag) (ns : List Int) : Hd := ⟨fun H v => ∃ a, v = .ref a ∧ SqL K H a (ns.map V.int), fun e h => by
  obtain ⟨a, h1, h2⟩ := h
  exact ⟨a, h1, e.seq h2⟩⟩
def TwoP (P : D → Prop) (d : D) : Prop := ∃ t n, d = .tup [t, .int n] ∧ P t
section
variable {K : PySem.W.Frag} {H0 : Hp} {S : List SV} {R : V → Hp → Prop} {N : Hp → List SV → Prop}
theorem x_lenH {te : TE} {ns : List Int} (h : EvX H0 S te (.hand (ScrHd K ns))) : EvX H0 S (tCB (rLenA K) (tCons te tNil)) (.dat (.int ns.length)) := x_cb1 (a_cons h a_nil) fun vs H Q hv q => by
  obtain ⟨v, e, a, e1, e2⟩ := AVs.one hv
  subst e e1
  exact .inl ⟨a, _, rfl, .inl e2, q _ H (Same.refl H) (by rw [List.length_map]; rfl)⟩
theorem x_ixH {ta tb : TE} {ns : List Int} {z i : Int} {k : Nat} (ha : EvX H0 S ta (.hand (ScrHd K ns))) (hb : EvX H0 S tb (.dat (.int i))) (hi : i = (k : Int)) (hd : ns[k]? = some z) : EvX H0 S (tOp (rIx K) ta tb) (.dat (.int z)) :=
  x_op2 ha hb fun v u H Q h1 h2 q => by
    obtain ⟨a, e1, e2⟩ := h1
    exact .inl ⟨a, _, i, .int z, e1, h2, e2, by rw [hi]; exact atI_nat (by rw [List.getElem?_map, hd]; rfl), q _ H (Same.refl H) rfl⟩
theorem s_asg2P {te : TE} {j k : Nat} {P : D → Prop} (h : EvP H0 S te (TwoP P)) (kk : ∀ t n, P t → N H0 ((S.set j (.dat t)).set k (.dat (.int n)))) : ExS H0 R (tAsg te (gTup K 2 (gCons (gName j) (gCons (gName k) gNil)))) S N :=
  s_asgGP (S2 := fun d => match d with | .tup [a, b] => (S.set j (.dat a)).set k (.dat b) | _ => S) (js := [j, k]) h (fun d hd => by
    obtain ⟨t, n, rfl, _⟩ := hd
    exact g_tup (js := [j, k]) rfl rfl) (fun d hd => by
    obtain ⟨t, n, rfl, hp⟩ := hd
    exact kk t n hp)
theorem x_pick {te : TE} {b : Bool} {m n : Int} (h : EvX H0 S te (.val (.bl b))) : EvX H0 S (tOp (rIx K) (tLst (tCons (tC (.int m)) (tCons (tC (.int n)) tNil))) (tCB rIntA (tCons te tNil))) (.dat (.int (if b then n else m))) := by
  refine x_ixL (EvN.x (n_lst (d_cons x_ci (d_cons x_ci d_nil)) (sz 2 rfl))) (x_intB h) (k := if b then 1 else 0) ?_ ?_
  all_goals cases b <;> rfl
end
theorem mod_bd (x : Int) {m : Int} (h : 0 < m) : 0 ≤ x % m ∧ x % m < m := ⟨Int.emod_nonneg _ (by omega), Int.emod_lt_of_pos _ h⟩
theorem mod_nat (x : Int) {m : Int} (h : 0 < m) : x % m = ((x % m).toNat : Int) := (Int.toNat_of_nonneg (mod_bd x h).1).symm
theorem len_one (c : Nat) : (⟨#[c]⟩ : Str).length = 1 := rfl
theorem cps_get {s : Str} {k : Nat} (h : k < s.length) : ∃ c, s.cps.toList[k]? = some c := ⟨s.cps.toList[k]'(by simpa [Str.length] using h), by simp⟩
def cellAt (ns : List Int) (k : Nat) : Int := (ns[k]?).getD 0
/-! _law_cell_at: slots 0 _law_script  1 _law_k   -/
abbrev st_l_cell_at : Stmt := topS 44
abbrev N_l_cell_at : List Str := ["_law_script", "_law_k"]
theorem sc_l_cell_at : FnScope N_l_cell_at ["_law_script", "_law_k"] (defScope st_l_cell_at) := ⟨rfl, rfl, rfl, by decide +kernel, rfl, by decide +kernel, by decide +kernel⟩
abbrev sp_l_cell_at (K : PySem.W.Frag) : Sp := SpG (α := List Int × Nat) (fun x => [.hand (ScrHd K x.1), .dat (.int (x.2 : Int))]) (fun _ => True) (fun x => RD (.int (cellAt x.1 x.2)))
abbrev H_l_cell_at (P : Program) (w : World) (K : PySem.W.Frag) (mg : Str → Option Value) (base : Heap) : Prop := Has P w K mg base 1 "_law_cell_at" ["_law_script", "_law_k"] (sp_l_cell_at K)
theorem has_l_cell_at {P : Program} {w : World} {K : PySem.W.Frag} {mg : Str → Option Value} {base : Heap} (B : Gs mg) (F : DefAt K mg "_law_cell_at" st_l_cell_at)   : H_l_cell_at P w K mg base :=
  F.hasG sc_l_cell_at (fun _ _ _ _ _ _ us hl => match us, hl with | [_, _], _ => rfl) (fun _ => rfl) fun f cdv A outer s H E hr => by
    have hu := room64 hr
    have hu1 := hu_of hr
    refine ⟨_, (pss_cons (ps_if (pt_cmpR op_ltA (pv 1) (pe_callB (call_lenK (K := K) rfl) (by rfl) B.len b_len (pa_cons (pv 0) pa_nil)) (nomark _))
        (pss_one (ps_ret (pe_ix (ix_seqK (K := K) rfl) (pv 0) (pv 1) (fun _ _ => rfl))))
        pss_nil)
      (pss_one (ps_ret pe_int))), fun x hp H R q => ?_⟩
    obtain ⟨ns, k⟩ := x
    dsimp only at q ⊢
    refine s_seq (s_if (b := decide ((k : Int) < (ns.length : Int))) (t_cmp (x_ltI (x_vd rfl) (x_lenH (x_vh rfl)))) (fun h => ?_) (fun h => s_next ?_))
    · have h : k < ns.length := by have := of_decide_eq_true h; omega
      have e : ns[k]? = some ns[k] := by simp [h]
      exact r_De q (x_ixH (x_vh rfl) (x_vd rfl) rfl e) (by rw [cellAt, e]; rfl)
    · have h : ns.length ≤ k := by have := of_decide_eq_false h; omega
      exact r_De q x_ci (by rw [cellAt, List.getElem?_eq_none h]; rfl)
def ownSt (c : Int) : Nat → Int × Int
  | 0 => (c % 2147483629 + 7, 0)
  | k + 1 => (((ownSt c k).1 * (ownSt c k).1 + 48271 * (ownSt c k).1 + (k : Int)) % 2147483647, (ownSt c k).2 * 1048573 + ((ownSt c k).1 * (ownSt c k).1 + 48271 * (ownSt c k).1 + (k : Int)) % 2147483647 * 69621 % 2147483587 % 1048573)
def ownF (c : Int) : Int := if c % 2 = 0 then c / 2 else (ownSt c 10).2
theorem ownSt_bd (c : Int) : ∀ k, 0 ≤ (ownSt c k).1 ∧ (ownSt c k).1 < 4294967296
  | 0 => by
    have := mod_bd c (m := 2147483629) (by decide)
    show 0 ≤ c % 2147483629 + 7 ∧ c % 2147483629 + 7 < 4294967296
    omega
  | k + 1 => by
    have := mod_bd ((ownSt c k).1 * (ownSt c k).1 + 48271 * (ownSt c k).1 + (k : Int)) (m := 2147483647) (by decide)
    show 0 ≤ ((ownSt c k).1 * (ownSt c k).1 + 48271 * (ownSt c k).1 + (k : Int)) % 2147483647 ∧ ((ownSt c k).1 * (ownSt c k).1 + 48271 * (ownSt c k).1 + (k : Int)) % 2147483647 < 4294967296
    omega
theorem decI (a b : Int) : decide (D.int a = D.int b) = decide (a = b) := by
  by_cases h : a = b
  · rw [h, decide_eq_true rfl, decide_eq_true rfl]
  · rw [decide_eq_false h, decide_eq_false (fun z => h (D.int.inj z))]
theorem depI (a : Int) (e : D) : min (D.int a).dep e.dep ≤ 60 := by simp [D.dep]
/-! _law_own: slots 0 _law_cell  1 _law_drawn  2 _law_found  3 _law_k   -/
abbrev st_l_own : Stmt := topS 45
abbrev N_l_own : List Str := ["_law_cell", "_law_drawn", "_law_found", "_law_k"]
theorem sc_l_own : FnScope N_l_own ["_law_cell"] (defScope st_l_own) := ⟨rfl, rfl, rfl, by decide +kernel, rfl, by decide +kernel, by decide +kernel⟩
abbrev sp_l_own : Sp := SpG (α := Int) (fun x => [.dat (.int x)]) (fun _ => True) (fun x => RD (.int (ownF x)))
abbrev H_l_own (P : Program) (w : World) (K : PySem.W.Frag) (mg : Str → Option Value) (base : Heap) : Prop := Has P w K mg base 1 "_law_own" ["_law_cell"] (sp_l_own)
theorem has_l_own {P : Program} {w : World} {K : PySem.W.Frag} {mg : Str → Option Value} {base : Heap} (B : Gs mg) (F : DefAt K mg "_law_own" st_l_own)   : H_l_own P w K mg base :=
  F.hasG sc_l_own (fun _ _ _ _ _ _ us hl => match us, hl with | [_], _ => rfl) (fun _ => rfl) fun f cdv A outer s H E hr => by
    have hu := room64 hr
    have hu1 := hu_of hr
    refine ⟨_, (pss_cons (ps_if (pt_cmpR (op_eqK (K := K) rfl hu) (pe_op op_mod (pv 0) pe_int) pe_int (nomark _))
        (pss_one (ps_ret (pe_op op_fdiv (pv 0) pe_int)))
        pss_nil)
      (pss_cons (ps_set (i := 1) sc_l_own.nd rfl (Or.inl rfl) (pe_op (op_addK (K := K) rfl) (pe_op op_mod (pv 0) pe_int) pe_int))
      (pss_cons (ps_set (i := 2) sc_l_own.nd rfl (Or.inl rfl) pe_int)
      (pss_cons (ps_for PassesOwn.never rfl (pi_range1 (by rfl) B.range (pa_cons pe_int pa_nil)) (pg_name (i := 3) sc_l_own.nd rfl (Or.inl rfl))
        (pss_cons (ps_set (i := 1) sc_l_own.nd rfl (Or.inl rfl) (pe_op op_mod (pe_op (op_addK (K := K) rfl) (pe_op (op_addK (K := K) rfl) (pe_op op_mulA (pv 1) (pv 1)) (pe_op op_mulA pe_int (pv 1))) (pv 3)) pe_int))
        (pss_one (ps_set (i := 2) sc_l_own.nd rfl (Or.inl rfl) (pe_op (op_addK (K := K) rfl) (pe_op op_mulA (pv 2) pe_int) (pe_op op_mod (pe_op op_mod (pe_op op_mulA (pv 1) pe_int) pe_int) pe_int))))))
      (pss_one (ps_ret (pv 2))))))), fun x hp H R q => ?_⟩
    refine s_seq (s_if (b := decide (x % 2 = 0)) (t_cB (x_eq (x_mod (x_vd rfl) x_ci (by decide)) x_ci (depI _ _)) (decI _ _)) (fun h => ?_) (fun h => s_next ?_))
    · exact r_De q (x_div (x_vd rfl) x_ci ⟨by decide, by decide⟩) (by rw [ownF, if_pos (of_decide_eq_true h)])
    refine s_seq (s_asg (x_addI (x_mod (x_vd rfl) x_ci (by decide)) x_ci) ?_)
    refine s_seq (s_asg x_ci ?_)
    refine s_seq (s_forR1 (n := 10) x_ci (by decide) (fun i S' => ∃ u, S' = [.dat (.int x), .dat (.int (ownSt x i).1), .dat (.int (ownSt x i).2), u]) ⟨_, rfl⟩ ?_ ?_)
    · rintro H1 e1 i S' hi ⟨u, rfl⟩
      obtain ⟨b1, b2⟩ := ownSt_bd x i
      have b3 := mod_bd ((ownSt x i).1 * (ownSt x i).1 + 48271 * (ownSt x i).1 + (i : Int)) (m := 2147483647) (by decide)
      refine s_seq (s_asg (x_mod (x_addI (x_addI (x_mulI (x_vd rfl) (x_vd rfl) (.inl ⟨by omega, by omega⟩)) (x_mulI x_ci (x_vd rfl) (.inl ⟨by decide, by decide⟩))) (x_vd rfl)) x_ci (by decide)) ?_)
      exact s_asg (x_addI (x_mulI (x_vd rfl) x_ci (.inr ⟨by decide, by decide⟩)) (x_mod (x_mod (x_mulI (x_vd rfl) x_ci (.inr ⟨by decide, by decide⟩)) x_ci (by decide)) x_ci (by decide))) ⟨_, rfl⟩
    · rintro H1 e1 S' ⟨u, rfl⟩
      exact r_De (q.up e1) (x_vd rfl) (by rw [ownF, if_neg (of_decide_eq_false h)]; rfl)
def someL : List D := [.str "ab", .str "a", .str "", .str "b", .str "ab ", .str "x|y", .str "5:", .str "([", .str "-", .str (Txt.mul "c" 40)]
theorem someL_line : ∀ d ∈ someL, Line d := fun d h => by
  simp only [someL, List.mem_cons, List.not_mem_nil, or_false] at h
  rcases h with rfl | rfl | rfl | rfl | rfl | rfl | rfl | rfl | rfl | rfl
  all_goals exact ⟨_, rfl, by decide +kernel⟩
theorem len_signs : ("abc 0:|()[]-~" : Str).length = 13 := by decide +kernel
/-! _law_line: slots 0 _law_own_here  1 _law_some  2 _law_signs  3 _law_text_here  4 _law_many  5 _law_k   -/
abbrev st_l_line : Stmt := topS 48
abbrev N_l_line : List Str := ["_law_own_here", "_law_some", "_law_signs", "_law_text_here", "_law_many", "_law_k"]
theorem sc_l_line : FnScope N_l_line ["_law_own_here"] (defScope st_l_line) := ⟨rfl, rfl, rfl, by decide +kernel, rfl, by decide +kernel, by decide +kernel⟩
abbrev sp_l_line : Sp := SpG (α := Int) (fun x => [.dat (.int x)]) (fun _ => True) (fun _ => RP (TwoP Line))
abbrev H_l_line (P : Program) (w : World) (K : PySem.W.Frag) (mg : Str → Option Value) (base : Heap) : Prop := Has P w K mg base 1 "_law_line" ["_law_own_here"] (sp_l_line)
theorem has_l_line {P : Program} {w : World} {K : PySem.W.Frag} {mg : Str → Option Value} {base : Heap} (B : Gs mg) (F : DefAt K mg "_law_line" st_l_line)   : H_l_line P w K mg base :=
  F.hasG sc_l_line (fun _ _ _ _ _ _ us hl => match us, hl with | [_], _ => rfl) (fun _ => rfl) fun f cdv A outer s H E hr => by
    have hu := room64 hr
    have hu1 := hu_of hr
    refine ⟨_, (pss_cons (ps_set (i := 1) sc_l_line.nd rfl (Or.inl rfl) (pe_lst (pa_cons pe_str (pa_cons pe_str (pa_cons pe_str (pa_cons pe_str (pa_cons pe_str (pa_cons pe_str (pa_cons pe_str (pa_cons pe_str (pa_cons pe_str (pa_cons (pe_op op_mulA pe_str pe_int) pa_nil))))))))))))
      (pss_cons (ps_if (pt_cmpR op_ltA (pe_op op_mod (pv 0) pe_int) pe_int (nomark _))
        (pss_one (ps_ret (pe_tup (pa_cons (pe_ix (ix_seqK (K := K) rfl) (pv 1) (pe_op op_mod (pv 0) pe_int) (fun _ _ => rfl)) (pa_cons (pe_op op_fdiv (pv 0) pe_int) pa_nil)))))
        pss_nil)
      (pss_cons (ps_set (i := 2) sc_l_line.nd rfl (Or.inl rfl) pe_str)
      (pss_cons (ps_set (i := 3) sc_l_line.nd rfl (Or.inl rfl) pe_str)
      (pss_cons (ps_set (i := 0) sc_l_line.nd rfl (Or.inl rfl) (pe_op op_fdiv (pv 0) pe_int))
      (pss_cons (ps_set (i := 4) sc_l_line.nd rfl (Or.inl rfl) (pe_op op_mod (pv 0) (pe_ix (ix_seqK (K := K) rfl) (pe_lst (pa_cons pe_int (pa_cons pe_int pa_nil))) (pe_callTy call_intA (by rfl) B.int b_int (pa_cons (pe_cmpR (op_eqK (K := K) rfl hu) (pe_op op_mod (pe_op op_fdiv (pv 0) pe_int) pe_int) pe_int (nomark _)) pa_nil)) (fun _ _ => rfl))))
      (pss_cons (ps_set (i := 0) sc_l_line.nd rfl (Or.inl rfl) (pe_op op_fdiv (pv 0) pe_int))
      (pss_cons (ps_for PassesOwn.never rfl (pi_range1 (by rfl) B.range (pa_cons (pv 4) pa_nil)) (pg_name (i := 5) sc_l_line.nd rfl (Or.inl rfl))
        (pss_cons (ps_set (i := 3) sc_l_line.nd rfl (Or.inl rfl) (pe_op (op_addK (K := K) rfl) (pv 3) (pe_ix (ix_seqK (K := K) rfl) (pv 2) (pe_op op_mod (pv 0) pe_int) (fun _ _ => rfl))))
        (pss_one (ps_set (i := 0) sc_l_line.nd rfl (Or.inl rfl) (pe_op op_fdiv (pv 0) pe_int)))))
      (pss_one (ps_ret (pe_tup (pa_cons (pv 3) (pa_cons (pv 0) pa_nil))))))))))))), fun x hp H R q => ?_⟩
    refine s_seq (s_asgN (ds := someL) (n_lst (d_cons x_cs (d_cons x_cs (d_cons x_cs (d_cons x_cs (d_cons x_cs (d_cons x_cs (d_cons x_cs (d_cons x_cs (d_cons x_cs (d_cons (x_mulS x_cs x_ci (by unfold MulOk; decide +kernel)) d_nil)))))))))) (sz 10 rfl)) ?_)
    refine s_seq (s_if (b := decide (x % 12 < 10)) (t_cmp (x_ltI (x_mod (x_vd rfl) x_ci (by decide)) x_ci)) (fun h => ?_) (fun h => s_next ?_))
    · have h := of_decide_eq_true h
      have b0 := mod_bd x (m := 12) (by decide)
      have hk : (x % 12).toNat < someL.length := by show (x % 12).toNat < 10; omega
      have e : someL[(x % 12).toNat]? = some someL[(x % 12).toNat] := by simp [hk]
      exact r_P q (EvX.p (x_tup (d_cons (x_ixL (x_vo rfl) (x_mod (x_vd rfl) x_ci (by decide)) (mod_nat x (by decide)) e) (d_cons (x_div (x_vd rfl) x_ci ⟨by decide, by decide⟩) d_nil)) (sz 2 rfl)) ⟨_, _, rfl, someL_line _ (List.mem_of_getElem? e)⟩) (fun _ z => z)
    refine s_seq (s_asg x_cs ?_)
    refine s_seq (s_asg x_cs ?_)
    refine s_seq (s_asg (x_div (x_vd rfl) x_ci ⟨by decide, by decide⟩) ?_)
    generalize hx : x / 12 = y
    have hM : ∀ b : Bool, (0 : Int) < (if b then 41 else 4) ∧ (if b then (41 : Int) else 4) ≤ 41 := fun b => by cases b <;> decide
    refine s_seq (s_asg (x_mod (x_vd rfl) (x_pick (x_eq (x_mod (x_div (x_vd rfl) x_ci ⟨by decide, by decide⟩) x_ci (by decide)) x_ci (depI _ _))) (hM _).1) ?_)
    generalize decide (D.int (y / 41 % 7) = D.int 0) = bb
    obtain ⟨m0, m1⟩ := hM bb
    have hb := mod_bd y m0
    generalize hm : y % (if bb then 41 else 4) = m at hb ⊢
    refine s_seq (s_asg (x_div (x_vd rfl) x_ci ⟨by decide, by decide⟩) ?_)
    refine s_seq (s_forR1 (n := m) (x_vd rfl) (by omega) (fun i S' => ∃ (t : Str) (n : Int) (u : SV), S' = [.dat (.int n), .own someL, .dat (.str "abc 0:|()[]-~"), .dat (.str t), .dat (.int m), u] ∧ t.length ≤ i) ⟨_, _, _, rfl, by rw [len_nil]; exact Nat.le_refl _⟩ ?_ ?_)
    · rintro H1 e1 i S' hi ⟨t, n, u, rfl, ht⟩
      have b0 := mod_bd n (m := 13) (by decide)
      obtain ⟨c, hc⟩ := cps_get (s := "abc 0:|()[]-~") (k := (n % 13).toNat) (by rw [len_signs]; omega)
      refine s_seq (s_asg (x_addS (x_vd rfl) (x_ixS (x_vd rfl) (x_mod (x_vd rfl) x_ci (by decide)) (mod_nat n (by decide)) (sizeL (by rw [len_signs]; omega)) hc) (sizeL (by rw [len_one]; omega))) ?_)
      exact s_asg (x_div (x_vd rfl) x_ci ⟨by decide, by decide⟩) ⟨_, _, _, rfl, by rw [Str.length_append, len_one]; omega⟩
    · rintro H1 e1 S' ⟨t, n, u, rfl, ht⟩
      exact r_P (q.upP e1) (EvX.p (x_tup (d_cons (x_vd rfl) (d_cons (x_vd rfl) d_nil)) (sz 2 rfl)) ⟨_, _, rfl, t, rfl, by omega⟩) (fun _ z => z)
def someP : List D := [.str "a", .str "b", .str "a/b", .str "ab", .str "c/d", .str "b/a"]
def Path (d : D) : Prop := ∃ s : Str, d = .str s ∧ s.length ≤ 60
theorem someP_path : ∀ d ∈ someP, Path d := fun d h => by
  simp only [someP, List.mem_cons, List.not_mem_nil, or_false] at h
  rcases h with rfl | rfl | rfl | rfl | rfl | rfl
  all_goals exact ⟨_, rfl, by decide +kernel⟩
theorem len_az : ("abcdefghijklmnopqrstuvwxyz" : Str).length = 26 := by decide +kernel
theorem x_slash {H0 : Hp} {S : List SV} {te : TE} {b : Bool} (h : EvX H0 S te (.val (.bl b))) : EvX H0 S (tOp rMulA (tC (.str "/")) (tCB rIntA (tCons te tNil))) (.dat (.str (if b then Txt.mul "/" 1 else Txt.mul "/" 0))) := by
  cases b
  · exact x_mulS x_cs (x_intB h) (by show MulOk "/" 0; unfold MulOk; decide +kernel)
  · exact x_mulS x_cs (x_intB h) (by show MulOk "/" 1; unfold MulOk; decide +kernel)
theorem len_slash (b : Bool) : (if b then Txt.mul ("/" : Str) 1 else Txt.mul ("/" : Str) 0 : Str).length ≤ 1 := by
  have h0 : (Txt.mul ("/" : Str) 0).length ≤ 1 := by decide +kernel
  have h1 : (Txt.mul ("/" : Str) 1).length ≤ 1 := by decide +kernel
  cases b
  · exact h0
  · exact h1
/-! _law_path: slots 0 _law_own_here  1 _law_some  2 _law_text_here  3 _law_many  4 _law_k  5 _law_size  6 _law_j   -/
abbrev st_l_path : Stmt := topS 56
abbrev N_l_path : List Str := ["_law_own_here", "_law_some", "_law_text_here", "_law_many", "_law_k", "_law_size", "_law_j"]
theorem sc_l_path : FnScope N_l_path ["_law_own_here"] (defScope st_l_path) := ⟨rfl, rfl, rfl, by decide +kernel, rfl, by decide +kernel, by decide +kernel⟩
abbrev sp_l_path : Sp := SpG (α := Int) (fun x => [.dat (.int x)]) (fun _ => True) (fun _ => RP (TwoP Path))
abbrev H_l_path (P : Program) (w : World) (K : PySem.W.Frag) (mg : Str → Option Value) (base : Heap) : Prop := Has P w K mg base 1 "_law_path" ["_law_own_here"] (sp_l_path)
theorem has_l_path {P : Program} {w : World} {K : PySem.W.Frag} {mg : Str → Option Value} {base : Heap} (B : Gs mg) (F : DefAt K mg "_law_path" st_l_path)   : H_l_path P w K mg base :=
  F.hasG sc_l_path (fun _ _ _ _ _ _ us hl => match us, hl with | [_], _ => rfl) (fun _ => rfl) fun f cdv A outer s H E hr => by
    have hu := room64 hr
    have hu1 := hu_of hr
    refine ⟨_, (pss_cons (ps_set (i := 1) sc_l_path.nd rfl (Or.inl rfl) (pe_lst (pa_cons pe_str (pa_cons pe_str (pa_cons pe_str (pa_cons pe_str (pa_cons pe_str (pa_cons pe_str pa_nil))))))))
      (pss_cons (ps_if (pt_cmpR op_ltA (pe_op op_mod (pv 0) pe_int) pe_int (nomark _))
        (pss_one (ps_ret (pe_tup (pa_cons (pe_ix (ix_seqK (K := K) rfl) (pv 1) (pe_op op_mod (pv 0) pe_int) (fun _ _ => rfl)) (pa_cons (pe_op op_fdiv (pv 0) pe_int) pa_nil)))))
        pss_nil)
      (pss_cons (ps_set (i := 2) sc_l_path.nd rfl (Or.inl rfl) pe_str)
      (pss_cons (ps_set (i := 3) sc_l_path.nd rfl (Or.inl rfl) (pe_op (op_addK (K := K) rfl) pe_int (pe_op op_mod (pe_op op_fdiv (pv 0) pe_int) pe_int)))
      (pss_cons (ps_set (i := 0) sc_l_path.nd rfl (Or.inl rfl) (pe_op op_fdiv (pv 0) pe_int))
      (pss_cons (ps_for PassesOwn.never rfl (pi_range1 (by rfl) B.range (pa_cons (pv 3) pa_nil)) (pg_name (i := 4) sc_l_path.nd rfl (Or.inl rfl))
        (pss_cons (ps_set (i := 2) sc_l_path.nd rfl (Or.inl rfl) (pe_op (op_addK (K := K) rfl) (pv 2) (pe_op op_mulA pe_str (pe_callTy call_intA (by rfl) B.int b_int (pa_cons (pe_cmpR op_gt (pv 4) pe_int (nomark _)) pa_nil)))))
        (pss_cons (ps_set (i := 5) sc_l_path.nd rfl (Or.inl rfl) (pe_op (op_addK (K := K) rfl) pe_int (pe_op op_mod (pv 0) pe_int)))
        (pss_cons (ps_set (i := 0) sc_l_path.nd rfl (Or.inl rfl) (pe_op op_fdiv (pv 0) pe_int))
        (pss_one (ps_for PassesOwn.never rfl (pi_range1 (by rfl) B.range (pa_cons (pv 5) pa_nil)) (pg_name (i := 6) sc_l_path.nd rfl (Or.inl rfl))
          (pss_cons (ps_set (i := 2) sc_l_path.nd rfl (Or.inl rfl) (pe_op (op_addK (K := K) rfl) (pv 2) (pe_ix (ix_seqK (K := K) rfl) pe_str (pe_op op_mod (pv 0) pe_int) (fun _ _ => rfl))))
          (pss_one (ps_set (i := 0) sc_l_path.nd rfl (Or.inl rfl) (pe_op op_fdiv (pv 0) pe_int))))))))))
      (pss_one (ps_ret (pe_tup (pa_cons (pv 2) (pa_cons (pv 0) pa_nil))))))))))), fun x hp H R q => ?_⟩
    refine s_seq (s_asgN (ds := someP) (n_lst (d_cons x_cs (d_cons x_cs (d_cons x_cs (d_cons x_cs (d_cons x_cs (d_cons x_cs d_nil)))))) (sz 6 rfl)) ?_)
    refine s_seq (s_if (b := decide (x % 8 < 6)) (t_cmp (x_ltI (x_mod (x_vd rfl) x_ci (by decide)) x_ci)) (fun h => ?_) (fun h => s_next ?_))
    · have h := of_decide_eq_true h
      have b0 := mod_bd x (m := 8) (by decide)
      have hk : (x % 8).toNat < someP.length := by show (x % 8).toNat < 6; omega
      have e : someP[(x % 8).toNat]? = some someP[(x % 8).toNat] := by simp [hk]
      exact r_P q (EvX.p (x_tup (d_cons (x_ixL (x_vo rfl) (x_mod (x_vd rfl) x_ci (by decide)) (mod_nat x (by decide)) e) (d_cons (x_div (x_vd rfl) x_ci ⟨by decide, by decide⟩) d_nil)) (sz 2 rfl)) ⟨_, _, rfl, someP_path _ (List.mem_of_getElem? e)⟩) (fun _ z => z)
    refine s_seq (s_asg x_cs ?_)
    refine s_seq (s_asg (x_addI x_ci (x_mod (x_div (x_vd rfl) x_ci ⟨by decide, by decide⟩) x_ci (by decide))) ?_)
    have hb := mod_bd (x / 8) (m := 4) (by decide)
    generalize hm : 1 + x / 8 % 4 = m
    have hm2 : 1 ≤ m ∧ m ≤ 4 := by omega
    refine s_seq (s_asg (x_div (x_vd rfl) x_ci ⟨by decide, by decide⟩) ?_)
    refine s_seq (s_forR1 (n := m) (x_vd rfl) (by omega) (fun i S' => ∃ (t : Str) (n : Int) (u v w : SV), S' = [.dat (.int n), .own someP, .dat (.str t), .dat (.int m), u, v, w] ∧ t.length ≤ 9 * i) ⟨_, _, _, _, _, rfl, by rw [len_nil]; exact Nat.zero_le _⟩ ?_ ?_)
    · rintro H1 e1 i S' hi ⟨t, n, u, v, w, rfl, ht⟩
      have hsl := len_slash (decide (0 < (i : Int)))
      refine s_seq (s_asg (x_addS (x_vd rfl) (x_slash (x_gt (x_vd rfl) x_ci)) (sizeL (by omega))) ?_)
      refine s_seq (s_asg (x_addI x_ci (x_mod (x_vd rfl) x_ci (by decide))) ?_)
      have hb2 := mod_bd n (m := 8) (by decide)
      generalize hz : 1 + n % 8 = z
      have hz2 : 1 ≤ z ∧ z ≤ 8 := by omega
      refine s_seq (s_asg (x_div (x_vd rfl) x_ci ⟨by decide, by decide⟩) ?_)
      refine s_forR1 (n := z) (x_vd rfl) (by omega) (fun j S' => ∃ (t : Str) (n : Int) (w : SV), S' = [.dat (.int n), .own someP, .dat (.str t), .dat (.int m), .dat (.int i), .dat (.int z), w] ∧ t.length ≤ 9 * i + 1 + j) ⟨_, _, _, rfl, by rw [Str.length_append]; omega⟩ ?_ ?_
      · rintro H2 e2 j S' hj ⟨t2, n2, w2, rfl, ht2⟩
        have b0 := mod_bd n2 (m := 26) (by decide)
        obtain ⟨c, hc⟩ := cps_get (s := "abcdefghijklmnopqrstuvwxyz") (k := (n2 % 26).toNat) (by rw [len_az]; omega)
        refine s_seq (s_asg (x_addS (x_vd rfl) (x_ixS x_cs (x_mod (x_vd rfl) x_ci (by decide)) (mod_nat n2 (by decide)) (sizeL (by rw [len_az]; omega)) hc) (sizeL (by rw [len_one]; omega))) ?_)
        exact s_asg (x_div (x_vd rfl) x_ci ⟨by decide, by decide⟩) ⟨_, _, _, rfl, by rw [Str.length_append, len_one]; omega⟩
      · rintro H2 e2 S' ⟨t2, n2, w2, rfl, ht2⟩
        exact ⟨_, _, _, _, _, rfl, by omega⟩
    · rintro H1 e1 S' ⟨t, n, u, v, w, rfl, ht⟩
      exact r_P (q.upP e1) (EvX.p (x_tup (d_cons (x_vd rfl) (d_cons (x_vd rfl) d_nil)) (sz 2 rfl)) ⟨_, _, rfl, t, rfl, by omega⟩) (fun _ z => z)
end Mw
-- part MwS4
set_option maxHeartbeats 4000000
/-! Sets of texts: set(a list of texts), sorted of it (the way of the ints' sets, turned to texts). -/
namespace L2
open PySem PySem.Spec PyProof.Rows
def keyX (e : Int × Value) : Str := match e.2 with | .str k _ => k | _ => Str.empty
def GoodX (P : Program) (w : World) (e : Int × Value) : Prop := ∃ k tk, e.2 = Value.str k tk ∧ e.1 = (PySem.strKind P w).hash k
def SetX (P : Program) (w : World) (h : Heap) (a : Addr) (S : Str → Bool) (n : Nat) : Prop :=
  ∃ o es ep t, h.get? a = some o ∧ o.ExactSet ∧ o.data = .set es ep t ∧ (∀ e ∈ es.toList, GoodX P w e) ∧ (es.toList.map keyX).Nodup ∧ (∀ k, S k = true ↔ k ∈ es.toList.map keyX) ∧
    es.size < scanBound ∧ t.fits es.size = true ∧ es.size = n ∧ Ris t.place.toList ∧ (w.params.followText "set-order" = true ∨ t.led = true)
section
variable {P : Program} {w : World} {h h' : Heap} {a : Addr} {S : Str → Bool} {n : Nat}
theorem SetX.at (R : SetX P w h a S n) (k : ∀ o, h.get? a = some o → h'.get? a = some o) : SetX P w h' a S n := by
  obtain ⟨o, es, ep, t, ho, r⟩ := R
  exact ⟨o, es, ep, t, k o ho, r⟩
theorem SetX.congr {S' : Str → Bool} (R : SetX P w h a S n) (e : ∀ k, S' k = S k) : SetX P w h a S' n := by
  have q : S' = S := funext e
  rw [q]; exact R
theorem goodX_elems {l : List (Int × Value)} (g : ∀ e ∈ l, GoodX P w e) : ElemsOf (PySem.strKind P w) l := fun e he => by
  obtain ⟨k, tk, h1, h2⟩ := g e he
  exact ⟨⟨k, by rw [h1]; exact PySem.strKind_is P w k tk, h2⟩, by rw [h1] <;> rfl⟩
theorem goodX_is {e : Int × Value} (g : GoodX P w e) (k : Str) : (PySem.strKind P w).is k e.2 = true ↔ keyX e = k := by
  obtain ⟨k0, tk, h1, _⟩ := g
  unfold keyX
  rw [h1]
  constructor
  · intro q
    obtain ⟨t, e⟩ := Value.isStrOf_shape (show Value.isStrOf k (.str k0 tk) = true from q)
    cases e
    rfl
  · intro q
    rw [show k0 = k from q]
    exact PySem.strKind_is P w k tk
theorem goodX_mem {l : List (Int × Value)} (g : ∀ e ∈ l, GoodX P w e) (k : Str) : k ∈ l.map keyX ↔ ∃ e ∈ l, (PySem.strKind P w).is k e.2 = true := by
  rw [List.mem_map]
  constructor
  · rintro ⟨e, he, q⟩
    exact ⟨e, he, (goodX_is (g e he) k).2 q⟩
  · rintro ⟨e, he, q⟩
    exact ⟨e, he, (goodX_is (g e he) k).1 q⟩
theorem setX_new_at {h : Heap} {a : Addr} {ns : List Str} (ho : h.get? a = some { cls := .type "set", dict := none, data := .set #[] 0 (.fresh 0 0 (!w.params.followText "set-order")) }) : SetX P w h a (fun j => decide (j ∈ ns.take 0)) 0 :=
  ⟨_, #[], 0, _, ho, ⟨rfl, rfl, rfl⟩, rfl, (fun e he => by simp at he), (by simp), (fun k => by simp), (by decide), (by rfl), rfl, List.Pairwise.nil, by
    show _ ∨ (!w.params.followText "set-order") = true
    cases w.params.followText "set-order"
    · exact .inr rfl
    · exact .inl rfl⟩
end
section
variable {P : Program} {w : World} {A : Around} {E : Value → Shared → Prop} {s : Shared} {a : Addr} {S : Str → Bool} {n : Nat}
theorem setX_add_tail {g : Bool → Sem Unit} (hg : ∀ (b : Bool) (s₁ : Shared) (Q' : Unit → Shared → Prop), Q' () s₁ → wpAny (model P w) A (g b) Q' E s₁)
    {o : Obj} {es : Array (Int × Value)} {ep : Nat} {t : SetTable} (ho : s.heap.get? a = some o) (hex : o.ExactSet) (hd : o.data = .set es ep t)
    {es1 : Array (Int × Value)} {t2 : SetTable} {S' : Str → Bool} (g1 : ∀ e ∈ es1.toList, GoodX P w e) (nd1 : (es1.toList.map keyX).Nodup) (m1 : ∀ k : Str, S' k = true ↔ k ∈ es1.toList.map keyX)
    (hb1 : es1.size < scanBound) (hf2 : t2.fits es1.size = true) (hr : Ris t2.place.toList) (hl : w.params.followText "set-order" = true ∨ t2.led = true) {wasDummy : Bool} {R : Option Bool → Shared → Prop}
    (hR : ∀ h', Heap.SameBut a s.heap h' → SetX P w h' a S' es1.size → R (some true) { s with heap := h' }) :
    wpAny (model P w) A (do
        storeSet a es1 t2
        if (!wasDummy && t2.tooFull) = true then do
            g (relayAll t2 es1 (SetTable.grown es1.size)).2.2
            storeSet a (relayAll t2 es1 (SetTable.grown es1.size)).1 (relayAll t2 es1 (SetTable.grown es1.size)).2.1
            pure (some true)
          else pure (some true)) R E s := by
  refine wpAny_bind (wpAny_storeSet_of ho hd ?_ (fits_of_scanBound hb1))
  have ho1 := store_at (es' := es1) (t' := t2) ho hd
  have sb1 := Heap.SameBut.update s.heap a (Obj.putSet es1 t2)
  split
  · have pm := relayAll_perm t2 es1 (SetTable.grown es1.size)
    have hf3 := relayAll_fits t2 es1 (SetTable.grown es1.size)
    have hr3 := relayAll_ris t2 es1 (SetTable.grown es1.size)
    have hl3 := relayAll_led t2 es1 (SetTable.grown es1.size)
    generalize relayAll t2 es1 (SetTable.grown es1.size) = Z at pm hf3 hr3 hl3 ⊢
    obtain ⟨es2, t3, gave⟩ := Z
    dsimp only at pm hf3 hr3 hl3 ⊢
    have hsz : es2.size = es1.size := by rw [← Array.length_toList, pm.length_eq, Array.length_toList]
    have hb2 : es2.size < scanBound := by rw [hsz]; exact hb1
    refine wpAny_bind (hg _ _ _ ?_)
    refine wpAny_bind (wpAny_storeSet_of ho1 rfl ?_ (fits_of_scanBound hb2))
    have ho2 := store_at (es' := es2) (t' := t3) ho1 rfl
    refine wpAny_pure (hR _ (sb1.trans (Heap.SameBut.update _ a _)) ?_)
    exact ⟨_, es2, _, t3, ho2, hex, rfl, fun e he => g1 e (pm.mem_iff.mp he), (pm.map keyX).nodup_iff.mpr nd1, fun k => (m1 k).trans (pm.map keyX).mem_iff.symm, hb2, hf3, hsz, hr3,
      hl.imp id fun z => by rw [hl3]; exact z⟩
  · exact wpAny_pure (hR _ sb1 ⟨_, es1, _, t2, ho1, hex, rfl, g1, nd1, m1, hb1, hf2, rfl, hr, hl⟩)
theorem setX_add_hashed {k : Str} {tk : Tok} {Q : Bool → Shared → Prop} (R : SetX P w s.heap a S n) (room : n + 1 < scanBound)
    (hQ : ∀ h', Heap.SameBut a s.heap h' → SetX P w h' a (fun j => S j || decide (j = k)) (if S k = true then n else n + 1) → Q (!S k) { s with heap := h' }) :
    wpAny (model P w) A (setAddHashed a (.str k tk) ((PySem.strKind P w).hash k)) Q E s := by
  obtain ⟨o, es, ep, t, ho, hex, hd, g, nd, hm, hb, hf, hn, hr, hl⟩ := R
  have hkey : (PySem.strKind P w).is k (.str k tk) = true := PySem.strKind_is P w k tk
  have hsc : (Value.str k tk).scannable = true := rfl
  have hel : ElemsOf (PySem.strKind P w) es.toList := goodX_elems g
  unfold setAddHashed setAddHashedIn
  refine wpAny_holding (wpAny_bind (wpAny_setState_of ho hd hf ?_))
  dsimp only
  rw [byScan_of hsc hb hel]
  simp only [↓reduceIte]
  unfold setAddByScan
  refine wpAny_bind ?_
  refine wpAny_bind (wpAny_rule ?_)
  refine wpAny_bind (wpAny_setScan_of hkey ho hd hf hel ?_)
  cases hfi : List.findIdx? (fun e => (PySem.strKind P w).is k e.2) es.toList with
  | some j =>
    dsimp only
    obtain ⟨hj, pj, _⟩ := List.findIdx?_eq_some_iff_getElem.mp hfi
    have hSk : S k = true := (hm k).2 ((goodX_mem (P := P) (w := w) g k).2 ⟨es.toList[j], List.getElem_mem hj, pj⟩)
    refine wpAny_pure (wpAny_pure ?_)
    have q := hQ s.heap (Heap.SameBut.refl a s.heap) ⟨o, es, ep, t, ho, hex, hd, g, nd, fun i => by
      rw [Bool.or_eq_true, decide_eq_true_eq, ← hm i]
      exact ⟨fun z => z.elim id (fun e => e ▸ hSk), .inl⟩, hb, hf, by rw [if_pos hSk]; exact hn, hr, hl⟩
    rw [hSk] at q
    exact q
  | none =>
    dsimp only
    have hnk : k ∉ es.toList.map keyX := fun z => by
      obtain ⟨e, he, q⟩ := (goodX_mem (P := P) (w := w) g k).1 z
      have c := List.findIdx?_eq_none_iff.mp hfi e he
      rw [q] at c
      cases c
    have hSk : S k = false := by
      cases q : S k with
      | false => rfl
      | true => exact absurd ((hm k).1 q) hnk
    have hgw : ∀ (b : Bool) {s₁ : Shared} {Q' : Unit → Shared → Prop}, Q' () s₁ → wpAny (model P w) A (match b with | true => rule "set.scan.the-table-gave-way" | false => pure ()) Q' E s₁ :=
      fun b s₁ Q' q => by cases b <;> first | exact wpAny_pure q | exact wpAny_rule q
    have pm := layNew_perm t es ((PySem.strKind P w).hash k) (.str k tk)
    have hf1 := layNew_fits t es ((PySem.strKind P w).hash k) (.str k tk)
    have hr1 := layNew_ris t es ((PySem.strKind P w).hash k) (.str k tk) hr
    have hl1 := layNew_led t es ((PySem.strKind P w).hash k) (.str k tk)
    generalize layNew t es ((PySem.strKind P w).hash k) (.str k tk) = Z at pm hf1 hr1 hl1 ⊢
    obtain ⟨es1, t1, wasDummy, gave⟩ := Z
    dsimp only at pm hf1 hr1 hl1 ⊢
    rw [Array.toList_push] at pm
    have pc : es1.toList.Perm (((PySem.strKind P w).hash k, Value.str k tk) :: es.toList) := pm.trans (List.perm_append_singleton _ _)
    have pk : (es1.toList.map keyX).Perm (k :: es.toList.map keyX) := pc.map keyX
    have g1 : ∀ e ∈ es1.toList, GoodX P w e := fun e he => by
      rcases List.mem_cons.mp (pc.mem_iff.mp he) with z | z
      · rw [z]; exact ⟨k, tk, rfl, rfl⟩
      · exact g e z
    have nd1 : (es1.toList.map keyX).Nodup := pk.nodup_iff.mpr (List.nodup_cons.mpr ⟨hnk, nd⟩)
    have m1 : ∀ i, (S i || decide (i = k)) = true ↔ i ∈ es1.toList.map keyX := fun i => by
      rw [Bool.or_eq_true, decide_eq_true_eq, hm i, pk.mem_iff, List.mem_cons]
      exact Or.comm
    have hsz : es1.size = n + 1 := by rw [← Array.length_toList, pc.length_eq, List.length_cons, Array.length_toList, hn]
    have hb1 : es1.size < scanBound := by rw [hsz]; exact room
    have hled : w.params.followText "set-order" = true ∨ t1.led = true := hl.imp id fun z => by rw [hl1]; exact z
    have fin : ∀ h', Heap.SameBut a s.heap h' → SetX P w h' a (fun j => S j || decide (j = k)) es1.size → Q true { s with heap := h' } := fun h' sb r => by
      have q := hQ h' sb
      rw [hSk] at q
      rw [hsz] at r
      exact q r
    refine wpAny_bind (hgw _ ?_)
    split
    · refine wpAny_bind ?_
      rw [hashByValue_scannable 8 hsc]
      refine wpAny_pure ?_
      refine setX_add_tail ?_ ho hex hd g1 nd1 m1 hb1 ?_ ?_ ?_ ?_
      · intro b s₁ Q' q; cases b <;> first | exact wpAny_pure q | exact wpAny_rule q
      · first | (split <;> first | exact hf1 | exact SetTable.fits_plain_off hf1) | exact hf1
      · first | (split <;> exact hr1) | exact hr1
      · first | (split <;> exact hled) | exact hled
      · intro h' sb r; dsimp only; exact wpAny_pure (fin h' sb r)
    · refine wpAny_bind (wpAny_pure ?_)
      simp only [↓reduceIte]
      refine setX_add_tail ?_ ho hex hd g1 nd1 m1 hb1 hf1 hr1 hled ?_
      · intro b s₁ Q' q; cases b <;> first | exact wpAny_pure q | exact wpAny_rule q
      · intro h' sb r; dsimp only; exact wpAny_pure (fin h' sb r)
end
section
variable {P : Program} {w : World} {A : Around} {E : Value → Shared → Prop} {s : Shared}
theorem set_update_strs {I : Addr} {fp wr : List Addr} {G : Array GenState → Array GenState → Prop} {n : Nat} {Pv : Nat → Value → Prop} {St : Nat → Shared → Prop} {R : Result → Shared → Prop}
    (W : WalksS P w A.in1 I fp wr G n Pv St) (S : Addr) (hSf : S ∉ fp) (ns : List Str) (hn : n = ns.length) (hb : ns.length + 1 < scanBound) (hval : ∀ i v, Pv i v → ∃ k t, ns[i]? = some k ∧ v = .str k t) :
    ∀ (k i : Nat) (s : Shared), n - i = k → i ≤ n → St i s → (∃ c, c ≤ i ∧ SetX P w s.heap S (fun j => decide (j ∈ ns.take i)) c) →
      (∀ s' c, Moved (S :: wr) G s s' → c ≤ n → SetX P w s'.heap S (fun j => decide (j ∈ ns)) c → R (.ok (.ret .none)) s') →
      codeAny (model P w) A (.builtin "set.update.loop" ⟨[.ref S, .ref I], []⟩) R s := by
  have hSw : S ∉ wr := fun h => hSf (W.sub _ h)
  have hsub : ∀ b ∈ wr, b ∈ S :: wr := fun b hb => List.mem_cons_of_mem _ hb
  intro k
  induction k with
  | zero =>
    intro i s hk' hi hst ⟨c, hc, hS⟩ hR
    have hin : i = n := by omega
    subst hin
    refine codeAny_builtin F.entry_set_update_loop ?_
    rw [Around.under_plainId F.plain_set_update_loop _]
    show wpAny _ A.in1 (pyNext (.ref I) >>= _) _ _ s
    refine wpAny_bind (W.done s _ _ hst fun s' hm => ?_)
    show wpAny _ A.in1 (ret Value.none) _ _ s'
    have e : ns.take i = ns := List.take_of_length_le (by omega)
    rw [e] at hS
    exact wpAny_pure (hR s' c (hm.mono hsub) hc (hS.at fun o e => hm.heap S o hSw e))
  | succ k ih =>
    intro i s hk' hi hst ⟨c, hc, hS⟩ hR
    have hlt : i < n := by omega
    refine codeAny_builtin F.entry_set_update_loop ?_
    rw [Around.under_plainId F.plain_set_update_loop _]
    show wpAny _ A.in1 (pyNext (.ref I) >>= _) _ _ s
    refine wpAny_bind (W.item i s _ _ hlt hst fun v s' hP hst' hm => ?_)
    obtain ⟨z, t, hz, rfl⟩ := hval i v hP
    have hS' : SetX P w s'.heap S (fun j => decide (j ∈ ns.take i)) c := hS.at fun o e => hm.heap S o hSw e
    show wpAny _ A.in1 (holding [Value.str z t] (setAdd S (.str z t)) >>= _) _ _ s'
    refine wpAny_bind (wpAny_holding ?_)
    unfold setAdd
    refine wpAny_holding ?_
    refine wpAny_bind ((PySem.strKind P w).pyHash (k := z) (PySem.strKind_is _ _ _ _) ?_)
    refine setX_add_hashed (s := { s' with toks := s'.toks + 1 }) hS' (by omega) fun h' hsb hS2 => ?_
    have hS3 : SetX P w h' S (fun j => decide (j ∈ ns.take (i + 1))) (if decide (z ∈ ns.take i) = true then c else c + 1) := hS2.congr fun j => by
      rw [List.take_add_one, hz]
      simp [List.mem_append]
    have hc3 : (if decide (z ∈ ns.take i) = true then c else c + 1) ≤ i + 1 := by
      split <;> omega
    refine wpAny_pure ⟨plainId_quiet F.plain_set_update_loop _, ih (i + 1) _ (by omega) hlt (W.frame _ s' _ _ hst' (Nat.le_succ _) fun b hb o e => ?_) ⟨_, hc3, hS3⟩ fun s'' c2 hm'' hc'' hS'' => ?_⟩
    · rw [hsb.2 b (fun h : b = S => hSf (by rw [← h]; exact hb))]; exact e
    · refine hR s'' c2 (Moved.trans W.gtrans ((hm.mono hsub).then_heap (Nat.le_succ _) fun b o hb e => ?_) hm'') hc'' hS''
      rw [hsb.2 b (fun h : b = S => hb (by rw [h]; exact List.mem_cons_self))]; exact e
set_option maxHeartbeats 8000000 in
theorem call_set_lstX {l : Addr} {items : Array Value} (ns : List Str) {Q : Value → Shared → Prop} (hh : A.handled = none) (hl : s.heap.IsList l items) (hit : StrsAre items.toList ns) (hb : ns.length + 1 < scanBound)
    (h : ∀ (h' : Heap) (tk c : Nat), SetX P w h' s.heap.objs.size (fun j => decide (j ∈ ns)) c → c ≤ ns.length → (∀ b o, s.heap.get? b = some o → h'.get? b = some o) → Q (.ref s.heap.objs.size) { s with heap := h', toks := tk }) :
    wpAny (model P w) A (call (.type "set") [.ref l]) Q E s := by
  have hisz : items.size = ns.length := by
    have q := StrsAre.len_eq hit
    rw [Array.length_toList] at q
    exact q
  obtain ⟨c, tl, hmro⟩ := F.called_set.mro
  have hmade := F.called_set.made
  have hsub := F.called_set.sub
  refine wpAny_call (codeAny_of_tree ?_)
  show wpAny _ _ (callAny (.type "set") _) _ _ _
  refine wpAny_pure ⟨Code.quiet_builtin _ (by decide +kernel), codeAny_builtin F.entry_type_call ?_⟩
  rw [Around.under_plain (weight_type_call_type "set" [.ref l] []) rfl]
  have h1 := F.called_set.notType
  have h2 := F.called_set.canCreate
  have hct := F.typeCall_set_1 (.ref l)
  repeat (any_goals (first | assumption | wp_step))
  refine codeAny_mono (code_set_led1 (.ref l) (E := E) (Q₁ := fun obj s₁ => obj = .ref s.heap.objs.size ∧ s₁ = { s with heap := s.heap.push { cls := .type "set", dict := none, data := .set #[] 0 (.fresh 0 0 (!w.params.followText "set-order")) } }) ⟨rfl, rfl⟩) fun r s₁ hr => ?_
  cases r with
  | error e => exact hr
  | ok fl =>
    cases fl with
    | ret obj =>
      obtain ⟨rfl, rfl⟩ := hr
      have hS : (s.heap.push { cls := .type "set", dict := none, data := .set #[] 0 (.fresh 0 0 (!w.params.followText "set-order")) }).get? s.heap.objs.size = some { cls := .type "set", dict := none, data := .set #[] 0 (.fresh 0 0 (!w.params.followText "set-order")) } := Heap.get?_push_size _ rfl
      have hT : Shared.TypeIs { s with heap := s.heap.push { cls := .type "set", dict := none, data := .set #[] 0 (.fresh 0 0 (!w.params.followText "set-order")) } } (.ref s.heap.objs.size) "set" := ⟨_, hS, rfl⟩
      have hli := F.called_set.init.lookup
      have hbi := F.called_set.init.bind (.ref s.heap.objs.size)
      repeat (any_goals (first | assumption | wp_step))
      refine codeAny_mono (codeAny_call_builtin (R := wants (fun r s₂ => r = .none ∧ ∃ h' tk c, s₂ = { s with heap := h', toks := tk } ∧ SetX P w h' s.heap.objs.size (fun j => decide (j ∈ ns)) c ∧ c ≤ ns.length ∧
          (∀ b o, s.heap.get? b = some o → h'.get? b = some o)) E) F.called_set.init.plain F.entry_set_init (check_set_init_1 hT ?_)) fun r₂ s₂ hr₂ => ?_
      · obtain ⟨ol, hol, hcl, nl, hdl⟩ := hl
        obtain ⟨ocls, odict, odata, oslots⟩ := ol
        simp only at hcl hdl
        subst hcl; subst hdl
        have hol' : (s.heap.push { cls := .type "set", dict := none, data := .set #[] 0 (.fresh 0 0 (!w.params.followText "set-order")) }).get? l = some { cls := .type "list", dict := odict, data := .seq items nl, slots := oslots } := Heap.get?_push_of_some _ hol
        have hsls := F.sub_list_set
        have hslf := F.sub_list_frozenset
        have hne : (Value.type "list" == Value.type "dict") = false := by decide
        have hl1 : (s.heap.push { cls := .type "set", dict := none, data := .set #[] 0 (.fresh 0 0 (!w.params.followText "set-order")) }).IsList l items := ⟨_, hol', rfl, nl, rfl⟩
        unfold Builtin.«set.__init__» noKeywords Builtin.Frozenset.updateFrom
        generalize hPI : pyIter = PI
        wp_walk
        subst hPI
        refine wpAny_pyIter_list hl1 ?_
        refine wpAny_bind (wpAny_runValue ?_)
        have hlS : l < s.heap.objs.size := Heap.lt_size hol
        have hh3 : A.in1.in1.in1.handled = none := by simp [hh]
        have hz1 : (s.heap.push { cls := .type "set", dict := none, data := .set #[] 0 (.fresh 0 0 (!w.params.followText "set-order")) }).objs.size = s.heap.objs.size + 1 := Heap.size_push ..
        have hneI : l ≠ (s.heap.push { cls := .type "set", dict := none, data := .set #[] 0 (.fresh 0 0 (!w.params.followText "set-order")) }).objs.size := by
          rw [Heap.size_push]; exact Nat.ne_of_lt (Nat.lt_succ_of_lt hlS)
        have hSf : s.heap.objs.size ∉ [(s.heap.push { cls := .type "set", dict := none, data := .set #[] 0 (.fresh 0 0 (!w.params.followText "set-order")) }).objs.size, l] := by
          rw [Heap.size_push]; simp only [List.mem_cons, List.mem_singleton, List.not_mem_nil, or_false, not_or]
          exact ⟨Nat.ne_of_lt (Nat.lt_succ_self _), Nat.ne_of_gt hlS⟩
        have hval : ∀ (i : Nat) (v : Value), items[i]? = some v → ∃ k t, ns[i]? = some k ∧ v = .str k t := fun i v hv => by
          have hi : i < ns.length := by rw [← hisz]; exact (Array.getElem?_eq_some_iff.mp hv).1
          obtain ⟨t, e⟩ := SS.strs_at hit i v (by rw [Array.getElem?_toList]; exact hv)
          refine ⟨ns[i], t, List.getElem?_eq_getElem hi, ?_⟩
          rw [e, List.getD_eq_getElem?_getD, List.getElem?_eq_getElem hi] <;> rfl
        refine set_update_strs ((Walks.list hh3 _ l hneI items).toS) s.heap.objs.size
          hSf ns hisz hb hval (items.size - 0) 0 _ (by omega) (Nat.zero_le _)
          ⟨⟨_, Heap.get?_push_size _ rfl, rfl, rfl⟩, (hl1.push _)⟩ ?hS0 ?hR
        case hS0 =>
          have hget : ((s.heap.push { cls := .type "set", dict := none, data := .set #[] 0 (.fresh 0 0 (!w.params.followText "set-order")) }).push { cls := .type "list_iterator", data := .fields #[.ref l, .int 0 0] }).get? s.heap.objs.size
              = some { cls := .type "set", dict := none, data := .set #[] 0 (.fresh 0 0 (!w.params.followText "set-order")) } := Heap.get?_push_of_some _ hS
          exact ⟨0, Nat.le_refl 0, setX_new_at hget⟩
        case hR =>
          intro s' c' hm hc' hS'
          obtain ⟨h', g2, d', tk', os'⟩ := s'
          have eg : g2 = s.gens := hm.gens
          have ed : d' = s.drawn := hm.drawn
          have eo : os' = s.os := hm.os
          subst eg; subst ed; subst eo
          show wpAny _ _ _ _ _ _
          refine wpAny_pure ?_
          show wpAny _ _ (ret Value.none) _ _ _
          rw [hisz] at hc'
          refine wpAny_pure ⟨rfl, h', tk', c', rfl, hS', hc', fun b o e => ?_⟩
          have hb0 : b < s.heap.objs.size := Heap.lt_size e
          have hb1 : b ≠ s.heap.objs.size := Nat.ne_of_lt hb0
          have hb2 : b ≠ (s.heap.push { cls := .type "set", dict := none, data := .set #[] 0 (.fresh 0 0 (!w.params.followText "set-order")) }).objs.size := by
            rw [Heap.size_push]; exact Nat.ne_of_lt (Nat.lt_succ_of_lt hb0)
          exact hm.heap b o (by simp only [List.mem_cons, List.mem_singleton, List.not_mem_nil, or_false, not_or]; exact ⟨hb1, hb2⟩) (Heap.get?_push_of_some _ (Heap.get?_push_of_some _ e))
      · cases r₂ with
        | error e => exact hr₂
        | ok fl₂ =>
          cases fl₂ with
          | ret r =>
            obtain ⟨rfl, h', tk, c', rfl, hS', hc', hk'⟩ := hr₂
            repeat (any_goals (first | assumption | wp_step))
            exact h _ _ _ hS' hc' hk'
          | _ => exact hr₂.elim
    | _ => exact hr.elim
end
end L2
-- part MwS5
set_option maxHeartbeats 4000000
/-! sorted(set(a list of texts)). -/
namespace L2
open PySem PySem.Spec PyProof.Rows
theorem strs_ofX : ∀ (l : List Value), (∀ v ∈ l, ∃ k tk, v = Value.str k tk) → StrsAre l (l.map fun v => keyX (0, v))
  | [], _ => .nil
  | v :: l, h => by
    obtain ⟨k, tk, rfl⟩ := h v List.mem_cons_self
    exact .cons k tk (strs_ofX l fun u hu => h u (List.mem_cons_of_mem _ hu))
section
variable {P : Program} {w : World} {A : Around} {E : Value → Shared → Prop} {s : Shared} {a : Addr}
theorem sorted_setX {S : Str → Bool} {n : Nat} {Q : Value → Shared → Prop} (R : SetX P w s.heap a S n) (hh : A.handled = none) (h64 : n < 64)
    (hQ : ∀ s' p (out : Array Value) (c : Nat) (ns : List Str), (∀ b o, s.heap.get? b = some o → s'.heap.get? b = some o) → s'.gens = s.gens → s'.os = s.os → s.heap.objs.size ≤ p →
      s'.heap.get? p = some (seqObj "list" out c) → StrsAre out.toList ns → sortedS ns = true → ns.Nodup → (∀ k, k ∈ ns ↔ S k = true) → ns.length = n → Q (.ref p) s') :
    wpAny (model P w) A (call (.builtin "sorted") [.ref a]) Q E s := by
  obtain ⟨o, es, ep, t, ho, hex, hd, g, nd, hm, hb, hf, hn, hr, hl⟩ := R
  refine Calls.call_function_entry kind_sorted plain_sorted entry_sorted (args_sorted1 _) ?_
  unfold Builtin.«sorted»
  refine wpAny_bind (m := checkCount "sorted" 1 1 _) (wpAny_pure ?_)
  refine wpAny_bind (collect_set (A := A.in1) hh ⟨o, ho, hex.1, hd⟩ hf hb hr hl fun s1 vs k1 hz g1 o1 pm => ?_)
  have hvl : vs.length = n := by rw [pm.length_eq, List.length_map, Array.length_toList]; exact hn
  have hS : StrsAre vs (vs.map fun v => keyX (0, v)) := strs_ofX vs fun v hv => by
    obtain ⟨e, he, q⟩ := List.mem_map.mp (pm.mem_iff.mp hv)
    obtain ⟨k, tk, h1, _⟩ := g e he
    exact ⟨k, tk, by rw [← q]; exact h1⟩
  have pk : (vs.map fun v => keyX (0, v)).Perm (es.toList.map keyX) := by
    have q := pm.map fun v => keyX (0, v)
    rw [List.map_map] at q
    exact q
  refine wpAny_bind (wpAny_newList ?_ (by rw [hvl, sizeLine_eq]; omega))
  have hoL : (s1.heap.push (seqObj "list" vs.toArray 0)).get? s1.heap.objs.size = some (seqObj "list" vs.toArray 0) := Heap.get?_push_size _ rfl
  refine wpAny_bind (wpAny_holding (wpAny_call_entry slot_list_sort ⟨_, hoL, rfl⟩ entry_list_sort
    (list_sort_treeK strKind_oneLt (s := { s1 with heap := s1.heap.push (seqObj "list" vs.toArray 0) }) hoL hS.keysOf (fun v₁ v₂ rest e => keyKind_strs (by rw [← e]; exact hS)) (by rw [hvl]; exact h64) fun st' hp hs => ⟨_, rfl, ?_⟩) (args_list_sort _)))
  obtain ⟨ys, a1, a2, a3⟩ := sorted_out_str hS hp hs
  obtain ⟨c, hc⟩ := sortedHeap_at (vs := vs) (out := (arrOf st').map (·.2)) hoL
  have pn : ys.Perm (es.toList.map keyX) := a2.trans pk
  refine wpAny_pure ⟨_, rfl, hQ _ s1.heap.objs.size _ c ys (fun b u e => ?_) g1 o1 hz hc a1 a3 (pn.nodup_iff.mpr nd) (fun k => by rw [pn.mem_iff, ← hm k]) ?_⟩
  · have q := k1 b u e
    have hlt := Heap.lt_size q
    show (sortedHeap (s1.heap.push (seqObj "list" vs.toArray 0)) s1.heap.objs.size vs _).get? b = some u
    rw [sortedHeap_old (Nat.ne_of_lt hlt) (by rw [size_push']; exact Nat.lt_succ_of_lt hlt)]
    exact Heap.get?_push_of_some _ q
  · rw [pn.length_eq, List.length_map, Array.length_toList]; exact hn
end
/-- sorted(set(xs)), xs a list of fewer than 64 texts -/
def tSortedSet (K : PySem.W.Frag) (ta : TE) : TE := fun σ H Q => ta σ H fun x H1 => ∃ (l : Addr) (xs : List Str), x = .ref l ∧ SqL K H1 l (xs.map V.str) ∧ xs.length < 64 ∧
  ∀ (ys : List Str) (p : Addr), ys.Nodup → (∀ s, s ∈ ys ↔ s ∈ xs) → sortedS ys = true → H1 p = none → Q (.ref p) (upd H1 p (.lst (ys.map V.str)))
theorem pe_sortedSet {X : Cx} {a : Expr} {ta : TE} {p p2 q pos : Pos} (hc : X.calm = true) (hg : Gl X "sorted") (hm : X.mg "sorted" = none) (hg2 : Gl X "set") (hm2 : X.mg "set" = none) (hb : bootBuiltins "sorted" = some (.builtin "sorted")) (ha : PE X a ta)
    (na : starEach [a] X.env = (false, eval a X.env) :: starEach [] X.env := by rfl) : PE X (.Call (.Name "sorted" p) [.Call (.Name "set" p2) [a] [] q] [] pos) (tSortedSet X.K ta) := by
  refine ⟨fun pins s σ H Q I h => ?_⟩
  refine Call_ (ld_blt I hg hm hb ?_)
  refine PyProof.Rows.callWith_builtin1 (PyProof.Rows.args_cons ?_ rfl) rfl rfl
  refine Call_ (ld_blt I hg2 hm2 boot_set ?_)
  refine PyProof.Rows.callWith_type1 (PyProof.Rows.args_cons (thn (ha.run pins s σ H _ I h) fun v s1 ⟨x, H1, I1, r1, q1⟩ => PyProof.Rows.args_nil ?_) na) na rfl
  obtain ⟨l, xs, rfl, hq, h1, q1⟩ := q1
  cases r1
  obtain ⟨its, r, pl, hz⟩ := I1.list hq
  have hl : xs.length = its.length := by have := r.length; rwa [List.length_map] at this
  refine call_set_lstX xs (I1.ok.hd hc) pl.isList (by simpa using strsAre_of r) (by unfold scanBound; omega) fun h' tk c hS hcn hk => ?_
  refine PyProof.Rows.args_nil ?_
  have I2 : Inv X pins σ H1 { s1 with heap := h', toks := tk } := I1.kept fun b o e => hk b o e
  refine sorted_setX (s := { s1 with heap := h', toks := tk }) hS (I2.ok.hd hc) (by omega) fun s' p' out c2 ns k g o hp hg' hi hs hnd hmm hll => ?_
  have hlen : (ns.map V.str).length ≤ sizeLine := by rw [List.length_map, hll, sizeLine_eq]; omega
  have hn : H1 p' = none := I2.hok.fresh hp
  have J : Inv X pins σ (upd H1 p' (.lst (ns.map V.str))) { ({ s1 with heap := h', toks := tk } : Shared) with heap := s'.heap, gens := s'.gens, drawn := s'.drawn, toks := s'.toks } :=
    I2.call (ch := []) (Un.laid k hp hn) (I2.hok.laid k hp ⟨hlen, out.toList, c2, vals_of_strs hi, hg'⟩) (by rw [g]; exact I2.bare) (fun _ z => nomatch z)
  have e : s' = { ({ s1 with heap := h', toks := tk } : Shared) with heap := s'.heap, gens := s'.gens, drawn := s'.drawn, toks := s'.toks } := by
    cases s'
    cases s1
    cases o
    rfl
  rw [e]
  exact ⟨.ref p', _, J, rfl, q1 ns p' hnd (fun z => by rw [hmm z, decide_eq_true_eq]) hs hn⟩
end L2
-- part MwS6
set_option maxHeartbeats 4000000
/-! sorted of tuples (int, int, int, anything) of which no two have the same three ints. -/
namespace Q4
open PySem PySem.Spec PyProof.Rows Srt SrtO L2
abbrev I3 := Int × Int × Int
def lex3 (p q : I3) : Bool := if p.1 = q.1 then (if p.2.1 = q.2.1 then decide (p.2.2 < q.2.2) else decide (p.2.1 < q.2.1)) else decide (p.1 < q.1)
theorem lex3_iff {p q : I3} : lex3 p q = true ↔ p.1 < q.1 ∨ (p.1 = q.1 ∧ (p.2.1 < q.2.1 ∨ (p.2.1 = q.2.1 ∧ p.2.2 < q.2.2))) := by
  unfold lex3
  by_cases e : p.1 = q.1
  · rw [if_pos e]
    by_cases f : p.2.1 = q.2.1
    · rw [if_pos f, decide_eq_true_eq]
      omega
    · rw [if_neg f, decide_eq_true_eq]
      omega
  · rw [if_neg e, decide_eq_true_eq]
    omega
theorem lex3_no {p q : I3} : lex3 p q = false ↔ ¬ (p.1 < q.1 ∨ (p.1 = q.1 ∧ (p.2.1 < q.2.1 ∨ (p.2.1 = q.2.1 ∧ p.2.2 < q.2.2)))) := by
  rw [← lex3_iff]
  cases lex3 p q <;> simp
theorem swo3 {α : Type} (k : α → I3) : Swo fun v u => lex3 (k v) (k u) := by
  refine ⟨fun x y h => ?_, fun x y z h1 h2 => ?_⟩
  · have a := lex3_iff.mp h
    refine lex3_no.mpr ?_
    omega
  · have a := lex3_no.mp h1
    have b := lex3_no.mp h2
    refine lex3_no.mpr ?_
    omega
def IsQ (h : Heap) (v : Value) (k : I3) : Prop := ∃ a o t u r d n, v = .ref a ∧ h.get? a = some o ∧ o.cls = .type "tuple" ∧ o.data = .seq #[.int k.1 t, .int k.2.1 u, .int k.2.2 r, d] n
theorem IsQ.keeps {h h' : Heap} {v : Value} {k : I3} (p : IsQ h v k) (kp : ∀ b o, h.get? b = some o → o.cls = .type "tuple" → h'.get? b = some o) : IsQ h' v k := by
  obtain ⟨a, o, t, u, r, d, n, e, ho, hc, hd⟩ := p
  exact ⟨a, o, t, u, r, d, n, e, kp _ _ ho hc, hc, hd⟩
theorem firsts {h : Heap} : ∀ {vs : List Value}, (∀ v ∈ vs, ∃ k, IsQ h v k) → ∃ fs : List Value, PySem.W.KatTups h vs fs ∧ fs.length = vs.length ∧ ∀ f ∈ fs, ∃ x t, f = Value.int x t
  | [], _ => ⟨[], PySem.W.KatTups.nil, rfl, fun _ hm => by simp at hm⟩
  | v :: vs, hp => by
    obtain ⟨fs, h1, h2, h3⟩ := firsts (vs := vs) fun v' hm => hp v' (List.mem_cons_of_mem _ hm)
    obtain ⟨k, a, o, t, u, r, d, n, e, ho, hc, hd⟩ := hp v List.mem_cons_self
    subst e
    refine ⟨.int k.1 t :: fs, PySem.W.KatTups.cons ho hc hd rfl h1, by rw [List.length_cons, List.length_cons, h2], fun f hm => ?_⟩
    rcases List.mem_cons.mp hm with rfl | hm
    · exact ⟨_, t, rfl⟩
    · exact h3 f hm
section
variable {prog : Program} {w : World} {A : Around} {E : Value → Shared → Prop} {s : Shared}
theorem q_cmp {vs : List Value} {k : Value → I3} (hp : ∀ v ∈ vs, IsQ s.heap v (k v)) (inj : ∀ v ∈ vs, ∀ u ∈ vs, k v = k u → v = u) : Cmp prog w A s (tuples' true) (fun p => p.1 ∈ vs) (lt2 fun v u => lex3 (k v) (k u)) := by
  intro p q hm hm'
  have h1 := hp _ hm
  have h2 := hp _ hm'
  have hj := inj _ hm _ hm'
  show wpAny (model prog w) A (keyLt' (tuples' true) p.1 q.1) (fun r s' => s' = s ∧ r = lex3 (k p.1) (k q.1)) (fun _ _ => False) s
  generalize k p.1 = K1 at h1 hj ⊢
  generalize k q.1 = K2 at h2 hj ⊢
  obtain ⟨x, y, z⟩ := K1
  obtain ⟨x', y', z'⟩ := K2
  obtain ⟨a, o, t, u, r, d, n, e, ho, hc, hd⟩ := h1
  obtain ⟨a', o', t', u', r', d', n', e', ho', hc', hd'⟩ := h2
  rw [e, e'] at hj ⊢
  refine PySem.W.kat_lt ho hd ho' hd' ?_
  show PySem.W.KatLex prog w A true (decide (4 < 4)) _ [(.int x t, .int x' t'), (.int y u, .int y' u'), (.int z r, .int z' r'), (d, d')] 0 s
  refine PySem.W.kat_cons (SeqAt.EqAt.int_int x t x' t' prog w _ _ ?_)
  refine PySem.W.kat_go (fun e1 => ?_) (fun e1 => ?_)
  · have ex : x = x' := by simpa using e1
    refine PySem.W.kat_yes (PySem.W.kat_cons (SeqAt.EqAt.int_int y u y' u' prog w _ _ ?_))
    refine PySem.W.kat_go (fun e2 => ?_) (fun e2 => ?_)
    · have ey : y = y' := by simpa using e2
      refine PySem.W.kat_yes (PySem.W.kat_cons (SeqAt.EqAt.int_int z r z' r' prog w _ _ ?_))
      refine PySem.W.kat_go (fun e3 => ?_) (fun e3 => ?_)
      · have ez : z = z' := by simpa using e3
        have hr : Value.ref a = Value.ref a' := hj (by rw [ex, ey, ez])
        have ha : a = a' := Value.ref.inj hr
        subst ha
        rw [ho] at ho'
        cases ho'
        rw [hd] at hd'
        have hdd : d = d' := by
          injection hd' with z1 z2
          have z3 := congrArg Array.toList z1
          simpa using (List.cons.inj (List.cons.inj (List.cons.inj (List.cons.inj z3).2).2).2).1
        subst hdd
        refine PySem.W.kat_yes (PySem.W.kat_cons (SeqAt.EqAt.same d prog w _ _ ?_))
        refine PySem.W.kat_yes (PySem.W.kat_nil ⟨rfl, ?_⟩)
        refine Eq.symm (lex3_no.mpr ?_)
        rw [ex, ey, ez]
        omega
      · have ez : ¬ z = z' := by simpa using e3
        refine PySem.W.kat_no (PySem.W.kat_one _ _ (PyProof.Rows.lt_int ?_))
        refine ⟨rfl, ?_⟩
        unfold lex3
        rw [if_pos ex, if_pos ey]
    · have ey : ¬ y = y' := by simpa using e2
      refine PySem.W.kat_no (PySem.W.kat_one _ _ (PyProof.Rows.lt_int ?_))
      refine ⟨rfl, ?_⟩
      unfold lex3
      rw [if_pos ex, if_neg ey]
  · have ex : ¬ x = x' := by simpa using e1
    refine PySem.W.kat_no (oneLt_int ⟨rfl, ?_⟩)
    unfold lex3
    rw [if_neg ex]
theorem sorted_q {l : Addr} {vs : List Value} {k : Value → I3} {Q : Value → Shared → Prop} (hl : s.heap.IsList l vs.toArray) (hz : vs.length ≤ sizeLine) (hp : ∀ v ∈ vs, IsQ s.heap v (k v)) (inj : ∀ v ∈ vs, ∀ u ∈ vs, k v = k u → v = u)
    (h : ∀ (h' : Heap) (d : Addr) (out : List Value), Srtd (fun v u => lex3 (k v) (k u)) out → out.Perm vs → (∀ b o, s.heap.get? b = some o → h'.get? b = some o) → s.heap.objs.size ≤ d → (∃ n, h'.get? d = some (seqObj "list" out.toArray n)) → Q (.ref d) { s with heap := h' }) :
    wpAny (model prog w) A (call (.builtin "sorted") [.ref l]) Q E s := by
  refine sorted_ord (swo3 k) hl hz (fun h2 h₁ a ha kk => ?_) fun out hs hb => ?_
  · intro h' keep
    have hna : ∀ o, h₁.get? a = some o → o.cls ≠ .type "tuple" := fun o e c => by
      have e' : some o = some (seqObj "list" vs.toArray 0) := e.symm.trans ha
      cases e'
      exact absurd (Value.type.inj c) (by decide)
    have hp' : ∀ v ∈ vs, IsQ h' v (k v) := fun v hm => ((hp v hm).keeps fun b o e _ => (kk b o e).2).keeps fun b o e c => keep b o (fun z => by subst z; exact hna o e c) e
    obtain ⟨fs, h1, h2', h3⟩ := firsts fun v hm => ⟨_, hp' v hm⟩
    refine ⟨tuples' true, fun Q E hq => ?_, q_cmp hp' inj⟩
    refine PySem.W.kat_kind (T := .type "int") h1 (by omega) (fun f hm => ?_) (by rfl) ?_
    · obtain ⟨x, t, rfl⟩ := h3 f hm
      exact PySem.W.Looks.now
    · have e : (Value.type "int" != Value.type "tuple") = true := by first | decide +kernel | rfl | decide
      rw [e]
      exact hq
  · exact h _ _ out hs hb.perm (fun b o e => sortedAll_old e) (Nat.le_succ _) (sortedAll_at s.heap vs out.toArray)
end
end Q4
namespace L2
open PySem PySem.Spec PyProof.Rows
def rSorted4 (K : PySem.W.Frag) : List V → Hp → VK → Prop := fun vs H Q => ∃ (a : Addr) (xs : List V) (k : V → Q4.I3), vs = [V.ref a] ∧ SqL K H a xs ∧ (∀ x ∈ xs, ∃ t d, x = V.ref t ∧ H t = some (.tup [.int (k x).1, .int (k x).2.1, .int (k x).2.2, d])) ∧ (∀ x ∈ xs, ∀ y ∈ xs, k x = k y → x = y) ∧
  ∀ ys p, SrtO.Srtd (fun x y => Q4.lex3 (k x) (k y)) ys → ys.Perm xs → H p = none → Q (.ref p) (upd H p (.lst ys))
theorem backV_inj {u v : Value} (hu : ∃ a, u = Value.ref a) (hv : ∃ a, v = Value.ref a) (e : backV u = backV v) : u = v := by
  obtain ⟨a, rfl⟩ := hu
  obtain ⟨b, rfl⟩ := hv
  have e : V.ref a = V.ref b := e
  cases e
  rfl
theorem cr_sorted4 {X : Cx} {K : PySem.W.Frag} (hK : X.K = K) : CallR X (.builtin "sorted") (rSorted4 K) := by
  subst hK
  intro pins s σ H vs us Q I r h
  obtain ⟨a, xs, k, rfl, hs, hx, hinj, q⟩ := h
  obtain ⟨its, rv, hl, hz⟩ := I.list hs
  obtain ⟨u, rfl, ru⟩ := vals1 r
  obtain rfl : u = Value.ref a := ru
  obtain ⟨e1, e2⟩ := refs_back rv fun x m => by
    obtain ⟨t, d, e, _⟩ := hx x m
    exact ⟨t, e⟩
  have hmem : ∀ v ∈ its, backV v ∈ xs := fun v hv => by rw [e1]; exact List.mem_map.mpr ⟨v, hv, rfl⟩
  refine Q4.sorted_q (k := fun u => k (backV u)) hl.isList (by rw [← rv.length]; exact hz) (fun v hv => ?_) (fun v hv u hu e => ?_) fun h' d out h1 h2 kp hd hn => ?_
  · obtain ⟨t, rfl⟩ := e2 v hv
    obtain ⟨t', d, e, ht⟩ := hx _ (hmem _ hv)
    cases e
    obtain ⟨_, its2, r2, o, ho, hc, n, hd⟩ := I.hok _ _ ht
    cases r2 with
    | cons r1 r2 => cases r2 with
      | cons r2 r3 => cases r3 with
        | cons r3 r4 => cases r4 with
          | cons r4 r5 =>
            cases r5
            obtain ⟨t1, rfl⟩ := r1
            obtain ⟨t2, rfl⟩ := r2
            obtain ⟨t3, rfl⟩ := r3
            exact ⟨t, o, t1, t2, t3, _, n, rfl, ho, hc, hd⟩
  · exact backV_inj (e2 v hv) (e2 u hu) (hinj _ (hmem v hv) _ (hmem u hu) e)
  · have h3 : ∀ u ∈ out, ∃ a, u = Value.ref a := fun u hu => e2 u (h2.mem_iff.mp hu)
    obtain ⟨n, hn⟩ := hn
    have hb : (out.map backV).Perm xs := by
      rw [e1]
      exact h2.map backV
    refine ⟨.ref d, upd H d (.lst (out.map backV)), I.laid (t' := s.toks) kp hd ⟨?_, out, n, vals_back h3, hn⟩, rfl, q _ d (SrtO.srtd_map h1) hb (I.hok.fresh hd)⟩
    rw [hb.length_eq]
    exact hz
end L2
-- part MwS7
set_option maxHeartbeats 4000000
/-! sorted(rows, key=root_of): the def's call, and what comes. -/
namespace Mw
open PySem PySem.Spec PyProof.Rows L2
abbrev st_root_of : Stmt := topS 26
theorem sc_root_of : FnScope ["row"] ["row"] (defScope st_root_of) := ⟨rfl, rfl, rfl, by decide +kernel, rfl, by decide +kernel, by decide +kernel⟩
/-- a call root_of(t), all of the heap kept -/
theorem root_call {P : Program} {w : World} {K : PySem.W.Frag} {f : Addr} {fd : FuncData} (F : FunD K "root_of" "root_of" (defArgs st_root_of) (defBody st_root_of) (defScope st_root_of) [] [] f fd) {A : Around} {s : Shared} (hd : A.handled = none) (dp : A.depth < recursionLimit) (X : K.In s.heap) (lim : s.heap.NoLimit)
    {t : Addr} {its : List Value} {u : Value} (ht : IsTup s.heap t its.toArray) (hz : its.length ≤ sizeLine) (hu : its[0]? = some u) (d : PyData) (hr : ∀ h', (∀ b o, s.heap.get? b = some o → h'.get? b = some o) → PySem.Reads h' u d []) :
    wpAny (model P w) A (call (.ref f) [.ref t]) (PySem.W.KeyPure d s) (fun _ _ => False) s := by
  have B : Binds K fd ["row"] [] := F.bindsN fun _ _ _ _ _ _ us hl => match us, hl with | [_], _ => rfl
  obtain ⟨oc, od, dV, kV, doc, pm, an, cdv, ct, osl, rfl, lk, hcd, _, _⟩ := F.ex
  refine wpAny_call (codeAny_mono (R := wants (PySem.W.KeyPure d s) fun _ _ => False) ?_ fun r s' h => h)
  refine codeAny_call_function dp (X _ _ lk) rfl sc_root_of.co sc_root_of.gen rfl (PySem.W.codeRec_of X hcd) (B s [.ref t] X rfl _ _ _ _ ?_)
  have hkind : ∀ y ∈ (["row"] : List Str).zip [Value.ref t], (defScope st_root_of).names.lookup y.1 = some .local ∨ ((defScope st_root_of).names.lookup y.1 = some .cell ∧ ((cellsFrom (s.heap.objs.size + 1) (defScope st_root_of).names []).lookup y.1).isSome = true) := fun ⟨n, v⟩ hy => by
    rcases sc_root_of.par n (List.of_mem_zip hy).1 with q | q
    · exact .inl q
    · exact .inr ⟨q, PySem.W.cellsFrom_some _ _ _ (.inl q)⟩
  refine wpAny_newFunctionEnv_cells sc_root_of.kind hkind fun env he s1 x => ?_
  refine ⟨lim.keeps x.toInCall.keep, codeAny_func ?_⟩
  obtain ⟨h1, tk, e1, hk⟩ := x.done
  have hT : IsTup s1.heap t its.toArray := by
    obtain ⟨o, ho, hc⟩ := ht
    exact ⟨o, x.toInCall.keep _ _ ho, hc⟩
  have hkd : env.kindOf "row" = some .local := by rw [he]; rfl
  have hm : bindL env.kindOf ((["row"] : List Str).zip [Value.ref t]) (fun _ => none) "row" = some (.ref t) := bindL_get (by simp) (i := 0) rfl rfl hkd
  have fin : ∀ k : Nat, PySem.W.KeyPure d s u { s1 with toks := k } := fun k => ⟨h1, k, by rw [e1], hk, hr h1 hk⟩
  refine wpAny_mono (Q := fun fl s' => ∃ k, fl = .ret u ∧ s' = { s1 with toks := k }) (E := fun _ _ => False) ?_ (fun fl s' h => ?_) fun _ _ z => z.elim
  · refine wpAny_execs_cons (wpAny_Return_some (Subscript_ (wpAny_Name (wpAny_loadName_local (by rw [he]; rfl) hkd x.toInCall.ns hm ?_) (by decide))))
    refine wpAny_Constant_int ?_
    obtain ⟨j, g1, g2, g3, g4, g5⟩ := atI_get (show atI its (((0 : Nat) : Int)) = some u from atI_nat hu)
    have hn := line63
    refine subscriptTail_builtinR (s := { s1 with toks := s1.toks + 1 }) (x := u) (IsTup.typeIs (s := { s1 with toks := s1.toks + 1 }) hT) slot_tuple_getitem.lookup
      (getItem_tuple (s := { s1 with toks := s1.toks + 1 }) (j := j) (Q := fun r s' => r = u ∧ _) hT (by omega) (by decide) (by rw [List.size_toArray]; exact g1) (by simpa using g2) ⟨rfl, ?_⟩) rfl
    exact ⟨_, rfl, rfl⟩
  · obtain ⟨k, rfl, rfl⟩ := h
    exact fin k
def rSortedRow (K : PySem.W.Frag) (f : Addr) : List V → List V → Hp → VK → Prop := fun vs zs H Q => ∃ (a : Addr) (xs : List V) (key : V → Str), vs = [V.ref a] ∧ zs = [V.ref f] ∧ SqL K H a xs ∧ (∀ x ∈ xs, ∃ t rest, x = V.ref t ∧ H t = some (.tup (.str (key x) :: rest))) ∧
  ∀ ys p, ys.Perm xs → ys.Pairwise (fun x y => (key x).cps.toList ≤ (key y).cps.toList) → H p = none → Q (.ref p) (upd H p (.lst ys))
theorem each_of : ∀ {xs : List V} {us : List Value}, Vals xs us → PySem.W.EachIs (fun u x => RelV x u) us xs
  | _, _, .nil => .nil
  | _, _, .cons r t => .cons r (each_of t)
theorem of_each : ∀ {us : List Value} {xs : List V}, PySem.W.EachIs (fun u x => RelV x u) us xs → Vals xs us
  | _, _, .nil => .nil
  | _, _, .cons r t => .cons r (of_each t)
theorem cr_sortedRow {X : Cx} {K : PySem.W.Frag} {f : Addr} {fd : FuncData} (hK : X.K = K) (hc : X.calm = true) (hr : Room 2 X.A) (F : FunD K "root_of" "root_of" (defArgs st_root_of) (defBody st_root_of) (defScope st_root_of) [] [] f fd) :
    CallRK X (.builtin "sorted") [Str.ofString "key"] (rSortedRow K f) := by
  subst hK
  intro pins s σ H vs zs us ws Q I r rz h
  obtain ⟨a, xs, key, rfl, rfl, hs, hx, q⟩ := h
  obtain rfl := Vals.ref1 r
  obtain ⟨w1, rfl, e1⟩ := vals1 rz
  obtain rfl : w1 = Value.ref f := e1
  obtain ⟨its, rv, hl, hz⟩ := I.list hs
  have hu2 := hr.units
  refine PySem.W.sorted_key_data (b := false) (kw := [(Str.ofString "key", .ref f)]) (fun x : V => PyData.str (key x)) hl.isList (each_of rv) (PySem.W.AllAlike.of fun _ _ => by simp [PySem.W.alike]) (PySem.W.Sortable.others fun b => ⟨(fun z => by cases z), (fun _ z => by cases z)⟩) hz (fun x _ => ?_) (PyProof.Rows.ksk_s1 _ _) (fun _ => PyProof.Rows.ksk_l1 _ _) (fun _ => PyProof.Rows.ksk_t1 _ _)
    (fun v x hvx hxm h tk kp => ?_) fun out c h' tk kp hn hD hlen eo => ?_
  · simp only [PyData.depth]
    omega
  · obtain ⟨t, rest, rfl, ht⟩ := hx x hxm
    obtain rfl : v = Value.ref t := hvx
    obtain ⟨z, its2, r2, hT⟩ := I.hok _ _ ht
    have hT : IsTup s.heap t its2.toArray := hT
    have hT2 : IsTup h t its2.toArray := by
      obtain ⟨o, ho, hcc⟩ := hT
      exact ⟨o, kp _ _ ho, hcc⟩
    cases r2 with
    | cons r1 r2 =>
      obtain ⟨tk1, rfl⟩ := r1
      have hd2 : X.A.in1.in1.handled = none := hr.in1.in1.hd
      refine root_call F (s := { s with heap := h, toks := tk }) hd2 (by have := hr.in1.in1.dp; omega) (I.kIn.keeps fun b o e => kp b o e) (I.nolimit.keeps fun b o e => kp b o e) hT2 ?_ rfl _ fun h3 k3 => ?_
      · rw [List.length_cons] at z ⊢
        have := r2.length
        omega
      · exact .str _ _
  · have hv := of_each eo
    have hp : (xs.mergeSort (PySem.W.dataLe false fun x => PyData.str (key x))).Perm xs := List.mergeSort_perm _ _
    have hsrt : (xs.mergeSort (PySem.W.dataLe false fun x => PyData.str (key x))).Pairwise fun x y => (key x).cps.toList ≤ (key y).cps.toList := by
      have e := PySem.W.dataLe_str key
      rw [e]
      refine (List.pairwise_mergeSort (fun a b c h1 h2 => ?_) (fun a b => ?_) xs).imp fun h => ?_
      · simp only [decide_eq_true_eq] at h1 h2 ⊢
        exact Std.le_trans h1 h2
      · simp only [Bool.or_eq_true, decide_eq_true_eq]
        exact Std.le_total
      · simpa using h
    have hfr : H (s.heap.objs.size + 1) = none := I.hok.fresh (Nat.le_succ _)
    refine ⟨.ref _, upd H (s.heap.objs.size + 1) (.lst _), I.laid (t' := tk) kp (Nat.le_succ _) ⟨?_, out, c, hv, hD⟩, rfl, q _ _ hp hsrt hfr⟩
    rw [hp.length_eq]
    exact hz
end Mw
-- part MwS8
set_option maxHeartbeats 4000000
/-! sorted .. as new lists of data. -/
namespace Mw
open PySem PySem.Spec PyProof.Rows L2
theorem perm_uniq {α : Type} {R : α → α → Prop} : ∀ {l m : List α}, l.Perm m → l.Pairwise R → m.Pairwise R → (∀ x ∈ l, ∀ y ∈ l, R x y → R y x → x = y) → l = m
  | [], m, h, _, _, _ => h.nil_eq
  | x :: l, [], h, _, _, _ => absurd h.length_eq (by simp)
  | x :: l, y :: m, h, h1, h2, an => by
    have e : x = y := by
      rcases List.mem_cons.mp (h.mem_iff.mp (List.mem_cons_self (a := x) (l := l))) with q | q
      · exact q
      · rcases List.mem_cons.mp (h.mem_iff.mpr (List.mem_cons_self (a := y) (l := m))) with p | p
        · exact p.symm
        · exact an x List.mem_cons_self y (List.mem_cons_of_mem _ p) ((List.pairwise_cons.mp h1).1 y p) ((List.pairwise_cons.mp h2).1 x q)
    subst e
    rw [perm_uniq h.cons_inv (List.pairwise_cons.mp h1).2 (List.pairwise_cons.mp h2).2 fun a ha b hb => an a (List.mem_cons_of_mem _ ha) b (List.mem_cons_of_mem _ hb)]
theorem DVs.perm {H : Hp} {ys vs : List V} (h : ys.Perm vs) : ∀ {ds : List D}, DVs H vs ds → ∃ es, es.Perm ds ∧ DVs H ys es := by
  induction h with
  | nil => intro ds h; exact ⟨ds, List.Perm.refl _, h⟩
  | cons x h ih =>
    intro ds hd
    match ds, hd with
    | [], hd => cases (show _ = [] from hd)
    | d :: ds, hd =>
      obtain ⟨v, r, e1, e2, e3⟩ := hd
      cases e1
      obtain ⟨es, h1, h2⟩ := ih e3
      exact ⟨d :: es, h1.cons _, x, _, rfl, e2, h2⟩
  | swap x y l =>
    intro ds hd
    match ds, hd with
    | [], hd => cases (show _ = [] from hd)
    | [d], hd =>
      obtain ⟨v, r, e1, e2, e3⟩ := hd
      cases e1
      cases (show _ = [] from e3)
    | d :: d2 :: ds, hd =>
      obtain ⟨v, r, e1, e2, v2, r2, e3, e4, e5⟩ := hd
      cases e1
      cases e3
      exact ⟨d2 :: d :: ds, List.Perm.swap _ _ _, _, _, rfl, e4, _, _, rfl, e2, e5⟩
  | trans h1 h2 ih1 ih2 =>
    intro ds hd
    obtain ⟨es, k1, k2⟩ := ih2 hd
    obtain ⟨fs, k3, k4⟩ := ih1 k2
    exact ⟨fs, k3.trans k1, k4⟩
theorem DVs.mem {H : Hp} : ∀ {ds : List D} {vs : List V} {v : V}, DVs H vs ds → v ∈ vs → ∃ d ∈ ds, DV H v d
  | [], _, v, h, hv => by
    have h : _ = [] := h
    rw [h] at hv
    cases hv
  | d :: ds, _, v, h, hv => by
    obtain ⟨u, r, e1, e2, e3⟩ := h
    rw [e1] at hv
    rcases List.mem_cons.mp hv with q | q
    · exact ⟨d, List.mem_cons_self, by rw [q]; exact e2⟩
    · obtain ⟨d', h1, h2⟩ := DVs.mem e3 q
      exact ⟨d', List.mem_cons_of_mem _ h1, h2⟩
/-! keys -/
def k3D : D → Q4.I3
  | .tup [.int a, .int b, .int c, _] => (a, b, c)
  | _ => (0, 0, 0)
def k3V (H : Hp) : V → Q4.I3
  | .ref t => match H t with
    | some (.tup [.int a, .int b, .int c, _]) => (a, b, c)
    | _ => (0, 0, 0)
  | _ => (0, 0, 0)
def IsQuad (d : D) : Prop := ∃ a b c e, d = .tup [.int a, .int b, .int c, e]
theorem quad_v {H : Hp} {v : V} {d : D} (h : DV H v d) (hq : IsQuad d) : (∃ t e, v = V.ref t ∧ H t = some (.tup [.int (k3V H v).1, .int (k3V H v).2.1, .int (k3V H v).2.2, e])) ∧ k3V H v = k3D d := by
  obtain ⟨a, b, c, e, rfl⟩ := hq
  obtain ⟨t, us, rfl, h1, u1, r1, rfl, g1, u2, r2, rfl, g2, u3, r3, rfl, g3, u4, r4, rfl, g4, g5⟩ := h
  have g1 : u1 = .int a := g1
  have g2 : u2 = .int b := g2
  have g3 : u3 = .int c := g3
  have g5 : r4 = [] := g5
  subst g1 g2 g3 g5
  have ek : k3V H (.ref t) = (a, b, c) := by simp only [k3V, h1]
  rw [ek]
  exact ⟨⟨t, u4, rfl, h1⟩, rfl⟩
section
variable {K : PySem.W.Frag} {H0 : Hp} {S : List SV}
theorem lex3_anti {p q : Q4.I3} (h1 : Q4.lex3 q p = false) (h2 : Q4.lex3 p q = false) : p = q := by
  have a := Q4.lex3_no.mp h1
  have b := Q4.lex3_no.mp h2
  obtain ⟨x, y, z⟩ := p
  obtain ⟨x', y', z'⟩ := q
  dsimp only at a b
  have e1 : x = x' := by omega
  have e2 : y = y' := by omega
  have e3 : z = z' := by omega
  rw [e1, e2, e3]
/-- sorted(rows) -/
theorem n_sorted4 {te : TE} {ds es : List D} (h : EvX H0 S te (.lst ds)) (hq : ∀ d ∈ ds, IsQuad d) (hp : es.Perm ds) (hs : es.Pairwise fun x y => Q4.lex3 (k3D x) (k3D y) = true) : EvN H0 S (tCB (rSorted4 K) (tCons te tNil)) es :=
  n_cb1 (a_cons h a_nil) fun vs H Q hv q => by
    obtain ⟨v, rfl, a, us, rfl, h1, h2⟩ := AVs.one hv
    have hnd : ∀ x ∈ ds, ∀ y ∈ ds, k3D x = k3D y → x = y := fun x hx y hy e => by
      have hx := hp.mem_iff.mpr hx
      have hy := hp.mem_iff.mpr hy
      have key : ∀ {l : List D}, (l.Pairwise fun x y => Q4.lex3 (k3D x) (k3D y) = true) → ∀ x ∈ l, ∀ y ∈ l, k3D x = k3D y → x = y := by
        intro l
        induction l with
        | nil => intro _ x hx; cases hx
        | cons z l ih =>
          intro hl x hx y hy e
          obtain ⟨hl1, hl2⟩ := List.pairwise_cons.mp hl
          rcases List.mem_cons.mp hx with p | p
          · rcases List.mem_cons.mp hy with r | r
            · rw [p, r]
            · have := hl1 y r
              rw [← p, e] at this
              have := Q4.lex3_iff.mp this
              omega
          · rcases List.mem_cons.mp hy with r | r
            · have := hl1 x p
              rw [← r, e] at this
              have := Q4.lex3_iff.mp this
              omega
            · exact ih hl2 x p y r e
      exact key hs x hx y hy e
    have hall : ∀ v ∈ us, ∃ d ∈ ds, DV H v d ∧ k3V H v = k3D d := fun v hv => by
      obtain ⟨d, g1, g2⟩ := h2.mem hv
      exact ⟨d, g1, g2, (quad_v g2 (hq d g1)).2⟩
    -- equal keys: one place, one value
    have hdis : ∀ {us : List V} {ds : List D}, DVs H us ds → (∀ d ∈ ds, IsQuad d) → (ds.map k3D).Nodup → ∀ x ∈ us, ∀ y ∈ us, k3V H x = k3V H y → x = y := by
      intro us ds
      induction ds generalizing us with
      | nil =>
        intro h _ _ x hx
        have h : us = [] := h
        rw [h] at hx
        cases hx
      | cons d ds ih =>
        intro h hq hn x hx y hy e
        obtain ⟨v, r, rfl, e2, e3⟩ := h
        rw [List.map_cons] at hn
        obtain ⟨n1, n2⟩ := List.nodup_cons.mp hn
        have kv := (quad_v e2 (hq d List.mem_cons_self)).2
        have no : ∀ z ∈ r, k3V H z ≠ k3D d := fun z hz k => by
          obtain ⟨d', g1, g2⟩ := e3.mem hz
          have := (quad_v g2 (hq d' (List.mem_cons_of_mem _ g1))).2
          exact n1 (List.mem_map.mpr ⟨d', g1, by rw [← this, k]⟩)
        rcases List.mem_cons.mp hx with p | p
        · rcases List.mem_cons.mp hy with r' | r'
          · rw [p, r']
          · exact absurd (by rw [← e, p, kv]) (no y r')
        · rcases List.mem_cons.mp hy with r' | r'
          · exact absurd (by rw [e, r', kv]) (no x p)
          · exact ih e3 (fun d hd => hq d (List.mem_cons_of_mem _ hd)) n2 x p y r' e
    have hnk : (ds.map k3D).Nodup := by
      refine ((hp.map k3D).nodup_iff).mp ?_
      unfold List.Nodup
      refine List.pairwise_map.mpr (hs.imp fun {x y} z e => ?_)
      rw [e] at z
      have := Q4.lex3_iff.mp z
      omega
    refine ⟨a, us, k3V H, rfl, .inl (.inl h1), fun x hx => ?_, hdis h2 hq hnk, fun ys p hsrt hperm hn => ?_⟩
    · obtain ⟨d, g1, g2⟩ := h2.mem hx
      exact (quad_v g2 (hq d g1)).1
    · obtain ⟨es', f1, f2⟩ := h2.perm hperm
      have hk : ∀ {ys : List V} {es : List D}, DVs H ys es → (∀ d ∈ es, IsQuad d) → ys.map (k3V H) = es.map k3D := by
        intro ys es
        induction es generalizing ys with
        | nil =>
          intro h _
          have h : ys = [] := h
          rw [h]; rfl
        | cons d es ih =>
          intro h hq
          obtain ⟨v, r, rfl, e2, e3⟩ := h
          rw [List.map_cons, List.map_cons, ih e3 (fun d hd => hq d (List.mem_cons_of_mem _ hd)), (quad_v e2 (hq d List.mem_cons_self)).2]
      have hkk := hk f2 (fun d hd => hq d (f1.mem_iff.mp hd))
      have hs' : es'.Pairwise fun x y => Q4.lex3 (k3D y) (k3D x) = false := by
        have h3 : (ys.map (k3V H)).Pairwise fun x y => Q4.lex3 y x = false := by
          rw [List.pairwise_map]
          exact hsrt
        rw [hkk, List.pairwise_map] at h3
        exact h3
      have ee : es' = es := by
        refine perm_uniq (R := fun x y => Q4.lex3 (k3D y) (k3D x) = false) (f1.trans hp.symm) hs' (hs.imp fun {x y} z => ?_) fun x hx y hy r1 r2 => ?_
        · have := Q4.lex3_iff.mp z
          refine Q4.lex3_no.mpr ?_
          omega
        · exact hnd x (f1.mem_iff.mp hx) y (f1.mem_iff.mp hy) (lex3_anti r1 r2)
      subst ee
      exact q p ys _ (same_new hn) hn upd_same (f2.mono (same_new hn))
/-! ### texts -/
theorem ltS_irr (a : Str) : ltS a a = false := by
  unfold ltS
  exact decide_eq_false (fun z => Std.lt_irrefl z)
theorem ltS_total {a b : Str} (h1 : ltS a b = false) (h2 : ltS b a = false) : a = b := by
  unfold ltS at h1 h2
  have h1 := of_decide_eq_false h1
  have h2 := of_decide_eq_false h2
  have e : a.cps.toList = b.cps.toList := Std.le_antisymm (Std.not_lt.mp h2) (Std.not_lt.mp h1)
  exact Str.ext' (Array.toList_inj.mp e)
theorem ltS_trans {a b c : Str} (h1 : ltS a b = true) (h2 : ltS b c = true) : ltS a c = true := by
  unfold ltS at *
  simp only [decide_eq_true_eq] at *
  exact Std.lt_trans h1 h2
/-- strictly rising -/
def Ris (l : List Str) : Prop := l.Pairwise fun a b => ltS a b = true
theorem ris_uniq {l m : List Str} (h1 : Ris l) (h2 : Ris m) (hm : ∀ s, s ∈ l ↔ s ∈ m) : l = m := by
  have nd : ∀ {l : List Str}, Ris l → l.Nodup := fun h => h.imp fun {a b} z e => by rw [e, ltS_irr] at z; cases z
  have hp : l.Perm m := (List.perm_ext_iff_of_nodup (nd h1) (nd h2)).mpr hm
  exact perm_uniq hp h1 h2 fun x _ y _ a b => by
    have := ltS_trans a b
    rw [ltS_irr] at this
    cases this
def insU (x : Str) : List Str → List Str
  | [] => [x]
  | y :: ys => if ltS x y then x :: y :: ys else if ltS y x then y :: insU x ys else y :: ys
theorem mem_insU {x s : Str} : ∀ {l : List Str}, s ∈ insU x l ↔ s = x ∨ s ∈ l
  | [] => by simp [insU]
  | y :: ys => by
    unfold insU
    by_cases h1 : ltS x y = true
    · rw [if_pos h1]; simp
    · rw [if_neg h1]
      by_cases h2 : ltS y x = true
      · rw [if_pos h2, List.mem_cons, mem_insU, List.mem_cons]
        constructor
        · rintro (h | h | h)
          · exact .inr (.inl h)
          · exact .inl h
          · exact .inr (.inr h)
        · rintro (h | h | h)
          · exact .inr (.inl h)
          · exact .inl h
          · exact .inr (.inr h)
      · rw [if_neg h2]
        have e : x = y := ltS_total (by simpa using h1) (by simpa using h2)
        subst e
        simp
theorem ris_insU {x : Str} : ∀ {l : List Str}, Ris l → Ris (insU x l)
  | [], _ => List.pairwise_singleton _ _
  | y :: ys, h => by
    obtain ⟨g1, g2⟩ := List.pairwise_cons.mp h
    unfold insU
    by_cases h1 : ltS x y = true
    · rw [if_pos h1]
      refine List.pairwise_cons.mpr ⟨fun z hz => ?_, h⟩
      rcases List.mem_cons.mp hz with q | q
      · rw [q]; exact h1
      · exact ltS_trans h1 (g1 z q)
    · rw [if_neg h1]
      by_cases h2 : ltS y x = true
      · rw [if_pos h2]
        refine List.pairwise_cons.mpr ⟨fun z hz => ?_, ris_insU g2⟩
        rcases mem_insU.mp hz with q | q
        · rw [q]; exact h2
        · exact g1 z q
      · rw [if_neg h2]; exact h
/-- rising, each once -/
def sortU : List Str → List Str
  | [] => []
  | x :: xs => insU x (sortU xs)
theorem ris_sortU : ∀ l : List Str, Ris (sortU l)
  | [] => List.Pairwise.nil
  | x :: xs => ris_insU (ris_sortU xs)
theorem mem_sortU {s : Str} : ∀ {l : List Str}, s ∈ sortU l ↔ s ∈ l
  | [] => Iff.rfl
  | x :: xs => by rw [sortU, mem_insU, mem_sortU, List.mem_cons]
theorem sortU_ris {l : List Str} (h : Ris l) : sortU l = l := ris_uniq (ris_sortU l) h fun _ => mem_sortU
theorem sortU_congr {l m : List Str} (h : ∀ s, s ∈ l ↔ s ∈ m) : sortU l = sortU m := ris_uniq (ris_sortU l) (ris_sortU m) fun s => by rw [mem_sortU, mem_sortU, h s]
theorem ltCps_lt : ∀ (a b : List Nat), ltCps a b = decide (a < b)
  | [], [] => by simp [ltCps]
  | [], _ :: _ => by simp [ltCps]
  | _ :: _, [] => by simp [ltCps]
  | x :: xs, y :: ys => by
    rw [ltCps, ltCps_lt xs ys]
    by_cases h : x < y
    · simp [h, List.cons_lt_cons_iff]
    · by_cases e : x = y
      · subst e; simp
      · simp [h, e, List.cons_lt_cons_iff]
theorem ris_of {ys : List Str} (hs : sortedS ys = true) (hn : ys.Nodup) : Ris ys := by
  have step : ∀ (l : List Str) (p : Str), risingS p l = true → (p :: l).Nodup → Ris (p :: l) := by
    intro l
    induction l with
    | nil => intro p _ _; exact List.pairwise_singleton _ _
    | cons x l ih =>
      intro p h hn
      unfold risingS at h
      simp only [Bool.and_eq_true, Bool.not_eq_true'] at h
      obtain ⟨h1, h2⟩ := h
      obtain ⟨n1, n2⟩ := List.nodup_cons.mp hn
      have ih' := ih x h2 n2
      have hpx : ltS p x = true := by
        cases q : ltS p x with
        | true => rfl
        | false =>
          have h3 : ltS x p = false := by
            rw [ltCps_lt] at h1
            exact h1
          have e := ltS_total q h3
          exact absurd (by rw [e]; exact List.mem_cons_self) n1
      refine List.pairwise_cons.mpr ⟨fun z hz => ?_, ih'⟩
      rcases List.mem_cons.mp hz with q | q
      · rw [q]; exact hpx
      · exact ltS_trans hpx ((List.pairwise_cons.mp ih').1 z q)
  cases ys with
  | nil => exact List.Pairwise.nil
  | cons x l => exact step l x hs hn
/-- sorted(set(texts)) -/
theorem n_sortedSet {te : TE} {ss : List Str} (h : EvX H0 S te (.lst (ss.map D.str))) (hz : ss.length < 64) : EvN H0 S (tSortedSet K te) ((sortU ss).map D.str) := fun σ H hσ Q q =>
  h σ H hσ _ fun v H1 e1 hv => by
    obtain ⟨a, us, rfl, h1, h2⟩ := hv
    have h2 := h2.strs
    subst h2
    refine ⟨a, ss, rfl, .inl (.inl h1), hz, fun ys p hn hm hs hp => ?_⟩
    have e : ys = sortU ss := ris_uniq (ris_of hs hn) (ris_sortU ss) fun s => by rw [hm, mem_sortU]
    subst e
    exact q p _ _ (e1.trans (same_new hp)) (e1.free hp) upd_same DVs.ofStrs
end
end Mw
-- part MwT
set_option maxHeartbeats 4000000
/-! Tables of numbers, told by a function. -/
namespace Mw
structure Tab (m : List (List D)) (n p : Nat) (f : Nat → Nat → Nat) : Prop where
  len : m.length = n
  row : ∀ i, i < n → ∃ r, m[i]? = some r ∧ r.length = p ∧ ∀ j, j < p → r[j]? = some (.int (f i j : Int))
theorem Tab.imp {m : List (List D)} {n p : Nat} {f g : Nat → Nat → Nat} (h : Tab m n p f) (e : ∀ i j, i < n → j < p → f i j = g i j) : Tab m n p g := ⟨h.len, fun i hi => by
  obtain ⟨r, h1, h2, h3⟩ := h.row i hi
  exact ⟨r, h1, h2, fun j hj => by rw [h3 j hj, e i j hi hj]⟩⟩
theorem Tab.set {m : List (List D)} {n p : Nat} {f : Nat → Nat → Nat} (h : Tab m n p f) {i j : Nat} {r : List D} (z : Nat) (hi : i < n) (hr : m[i]? = some r) : Tab (m.set i (r.set j (.int (z : Int)))) n p (fun a b => if a = i ∧ b = j then z else f a b) := by
  refine ⟨by rw [List.length_set, h.len], fun a ha => ?_⟩
  obtain ⟨r', h1, h2, h3⟩ := h.row a ha
  by_cases e : a = i
  · subst e
    rw [hr] at h1
    cases h1
    refine ⟨r.set j (.int (z : Int)), ?_, by rw [List.length_set, h2], fun b hb => ?_⟩
    · rw [List.getElem?_set_self (by rw [h.len]; exact ha)]
    · by_cases eb : b = j
      · subst eb
        rw [List.getElem?_set_self (by rw [h2]; exact hb)]
        simp
      · rw [List.getElem?_set_ne (fun z => eb z.symm), h3 b hb]
        simp [eb]
  · refine ⟨r', by rw [List.getElem?_set_ne (fun z => e z.symm), h1], h2, fun b hb => ?_⟩
    rw [h3 b hb]
    simp [e]
theorem Tab.zero (n p : Nat) : Tab (List.replicate n (List.replicate p (.int 0))) n p (fun _ _ => 0) := by
  refine ⟨List.length_replicate, fun i hi => ⟨List.replicate p (.int 0), ?_, List.length_replicate, fun j hj => ?_⟩⟩
  · rw [List.getElem?_replicate, if_pos hi]
  · rw [List.getElem?_replicate, if_pos hj]
    rfl
/-- the most pairs from two places on -/
noncomputable def L (A B : List D) (i j : Nat) : Nat := lcs (A.drop i) (B.drop j)
theorem L_step {A B : List D} {i j : Nat} {x y : D} (hx : A[i]? = some x) (hy : B[j]? = some y) : L A B i j = if x = y then max (max (L A B (i + 1) j) (L A B i (j + 1))) (1 + L A B (i + 1) (j + 1)) else max (L A B (i + 1) j) (L A B i (j + 1)) := by
  unfold L
  rw [drop_get hx, drop_get hy, lcs]
theorem lcs_nil (A : List D) : lcs A [] = 0 := by
  cases A with
  | nil => rw [lcs]
  | cons x xs => rw [lcs]
theorem L_endA (A B : List D) (j : Nat) : L A B A.length j = 0 := by
  unfold L
  rw [List.drop_length, lcs]
theorem L_endB (A B : List D) (i : Nat) : L A B i B.length = 0 := by
  unfold L
  rw [List.drop_length, lcs_nil]
/-- while the table is being filled -/
noncomputable def fill (A B : List D) (i j : Nat) : Nat → Nat → Nat := fun a b => if i < a ∨ a = i ∧ j ≤ b then L A B a b else 0
noncomputable def lcsTab (A B : List D) : List (List D) := (List.range (A.length + 1)).map fun i => (List.range (B.length + 1)).map fun j => .int (L A B i j : Int)
theorem Tab.uniq {m m' : List (List D)} {n p : Nat} {f : Nat → Nat → Nat} (h : Tab m n p f) (k : Tab m' n p f) : m = m' := by
  apply List.ext_getElem?
  intro i
  by_cases hi : i < n
  · obtain ⟨r, h1, h2, h3⟩ := h.row i hi
    obtain ⟨r', k1, k2, k3⟩ := k.row i hi
    rw [h1, k1]
    refine congrArg some (List.ext_getElem? fun j => ?_)
    by_cases hj : j < p
    · rw [h3 j hj, k3 j hj]
    · rw [List.getElem?_eq_none (by omega), List.getElem?_eq_none (by omega)]
  · have := h.len
    have := k.len
    rw [List.getElem?_eq_none (by omega), List.getElem?_eq_none (by omega)]
theorem lcsTab_tab (A B : List D) : Tab (lcsTab A B) (A.length + 1) (B.length + 1) (L A B) := by
  refine ⟨by simp [lcsTab], fun i hi => ⟨(List.range (B.length + 1)).map fun j => .int (L A B i j : Int), ?_, by simp, fun j hj => ?_⟩⟩
  · unfold lcsTab
    rw [List.getElem?_map, List.getElem?_range hi]
    rfl
  · rw [List.getElem?_map, List.getElem?_range hj]
    rfl
theorem lcsTab_get (A B : List D) {i j : Nat} (hi : i ≤ A.length) (hj : j ≤ B.length) : ∃ r, (lcsTab A B)[i]? = some r ∧ r[j]? = some (.int (L A B i j : Int)) := by
  obtain ⟨r, h1, h2, h3⟩ := (lcsTab_tab A B).row i (Nat.lt_succ_of_le hi)
  exact ⟨r, h1, h3 j (Nat.lt_succ_of_le hj)⟩
theorem L_pos {A B : List D} {i j : Nat} (h : 0 < L A B i j) : i < A.length ∧ j < B.length := by
  constructor
  · rcases Nat.lt_or_ge i A.length with q | q
    · exact q
    · unfold L at h
      rw [List.drop_of_length_le q, lcs] at h
      omega
  · rcases Nat.lt_or_ge j B.length with q | q
    · exact q
    · unfold L at h
      rw [List.drop_of_length_le q, lcs_nil] at h
      omega
end Mw
-- part MwM1
set_option maxHeartbeats 4000000
/-! Pairs: the law's walk and the program's. -/
namespace Mw
theorem lcs_cons (x y : D) (xs ys : List D) : lcs (x :: xs) (y :: ys) = if x = y then max (max (lcs xs (y :: ys)) (lcs (x :: xs) ys)) (1 + lcs xs ys) else max (lcs xs (y :: ys)) (lcs (x :: xs) ys) := by rw [lcs]
theorem lcs_nilA (B : List D) : lcs [] B = 0 := by rw [lcs]
theorem lcs_mono (y : D) : ∀ (xs ys : List D), lcs xs ys ≤ lcs xs (y :: ys)
  | [], ys => by rw [lcs_nilA, lcs_nilA]; exact Nat.le_refl _
  | x :: xs, ys => by
    rw [lcs_cons]
    split <;> omega
noncomputable def bst (x : D) (xs : List D) : List D → Nat
  | [] => 0
  | y :: ys => if x = y then max (1 + lcs xs ys) (bst x xs ys) else bst x xs ys
theorem lcs_bst (x : D) (xs : List D) : ∀ ys, lcs (x :: xs) ys = max (lcs xs ys) (bst x xs ys)
  | [] => by rw [lcs_nil, lcs_nil, bst]; rfl
  | y :: ys => by
    have ih := lcs_bst x xs ys
    have hm := lcs_mono y xs ys
    rw [lcs_cons, ih, bst]
    split <;> omega
theorem fstK_bst (x : D) (xs : List D) : ∀ (ys : List D) (j : Nat), 0 < bst x xs ys → ∃ k, fstK x xs (bst x xs ys) ys j = some k
  | [], _, h => by rw [bst] at h; omega
  | y :: ys, j, h => by
    rw [bst] at h ⊢
    rw [fstK]
    by_cases e : x = y
    · rw [if_pos e] at h ⊢
      by_cases e2 : 1 + lcs xs ys = max (1 + lcs xs ys) (bst x xs ys)
      · rw [if_pos ⟨e, e2⟩]
        exact ⟨j, rfl⟩
      · rw [if_neg (fun z => e2 z.2)]
        have e3 : max (1 + lcs xs ys) (bst x xs ys) = bst x xs ys := by omega
        rw [e3]
        exact fstK_bst x xs ys (j + 1) (by omega)
    · rw [if_neg e] at h ⊢
      rw [if_neg (fun z => e z.1)]
      exact fstK_bst x xs ys (j + 1) h
theorem fstK_none {x : D} {xs ys : List D} {j : Nat} (h : fstK x xs (lcs (x :: xs) ys) ys j = none) : lcs (x :: xs) ys = lcs xs ys := by
  have e := lcs_bst x xs ys
  rcases Nat.le_total (bst x xs ys) (lcs xs ys) with q | q
  · omega
  · rcases Nat.eq_or_lt_of_le q with q | q
    · omega
    · have e2 : lcs (x :: xs) ys = bst x xs ys := by omega
      rw [e2] at h
      obtain ⟨k, hk⟩ := fstK_bst x xs ys j (by omega)
      rw [hk] at h
      cases h
theorem fstK_spec {x : D} {xs : List D} {m : Nat} : ∀ {ys : List D} {j k : Nat}, fstK x xs m ys j = some k → j ≤ k ∧ k < j + ys.length ∧ ys[k - j]? = some x ∧ 1 + lcs xs (ys.drop (k + 1 - j)) = m
  | [], _, _, h => by rw [fstK] at h; cases h
  | y :: ys, j, k, h => by
    rw [fstK] at h
    by_cases e : x = y ∧ 1 + lcs xs ys = m
    · rw [if_pos e] at h
      cases h
      refine ⟨Nat.le_refl _, by simp, ?_, ?_⟩
      · rw [Nat.sub_self, e.1]; rfl
      · rw [show j + 1 - j = 1 by omega]; exact e.2
    · rw [if_neg e] at h
      obtain ⟨h1, h2, h3, h4⟩ := fstK_spec h
      refine ⟨by omega, by rw [List.length_cons]; omega, ?_, ?_⟩
      · rw [show k - j = (k - (j + 1)) + 1 by omega]
        exact h3
      · rw [show k + 1 - j = (k + 1 - (j + 1)) + 1 by omega]
        exact h4
theorem nxt_some : ∀ (xs : List D) (i : Nat) (ys : List D) (j : Nat), 0 < lcs xs ys → ∃ a b, nxt (lcs xs ys) ys j xs i = some (a, b) ∧ i ≤ a ∧ a < i + xs.length ∧ j ≤ b ∧ b < j + ys.length ∧
    prs xs i ys j = (a, b) :: prs (xs.drop (a + 1 - i)) (a + 1) (ys.drop (b + 1 - j)) (b + 1)
  | [], _, ys, _, h => by rw [lcs_nilA] at h; omega
  | x :: xs, i, ys, j, h => by
    rw [nxt, prs]
    rw [if_neg (by omega)]
    cases hf : fstK x xs (lcs (x :: xs) ys) ys j with
    | some k =>
      obtain ⟨h1, h2, _⟩ := fstK_spec hf
      refine ⟨i, k, rfl, Nat.le_refl _, by rw [List.length_cons]; omega, h1, h2, ?_⟩
      rw [show i + 1 - i = 1 by omega]
      rfl
    | none =>
      have e := fstK_none hf
      rw [e] at h ⊢
      obtain ⟨a, b, h1, h2, h3, h4, h5, h6⟩ := nxt_some xs (i + 1) ys j h
      refine ⟨a, b, h1, by omega, by rw [List.length_cons]; omega, h4, h5, ?_⟩
      show prs xs (i + 1) ys j = _
      rw [h6, show a + 1 - i = (a + 1 - (i + 1)) + 1 by omega]
      rfl
theorem prs_zero : ∀ {xs : List D} {i : Nat} {ys : List D} {j : Nat}, lcs xs ys = 0 → prs xs i ys j = []
  | [], _, _, _, _ => by rw [prs]
  | x :: xs, i, ys, j, h => by rw [prs, if_pos h]
end Mw
-- part MwM2
set_option maxHeartbeats 4000000
/-! Changes fit and lead to the other; runs. -/
namespace Mw
theorem nomem {α : Type} {x : α} {P : Prop} (h : x ∈ ([] : List α)) : P := by cases h
/-! ### pairs -/
def PrOk (A B : List D) : Nat → Nat → List (Nat × Nat) → Prop
  | _, _, [] => True
  | i, j, (h, k) :: ps => i ≤ h ∧ j ≤ k ∧ (∃ x, A[h]? = some x ∧ B[k]? = some x) ∧ PrOk A B (h + 1) (k + 1) ps
theorem PrOk.mono {A B : List D} {i j i' : Nat} : ∀ {ps : List (Nat × Nat)}, PrOk A B i j ps → i' ≤ i → PrOk A B i' j ps
  | [], _, _ => trivial
  | (h, k) :: ps, p, e => ⟨Nat.le_trans e p.1, p.2⟩
theorem prs_ok (A B : List D) : ∀ (n i j : Nat), A.length - i = n → PrOk A B i j (prs (A.drop i) i (B.drop j) j)
  | 0, i, j, h => by
    rw [List.drop_of_length_le (by omega), prs]
    trivial
  | n + 1, i, j, h => by
    have hi : i < A.length := by omega
    have hx : A[i]? = some A[i] := by simp [hi]
    rw [drop_get hx, prs]
    split
    · trivial
    · split
      · rename_i k hf
        obtain ⟨h1, h2, h3, _⟩ := fstK_spec hf
        refine ⟨Nat.le_refl _, h1, ⟨A[i], hx, ?_⟩, ?_⟩
        · rw [List.getElem?_drop, show j + (k - j) = k by omega] at h3
          exact h3
        · rw [List.drop_drop, show j + (k + 1 - j) = k + 1 by omega]
          exact prs_ok A B n (i + 1) (k + 1) (by omega)
      · exact (prs_ok A B n (i + 1) j (by omega)).mono (Nat.le_succ _)
/-! ### cuts -/
theorem lay_step {A : List D} {h : Nat} {x : D} (hx : A[h]? = some x) : ∀ {cs : List Cut}, Fits A (h + 1) cs → lay A cs h = x :: lay A cs (h + 1)
  | [], _ => drop_get hx
  | c :: cs, f => by
    have f1 : h + 1 ≤ c.a := f.1
    unfold lay
    have e : (A.take c.a)[h]? = some x := by rw [List.getElem?_take_of_lt (by omega)]; exact hx
    rw [drop_get e]
    rfl
theorem cutIf_fits {A B : List D} {i h j k : Nat} {rest : List Cut} (hi : i ≤ h) (hh : h ≤ A.length) (f : Fits A (h + 1) rest) : Fits A i (cutIf A B i h j k ++ rest) := by
  unfold cutIf
  split
  · have e : i + ((A.take h).drop i).length = h := by rw [List.length_drop, List.length_take]; omega
    show Fits A i (⟨i, (A.take h).drop i, (B.take k).drop j⟩ :: rest)
    refine ⟨Nat.le_refl _, ?_, ?_, ?_⟩
    · show i + ((A.take h).drop i).length ≤ _
      rw [e]; exact hh
    · show (A.take (i + ((A.take h).drop i).length)).drop i = _
      rw [e]
    · show Fits A (i + ((A.take h).drop i).length + 1) rest
      rw [e]; exact f
  · exact f.mono (by omega)
theorem cutIf_lay {A B : List D} {i h j k : Nat} {rest : List Cut} (hi : i ≤ h) (hj : j ≤ k) (hh : h ≤ A.length) : lay A (cutIf A B i h j k ++ rest) i = (B.take k).drop j ++ lay A rest h := by
  unfold cutIf
  split
  · have e : i + ((A.take h).drop i).length = h := by rw [List.length_drop, List.length_take]; omega
    show (A.take i).drop i ++ (B.take k).drop j ++ lay A rest (i + ((A.take h).drop i).length) = _
    rw [e, List.drop_of_length_le (by rw [List.length_take]; omega)]
    rfl
  · have e1 : i = h := by omega
    have e2 : j = k := by omega
    rw [e1, e2, List.drop_of_length_le (by rw [List.length_take]; omega)]
    rfl
theorem cutsGo_ok {A B : List D} : ∀ {ps : List (Nat × Nat)} {i j : Nat}, PrOk A B i j ps → i ≤ A.length → j ≤ B.length → Fits A i (cutsGo A B (ps ++ [(A.length, B.length)]) i j) ∧ lay A (cutsGo A B (ps ++ [(A.length, B.length)]) i j) i = B.drop j
  | [], i, j, _, hi, hj => by
    show Fits A i (cutIf A B i A.length j B.length ++ []) ∧ lay A (cutIf A B i A.length j B.length ++ []) i = B.drop j
    refine ⟨cutIf_fits hi (Nat.le_refl _) trivial, ?_⟩
    rw [cutIf_lay hi hj (Nat.le_refl _), List.take_length]
    unfold lay
    rw [List.drop_length, List.append_nil]
  | (h, k) :: ps, i, j, p, hi, hj => by
    obtain ⟨p1, p2, ⟨x, hx, hy⟩, p4⟩ := p
    have hh := (List.getElem?_eq_some_iff.mp hx).1
    have hk := (List.getElem?_eq_some_iff.mp hy).1
    obtain ⟨ih1, ih2⟩ := cutsGo_ok p4 (by omega) (by omega)
    show Fits A i (cutIf A B i h j k ++ cutsGo A B (ps ++ [(A.length, B.length)]) (h + 1) (k + 1)) ∧ _ = _
    refine ⟨cutIf_fits p1 (by omega) ih1, ?_⟩
    show lay A (cutIf A B i h j k ++ cutsGo A B (ps ++ [(A.length, B.length)]) (h + 1) (k + 1)) i = _
    rw [cutIf_lay p1 p2 (by omega), lay_step hx ih1, ih2]
    have e : B.drop j = (B.take k).drop j ++ B.drop k := by
      have := List.take_append_drop k B
      calc B.drop j = (B.take k ++ B.drop k).drop j := by rw [this]
        _ = (B.take k).drop j ++ (B.drop k).drop (j - (B.take k).length) := List.drop_append
        _ = (B.take k).drop j ++ B.drop k := by rw [List.length_take, show j - min k B.length = 0 by omega, List.drop_zero]
    rw [e, drop_get hy]
theorem chg_fits (A B : List D) : Fits A 0 (chg A B) := by
  have := prs_ok A B A.length 0 0 rfl
  rw [List.drop_zero, List.drop_zero] at this
  exact (cutsGo_ok this (Nat.zero_le _) (Nat.zero_le _)).1
theorem chg_lay (A B : List D) : lay A (chg A B) 0 = B := by
  have := prs_ok A B A.length 0 0 rfl
  rw [List.drop_zero, List.drop_zero] at this
  exact (cutsGo_ok this (Nat.zero_le _) (Nat.zero_le _)).2
/-! ### cuts as a set -/
structure FitsIn (A : List D) (p e : Nat) (cs : List Cut) : Prop where
  all : ∀ c ∈ cs, p ≤ c.a ∧ c.e ≤ e ∧ (A.take c.e).drop c.a = c.o
  gap : cs.Pairwise fun c d => c.e < d.a
theorem Fits.fin {A : List D} {p : Nat} : ∀ {cs : List Cut}, Fits A p cs → FitsIn A p A.length cs
  | [], _ => ⟨fun _ h => nomem h, List.Pairwise.nil⟩
  | c :: cs, h => by
    obtain ⟨h1, h2, h3, h4⟩ := h
    have ih := h4.fin
    have hce : c.a ≤ c.e := by unfold Cut.e; omega
    refine ⟨fun d hd => ?_, List.pairwise_cons.mpr ⟨fun d hd => ?_, ih.gap⟩⟩
    · rcases List.mem_cons.mp hd with q | q
      · rw [q]; exact ⟨h1, h2, h3⟩
      · have := ih.all d q
        exact ⟨by omega, this.2⟩
    · have := ih.all d hd
      omega
theorem FitsIn.cons {A : List D} {p e : Nat} {c : Cut} {cs : List Cut} (h : FitsIn A p e (c :: cs)) : p ≤ c.a ∧ c.e ≤ e ∧ (A.take c.e).drop c.a = c.o ∧ FitsIn A (c.e + 1) e cs := by
  obtain ⟨h1, h2, h3⟩ := h.all c List.mem_cons_self
  obtain ⟨g1, g2⟩ := List.pairwise_cons.mp h.gap
  exact ⟨h1, h2, h3, fun d hd => ⟨g1 d hd, (h.all d (List.mem_cons_of_mem _ hd)).2⟩, g2⟩
theorem FitsIn.fits {A : List D} {p e : Nat} (he : e ≤ A.length) : ∀ {cs : List Cut}, FitsIn A p e cs → Fits A p cs
  | [], _ => trivial
  | c :: cs, h => by
    obtain ⟨h1, h2, h3, h4⟩ := h.cons
    exact ⟨h1, by omega, h3, FitsIn.fits he h4⟩
/-- a cut of A as one of A from b on -/
def Cut.back (b : Nat) (c : Cut) : Cut := ⟨c.a - b, c.o, c.p⟩
theorem cut_mid {A : List D} {b e p q : Nat} (hb : b ≤ p) (hq : q ≤ e) : ((((A.take e).drop b).take (q - b)).drop (p - b)) = (A.take q).drop p := by
  rw [List.take_drop, List.drop_drop, List.take_take]
  by_cases h : b ≤ q
  · rw [show b + (p - b) = p by omega, show min (b + (q - b)) e = q by omega]
  · rw [List.drop_of_length_le (by rw [List.length_take]; omega), List.drop_of_length_le (by rw [List.length_take]; omega)]
theorem back_ok {A : List D} {b e : Nat} (he : e ≤ A.length) : ∀ {cs : List Cut} {p : Nat}, FitsIn A p e cs → b ≤ p → Fits ((A.take e).drop b) (p - b) (cs.map (Cut.back b)) ∧ lay ((A.take e).drop b) (cs.map (Cut.back b)) (p - b) = layTo A e cs p
  | [], p, _, hp => by
    refine ⟨trivial, ?_⟩
    show ((A.take e).drop b).drop (p - b) = (A.take e).drop p
    rw [List.drop_drop, show b + (p - b) = p by omega]
  | c :: cs, p, h, hp => by
    obtain ⟨h1, h2, h3, h4⟩ := h.cons
    have hca : c.a ≤ c.e := by unfold Cut.e; omega
    have hba : b ≤ c.a := by omega
    obtain ⟨i1, i2⟩ := back_ok (b := b) he (p := c.e + 1) h4 (by omega)
    have h5 : FitsIn A c.e e cs := ⟨fun d hd => by have := h4.all d hd; exact ⟨by omega, this.2⟩, h4.gap⟩
    obtain ⟨j1, j2⟩ := back_ok (b := b) he (p := c.e) h5 (by omega)
    have ee : (c.back b).e = c.e - b := by
      show c.a - b + c.o.length = c.a + c.o.length - b
      omega
    refine ⟨⟨?_, ?_, ?_, ?_⟩, ?_⟩
    · show p - b ≤ c.a - b
      omega
    · rw [ee, List.length_drop, List.length_take]
      omega
    · rw [ee]
      show (((A.take e).drop b).take (c.e - b)).drop (c.a - b) = c.o
      rw [cut_mid hba h2, h3]
    · rw [ee, show c.e - b + 1 = c.e + 1 - b by omega]
      exact i1
    · show (((A.take e).drop b).take (c.a - b)).drop (p - b) ++ c.p ++ lay ((A.take e).drop b) (cs.map (Cut.back b)) (c.back b).e = (A.take c.a).drop p ++ c.p ++ layTo A e cs c.e
      rw [ee, j2, cut_mid hp (by omega)]
/-! ### two sides' cuts in one row -/
def rowK (x : Bool × Cut) : Nat × Nat × Nat := (x.2.a, x.2.o.length, if x.1 then 1 else 0)
def ltK3 (x y : Nat × Nat × Nat) : Prop := x.1 < y.1 ∨ (x.1 = y.1 ∧ (x.2.1 < y.2.1 ∨ (x.2.1 = y.2.1 ∧ x.2.2 < y.2.2)))
theorem mrg_perm : ∀ (n : Nat) (cs ds : List Cut), cs.length + ds.length ≤ n → (mrg cs ds).Perm (cs.map (fun c => (false, c)) ++ ds.map fun d => (true, d))
  | _, [], ds, _ => by rw [mrg]; exact List.Perm.refl _
  | _, c :: cs, [], _ => by rw [mrg, List.map_nil, List.append_nil]
  | 0, c :: cs, d :: ds, h => by simp at h
  | n + 1, c :: cs, d :: ds, h => by
    rw [mrg]
    split
    · exact (mrg_perm n cs (d :: ds) (by simp at h ⊢; omega)).cons _
    · refine ((mrg_perm n (c :: cs) ds (by simp at h ⊢; omega)).cons _).trans ?_
      rw [List.map_cons (l := ds)]
      exact List.perm_middle.symm
theorem mrg_mem {cs ds : List Cut} {x : Bool × Cut} : x ∈ mrg cs ds ↔ (x.1 = false ∧ x.2 ∈ cs) ∨ (x.1 = true ∧ x.2 ∈ ds) := by
  rw [(mrg_perm _ cs ds (Nat.le_refl _)).mem_iff, List.mem_append, List.mem_map, List.mem_map]
  obtain ⟨b, c⟩ := x
  constructor
  · rintro (⟨d, h1, h2⟩ | ⟨d, h1, h2⟩)
    · cases h2; exact .inl ⟨rfl, h1⟩
    · cases h2; exact .inr ⟨rfl, h1⟩
  · rintro (⟨h1, h2⟩ | ⟨h1, h2⟩)
    · exact .inl ⟨c, h2, by rw [← h1]⟩
    · exact .inr ⟨c, h2, by rw [← h1]⟩
/-- strictly rising places -/
def RisA (cs : List Cut) : Prop := cs.Pairwise fun c d => c.a < d.a
theorem FitsIn.risA {A : List D} {p e : Nat} {cs : List Cut} (h : FitsIn A p e cs) : RisA cs := h.gap.imp fun {c d} z => by unfold Cut.e at z; omega
theorem mrg_sorted : ∀ (n : Nat) (cs ds : List Cut), cs.length + ds.length ≤ n → RisA cs → RisA ds → (mrg cs ds).Pairwise fun x y => ltK3 (rowK x) (rowK y)
  | _, [], ds, _, _, h => by
    rw [mrg]
    exact List.pairwise_map.mpr (h.imp fun z => .inl z)
  | _, c :: cs, [], _, h, _ => by
    rw [mrg]
    exact List.pairwise_map.mpr (h.imp fun z => .inl z)
  | 0, c :: cs, d :: ds, h, _, _ => by simp at h
  | n + 1, c :: cs, d :: ds, h, hc, hd => by
    obtain ⟨c1, c2⟩ := List.pairwise_cons.mp hc
    obtain ⟨d1, d2⟩ := List.pairwise_cons.mp hd
    rw [mrg]
    split
    · rename_i hlt
      refine List.pairwise_cons.mpr ⟨fun x hx => ?_, mrg_sorted n cs (d :: ds) (by simp at h ⊢; omega) c2 hd⟩
      obtain ⟨b, z⟩ := x
      rcases mrg_mem.mp hx with ⟨h1, h2⟩ | ⟨h1, h2⟩
      · exact .inl (c1 z h2)
      · have h1 : b = true := h1
        subst h1
        rcases List.mem_cons.mp h2 with q | q
        · have q : z = d := q
          subst q
          unfold ltK3 rowK
          simp
          omega
        · have := d1 z q
          unfold ltK3 rowK
          simp
          omega
    · rename_i hlt
      refine List.pairwise_cons.mpr ⟨fun x hx => ?_, mrg_sorted n (c :: cs) ds (by simp at h ⊢; omega) hc d2⟩
      obtain ⟨b, z⟩ := x
      rcases mrg_mem.mp hx with ⟨h1, h2⟩ | ⟨h1, h2⟩
      · have h1 : b = false := h1
        subst h1
        rcases List.mem_cons.mp h2 with q | q
        · have q : z = c := q
          subst q
          unfold ltK3 rowK
          simp
          omega
        · have := c1 z q
          unfold ltK3 rowK
          simp
          omega
      · exact .inl (d1 z h2)
/-! ### runs -/
structure RunOk (A : List D) (r : RunS) : Prop where
  be : r.b ≤ r.e
  el : r.e ≤ A.length
  fs : FitsIn A r.b r.e r.s
  ft : FitsIn A r.b r.e r.t
/-- what is still to come, for a run -/
structure Rest (A : List D) (r : RunS) (xs : List (Bool × Cut)) : Prop where
  all : ∀ x ∈ xs, r.b ≤ x.2.a ∧ x.2.e ≤ A.length ∧ (A.take x.2.e).drop x.2.a = x.2.o
  rise : xs.Pairwise fun x y => x.2.a ≤ y.2.a
  gap : xs.Pairwise fun x y => x.1 = y.1 → x.2.e < y.2.a
  gs : ∀ c ∈ r.s, ∀ x ∈ xs, x.1 = false → c.e < x.2.a
  gt : ∀ c ∈ r.t, ∀ x ∈ xs, x.1 = true → c.e < x.2.a
theorem run_take {A : List D} {r : RunS} {x : Bool × Cut} {xs : List (Bool × Cut)} (h : RunOk A r) (k : Rest A r (x :: xs)) : RunOk A (r.take x) ∧ Rest A (r.take x) xs := by
  obtain ⟨b, c⟩ := x
  obtain ⟨a1, a2, a3⟩ := k.all _ List.mem_cons_self
  obtain ⟨r1, r2⟩ := List.pairwise_cons.mp k.rise
  obtain ⟨g1, g2⟩ := List.pairwise_cons.mp k.gap
  have hce : c.a ≤ c.e := by unfold Cut.e; omega
  have a1 : r.b ≤ c.a := a1
  have a2 : c.e ≤ A.length := a2
  have be := h.be
  have el := h.el
  have upS : ∀ {cs : List Cut}, FitsIn A r.b r.e cs → FitsIn A r.b (max r.e c.e) cs := fun f => ⟨fun d hd => by have := f.all d hd; exact ⟨this.1, by omega, this.2.2⟩, f.gap⟩
  have snoc : ∀ {cs : List Cut}, FitsIn A r.b r.e cs → (∀ d ∈ cs, d.e < c.a) → FitsIn A r.b (max r.e c.e) (cs ++ [c]) := fun {cs} f g => by
    refine ⟨fun d hd => ?_, List.pairwise_append.mpr ⟨f.gap, List.pairwise_singleton _ _, fun d hd d' hd' => by rw [List.mem_singleton.mp hd']; exact g d hd⟩⟩
    rcases List.mem_append.mp hd with q | q
    · exact (upS f).all d q
    · rw [List.mem_singleton.mp q]
      exact ⟨a1, by omega, a3⟩
  have all' : ∀ x ∈ xs, r.b ≤ x.2.a ∧ x.2.e ≤ A.length ∧ (A.take x.2.e).drop x.2.a = x.2.o := fun x hx => k.all x (List.mem_cons_of_mem _ hx)
  cases b with
  | false =>
    refine ⟨⟨by show r.b ≤ max _ _; omega, by show max _ _ ≤ _; omega, snoc h.fs fun d hd => k.gs d hd _ List.mem_cons_self rfl, upS h.ft⟩, ⟨all', r2, g2, fun d hd x hx e => ?_, fun d hd x hx e => k.gt d hd x (List.mem_cons_of_mem _ hx) e⟩⟩
    rcases List.mem_append.mp hd with q | q
    · exact k.gs d q x (List.mem_cons_of_mem _ hx) e
    · rw [List.mem_singleton.mp q]
      exact g1 x hx e.symm
  | true =>
    refine ⟨⟨by show r.b ≤ max _ _; omega, by show max _ _ ≤ _; omega, upS h.fs, snoc h.ft fun d hd => k.gt d hd _ List.mem_cons_self rfl⟩, ⟨all', r2, g2, fun d hd x hx e => k.gs d hd x (List.mem_cons_of_mem _ hx) e, fun d hd x hx e => ?_⟩⟩
    rcases List.mem_append.mp hd with q | q
    · exact k.gt d q x (List.mem_cons_of_mem _ hx) e
    · rw [List.mem_singleton.mp q]
      exact g1 x hx e.symm
theorem run_new {A : List D} {x : Bool × Cut} {xs : List (Bool × Cut)} {r : RunS} (k : Rest A r (x :: xs)) : RunOk A (RunS.new x.2.a) ∧ Rest A (RunS.new x.2.a) (x :: xs) := by
  obtain ⟨a1, a2, a3⟩ := k.all _ List.mem_cons_self
  have hce : x.2.a ≤ x.2.e := by unfold Cut.e; omega
  obtain ⟨r1, r2⟩ := List.pairwise_cons.mp k.rise
  refine ⟨⟨Nat.le_refl _, by show x.2.a ≤ _; omega, ⟨fun _ h => nomem h, List.Pairwise.nil⟩, ⟨fun _ h => nomem h, List.Pairwise.nil⟩⟩, ⟨fun y hy => ⟨?_, (k.all y hy).2⟩, k.rise, k.gap, fun _ h => nomem h, fun _ h => nomem h⟩⟩
  rcases List.mem_cons.mp hy with q | q
  · rw [q]; exact Nat.le_refl _
  · exact r1 y q
/-- runs that rise -/
def RunsOk (A : List D) : Nat → List RunS → Prop
  | _, [] => True
  | p, r :: rs => p ≤ r.b ∧ RunOk A r ∧ RunsOk A (r.e + 1) rs
theorem RunsOk.mono {A : List D} {p q : Nat} : ∀ {rs : List RunS}, RunsOk A p rs → q ≤ p → RunsOk A q rs
  | [], _, _ => trivial
  | r :: rs, h, e => ⟨Nat.le_trans e h.1, h.2⟩
theorem grpGo_ok {A : List D} : ∀ {xs : List (Bool × Cut)} {r : RunS}, RunOk A r → Rest A r xs → RunsOk A r.b (grpGo r xs) ∧ (grpGo r xs).flatMap RunS.s = r.s ++ (xs.filter fun x => !x.1).map (·.2) ∧ (grpGo r xs).flatMap RunS.t = r.t ++ (xs.filter fun x => x.1).map (·.2)
  | [], r, h, _ => by
    refine ⟨⟨Nat.le_refl _, h, trivial⟩, ?_, ?_⟩ <;> simp [grpGo]
  | x :: xs, r, h, k => by
    unfold grpGo
    have sp : ∀ {q : RunS} {zs : List RunS}, (q.take x).s = q.s ++ (if x.1 then [] else [x.2]) ∧ (q.take x).t = q.t ++ (if x.1 then [x.2] else []) := fun {q zs} => by
      unfold RunS.take
      cases x.1 <;> simp
    have fl : ((x :: xs).filter fun x => !x.1).map (·.2) = (if x.1 then [] else [x.2]) ++ (xs.filter fun x => !x.1).map (·.2) := by
      cases e : x.1 <;> simp [e]
    have ft : ((x :: xs).filter fun x => x.1).map (·.2) = (if x.1 then [x.2] else []) ++ (xs.filter fun x => x.1).map (·.2) := by
      cases e : x.1 <;> simp [e]
    split
    · rename_i hlt
      obtain ⟨n1, n2⟩ := run_new k
      obtain ⟨t1, t2⟩ := run_take n1 n2
      obtain ⟨i1, i2, i3⟩ := grpGo_ok t1 t2
      have eb : ((RunS.new x.2.a).take x).b = x.2.a := by unfold RunS.take RunS.new; cases x.1 <;> rfl
      refine ⟨⟨Nat.le_refl _, h, ?_⟩, ?_, ?_⟩
      · rw [eb] at i1
        exact i1.mono hlt
      · rw [List.flatMap_cons, i2, (sp (zs := [])).1, fl]
        show r.s ++ (([] ++ _) ++ _) = _
        rw [List.nil_append]
      · rw [List.flatMap_cons, i3, (sp (zs := [])).2, ft]
        show r.t ++ (([] ++ _) ++ _) = _
        rw [List.nil_append]
    · obtain ⟨t1, t2⟩ := run_take h k
      obtain ⟨i1, i2, i3⟩ := grpGo_ok t1 t2
      have eb : (r.take x).b = r.b := by unfold RunS.take; cases x.1 <;> rfl
      rw [eb] at i1
      refine ⟨i1, ?_, ?_⟩
      · rw [i2, (sp (zs := [])).1, fl, List.append_assoc]
      · rw [i3, (sp (zs := [])).2, ft, List.append_assoc]
theorem mrg_rest {A : List D} {cs ds : List Cut} (hc : FitsIn A 0 A.length cs) (hd : FitsIn A 0 A.length ds) : Rest A (RunS.new 0) (mrg cs ds) := by
  have hs := mrg_sorted _ cs ds (Nat.le_refl _) hc.risA hd.risA
  have hperm := mrg_perm _ cs ds (Nat.le_refl _)
  refine ⟨fun x hx => ?_, hs.imp fun {x y} z => ?_, ?_, fun _ h => nomem h, fun _ h => nomem h⟩
  · rcases mrg_mem.mp hx with ⟨_, q⟩ | ⟨_, q⟩
    · exact ⟨Nat.zero_le _, (hc.all _ q).2⟩
    · exact ⟨Nat.zero_le _, (hd.all _ q).2⟩
  · unfold ltK3 rowK at z
    omega
  · -- gap: by place, both of one side
    have key : ∀ {x y : Bool × Cut}, x ∈ mrg cs ds → y ∈ mrg cs ds → ltK3 (rowK x) (rowK y) → x.1 = y.1 → x.2.e < y.2.a := by
      intro x y hx hy hlt e
      have side : ∀ {zs : List Cut}, FitsIn A 0 A.length zs → x.2 ∈ zs → y.2 ∈ zs → x.2.e < y.2.a := by
        intro zs hz h1 h2
        have : x.2.a ≤ y.2.a := by unfold ltK3 rowK at hlt; omega
        have pw := hz.gap
        have any : ∀ {zs : List Cut}, (zs.Pairwise fun c d => c.e < d.a) → x.2 ∈ zs → y.2 ∈ zs → x.2.e < y.2.a ∨ y.2.e < x.2.a ∨ x.2 = y.2 := by
          intro zs
          induction zs with
          | nil => intro _ h; cases h
          | cons z zs ih =>
            intro h h1 h2
            obtain ⟨p1, p2⟩ := List.pairwise_cons.mp h
            rcases List.mem_cons.mp h1 with q1 | q1
            · rcases List.mem_cons.mp h2 with q2 | q2
              · exact .inr (.inr (q1.trans q2.symm))
              · exact .inl (by rw [q1]; exact p1 _ q2)
            · rcases List.mem_cons.mp h2 with q2 | q2
              · exact .inr (.inl (by rw [q2]; exact p1 _ q1))
              · exact ih p2 q1 q2
        rcases any pw h1 h2 with q | q | q
        · exact q
        · unfold Cut.e at q
          omega
        · exfalso
          unfold ltK3 rowK at hlt
          rw [q, e] at hlt
          omega
      rcases mrg_mem.mp hx with ⟨e1, q1⟩ | ⟨e1, q1⟩
      · rcases mrg_mem.mp hy with ⟨e2, q2⟩ | ⟨e2, q2⟩
        · exact side hc q1 q2
        · rw [e1, e2] at e; cases e
      · rcases mrg_mem.mp hy with ⟨e2, q2⟩ | ⟨e2, q2⟩
        · rw [e1, e2] at e; cases e
        · exact side hd q1 q2
    exact List.Pairwise.imp_of_mem (fun {x y} hx hy z e => key hx hy z e) hs
theorem mrg_sides : ∀ (n : Nat) (cs ds : List Cut), cs.length + ds.length ≤ n → ((mrg cs ds).filter fun x => !x.1).map (·.2) = cs ∧ ((mrg cs ds).filter fun x => x.1).map (·.2) = ds
  | _, [], ds, _ => by
    rw [mrg]
    constructor
    · rw [List.filter_map, List.map_map]; simp
    · rw [List.filter_map, List.map_map]; simp [Function.comp_def]
  | _, c :: cs, [], _ => by
    rw [mrg]
    constructor
    · rw [List.filter_map, List.map_map]; simp [Function.comp_def]
    · rw [List.filter_map, List.map_map]; simp
  | 0, c :: cs, d :: ds, h => by simp at h
  | n + 1, c :: cs, d :: ds, h => by
    rw [mrg]
    split
    · obtain ⟨h1, h2⟩ := mrg_sides n cs (d :: ds) (by simp at h ⊢; omega)
      constructor
      · simp only [List.filter_cons, Bool.not_false, if_true, List.map_cons, h1]
      · simpa [List.filter_cons] using h2
    · obtain ⟨h1, h2⟩ := mrg_sides n (c :: cs) ds (by simp at h ⊢; omega)
      constructor
      · simpa [List.filter_cons] using h1
      · simp only [List.filter_cons, if_true, List.map_cons, h2]
theorem grp_ok {A : List D} {cs ds : List Cut} (hc : FitsIn A 0 A.length cs) (hd : FitsIn A 0 A.length ds) : RunsOk A 0 (grp (mrg cs ds)) ∧ (grp (mrg cs ds)).flatMap RunS.s = cs ∧ (grp (mrg cs ds)).flatMap RunS.t = ds := by
  have k := mrg_rest hc hd
  obtain ⟨s1, s2⟩ := mrg_sides _ cs ds (Nat.le_refl _)
  generalize mrg cs ds = xs at k s1 s2
  cases xs with
  | nil =>
    refine ⟨trivial, ?_, ?_⟩
    · rw [← s1]; rfl
    · rw [← s2]; rfl
  | cons x xs =>
    obtain ⟨n1, n2⟩ := run_new k
    obtain ⟨t1, t2⟩ := run_take n1 n2
    obtain ⟨i1, i2, i3⟩ := grpGo_ok t1 t2
    refine ⟨i1.mono (Nat.zero_le _), ?_, ?_⟩
    · show (grpGo ((RunS.new x.2.a).take x) xs).flatMap RunS.s = cs
      rw [i2, ← s1]
      unfold RunS.take RunS.new
      cases e : x.1 <;> simp [e]
    · show (grpGo ((RunS.new x.2.a).take x) xs).flatMap RunS.t = ds
      rw [i3, ← s2]
      unfold RunS.take RunS.new
      cases e : x.1 <;> simp [e]
end Mw
-- part MwM3
set_option maxHeartbeats 4000000
/-! How long, and of what. -/
namespace Mw
/-- items as they are handed in -/
def Its (ds : List D) : Prop := (∀ d ∈ ds, Item d) ∧ ds.length ≤ 25
theorem Its.items {ds : List D} (h : Its ds) : Items ds := ⟨h.1, Nat.le_trans h.2 (by decide)⟩
theorem Its.low {ds : List D} (h : Its ds) : Low ds := h.items.low
theorem its_nil : Its [] := ⟨fun _ h => nomem h, by simp⟩
def sumP (cs : List Cut) : Nat := (cs.map fun c => c.p.length).sum
theorem sumP_lay (A : List D) : ∀ (cs : List Cut) (p : Nat), sumP cs ≤ (lay A cs p).length
  | [], _ => Nat.zero_le _
  | c :: cs, p => by
    have := sumP_lay A cs c.e
    unfold sumP at this ⊢
    rw [List.map_cons, List.sum_cons, lay, List.length_append, List.length_append]
    omega
theorem mem_lay (A : List D) : ∀ (cs : List Cut) (p : Nat) (c : Cut), c ∈ cs → ∀ d ∈ c.p, d ∈ lay A cs p
  | [], _, _, h, _, _ => nomem h
  | c' :: cs, p, c, h, d, hd => by
    rw [lay, List.mem_append, List.mem_append]
    rcases List.mem_cons.mp h with q | q
    · rw [q] at hd; exact .inl (.inr hd)
    · exact .inr (mem_lay A cs _ c q d hd)
theorem layTo_mem (A : List D) (e : Nat) : ∀ (cs : List Cut) (p : Nat) (d : D), d ∈ layTo A e cs p → d ∈ A ∨ ∃ c ∈ cs, d ∈ c.p
  | [], p, d, h => .inl (List.mem_of_mem_take (List.mem_of_mem_drop h))
  | c :: cs, p, d, h => by
    rw [layTo, List.mem_append, List.mem_append] at h
    rcases h with (h | h) | h
    · exact .inl (List.mem_of_mem_take (List.mem_of_mem_drop h))
    · exact .inr ⟨c, List.mem_cons_self, h⟩
    · rcases layTo_mem A e cs _ d h with q | ⟨c', q1, q2⟩
      · exact .inl q
      · exact .inr ⟨c', List.mem_cons_of_mem _ q1, q2⟩
theorem layTo_len {A : List D} {e : Nat} (he : e ≤ A.length) : ∀ {cs : List Cut} {p : Nat}, FitsIn A p e cs → (layTo A e cs p).length ≤ (e - p) + sumP cs
  | [], p, _ => by
    rw [layTo, List.length_drop, List.length_take]
    omega
  | c :: cs, p, h => by
    obtain ⟨h1, h2, h3, h4⟩ := h.cons
    have h5 : FitsIn A c.e e cs := ⟨fun d hd => by have := h4.all d hd; exact ⟨by omega, this.2⟩, h4.gap⟩
    have := layTo_len he h5
    have hce : c.a ≤ c.e := by unfold Cut.e; omega
    unfold sumP at this ⊢
    rw [List.map_cons, List.sum_cons, layTo, List.length_append, List.length_append, List.length_drop, List.length_take]
    omega
theorem sumP_app (a b : List Cut) : sumP (a ++ b) = sumP a + sumP b := by
  unfold sumP
  rw [List.map_append, List.sum_append]
theorem sumP_flat {f : RunS → List Cut} : ∀ {rs : List RunS} {r : RunS}, r ∈ rs → sumP (f r) ≤ sumP (rs.flatMap f)
  | [], _, h => nomem h
  | q :: rs, r, h => by
    rw [List.flatMap_cons, sumP_app]
    rcases List.mem_cons.mp h with e | e
    · rw [e]; omega
    · have := sumP_flat (f := f) e
      omega
theorem mem_flat2 {f : RunS → List Cut} {rs : List RunS} {r : RunS} {c : Cut} (h : r ∈ rs) (hc : c ∈ f r) : c ∈ rs.flatMap f := List.mem_flatMap.mpr ⟨r, h, hc⟩
/-- a side of a run -/
theorem side_items {A B : List D} {cs : List Cut} {e b : Nat} (hA : Its A) (hB : Its B) (he : e ≤ A.length) (hf : FitsIn A b e cs) (hs : sumP cs ≤ B.length) (hm : ∀ c ∈ cs, ∀ d ∈ c.p, d ∈ B) : Items (layTo A e cs b) := by
  refine ⟨fun d hd => ?_, ?_⟩
  · rcases layTo_mem A e cs b d hd with q | ⟨c, q1, q2⟩
    · exact hA.1 d q
    · exact hB.1 d (hm c q1 d q2)
  · have := layTo_len he hf
    have := hA.2
    have := hB.2
    omega
/-- the runs of two changes -/
noncomputable abbrev runsOf (A B C : List D) : List RunS := grp (mrg (chg A B) (chg A C))
theorem runs_ok (A B C : List D) : RunsOk A 0 (runsOf A B C) := (grp_ok (chg_fits A B).fin (chg_fits A C).fin).1
theorem RunsOk.mem {A : List D} : ∀ {rs : List RunS} {p : Nat} {r : RunS}, RunsOk A p rs → r ∈ rs → RunOk A r
  | [], _, _, _, h => nomem h
  | q :: rs, p, r, h, hr => by
    rcases List.mem_cons.mp hr with e | e
    · rw [e]; exact h.2.1
    · exact RunsOk.mem h.2.2 e
theorem run_one {A B C : List D} {r : RunS} (hA : Its A) (hB : Its B) (hr : r ∈ runsOf A B C) : Items (layTo A r.e r.s r.b) := by
  have g := grp_ok (chg_fits A B).fin (chg_fits A C).fin
  have ok := (runs_ok A B C).mem hr
  have hl := chg_lay A B
  refine side_items hA hB ok.el ok.fs ?_ fun c hc d hd => ?_
  · have h1 := sumP_flat (f := RunS.s) hr
    rw [g.2.1] at h1
    have h2 := sumP_lay A (chg A B) 0
    rw [hl] at h2
    omega
  · have := mem_flat2 (f := RunS.s) hr hc
    rw [g.2.1] at this
    have := mem_lay A (chg A B) 0 c this d hd
    rw [hl] at this
    exact this
theorem run_oth {A B C : List D} {r : RunS} (hA : Its A) (hC : Its C) (hr : r ∈ runsOf A B C) : Items (layTo A r.e r.t r.b) := by
  have g := grp_ok (chg_fits A B).fin (chg_fits A C).fin
  have ok := (runs_ok A B C).mem hr
  have hl := chg_lay A C
  refine side_items hA hC ok.el ok.ft ?_ fun c hc d hd => ?_
  · have h1 := sumP_flat (f := RunS.t) hr
    rw [g.2.2] at h1
    have h2 := sumP_lay A (chg A C) 0
    rw [hl] at h2
    omega
  · have := mem_flat2 (f := RunS.t) hr hc
    rw [g.2.2] at this
    have := mem_lay A (chg A C) 0 c this d hd
    rw [hl] at this
    exact this
/-! how many -/
theorem cutIf_len (A B : List D) (i h j k : Nat) : (cutIf A B i h j k).length ≤ 1 := by
  unfold cutIf
  split <;> simp
theorem cutsGo_len (A B : List D) : ∀ (ps : List (Nat × Nat)) (i j : Nat), (cutsGo A B ps i j).length ≤ ps.length
  | [], _, _ => Nat.le_refl _
  | (h, k) :: ps, i, j => by
    have h1 := cutIf_len A B i h j k
    have h2 := cutsGo_len A B ps (h + 1) (k + 1)
    rw [cutsGo, List.length_append, List.length_cons]
    omega
theorem prs_len' : ∀ (xs : List D) (i : Nat) (ys : List D) (j : Nat), (prs xs i ys j).length ≤ xs.length
  | [], _, _, _ => by rw [prs]; exact Nat.le_refl _
  | x :: xs, i, ys, j => by
    rw [prs]
    split
    · exact Nat.zero_le _
    · split
      · rename_i k _
        have := prs_len' xs (i + 1) (ys.drop (k + 1 - j)) (k + 1)
        rw [List.length_cons, List.length_cons]; omega
      · have := prs_len' xs (i + 1) ys j
        rw [List.length_cons]; omega
theorem chg_len (A B : List D) : (chg A B).length ≤ A.length + 1 := by
  have h1 := cutsGo_len A B (prs A 0 B 0 ++ [(A.length, B.length)]) 0 0
  have h2 := prs_len' A 0 B 0
  rw [List.length_append, List.length_singleton] at h1
  unfold chg
  omega
theorem mrg_len (cs ds : List Cut) : (mrg cs ds).length = cs.length + ds.length := by
  rw [(mrg_perm _ cs ds (Nat.le_refl _)).length_eq, List.length_append, List.length_map, List.length_map]
theorem grpGo_len : ∀ (xs : List (Bool × Cut)) (r : RunS), (grpGo r xs).length ≤ xs.length + 1
  | [], r => by simp [grpGo]
  | x :: xs, r => by
    unfold grpGo
    split
    · have := grpGo_len xs ((RunS.new x.2.a).take x)
      rw [List.length_cons, List.length_cons]; omega
    · have := grpGo_len xs (r.take x)
      rw [List.length_cons]; omega
theorem grp_len : ∀ (xs : List (Bool × Cut)), (grp xs).length ≤ xs.length
  | [] => Nat.le_refl _
  | x :: xs => by
    have := grpGo_len xs ((RunS.new x.2.a).take x)
    rw [List.length_cons]
    exact this
theorem runs_len {A B C : List D} (hA : A.length ≤ 25) : (runsOf A B C).length ≤ 52 := by
  have h1 := grp_len (mrg (chg A B) (chg A C))
  rw [mrg_len] at h1
  have h2 := chg_len A B
  have h3 := chg_len A C
  show (grp _).length ≤ _
  omega
theorem outc_len {A B C : List D} {r : RunS} (hA : Its A) (hB : Its B) (hC : Its C) (hr : r ∈ runsOf A B C) : (outc A r).length ≤ 60 := by
  have h1 := (run_one hA hB hr).2
  have h2 := (run_oth hA hC hr).2
  unfold outc
  dsimp only
  split
  · exact h1
  · split
    · exact h2
    · simp
theorem joinGo_len {A : List D} {n : Nat} : ∀ {rs : List RunS} {p : Nat}, (∀ r ∈ rs, (outc A r).length ≤ n) → RunsOk A p rs → (joinGo A rs p).length ≤ A.length - p + rs.length * n
  | [], p, _, _ => by
    rw [joinGo, List.length_drop]
    omega
  | r :: rs, p, h, k => by
    obtain ⟨k1, k2, k3⟩ := k
    have h1 := h r List.mem_cons_self
    have k4 : RunsOk A r.e rs := k3.mono (Nat.le_succ _)
    have h2 := joinGo_len (rs := rs) (p := r.e) (fun q hq => h q (List.mem_cons_of_mem _ hq)) k4
    have be := k2.be
    have el := k2.el
    rw [joinGo, List.length_append, List.length_append, List.length_drop, List.length_take, List.length_cons, Nat.succ_mul]
    omega
theorem joinI_len {A B C : List D} (hA : Its A) (hB : Its B) (hC : Its C) : (joinI A B C).length ≤ 4000 := by
  have h1 := joinGo_len (A := A) (n := 60) (rs := runsOf A B C) (p := 0) (fun r hr => outc_len hA hB hC hr) (runs_ok A B C)
  have h2 := runs_len (A := A) (B := B) (C := C) hA.2
  have h3 := hA.2
  have h4 : (runsOf A B C).length * 60 ≤ 52 * 60 := Nat.mul_le_mul_right 60 h2
  show (joinGo A (runsOf A B C) 0).length ≤ _
  omega
end Mw
-- part MwM4
set_option maxHeartbeats 4000000
/-! Rows. -/
namespace Mw
theorem Rw.inj {x y : Rw} (h : x.d = y.d) : x = y := by
  obtain ⟨w, i⟩ := x
  obtain ⟨w', i'⟩ := y
  have h : D.tup [w, .tup i] = D.tup [w', .tup i'] := h
  injection h with h
  injection h with h1 h2
  injection h2 with h2 _
  injection h2 with h2
  rw [h1, h2]
theorem Rw.dec (x y : Rw) : decide (x.d = y.d) = decide (x = y) := by
  by_cases h : x = y
  · rw [h, decide_eq_true rfl, decide_eq_true rfl]
  · rw [decide_eq_false h, decide_eq_false (fun z => h (Rw.inj z))]
/-- a row as it is handed in -/
structure RowV (x : Rw) : Prop where
  w : Where x.w
  i : Its x.i
  n : x.w = .non → x.i = []
theorem rowV_none : RowV Rw.none := ⟨.inl (.inl rfl), its_nil, fun _ => rfl⟩
theorem RowV.dep {x : Rw} (h : RowV x) : x.d.dep ≤ 30 := by
  have h1 := where_dep h.w
  have h2 := h.i.low.tup
  simp only [D.dep, D.deps] at h2 ⊢
  omega
end Mw
-- part MwM5
set_option maxHeartbeats 4000000
/-! Changes that touch nowhere: led past one another and laid, they come to the join. -/
namespace Mw
/-- tagged cuts in one row: those of the side x -/
def ofS (x : Bool) (ms : List (Bool × Cut)) : List Cut := (ms.filter fun m => m.1 == x).map (·.2)
def allS (ms : List (Bool × Cut)) : List Cut := ms.map (·.2)
/-- the cuts of side false behind those of side true -/
def shM : Int → List (Bool × Cut) → List Cut
  | _, [] => []
  | off, (true, d) :: ms => shM (off + growI d) ms
  | off, (false, c) :: ms => ⟨((c.a : Int) + off).toNat, c.o, c.p⟩ :: shM off ms
theorem lay_split {A : List D} {p m : Nat} (h : p ≤ m) (hm : m ≤ A.length) : ∀ {cs : List Cut}, Fits A m cs → lay A cs p = (A.take m).drop p ++ lay A cs m
  | [], _ => by
    unfold lay
    have := List.take_append_drop m A
    calc A.drop p = (A.take m ++ A.drop m).drop p := by rw [this]
      _ = (A.take m).drop p ++ (A.drop m).drop (p - (A.take m).length) := List.drop_append
      _ = _ := by rw [List.length_take, show p - min m A.length = 0 by omega, List.drop_zero]
  | c :: cs, f => by
    have f1 : m ≤ c.a := f.1
    have f2 : c.e ≤ A.length := f.2.1
    have hce : c.a ≤ c.e := by unfold Cut.e; omega
    unfold lay
    have e : (A.take c.a).drop p = (A.take m).drop p ++ (A.take c.a).drop m := by
      have := List.take_append_drop m (A.take c.a)
      calc (A.take c.a).drop p = ((A.take c.a).take m ++ (A.take c.a).drop m).drop p := by rw [this]
        _ = ((A.take c.a).take m).drop p ++ ((A.take c.a).drop m).drop (p - ((A.take c.a).take m).length) := List.drop_append
        _ = _ := by rw [List.take_take, List.length_take, show min m c.a = m by omega, show p - min m A.length = 0 by omega, List.drop_zero]
    rw [e]
    simp [List.append_assoc]
theorem ofS_cons (x : Bool) (m : Bool × Cut) (ms : List (Bool × Cut)) : ofS x (m :: ms) = if m.1 = x then m.2 :: ofS x ms else ofS x ms := by
  unfold ofS
  rw [List.filter_cons]
  by_cases h : m.1 = x
  · rw [if_pos h, if_pos (by simp [h])]; rfl
  · rw [if_neg h, if_neg (by simp [h])]
theorem ofS_tt (d : Cut) (ms : List (Bool × Cut)) : ofS true ((true, d) :: ms) = d :: ofS true ms := rfl
theorem ofS_tf (d : Cut) (ms : List (Bool × Cut)) : ofS true ((false, d) :: ms) = ofS true ms := rfl
theorem ofS_ft (d : Cut) (ms : List (Bool × Cut)) : ofS false ((true, d) :: ms) = ofS false ms := rfl
theorem ofS_ff (d : Cut) (ms : List (Bool × Cut)) : ofS false ((false, d) :: ms) = d :: ofS false ms := rfl
theorem ofS_fits {A : List D} (x : Bool) : ∀ {ms : List (Bool × Cut)} {p : Nat}, Fits A p (allS ms) → Fits A p (ofS x ms)
  | [], _, _ => trivial
  | m :: ms, p, h => by
    obtain ⟨h1, h2, h3, h4⟩ := h
    have h1 : p ≤ m.2.a := h1
    have h4 : Fits A (m.2.e + 1) (allS ms) := h4
    have ih := ofS_fits x h4
    rw [ofS_cons]
    split
    · exact ⟨h1, h2, h3, ih⟩
    · exact ih.mono (by have : m.2.a ≤ m.2.e := by unfold Cut.e; omega
                        omega)
theorem take_dropL {B L : List D} {q n : Nat} (h : B.drop q = L) : (B.take (q + n)).drop q = L.take n := by
  rw [← h, List.take_drop]
theorem shM_ok {A B : List D} : ∀ (ms : List (Bool × Cut)) (p q : Nat) (off : Int), Fits A p (allS ms) → p ≤ A.length → q ≤ B.length → (q : Int) = p + off → B.drop q = lay A (ofS true ms) p →
    lay B (shM off ms) q = lay A (allS ms) p ∧ Fits B q (shM off ms)
  | [], p, q, off, _, _, _, _, h => ⟨h, trivial⟩
  | (true, d) :: ms, p, q, off, f, hp, hq, ho, h => by
    obtain ⟨f1, f2, f3, f4⟩ := f
    have f1 : p ≤ d.a := f1
    have f2 : d.e ≤ A.length := f2
    have f4 : Fits A (d.e + 1) (allS ms) := f4
    have hde : d.e = d.a + d.o.length := rfl
    rw [ofS_cons, if_pos rfl] at h
    unfold lay at h
    have hX : ((A.take d.a).drop p ++ d.p).length = d.a - p + d.p.length := by
      rw [List.length_append, List.length_drop, List.length_take, show min d.a A.length = d.a by omega]
    have hlen : B.length - q = (d.a - p + d.p.length) + (lay A (ofS true ms) d.e).length := by
      have := congrArg List.length h
      rw [List.length_drop, List.length_append, hX] at this
      exact this
    have hq2 : B.drop (q + (d.a - p + d.p.length)) = lay A (ofS true ms) d.e := by
      rw [← List.drop_drop, h, ← hX, List.drop_left]
    have hs : (B.take (q + (d.a - p + d.p.length))).drop q = (A.take d.a).drop p ++ d.p := by
      rw [take_dropL h, ← hX, List.take_left]
    have ho2 : ((q + (d.a - p + d.p.length) : Nat) : Int) = (d.e : Int) + (off + growI d) := by
      unfold growI
      omega
    obtain ⟨i1, i2⟩ := shM_ok ms d.e (q + (d.a - p + d.p.length)) (off + growI d) (f4.mono (Nat.le_succ _)) f2 (by omega) ho2 hq2
    refine ⟨?_, i2.mono (by omega)⟩
    show lay B (shM (off + growI d) ms) q = (A.take d.a).drop p ++ d.p ++ lay A (allS ms) d.e
    rw [lay_split (by omega) (by omega) i2, i1, hs]
  | (false, c) :: ms, p, q, off, f, hp, hq, ho, h => by
    obtain ⟨f1, f2, f3, f4⟩ := f
    have f1 : p ≤ c.a := f1
    have f2 : c.e ≤ A.length := f2
    have f3 : (A.take c.e).drop c.a = c.o := f3
    have f4 : Fits A (c.e + 1) (allS ms) := f4
    have hce : c.e = c.a + c.o.length := rfl
    rw [ofS_cons, if_neg (by simp)] at h
    have fd := ofS_fits true f4
    have hsp : lay A (ofS true ms) p = (A.take c.e).drop p ++ lay A (ofS true ms) c.e := lay_split (by omega) f2 (fd.mono (Nat.le_succ _))
    have hX : ((A.take c.e).drop p).length = c.e - p := by
      rw [List.length_drop, List.length_take, show min c.e A.length = c.e by omega]
    rw [hsp] at h
    have hlen : B.length - q = (c.e - p) + (lay A (ofS true ms) c.e).length := by
      have := congrArg List.length h
      rw [List.length_drop, List.length_append, hX] at this
      exact this
    have hq2 : B.drop (q + (c.e - p)) = lay A (ofS true ms) c.e := by
      rw [← List.drop_drop, h, ← hX, List.drop_left]
    have ha : ((c.a : Int) + off).toNat = q + (c.a - p) := by omega
    have he : (⟨((c.a : Int) + off).toNat, c.o, c.p⟩ : Cut).e = q + (c.e - p) := by
      show ((c.a : Int) + off).toNat + c.o.length = _
      omega
    have hs : (B.take (q + (c.a - p))).drop q = (A.take c.a).drop p := by
      rw [take_dropL h, List.take_append_of_le_length (by omega), List.take_drop, List.take_take, show min (p + (c.a - p)) c.e = c.a by omega]
    have hs2 : (B.take (q + (c.e - p))).drop (q + (c.a - p)) = c.o := by
      rw [← List.drop_drop, take_dropL h, ← hX, List.take_left, List.drop_drop, show p + (c.a - p) = c.a by omega, f3]
    obtain ⟨i1, _⟩ := shM_ok ms c.e (q + (c.e - p)) off (f4.mono (Nat.le_succ _)) f2 (by omega) (by omega) hq2
    refine ⟨?_, ?_⟩
    · show (B.take ((c.a : Int) + off).toNat).drop q ++ c.p ++ lay B (shM off ms) (⟨((c.a : Int) + off).toNat, c.o, c.p⟩ : Cut).e = (A.take c.a).drop p ++ c.p ++ lay A (allS ms) c.e
      rw [he, ha, hs, i1]
    · refine ⟨?_, ?_, ?_, ?_⟩
      · show q ≤ ((c.a : Int) + off).toNat
        omega
      · rw [he]; omega
      · rw [he]
        show (B.take (q + (c.e - p))).drop ((c.a : Int) + off).toNat = c.o
        rw [ha, hs2]
      · rw [he]
        cases ms with
        | nil => trivial
        | cons m ms =>
          have hm : c.e + 1 ≤ m.2.a := f4.1
          have hm2 : m.2.e ≤ A.length := f4.2.1
          have hme : m.2.a ≤ m.2.e := by unfold Cut.e; omega
          have hl1 : lay A (ofS true (m :: ms)) c.e = (A.take (c.e + 1)).drop c.e ++ lay A (ofS true (m :: ms)) (c.e + 1) := lay_split (Nat.le_succ _) (by omega) fd
          have hX1 : ((A.take (c.e + 1)).drop c.e).length = 1 := by
            rw [List.length_drop, List.length_take, show min (c.e + 1) A.length = c.e + 1 by omega]; omega
          have hq3 : B.drop (q + (c.e - p) + 1) = lay A (ofS true (m :: ms)) (c.e + 1) := by
            have : B.drop (q + (c.e - p) + 1) = (B.drop (q + (c.e - p))).drop 1 := by rw [List.drop_drop]
            rw [this, hq2, hl1]
            have e1 : (1 : Nat) = ((A.take (c.e + 1)).drop c.e).length := hX1.symm
            conv => lhs; arg 1; rw [e1]
            exact List.drop_left
          have hl2 : (lay A (ofS true (m :: ms)) c.e).length ≥ 1 := by
            rw [hl1, List.length_append, hX1]; omega
          exact (shM_ok (m :: ms) (c.e + 1) (q + (c.e - p) + 1) off f4 (by omega) (by omega) (by omega) hq3).2
/-! ### the shifted cuts, as the program tells them -/
/-- c is behind what is before it -/
def shC (D' : List Cut) (c : Cut) : Cut := ⟨((c.a : Int) + moreI D' c.a).toNat, c.o, c.p⟩
theorem moreI_cons (d : Cut) (ds : List Cut) (a : Nat) : moreI (d :: ds) a = (if d.a < a then growI d else 0) + moreI ds a := by
  unfold moreI
  rw [List.filter_cons]
  by_cases h : d.a < a
  · rw [if_pos (by simpa using h), if_pos h]
    simp
  · rw [if_neg (by simpa using h), if_neg h]
    simp
theorem moreI_zero {a : Nat} : ∀ {ds : List Cut}, (∀ d ∈ ds, a < d.a) → moreI ds a = 0
  | [], _ => rfl
  | d :: ds, h => by
    rw [moreI_cons, if_neg (by have := h d List.mem_cons_self; omega), moreI_zero fun x hx => h x (List.mem_cons_of_mem _ hx)]
    rfl
theorem ofS_mem {x : Bool} {ms : List (Bool × Cut)} {c : Cut} : c ∈ ofS x ms ↔ (x, c) ∈ ms := by
  unfold ofS
  rw [List.mem_map]
  constructor
  · rintro ⟨⟨b, d⟩, h, rfl⟩
    have := List.mem_filter.mp h
    have e : b = x := by simpa using this.2
    rw [← e]; exact this.1
  · intro h
    exact ⟨(x, c), List.mem_filter.mpr ⟨h, by simp⟩, rfl⟩
theorem allS_mem {ms : List (Bool × Cut)} {m : Bool × Cut} (h : m ∈ ms) : m.2 ∈ allS ms := List.mem_map.mpr ⟨m, h, rfl⟩
theorem shM_map {A : List D} (D' : List Cut) : ∀ (ms : List (Bool × Cut)) (p : Nat) (off : Int), Fits A p (allS ms) → (∀ c ∈ ofS false ms, moreI D' c.a = off + moreI (ofS true ms) c.a) → shM off ms = (ofS false ms).map (shC D')
  | [], _, _, _, _ => rfl
  | (true, d) :: ms, p, off, f, h => by
    have f4 : Fits A (d.e + 1) (allS ms) := f.2.2.2
    rw [ofS_ft] at h ⊢
    refine shM_map D' ms (d.e + 1) (off + growI d) f4 fun c hc => ?_
    have := h c hc
    rw [ofS_tt, moreI_cons, if_pos] at this
    · omega
    · have := (f4.fin.all c (allS_mem (ofS_mem.mp hc))).1
      show d.a < c.a
      unfold Cut.e at this
      omega
  | (false, c) :: ms, p, off, f, h => by
    have f4 : Fits A (c.e + 1) (allS ms) := f.2.2.2
    rw [ofS_ff] at h ⊢
    have h0 := h c List.mem_cons_self
    have hz : moreI (ofS true ms) c.a = 0 := moreI_zero fun d hd => by
      have := (f4.fin.all d (allS_mem (ofS_mem.mp hd))).1
      unfold Cut.e at this
      omega
    rw [ofS_tf, hz, Int.add_zero] at h0
    rw [List.map_cons, shM, shM_map D' ms (c.e + 1) off f4 fun c' hc' => ?_]
    · unfold shC
      rw [h0]
    · have := h c' (List.mem_cons_of_mem _ hc')
      rw [ofS_tf] at this
      exact this
theorem shM_nonneg {A : List D} : ∀ (ms : List (Bool × Cut)) (p : Nat) (off : Int), Fits A p (allS ms) → p ≤ A.length → 0 ≤ p + off → ∀ c ∈ ofS false ms, 0 ≤ (c.a : Int) + off + moreI (ofS true ms) c.a
  | [], _, _, _, _, _, _, h => nomem h
  | (true, d) :: ms, p, off, f, hp, h0, c, hc => by
    have f1 : p ≤ d.a := f.1
    have f2 : d.e ≤ A.length := f.2.1
    have f4 : Fits A (d.e + 1) (allS ms) := f.2.2.2
    rw [ofS_ft] at hc
    have hca := (f4.fin.all c (allS_mem (ofS_mem.mp hc))).1
    have hde : d.e = d.a + d.o.length := rfl
    have := shM_nonneg ms d.e (off + growI d) (f4.mono (Nat.le_succ _)) f2 (by unfold growI; omega) c hc
    rw [ofS_tt, moreI_cons, if_pos (by omega)]
    omega
  | (false, d) :: ms, p, off, f, hp, h0, c, hc => by
    have f1 : p ≤ d.a := f.1
    have f2 : d.e ≤ A.length := f.2.1
    have f4 : Fits A (d.e + 1) (allS ms) := f.2.2.2
    have hde : d.e = d.a + d.o.length := rfl
    rw [ofS_ff] at hc
    rw [ofS_tf]
    rcases List.mem_cons.mp hc with e | e
    · have hz : moreI (ofS true ms) d.a = 0 := moreI_zero fun x hx => by
        have := (f4.fin.all x (allS_mem (ofS_mem.mp hx))).1
        omega
      rw [e, hz]
      omega
    · exact shM_nonneg ms d.e off (f4.mono (Nat.le_succ _)) f2 (by omega) c e
/-! ### two changes in one row -/
/-- no cut of cs touches one of ds -/
def Apart (cs ds : List Cut) : Prop := ∀ c ∈ cs, ∀ d ∈ ds, tch c d = false
theorem mrg_of : ∀ (n : Nat) (cs ds : List Cut), cs.length + ds.length ≤ n → ofS false (mrg cs ds) = cs ∧ ofS true (mrg cs ds) = ds
  | _, [], ds, _ => by
    rw [mrg]
    unfold ofS
    constructor
    · rw [List.filter_eq_nil_iff.mpr]; rfl
      intro m hm; obtain ⟨d, _, rfl⟩ := List.mem_map.mp hm; simp
    · rw [List.filter_eq_self.mpr, List.map_map]
      · exact List.map_id _
      · intro m hm; obtain ⟨d, _, rfl⟩ := List.mem_map.mp hm; simp
  | _, c :: cs, [], _ => by
    rw [mrg]
    unfold ofS
    constructor
    · rw [List.filter_eq_self.mpr, List.map_map]
      · exact List.map_id _
      · intro m hm; obtain ⟨d, _, rfl⟩ := List.mem_map.mp hm; simp
    · rw [List.filter_eq_nil_iff.mpr]; rfl
      intro m hm; obtain ⟨d, _, rfl⟩ := List.mem_map.mp hm; simp
  | 0, c :: cs, d :: ds, h => by simp at h
  | n + 1, c :: cs, d :: ds, h => by
    rw [mrg]
    split
    · obtain ⟨i1, i2⟩ := mrg_of n cs (d :: ds) (by simp at h ⊢; omega)
      rw [ofS_cons, ofS_cons, if_pos rfl, if_neg (by simp), i1, i2]
      exact ⟨rfl, rfl⟩
    · obtain ⟨i1, i2⟩ := mrg_of n (c :: cs) ds (by simp at h ⊢; omega)
      rw [ofS_cons, ofS_cons, if_neg (by simp), if_pos rfl, i1, i2]
      exact ⟨rfl, rfl⟩
theorem mrg_fits {A : List D} : ∀ (n : Nat) (cs ds : List Cut) (p : Nat), cs.length + ds.length ≤ n → Fits A p cs → Fits A p ds → Apart cs ds → Fits A p (allS (mrg cs ds))
  | _, [], ds, p, _, _, h, _ => by
    rw [mrg]; unfold allS; rw [List.map_map]
    exact (congrArg (Fits A p) (List.map_id ds)).mpr h
  | _, c :: cs, [], p, _, h, _, _ => by
    rw [mrg]; unfold allS; rw [List.map_map]
    exact (congrArg (Fits A p) (List.map_id (c :: cs))).mpr h
  | 0, c :: cs, d :: ds, _, h, _, _, _ => by simp at h
  | n + 1, c :: cs, d :: ds, p, h, hc, hd, ha => by
    have ht : tch c d = false := ha c List.mem_cons_self d List.mem_cons_self
    have hca : c.e = c.a + c.o.length := rfl
    have hda : d.e = d.a + d.o.length := rfl
    rw [mrg]
    unfold tch at ht
    simp only [Bool.and_eq_false_iff, decide_eq_false_iff_not] at ht
    split
    · obtain ⟨h1, h2, h3, h4⟩ := hc
      exact ⟨h1, h2, h3, mrg_fits n cs (d :: ds) (c.e + 1) (by simp at h ⊢; omega) h4 ⟨by omega, hd.2⟩ fun x hx => ha x (List.mem_cons_of_mem _ hx)⟩
    · obtain ⟨h1, h2, h3, h4⟩ := hd
      exact ⟨h1, h2, h3, mrg_fits n (c :: cs) ds (d.e + 1) (by simp at h ⊢; omega) ⟨by omega, hc.2⟩ h4 fun x hx y hy => ha x hx y (List.mem_cons_of_mem _ hy)⟩
/-- a row of cuts that meet nowhere: the join lays them all -/
theorem single (A : List D) (m : Bool × Cut) : outc A ((RunS.new m.2.a).take m) = m.2.p := by
  obtain ⟨b, c⟩ := m
  have h1 : (List.take c.e A).drop c.e = [] := List.drop_of_length_le (by rw [List.length_take]; omega)
  have h2 : (List.take c.a A).drop c.a = [] := List.drop_of_length_le (by rw [List.length_take]; omega)
  have hm : max c.a c.e = c.e := by unfold Cut.e; omega
  have e : layTo A c.e [c] c.a = c.p := by
    show (A.take c.a).drop c.a ++ c.p ++ (A.take c.e).drop c.e = c.p
    rw [h1, h2, List.append_nil, List.nil_append]
  cases b with
  | false =>
    show outc A ⟨c.a, max c.a c.e, [c], []⟩ = c.p
    rw [hm]
    unfold outc
    dsimp only
    rw [if_pos (.inl rfl)]
    exact e
  | true =>
    show outc A ⟨c.a, max c.a c.e, [], [c]⟩ = c.p
    rw [hm]
    unfold outc
    dsimp only
    rw [e]
    split
    · rename_i h
      rcases h with h | h
      · cases h
      · exact h
    · rw [if_pos rfl]
theorem single_e (m : Bool × Cut) : ((RunS.new m.2.a).take m).e = m.2.e ∧ ((RunS.new m.2.a).take m).b = m.2.a := by
  have hm : max m.2.a m.2.e = m.2.e := by unfold Cut.e; omega
  unfold RunS.take RunS.new
  dsimp only
  split
  · exact ⟨hm, rfl⟩
  · exact ⟨hm, rfl⟩
theorem joinGo_single {A : List D} : ∀ (ms : List (Bool × Cut)) (p : Nat), Fits A p (allS ms) → joinGo A (grp ms) p = lay A (allS ms) p
  | [], p, _ => rfl
  | [m], p, _ => by
    show (A.take ((RunS.new m.2.a).take m).b).drop p ++ outc A ((RunS.new m.2.a).take m) ++ A.drop ((RunS.new m.2.a).take m).e = _
    rw [single, (single_e m).1, (single_e m).2]
    rfl
  | m :: n :: ms, p, f => by
    have f4 : Fits A (m.2.e + 1) (allS (n :: ms)) := f.2.2.2
    have ih := joinGo_single (n :: ms) m.2.e (f4.mono (Nat.le_succ _))
    have e : grp (m :: n :: ms) = ((RunS.new m.2.a).take m) :: grp (n :: ms) := by
      show grpGo _ (n :: ms) = _
      rw [grpGo, if_pos]
      · rfl
      · rw [(single_e m).1]
        have : m.2.e + 1 ≤ n.2.a := f4.1
        omega
    rw [e]
    show (A.take ((RunS.new m.2.a).take m).b).drop p ++ outc A ((RunS.new m.2.a).take m) ++ joinGo A (grp (n :: ms)) ((RunS.new m.2.a).take m).e = _
    rw [single, (single_e m).1, (single_e m).2, ih]
    rfl
def flipM (m : Bool × Cut) : Bool × Cut := (!m.1, m.2)
theorem ofS_flip (x : Bool) : ∀ (ms : List (Bool × Cut)), ofS x (ms.map flipM) = ofS (!x) ms
  | [] => rfl
  | (b, c) :: ms => by
    rw [List.map_cons, ofS_cons, ofS_cons, ofS_flip x ms]
    unfold flipM
    cases b <;> cases x <;> rfl
theorem allS_flip (ms : List (Bool × Cut)) : allS (ms.map flipM) = allS ms := by
  unfold allS
  rw [List.map_map]
  rfl
/-- cuts of cs behind ds, laid on what ds make, come to the join -/
theorem past_one {A : List D} {cs ds : List Cut} (hc : Fits A 0 cs) (hd : Fits A 0 ds) (ha : Apart cs ds) :
    lay (lay A ds 0) (cs.map (shC ds)) 0 = lay A (allS (mrg cs ds)) 0 ∧ Fits (lay A ds 0) 0 (cs.map (shC ds)) ∧ ∀ c ∈ cs, ((c.a : Int) + moreI ds c.a) = (((shC ds c).a : Nat) : Int) := by
  have f := mrg_fits _ cs ds 0 (Nat.le_refl _) hc hd ha
  obtain ⟨e1, e2⟩ := mrg_of _ cs ds (Nat.le_refl _)
  have em := shM_map ds (mrg cs ds) 0 0 f (by rw [e2]; intro c _; omega)
  have en := shM_nonneg (mrg cs ds) 0 0 f (Nat.zero_le _) (Int.le_refl _)
  rw [e1] at em en
  rw [e2] at en
  obtain ⟨r1, r2⟩ := shM_ok (B := lay A ds 0) (mrg cs ds) 0 0 0 f (Nat.zero_le _) (Nat.zero_le _) rfl (by rw [e2]; rfl)
  rw [em] at r1 r2
  refine ⟨r1, r2, fun c hc => ?_⟩
  have := en c hc
  show (c.a : Int) + moreI ds c.a = ((((c.a : Int) + moreI ds c.a).toNat : Nat) : Int)
  omega
theorem past_two {A : List D} {cs ds : List Cut} (hc : Fits A 0 cs) (hd : Fits A 0 ds) (ha : Apart cs ds) :
    lay (lay A cs 0) (ds.map (shC cs)) 0 = lay A (allS (mrg cs ds)) 0 ∧ Fits (lay A cs 0) 0 (ds.map (shC cs)) ∧ ∀ d ∈ ds, ((d.a : Int) + moreI cs d.a) = (((shC cs d).a : Nat) : Int) := by
  have f := mrg_fits _ cs ds 0 (Nat.le_refl _) hc hd ha
  obtain ⟨e1, e2⟩ := mrg_of _ cs ds (Nat.le_refl _)
  have f' : Fits A 0 (allS ((mrg cs ds).map flipM)) := by rw [allS_flip]; exact f
  have g1 : ofS false ((mrg cs ds).map flipM) = ds := by rw [ofS_flip]; exact e2
  have g2 : ofS true ((mrg cs ds).map flipM) = cs := by rw [ofS_flip]; exact e1
  have em := shM_map cs ((mrg cs ds).map flipM) 0 0 f' (by rw [g2]; intro c _; omega)
  have en := shM_nonneg ((mrg cs ds).map flipM) 0 0 f' (Nat.zero_le _) (Int.le_refl _)
  rw [g1] at em en
  rw [g2] at en
  obtain ⟨r1, r2⟩ := shM_ok (B := lay A cs 0) ((mrg cs ds).map flipM) 0 0 0 f' (Nat.zero_le _) (Nat.zero_le _) rfl (by rw [g2]; rfl)
  rw [em] at r1 r2
  rw [allS_flip] at r1
  refine ⟨r1, r2, fun c hc => ?_⟩
  have := en c hc
  show (c.a : Int) + moreI cs c.a = ((((c.a : Int) + moreI cs c.a).toNat : Nat) : Int)
  omega
theorem joinI_apart {A B C : List D} (ha : Apart (chg A B) (chg A C)) : joinI A B C = lay A (allS (mrg (chg A B) (chg A C))) 0 := by
  unfold joinI
  exact joinGo_single _ 0 (mrg_fits _ _ _ 0 (Nat.le_refl _) (chg_fits A B) (chg_fits A C) ha)
end Mw
-- part MwM6
set_option maxHeartbeats 4000000
/-! Written texts tell things apart; joins are the same from both sides. -/
namespace Mw
open PySem
def cl (s : Str) : List Nat := s.cps.toList
theorem cl_app (a b : Str) : cl (a ++ b) = cl a ++ cl b := Array.toList_append
theorem cl_inj {a b : Str} (h : cl a = cl b) : a = b := by
  obtain ⟨x⟩ := a; obtain ⟨y⟩ := b
  exact congrArg Str.mk (Array.toList_inj.mp h)
theorem cl_o : cl "(" = [40] := by decide +kernel
theorem cl_c : cl ")" = [41] := by decide +kernel
theorem cl_bo : cl "[" = [91] := by decide +kernel
theorem cl_bc : cl "]" = [93] := by decide +kernel
theorem cl_col : cl ":" = [58] := by decide +kernel
theorem cl_bar : cl "|" = [124] := by decide +kernel
theorem cl_min : cl "-" = [45] := by decide +kernel
theorem cl_join0 (ss : List Str) : cl (Txt.join "" ss) = ss.flatMap cl := by
  rw [TL.join_eq]
  induction ss with
  | nil => rfl
  | cons x ss ih =>
    cases ss with
    | nil => simp [Str.join]
    | cons y ss =>
      show cl (x ++ "" ++ Str.join "" (y :: ss)) = _
      rw [cl_app, cl_app, ih, show cl "" = [] by decide +kernel, List.append_nil]
      rfl
theorem cl_join3 (a b c : Str) : cl (Txt.join "|" [a, b, c]) = cl a ++ 124 :: (cl b ++ 124 :: cl c) := by
  rw [TL.join_eq]
  show cl (a ++ "|" ++ (b ++ "|" ++ c)) = _
  rw [cl_app, cl_app, cl_app, cl_app, cl_bar]
  simp
def dig (n : Nat) : List Nat := cl (Str.ofString (toString (n : Int)))
theorem dig_ok {n : Nat} (h : n ≤ 60) : 58 ∉ dig n ∧ ∃ c t, dig n = c :: t ∧ c ≤ 57 ∧ 48 ≤ c := by
  have h1 : ∀ k : Fin 61, (dig k.val).contains 58 = false ∧ ((dig k.val).headD 0 ≤ 57 ∧ 48 ≤ (dig k.val).headD 0) := by decide +kernel
  obtain ⟨a, b⟩ := h1 ⟨n, by omega⟩
  refine ⟨fun z => ?_, ?_⟩
  · have := List.contains_iff_mem.mpr z
    dsimp only at a
    rw [a] at this
    cases this
  · dsimp only at b
    cases e : dig n with
    | nil => rw [e] at b; simp at b
    | cons c t => rw [e] at b; exact ⟨c, t, rfl, b⟩
theorem dig_inj {n m : Nat} (h : n ≤ 60) (k : m ≤ 60) (e : dig n = dig m) : n = m := by
  have h1 : ∀ a b : Fin 61, dig a.val = dig b.val → a.val = b.val := by decide +kernel
  exact h1 ⟨n, by omega⟩ ⟨m, by omega⟩ e
theorem split_at {k : Nat} : ∀ {a b x y : List Nat}, k ∉ a → k ∉ b → a ++ k :: x = b ++ k :: y → a = b ∧ x = y
  | [], [], _, _, _, _, h => ⟨rfl, (List.cons.inj h).2⟩
  | [], c :: b, _, _, _, hb, h => absurd (List.mem_cons.mpr (.inl (List.cons.inj h).1)) hb
  | c :: a, [], _, _, ha, _, h => absurd (List.mem_cons.mpr (.inl (List.cons.inj h).1.symm)) ha
  | c :: a, d :: b, _, _, ha, hb, h => by
    obtain ⟨h1, h2⟩ := List.cons.inj h
    obtain ⟨i1, i2⟩ := split_at (fun z => ha (List.mem_cons_of_mem _ z)) (fun z => hb (List.mem_cons_of_mem _ z)) h2
    exact ⟨by rw [h1, i1], i2⟩
theorem cl_text (s : Str) : cl (wText s) = dig s.length ++ 58 :: cl s := by
  show cl (Str.ofString (toString (s.length : Int)) ++ ":" ++ s) = _
  rw [cl_app, cl_app, cl_col]
  simp [dig]
theorem text_dc {s t : Str} {x y : List Nat} (hs : s.length ≤ 60) (ht : t.length ≤ 60) (h : cl (wText s) ++ x = cl (wText t) ++ y) : s = t ∧ x = y := by
  rw [cl_text, cl_text, List.append_assoc, List.append_assoc] at h
  obtain ⟨h1, h2⟩ := split_at (dig_ok hs).1 (dig_ok ht).1 h
  have e := dig_inj hs ht h1
  have e' : (cl s).length = (cl t).length := e
  obtain ⟨h3, h4⟩ := List.append_inj h2 e'
  exact ⟨cl_inj h3, h4⟩
theorem text_hd {s : Str} (hs : s.length ≤ 60) : ∃ c t, cl (wText s) = c :: t ∧ c ≤ 57 ∧ 48 ≤ c := by
  obtain ⟨c, t, h1, h2⟩ := (dig_ok hs).2
  rw [cl_text, h1]
  exact ⟨c, _, rfl, h2⟩
def Dc (f : D → List Nat) (P : D → Prop) : Prop := ∀ d e x y, P d → P e → f d ++ x = f e ++ y → d = e ∧ x = y
theorem line_dc : Dc (fun d => cl (wLine d)) Line := by
  rintro _ _ x y ⟨s, rfl, hs⟩ ⟨t, rfl, ht⟩ h
  obtain ⟨h1, h2⟩ := text_dc (by omega) (by omega) h
  exact ⟨by rw [h1], h2⟩
theorem line_hd {d : D} (h : Line d) : ∃ c t, cl (wLine d) = c :: t ∧ c ≤ 57 ∧ 48 ≤ c := by
  obtain ⟨s, rfl, hs⟩ := h
  exact text_hd (by omega)
theorem list_dc {f : D → List Nat} {P : D → Prop} (hf : Dc f P) (hh : ∀ d, P d → ∃ c t, f d = c :: t ∧ c ≤ 57) : ∀ {ds es : List D} {x y : List Nat}, (∀ d ∈ ds, P d) → (∀ d ∈ es, P d) → ds.flatMap f ++ 93 :: x = es.flatMap f ++ 93 :: y → ds = es ∧ x = y
  | [], [], _, _, _, _, h => ⟨rfl, (List.cons.inj h).2⟩
  | [], e :: es, _, _, _, he, h => by
    obtain ⟨c, t, h1, h2⟩ := hh e (he e List.mem_cons_self)
    rw [List.flatMap_cons, h1] at h
    have := (List.cons.inj h).1
    omega
  | d :: ds, [], _, _, hd, _, h => by
    obtain ⟨c, t, h1, h2⟩ := hh d (hd d List.mem_cons_self)
    rw [List.flatMap_cons, h1] at h
    have := (List.cons.inj h).1
    omega
  | d :: ds, e :: es, x, y, hd, he, h => by
    rw [List.flatMap_cons, List.flatMap_cons, List.append_assoc, List.append_assoc] at h
    obtain ⟨h1, h2⟩ := hf d e _ _ (hd d List.mem_cons_self) (he e List.mem_cons_self) h
    obtain ⟨i1, i2⟩ := list_dc hf hh (fun z hz => hd z (List.mem_cons_of_mem _ hz)) (fun z hz => he z (List.mem_cons_of_mem _ hz)) h2
    exact ⟨by rw [h1, i1], i2⟩
theorem cl_br (f : D → Str) (ds : List D) : cl ("[" ++ Txt.join "" (ds.map f) ++ "]") = 91 :: (ds.flatMap (fun d => cl (f d)) ++ [93]) := by
  rw [cl_app, cl_app, cl_bo, cl_bc, cl_join0, List.flatMap_map]
  rfl
theorem lines_dc {ds es : List D} {x y : List Nat} (hd : Lines ds) (he : Lines es) (h : cl (wLines ds) ++ x = cl (wLines es) ++ y) : ds = es ∧ x = y := by
  unfold wLines at h
  rw [cl_br, cl_br, List.cons_append, List.cons_append] at h
  have h := (List.cons.inj h).2
  rw [List.append_assoc, List.append_assoc] at h
  exact list_dc line_dc (fun d hd => let ⟨c, t, h1, h2, _⟩ := line_hd hd; ⟨c, t, h1, h2⟩) hd.1 he.1 h
theorem cl_cl (a b c : Str) : cl ("(" ++ Txt.join "|" [a, b, c] ++ ")") = 40 :: (cl a ++ 124 :: (cl b ++ 124 :: (cl c ++ [41]))) := by
  rw [cl_app, cl_app, cl_o, cl_c, cl_join3]
  simp
theorem item_hd {d : D} (h : Item d) : ∃ c t, cl (wItem d) = c :: t ∧ c ≤ 57 := by
  rcases h with h | ⟨b, o, p, rfl, hb, ho, hp⟩
  · obtain ⟨s, rfl, hs⟩ := h
    obtain ⟨c, t, h1, h2, _⟩ := text_hd (s := s) (by omega)
    exact ⟨c, t, h1, h2⟩
  · show ∃ c t, cl ("(" ++ Txt.join "|" [wLines b, wLines o, wLines p] ++ ")") = c :: t ∧ c ≤ 57
    rw [cl_cl]
    exact ⟨40, _, rfl, by decide⟩
theorem item_dc : Dc (fun d => cl (wItem d)) Item := by
  rintro d e x y (⟨s, rfl, hs⟩ | ⟨b, o, p, rfl, hb, ho, hp⟩) (⟨t, rfl, ht⟩ | ⟨b', o', p', rfl, hb', ho', hp'⟩) h
  · obtain ⟨h1, h2⟩ := text_dc (by omega) (by omega) h
    exact ⟨by rw [h1], h2⟩
  · exfalso
    obtain ⟨c, z, h1, h2, h3⟩ := text_hd (s := s) (by omega)
    have h : cl (wText s) ++ x = cl ("(" ++ Txt.join "|" [wLines b', wLines o', wLines p'] ++ ")") ++ y := h
    rw [h1, cl_cl] at h
    have := (List.cons.inj h).1
    omega
  · exfalso
    obtain ⟨c, z, h1, h2, h3⟩ := text_hd (s := t) (by omega)
    have h : cl ("(" ++ Txt.join "|" [wLines b, wLines o, wLines p] ++ ")") ++ x = cl (wText t) ++ y := h
    rw [h1, cl_cl] at h
    have := (List.cons.inj h).1
    omega
  · have h : cl ("(" ++ Txt.join "|" [wLines b, wLines o, wLines p] ++ ")") ++ x = cl ("(" ++ Txt.join "|" [wLines b', wLines o', wLines p'] ++ ")") ++ y := h
    rw [cl_cl, cl_cl, List.cons_append, List.cons_append] at h
    have h := (List.cons.inj h).2
    simp only [List.append_assoc, List.cons_append] at h
    obtain ⟨e1, h⟩ := lines_dc hb hb' h
    obtain ⟨e2, h⟩ := lines_dc ho ho' (List.cons.inj h).2
    obtain ⟨e3, h⟩ := lines_dc hp hp' (List.cons.inj h).2
    exact ⟨by rw [e1, e2, e3], (List.cons.inj h).2⟩
theorem items_inj {ds es : List D} (hd : Items ds) (he : Items es) (h : wItems ds = wItems es) : ds = es := by
  have h := congrArg cl h
  unfold wItems at h
  rw [cl_br, cl_br] at h
  exact (list_dc item_dc (fun d hd => item_hd hd) hd.1 he.1 (List.cons.inj h).2).1
theorem part_dc : Dc (fun d => cl (wPart d)) Part := by
  rintro d e x y (rfl | ⟨s, rfl, hs⟩) (rfl | ⟨t, rfl, ht⟩) h
  · exact ⟨rfl, List.append_cancel_left h⟩
  · exfalso
    obtain ⟨c, z, h1, h2, h3⟩ := text_hd (s := t) (by omega)
    have h : cl "-" ++ x = cl (wText t) ++ y := h
    rw [h1, cl_min] at h
    have := (List.cons.inj h).1
    omega
  · exfalso
    obtain ⟨c, z, h1, h2, h3⟩ := text_hd (s := s) (by omega)
    have h : cl (wText s) ++ x = cl "-" ++ y := h
    rw [h1, cl_min] at h
    have := (List.cons.inj h).1
    omega
  · obtain ⟨h1, h2⟩ := text_dc (by omega) (by omega) h
    exact ⟨by rw [h1], h2⟩
theorem where_inj {d e : D} (hd : Where d) (he : Where e) (h : wWhere d = wWhere e) : d = e := by
  have wp : ∀ {d : D}, Part d → wWhere d = wPart d := by
    rintro _ (rfl | ⟨s, rfl, _⟩) <;> rfl
  have ph : ∀ {d : D}, Part d → ∃ c t, cl (wPart d) = c :: t ∧ c ≠ 40 := by
    rintro _ (rfl | ⟨s, rfl, hs⟩)
    · exact ⟨45, [], cl_min, by decide⟩
    · obtain ⟨c, z, h1, h2, h3⟩ := text_hd (s := s) (by omega)
      exact ⟨c, z, h1, by omega⟩
  have h := congrArg cl h
  rcases hd with hd | ⟨b, o, p, rfl, hb, ho, hp⟩
  · rw [wp hd] at h
    rcases he with he | ⟨b', o', p', rfl, hb', ho', hp'⟩
    · rw [wp he] at h
      exact (part_dc d e [] [] hd he (by rw [List.append_nil, List.append_nil]; exact h)).1
    · exfalso
      obtain ⟨c, t, h1, h2⟩ := ph hd
      have h : cl (wPart d) = cl ("(" ++ Txt.join "|" [wPart b', wPart o', wPart p'] ++ ")") := h
      rw [h1, cl_cl] at h
      exact h2 (List.cons.inj h).1
  · rcases he with he | ⟨b', o', p', rfl, hb', ho', hp'⟩
    · exfalso
      rw [wp he] at h
      obtain ⟨c, t, h1, h2⟩ := ph he
      have h : cl ("(" ++ Txt.join "|" [wPart b, wPart o, wPart p] ++ ")") = cl (wPart e) := h
      rw [h1, cl_cl] at h
      exact h2 (List.cons.inj h).1.symm
    · have h : cl ("(" ++ Txt.join "|" [wPart b, wPart o, wPart p] ++ ")") = cl ("(" ++ Txt.join "|" [wPart b', wPart o', wPart p'] ++ ")") := h
      rw [cl_cl, cl_cl] at h
      have h := (List.cons.inj h).2
      obtain ⟨e1, h⟩ := part_dc _ _ _ _ hb hb' h
      obtain ⟨e2, h⟩ := part_dc _ _ _ _ ho ho' (List.cons.inj h).2
      obtain ⟨e3, h⟩ := part_dc _ _ _ _ hp hp' (List.cons.inj h).2
      rw [e1, e2, e3]
/-! ### from both sides -/
theorem iCl_sym {b o p : List D} (ho : Items o) (hp : Items p) (h : o ≠ p) : iCl b o p = iCl b p o := by
  have hw : wItems o ≠ wItems p := fun e => h (items_inj ho hp e)
  unfold iCl
  cases e1 : ltS (wItems p) (wItems o) with
  | true =>
    cases e2 : ltS (wItems o) (wItems p) with
    | true => exact absurd (ltS_trans e1 e2) (by rw [ltS_irr]; simp)
    | false => rfl
  | false =>
    cases e2 : ltS (wItems o) (wItems p) with
    | true => rfl
    | false => exact absurd (ltS_total e2 e1) (fun z => hw z)
theorem wCl_sym {b o p : D} (ho : Where o) (hp : Where p) (h : o ≠ p) : wCl b o p = wCl b p o := by
  have hw : wWhere o ≠ wWhere p := fun e => h (where_inj ho hp e)
  unfold wCl
  cases e1 : ltS (wWhere p) (wWhere o) with
  | true =>
    cases e2 : ltS (wWhere o) (wWhere p) with
    | true => exact absurd (ltS_trans e1 e2) (by rw [ltS_irr]; simp)
    | false => rfl
  | false =>
    cases e2 : ltS (wWhere o) (wWhere p) with
    | true => rfl
    | false => exact absurd (ltS_total e2 e1) (fun z => hw z)
def RunS.flip (r : RunS) : RunS := ⟨r.b, r.e, r.t, r.s⟩
theorem take_flip (r : RunS) (m : Bool × Cut) : r.flip.take (flipM m) = (r.take m).flip := by
  obtain ⟨b, c⟩ := m
  cases b <;> rfl
theorem grpGo_cons_new {r : RunS} {m : Bool × Cut} {ms : List (Bool × Cut)} (h : r.e < m.2.a) : grpGo r (m :: ms) = r :: grpGo ((RunS.new m.2.a).take m) ms := by
  rw [grpGo, if_pos h]
theorem grpGo_cons_old {r : RunS} {m : Bool × Cut} {ms : List (Bool × Cut)} (h : ¬ r.e < m.2.a) : grpGo r (m :: ms) = grpGo (r.take m) ms := by
  rw [grpGo, if_neg h]
theorem take_take (r : RunS) (c d : Cut) : (r.take (false, c)).take (true, d) = (r.take (true, d)).take (false, c) := by
  show RunS.mk r.b (max (max r.e c.e) d.e) (r.s ++ [c]) (r.t ++ [d]) = RunS.mk r.b (max (max r.e d.e) c.e) (r.s ++ [c]) (r.t ++ [d])
  rw [Nat.max_assoc, Nat.max_assoc, Nat.max_comm c.e d.e]
theorem take_eq (r : RunS) (m : Bool × Cut) : (r.take m).e = max r.e m.2.e := by
  unfold RunS.take
  split <;> rfl
theorem grpGo_flip1 : ∀ (ms : List (Bool × Cut)) (r : RunS), grpGo r.flip (ms.map flipM) = (grpGo r ms).map RunS.flip
  | [], r => rfl
  | m :: ms, r => by
    rw [List.map_cons]
    by_cases h : r.e < m.2.a
    · rw [grpGo_cons_new h, grpGo_cons_new (m := flipM m) (r := r.flip) h, List.map_cons]
      congr 1
      show grpGo ((RunS.new m.2.a).flip.take (flipM m)) _ = _
      rw [take_flip, grpGo_flip1 ms]
    · rw [grpGo_cons_old h, grpGo_cons_old (m := flipM m) (r := r.flip) h, take_flip, grpGo_flip1 ms]
/-- a row of both sides' cuts and the one with the sides changed: alike but for ties -/
theorem mrg_tie0 {c d : Cut} {cs ds : List Cut} (hc : RisA (c :: cs)) (hd : RisA (d :: ds)) (ha : c.a = d.a) (hl : c.o.length = d.o.length) :
    (mrg (c :: cs) (d :: ds)).map flipM = (true, c) :: (false, d) :: (mrg cs ds).map flipM ∧ mrg (d :: ds) (c :: cs) = (false, d) :: (true, c) :: mrg ds cs := by
  obtain ⟨c1, c2⟩ := List.pairwise_cons.mp hc
  obtain ⟨d1, d2⟩ := List.pairwise_cons.mp hd
  have e1 : mrg cs (d :: ds) = (true, d) :: mrg cs ds := by
    cases cs with
    | nil => rw [mrg, mrg]; rfl
    | cons c' cs =>
      have := c1 c' List.mem_cons_self
      rw [mrg, if_neg (by omega)]
  have e2 : mrg ds (c :: cs) = (true, c) :: mrg ds cs := by
    cases ds with
    | nil => rw [mrg, mrg]; rfl
    | cons d' ds =>
      have := d1 d' List.mem_cons_self
      rw [mrg, if_neg (by omega)]
  refine ⟨?_, ?_⟩
  · rw [mrg, if_pos (by omega), e1]; rfl
  · rw [mrg, if_pos (by omega), e2]
theorem tie_old1 (q : RunS) {c d : Cut} (ha : c.a = d.a) (x y : Bool) : ¬ (q.take (x, c)).e < ((y, d) : Bool × Cut).2.a := by
  rw [take_eq]
  show ¬ max q.e (c.a + c.o.length) < d.a
  omega
theorem step_eq {m : Bool × Cut} {xs ys : List (Bool × Cut)} (r : RunS) (hh : ∀ r, grpGo r xs = grpGo r ys) : grpGo r (m :: xs) = grpGo r (m :: ys) := by
  rw [grpGo, grpGo, hh, hh]
theorem mrg_tie : ∀ (n : Nat) (cs ds : List Cut), cs.length + ds.length ≤ n → RisA cs → RisA ds → ∀ r, grpGo r ((mrg cs ds).map flipM) = grpGo r (mrg ds cs)
  | _, [], [], _, _, _, r => by
    rw [mrg]; rfl
  | _, [], d :: ds, _, _, _, r => by
    rw [mrg, mrg, List.map_map]; rfl
  | _, c :: cs, [], _, _, _, r => by
    rw [mrg, mrg, List.map_map]; rfl
  | 0, c :: cs, d :: ds, h, _, _, r => by simp at h
  | n + 1, c :: cs, d :: ds, h, hc, hd, r => by
    obtain ⟨c1, c2⟩ := List.pairwise_cons.mp hc
    obtain ⟨d1, d2⟩ := List.pairwise_cons.mp hd
    simp only [List.length_cons] at h
    by_cases ht : c.a = d.a ∧ c.o.length = d.o.length
    · obtain ⟨ha, hl⟩ := ht
      obtain ⟨e1, e2⟩ := mrg_tie0 hc hd ha hl
      have ih := mrg_tie n cs ds (by omega) c2 d2
      rw [e1, e2]
      by_cases hr : r.e < c.a
      · have hr2 : r.e < d.a := by omega
        rw [grpGo_cons_new (m := (true, c)) (r := r) hr, grpGo_cons_new (m := (false, d)) (r := r) hr2, grpGo_cons_old (m := (false, d)) (tie_old1 _ ha _ _), grpGo_cons_old (m := (true, c)) (tie_old1 _ ha.symm _ _), ih, ← take_take]
        show r :: grpGo (((RunS.new c.a).take (false, d)).take (true, c)) _ = r :: grpGo (((RunS.new d.a).take (false, d)).take (true, c)) _
        rw [ha]
      · have hr2 : ¬ r.e < d.a := by omega
        rw [grpGo_cons_old (m := (true, c)) (r := r) hr, grpGo_cons_old (m := (false, d)) (r := r) hr2, grpGo_cons_old (m := (false, d)) (tie_old1 _ ha _ _), grpGo_cons_old (m := (true, c)) (tie_old1 _ ha.symm _ _), ih, take_take]
    · by_cases hlt : c.a < d.a ∨ (c.a = d.a ∧ c.o.length ≤ d.o.length)
      · rw [mrg, if_pos hlt, List.map_cons, mrg, if_neg (by omega)]
        exact step_eq _ (mrg_tie n cs (d :: ds) (by simp; omega) c2 hd)
      · rw [mrg, if_neg hlt, List.map_cons, mrg, if_pos (by omega)]
        exact step_eq _ (mrg_tie n (c :: cs) ds (by simp; omega) hc d2)
theorem grp_one {m : Bool × Cut} {xs ys : List (Bool × Cut)} (hh : ∀ r, grpGo r xs = grpGo r ys) : grp (m :: xs) = grp (m :: ys) := hh _
theorem grp_flip0 : ∀ (cs ds : List Cut), RisA cs → RisA ds → grp ((mrg cs ds).map flipM) = grp (mrg ds cs)
  | [], [], _, _ => by
    rw [mrg]; rfl
  | [], d :: ds, _, _ => by
    rw [mrg, mrg, List.map_map]; rfl
  | c :: cs, [], _, _ => by
    rw [mrg, mrg, List.map_map]; rfl
  | c :: cs, d :: ds, hc, hd => by
    obtain ⟨c1, c2⟩ := List.pairwise_cons.mp hc
    obtain ⟨d1, d2⟩ := List.pairwise_cons.mp hd
    by_cases ht : c.a = d.a ∧ c.o.length = d.o.length
    · obtain ⟨ha, hl⟩ := ht
      obtain ⟨e1, e2⟩ := mrg_tie0 hc hd ha hl
      have ih := mrg_tie _ cs ds (Nat.le_refl _) c2 d2
      rw [e1, e2]
      show grpGo ((RunS.new c.a).take (true, c)) ((false, d) :: (mrg cs ds).map flipM) = grpGo ((RunS.new d.a).take (false, d)) ((true, c) :: mrg ds cs)
      rw [grpGo_cons_old (m := (false, d)) (tie_old1 _ ha _ _), grpGo_cons_old (m := (true, c)) (tie_old1 _ ha.symm _ _), ih, ha, take_take]
    · by_cases hlt : c.a < d.a ∨ (c.a = d.a ∧ c.o.length ≤ d.o.length)
      · rw [mrg, if_pos hlt, List.map_cons, mrg, if_neg (by omega)]
        exact grp_one (mrg_tie _ cs (d :: ds) (Nat.le_refl _) c2 hd)
      · rw [mrg, if_neg hlt, List.map_cons, mrg, if_pos (by omega)]
        exact grp_one (mrg_tie _ (c :: cs) ds (Nat.le_refl _) hc d2)
theorem grp_flip1 : ∀ (ms : List (Bool × Cut)), grp (ms.map flipM) = (grp ms).map RunS.flip
  | [] => rfl
  | m :: ms => by
    show grpGo ((RunS.new m.2.a).flip.take (flipM m)) (ms.map flipM) = _
    rw [take_flip, grpGo_flip1]
    rfl
theorem grp_flip {cs ds : List Cut} (hc : RisA cs) (hd : RisA ds) : grp (mrg ds cs) = (grp (mrg cs ds)).map RunS.flip := by
  rw [← grp_flip0 cs ds hc hd, grp_flip1]
theorem outc_flip {A : List D} {r : RunS} (h1 : Items (layTo A r.e r.s r.b)) (h2 : Items (layTo A r.e r.t r.b)) : outc A r.flip = outc A r := by
  unfold outc RunS.flip
  dsimp only
  by_cases e : layTo A r.e r.s r.b = layTo A r.e r.t r.b
  · rw [if_pos (.inr e.symm), if_pos (.inr e), e]
  · have e' : ¬ layTo A r.e r.t r.b = layTo A r.e r.s r.b := fun z => e z.symm
    have hs := iCl_sym (b := (A.take r.e).drop r.b) h2 h1 e'
    by_cases et : r.t = []
    · have es : r.s ≠ [] := fun es => e (by rw [es, et])
      simp [et, es, e, e']
      try
        intro z
        rw [et] at e'
        exact absurd z e'
    · by_cases es : r.s = []
      · simp [et, es, e, e']
        intro z
        rw [es] at e
        exact absurd z e
      · simp only [et, es, e, e', or_self, if_false, hs]
theorem joinGo_flip {A : List D} : ∀ (rs : List RunS) (p : Nat), (∀ r ∈ rs, outc A r.flip = outc A r) → joinGo A (rs.map RunS.flip) p = joinGo A rs p
  | [], _, _ => rfl
  | r :: rs, p, h => by
    show (A.take r.b).drop p ++ outc A r.flip ++ joinGo A (rs.map RunS.flip) r.e = (A.take r.b).drop p ++ outc A r ++ joinGo A rs r.e
    rw [h r List.mem_cons_self, joinGo_flip rs r.e fun x hx => h x (List.mem_cons_of_mem _ hx)]
theorem joinI_sym {A B C : List D} (hA : Its A) (hB : Its B) (hC : Its C) : joinI A C B = joinI A B C := by
  unfold joinI
  rw [grp_flip (chg_fits A B).fin.risA (chg_fits A C).fin.risA]
  exact joinGo_flip _ 0 fun r hr => outc_flip (run_one hA hB hr) (run_oth hA hC hr)
theorem joinW_sym {b o p : D} (ho : Where o) (hp : Where p) : joinW b p o = joinW b o p := by
  unfold joinW
  by_cases e : o = p
  · rw [if_pos (.inl e.symm), if_pos (.inl e), e]
  · have e' : ¬ p = o := fun z => e z.symm
    by_cases eo : o = b
    · have ep : ¬ p = b := fun ep => e (eo.trans ep.symm)
      simp only [e, e', ep, eo, or_true, or_false, if_true, if_false]
      split
      · rename_i h; first | exact h.symm | exact h | exact eo.symm | exact ep.symm | exact ep
      · rfl
    · by_cases ep : p = b
      · simp only [e, e', ep, eo, or_true, or_false, if_true, if_false]
        split
        · rename_i h; first | exact h.symm | exact h | exact eo.symm | exact ep.symm | exact ep
        · rfl
      · simp only [e, e', ep, eo, or_self, if_false]
        exact wCl_sym hp ho e'
theorem joinR_sym {b o p : Rw} (hb : RowV b) (ho : RowV o) (hp : RowV p) : joinR b p o = joinR b o p := by
  unfold joinR
  by_cases e : o = p
  · rw [if_pos (.inl e.symm), if_pos (.inl e), e]
  · have e' : ¬ p = o := fun z => e z.symm
    by_cases eo : o = b
    · have ep : ¬ p = b := fun ep => e (eo.trans ep.symm)
      simp only [e, e', ep, eo, or_true, or_false, if_true, if_false]
      split
      · rename_i h; first | exact h.symm | exact h | exact eo.symm | exact ep.symm | exact ep
      · rfl
    · by_cases ep : p = b
      · simp only [e, e', ep, eo, or_true, or_false, if_true, if_false]
        split
        · rename_i h; first | exact h.symm | exact h | exact eo.symm | exact ep.symm | exact ep
        · rfl
      · simp only [e, e', ep, eo, or_self, if_false]
        by_cases no : o.w = .non
        · have np : ¬ p.w = .non := fun np => e (Rw.ext (no.trans np.symm) ((ho.n no).trans (hp.n np).symm))
          simp only [no, np, if_true, if_false]
          rw [wCl_sym hp.w (.inl (.inl rfl)) np]
        · by_cases np : p.w = .non
          · simp only [no, np, if_true, if_false]
            rw [wCl_sym (.inl (.inl rfl)) ho.w (fun z => no z.symm)]
          · simp only [no, np, if_false]
            rw [joinW_sym ho.w hp.w, joinI_sym hb.i ho.i hp.i]
end Mw
-- part MwN2
set_option maxHeartbeats 4000000
namespace Mw
open PySem PySem.Spec PyProof.Rows L2
def dI : Bool → Int
  | true => 1
  | false => 0
/-- a tuple of at most n things of which P holds -/
def TupP (P : D → Prop) (n : Nat) (d : D) : Prop := ∃ ds, d = .tup ds ∧ (∀ e ∈ ds, P e) ∧ ds.length ≤ n
theorem Path.part {d : D} (h : Path d) : Part d := by
  obtain ⟨s, rfl, hs⟩ := h
  exact .inr ⟨s, rfl, hs⟩
theorem line_item {d : D} (h : Line d) : Item d := .inl h
theorem lines_items {ds : List D} (h : Lines ds) : Items ds := ⟨fun d hd => .inl (h.1 d hd), Nat.le_trans h.2 (by decide)⟩
theorem iCl_item {b o p : List D} (hb : Lines b) (ho : Lines o) (hp : Lines p) : Item (iCl b o p) := by
  unfold iCl
  split
  · exact .inr ⟨b, p, o, rfl, hb, hp, ho⟩
  · exact .inr ⟨b, o, p, rfl, hb, ho, hp⟩
theorem wCl_where {b o p : D} (hb : Part b) (ho : Part o) (hp : Part p) : Where (wCl b o p) := by
  unfold wCl
  split
  · exact .inr ⟨b, p, o, rfl, hb, hp, ho⟩
  · exact .inr ⟨b, o, p, rfl, hb, ho, hp⟩
theorem p_imp {H0 : Hp} {S : List SV} {te : TE} {P P' : D → Prop} (h : EvP H0 S te P) (k : ∀ d, P d → P' d) : EvP H0 S te P' := fun σ H hs Q q => h σ H hs Q fun d v H' hp => q d v H' (k d hp)
theorem two_imp {P P' : D → Prop} (k : ∀ d, P d → P' d) (d : D) (h : TwoP P d) : TwoP P' d := by
  obtain ⟨t, n, e, hp⟩ := h
  exact ⟨t, n, e, k t hp⟩
theorem dep_lines {ds : List D} (h : Lines ds) (e : D) : min (D.tup ds).dep e.dep ≤ 60 := by
  have := lines_deps h
  simp only [D.dep]
  omega
theorem mem_snoc {P : D → Prop} {ds : List D} {x : D} (h : ∀ e ∈ ds, P e) (hx : P x) : ∀ e ∈ ds ++ [x], P e := fun e he => by
  rcases List.mem_append.mp he with z | z
  · exact h e z
  · rw [List.mem_singleton.mp z]; exact hx
/-! _law_item: slots 0 _law_own_here  1 _law_deep  2 _law_base  3 _law_one  4 _law_other   -/
abbrev st_l_item0 : Stmt := topS 49
abbrev N_l_item0 : List Str := ["_law_own_here", "_law_deep", "_law_base", "_law_one", "_law_other"]
theorem sc_l_item0 : FnScope N_l_item0 ["_law_own_here", "_law_deep"] (defScope st_l_item0) := ⟨rfl, rfl, rfl, by decide +kernel, rfl, by decide +kernel, by decide +kernel⟩
abbrev sp_l_item0 : Sp := SpG (α := Int) (fun x => [.dat (.int x), .dat (.int 0)]) (fun _ => True) (fun _ => RP (TwoP Line))
abbrev H_l_item0 (P : Program) (w : World) (K : PySem.W.Frag) (mg : Str → Option Value) (base : Heap) : Prop := Has P w K mg base 2 "_law_item" ["_law_own_here", "_law_deep"] (sp_l_item0)
theorem has_l_item0 {P : Program} {w : World} {K : PySem.W.Frag} {mg : Str → Option Value} {base : Heap} (B : Gs mg) (F : DefAt K mg "_law_item" st_l_item0) (G_l_line : H_l_line P w K mg base)  : H_l_item0 P w K mg base :=
  F.hasG sc_l_item0 (fun _ _ _ _ _ _ us hl => match us, hl with | [_, _], _ => rfl) (fun _ => rfl) fun f cdv A outer s H E hr => by
    have hu := room64 hr
    have hu1 := hu_of hr
    refine ⟨_, (pss_cons (ps_if (PW.pt (pw_or (pt_cmpR (op_eqK (K := K) rfl hu) (pv 1) pe_int (nomark _)) (pw_or1 (pt_cmpR op_gt (pe_op op_mod (pv 0) pe_int) pe_int (nomark _)))))
        (pss_one (ps_ret (pe_has G_l_line hr (by decide) (by rfl) (pa_cons (pe_op op_fdiv (pv 0) pe_int) pa_nil))))
        pss_nil)
      (pss_cons ps_never
      (pss_cons ps_never
      (pss_cons ps_never
      (pss_cons ps_never
      (pss_one ps_never)))))), fun x hp H R q => ?_⟩
    refine s_seq (s_if (b := true) (t_is (t_or (a := true) (b := true) (t_cB (x_eq (x_vd rfl) x_ci (depI _ _)) (decide_eq_true rfl)) (fun z => nomatch z)) rfl) (fun _ => ?_) (fun z => nomatch z))
    exact r_P q (p_callP (x / 8) (a_cons (x_div (x_vd rfl) x_ci ⟨by decide, by decide⟩) a_nil) trivial rfl) (fun _ z => z)
/-! _law_items: slots 0 _law_own_here  1 _law_most  2 _law_deep  3 _law_many  4 _law_found  5 _law_k  6 _law_item_here   -/
abbrev st_l_items0 : Stmt := topS 50
abbrev N_l_items0 : List Str := ["_law_own_here", "_law_most", "_law_deep", "_law_many", "_law_found", "_law_k", "_law_item_here"]
theorem sc_l_items0 : FnScope N_l_items0 ["_law_own_here", "_law_most", "_law_deep"] (defScope st_l_items0) := ⟨rfl, rfl, rfl, by decide +kernel, rfl, by decide +kernel, by decide +kernel⟩
abbrev sp_l_items0 : Sp := SpG (α := Int × Nat) (fun x => [.dat (.int x.1), .dat (.int (x.2 : Int)), .dat (.int 0)]) (fun x => x.2 ≤ 4) (fun x => RP (TwoP (TupP Line x.2)))
abbrev H_l_items0 (P : Program) (w : World) (K : PySem.W.Frag) (mg : Str → Option Value) (base : Heap) : Prop := Has P w K mg base 3 "_law_items" ["_law_own_here", "_law_most", "_law_deep"] (sp_l_items0)
theorem has_l_items0 {P : Program} {w : World} {K : PySem.W.Frag} {mg : Str → Option Value} {base : Heap} (B : Gs mg) (F : DefAt K mg "_law_items" st_l_items0) (G_l_item0 : H_l_item0 P w K mg base)  : H_l_items0 P w K mg base :=
  F.hasG sc_l_items0 (fun _ _ _ _ _ _ us hl => match us, hl with | [_, _, _], _ => rfl) (fun _ => rfl) fun f cdv A outer s H E hr => by
    have hu := room64 hr
    have hu1 := hu_of hr
    refine ⟨_, (pss_cons (ps_set (i := 3) sc_l_items0.nd rfl (Or.inl rfl) (pe_op op_mod (pv 0) (pe_op (op_addK (K := K) rfl) (pv 1) pe_int)))
      (pss_cons (ps_set (i := 0) sc_l_items0.nd rfl (Or.inl rfl) (pe_op op_fdiv (pv 0) (pe_op (op_addK (K := K) rfl) (pv 1) pe_int)))
      (pss_cons (ps_set (i := 4) sc_l_items0.nd rfl (Or.inl rfl) (pe_lst pa_nil))
      (pss_cons (ps_for PassesOwn.never rfl (pi_range1 (by rfl) B.range (pa_cons (pv 3) pa_nil)) (pg_name (i := 5) sc_l_items0.nd rfl (Or.inl rfl))
        (pss_cons (ps_asg (pe_has G_l_item0 hr (by decide) (by rfl) (pa_cons (pv 0) (pa_cons (pv 2) pa_nil))) (pg_tup (by rfl) (pgs_cons (pg_name (i := 6) sc_l_items0.nd rfl (Or.inl rfl)) (pgs_cons (pg_name (i := 0) sc_l_items0.nd rfl (Or.inl rfl)) pgs_nil))))
        (pss_one (ps_expr (pe_bm PySem.F.plainAttrs_list PySem.F.slot_list_append PySem.F.type_list_append mt_append (pv 4) (pa_cons (pv 6) pa_nil))))))
      (pss_one (ps_ret (pe_tup (pa_cons (pe_callTy (call_tupK (K := K) rfl) (by rfl) B.tuple b_tuple (pa_cons (pv 4) pa_nil)) (pa_cons (pv 0) pa_nil))))))))), fun x hp H R q => ?_⟩
    obtain ⟨x, m⟩ := x
    have hp : m ≤ 4 := hp
    dsimp only at q ⊢
    have hb := mod_bd x (m := (m : Int) + 1) (by omega)
    refine s_seq (s_asg (x_mod (x_vd rfl) (x_addI (x_vd rfl) x_ci) (by omega)) ?_)
    refine s_seq (s_asg (x_div (x_vd rfl) (x_addI (x_vd rfl) x_ci) ⟨by omega, by omega⟩) ?_)
    refine s_seq (s_asgN (n_lst d_nil (sz 0 rfl)) ?_)
    generalize x % ((m : Int) + 1) = z at hb ⊢
    refine s_seq (s_forR1 (n := z) (x_vd rfl) (by omega) (fun i S' => ∃ (ds : List D) (n : Int) (u v : SV), S' = [.dat (.int n), .dat (.int (m : Int)), .dat (.int 0), .dat (.int z), .own ds, u, v] ∧ (∀ e ∈ ds, Line e) ∧ ds.length = i) ⟨_, _, _, _, rfl, fun e he => nomem he, rfl⟩ ?_ ?_)
    · rintro H1 e1 i S' hi ⟨ds, n, u, v, rfl, h1, h2⟩
      refine s_seq (s_asg2P (p_callP n (a_cons (x_vd rfl) (a_cons (x_vd rfl) a_nil)) trivial rfl) fun t n2 ht => ?_)
      exact s_app rfl (x_vd rfl) (by rw [sizeLine_eq]; omega) ⟨_, _, _, _, rfl, mem_snoc h1 ht, by rw [List.length_append, h2]; rfl⟩
    · rintro H1 e1 S' ⟨ds, n, u, v, rfl, h1, h2⟩
      exact r_P (q.upP e1) (EvX.p (x_tup (d_cons (x_tupL (x_vo rfl)) (d_cons (x_vd rfl) d_nil)) (sz 2 rfl)) ⟨_, _, rfl, ds, rfl, h1, by omega⟩) (fun _ z => z)
/-! _law_item: slots 0 _law_own_here  1 _law_deep  2 _law_base  3 _law_one  4 _law_other   -/
abbrev st_l_item : Stmt := topS 49
abbrev N_l_item : List Str := ["_law_own_here", "_law_deep", "_law_base", "_law_one", "_law_other"]
theorem sc_l_item : FnScope N_l_item ["_law_own_here", "_law_deep"] (defScope st_l_item) := ⟨rfl, rfl, rfl, by decide +kernel, rfl, by decide +kernel, by decide +kernel⟩
abbrev sp_l_item : Sp := SpG (α := Int × Bool) (fun x => [.dat (.int x.1), .dat (.int (dI x.2))]) (fun _ => True) (fun _ => RP (TwoP Item))
abbrev H_l_item (P : Program) (w : World) (K : PySem.W.Frag) (mg : Str → Option Value) (base : Heap) : Prop := Has P w K mg base 4 "_law_item" ["_law_own_here", "_law_deep"] (sp_l_item)
theorem has_l_item {P : Program} {w : World} {K : PySem.W.Frag} {mg : Str → Option Value} {base : Heap} (B : Gs mg) (F : DefAt K mg "_law_item" st_l_item) (G_l_clash : H_l_clash P w K mg base) (G_l_items0 : H_l_items0 P w K mg base) (G_l_line : H_l_line P w K mg base)  : H_l_item P w K mg base :=
  F.hasG sc_l_item (fun _ _ _ _ _ _ us hl => match us, hl with | [_, _], _ => rfl) (fun _ => rfl) fun f cdv A outer s H E hr => by
    have hu := room64 hr
    have hu1 := hu_of hr
    refine ⟨_, (pss_cons (ps_if (PW.pt (pw_or (pt_cmpR (op_eqK (K := K) rfl hu) (pv 1) pe_int (nomark _)) (pw_or1 (pt_cmpR op_gt (pe_op op_mod (pv 0) pe_int) pe_int (nomark _)))))
        (pss_one (ps_ret (pe_has G_l_line hr (by decide) (by rfl) (pa_cons (pe_op op_fdiv (pv 0) pe_int) pa_nil))))
        pss_nil)
      (pss_cons (ps_asg (pe_has G_l_items0 hr (by decide) (by rfl) (pa_cons (pe_op op_fdiv (pv 0) pe_int) (pa_cons pe_int (pa_cons (pe_op op_sub (pv 1) pe_int) pa_nil)))) (pg_tup (by rfl) (pgs_cons (pg_name (i := 2) sc_l_item.nd rfl (Or.inl rfl)) (pgs_cons (pg_name (i := 0) sc_l_item.nd rfl (Or.inl rfl)) pgs_nil))))
      (pss_cons (ps_asg (pe_has G_l_items0 hr (by decide) (by rfl) (pa_cons (pv 0) (pa_cons pe_int (pa_cons (pe_op op_sub (pv 1) pe_int) pa_nil)))) (pg_tup (by rfl) (pgs_cons (pg_name (i := 3) sc_l_item.nd rfl (Or.inl rfl)) (pgs_cons (pg_name (i := 0) sc_l_item.nd rfl (Or.inl rfl)) pgs_nil))))
      (pss_cons (ps_asg (pe_has G_l_items0 hr (by decide) (by rfl) (pa_cons (pv 0) (pa_cons pe_int (pa_cons (pe_op op_sub (pv 1) pe_int) pa_nil)))) (pg_tup (by rfl) (pgs_cons (pg_name (i := 4) sc_l_item.nd rfl (Or.inl rfl)) (pgs_cons (pg_name (i := 0) sc_l_item.nd rfl (Or.inl rfl)) pgs_nil))))
      (pss_cons (ps_if (pt_cmpR (op_eqK (K := K) rfl hu) (pv 3) (pv 4) (nomark _))
        (pss_one (ps_set (i := 4) sc_l_item.nd rfl (Or.inl rfl) (pe_op (op_addK (K := K) rfl) (pv 4) (pe_tup (pa_cons pe_str pa_nil)))))
        pss_nil)
      (pss_one (ps_ret (pe_tup (pa_cons (pe_has G_l_clash hr (by decide) (by rfl) (pa_cons (pv 2) (pa_cons (pv 3) (pa_cons (pv 4) pa_nil)))) (pa_cons (pv 0) pa_nil)))))))))), fun x hp H R q => ?_⟩
    obtain ⟨x, b⟩ := x
    dsimp only at q ⊢
    refine s_seq (s_if (b := decide (D.int (dI b) = D.int 0) || decide (0 < x % 8)) (t_or (t_cmp (x_eq (x_vd rfl) x_ci (depI _ _))) fun _ => t_cmp (x_gt (x_mod (x_vd rfl) x_ci (by decide)) x_ci)) (fun _ => ?_) (fun h => s_next ?_))
    · exact r_P q (p_callP (x / 8) (a_cons (x_div (x_vd rfl) x_ci ⟨by decide, by decide⟩) a_nil) trivial rfl) (two_imp fun _ => line_item)
    cases b with
    | false => exact absurd h (by rw [show decide (D.int (dI false) = D.int 0) = true from decide_eq_true rfl]; exact Bool.noConfusion)
    | true =>
      refine s_seq (s_asg2P (p_callP (x / 8, 3) (a_cons (x_div (x_vd rfl) x_ci ⟨by decide, by decide⟩) (a_cons x_ci (a_cons (EvX.is (x_sub (i := 1) (x_vd rfl) x_ci) rfl) a_nil))) (by show 3 ≤ 4; decide) rfl) fun t1 n1 h1 => ?_)
      refine s_seq (s_asg2P (p_callP (n1, 3) (a_cons (x_vd rfl) (a_cons x_ci (a_cons (EvX.is (x_sub (i := 1) (x_vd rfl) x_ci) rfl) a_nil))) (by show 3 ≤ 4; decide) rfl) fun t2 n2 h2 => ?_)
      refine s_seq (s_asg2P (p_callP (n2, 3) (a_cons (x_vd rfl) (a_cons x_ci (a_cons (EvX.is (x_sub (i := 1) (x_vd rfl) x_ci) rfl) a_nil))) (by show 3 ≤ 4; decide) rfl) fun t3 n3 h3 => ?_)
      obtain ⟨b, rfl, b1, b2⟩ := h1
      obtain ⟨o, rfl, o1, o2⟩ := h2
      obtain ⟨p, rfl, p1, p2⟩ := h3
      have b2 : b.length ≤ 3 := b2
      have o2 : o.length ≤ 3 := o2
      have p2 : p.length ≤ 3 := p2
      have ho : Lines o := ⟨o1, by omega⟩
      have hb : Lines b := ⟨b1, by omega⟩
      refine s_cut (fun _ S' => ∃ p', Lines p' ∧ S' = [.dat (.int n3), .dat (.int 1), .dat (.tup b), .dat (.tup o), .dat (.tup p')]) ?_ ?_
      · refine s_if (t_cmp (x_eq (x_vd rfl) (x_vd rfl) (dep_lines ho _))) (fun _ => ?_) (fun _ => s_next ⟨p, ⟨p1, by omega⟩, rfl⟩)
        exact s_asg (x_addT (x_vd rfl) (x_tup (d_cons x_cs d_nil) (sz 1 rfl)) (sizeL (by rw [List.length_singleton]; omega))) ⟨_, ⟨mem_snoc p1 ⟨"z", rfl, by decide +kernel⟩, by rw [List.length_append, List.length_singleton]; omega⟩, rfl⟩
      · rintro H1 S' e1 ⟨p', hp', rfl⟩
        exact r_P (q.upP e1) (EvX.p (x_tup (d_cons (x_callD (b, o, p') (a_cons (x_vd rfl) (a_cons (x_vd rfl) (a_cons (x_vd rfl) a_nil))) ⟨lines_items ho, lines_items hp'⟩ rfl) (d_cons (x_vd rfl) d_nil)) (sz 2 rfl)) ⟨_, _, rfl, iCl_item hb ho hp'⟩) (fun _ z => z)
/-! _law_items: slots 0 _law_own_here  1 _law_most  2 _law_deep  3 _law_many  4 _law_found  5 _law_k  6 _law_item_here   -/
abbrev st_l_items : Stmt := topS 50
abbrev N_l_items : List Str := ["_law_own_here", "_law_most", "_law_deep", "_law_many", "_law_found", "_law_k", "_law_item_here"]
theorem sc_l_items : FnScope N_l_items ["_law_own_here", "_law_most", "_law_deep"] (defScope st_l_items) := ⟨rfl, rfl, rfl, by decide +kernel, rfl, by decide +kernel, by decide +kernel⟩
abbrev sp_l_items : Sp := SpG (α := Int × Nat × Bool) (fun x => [.dat (.int x.1), .dat (.int (x.2.1 : Int)), .dat (.int (dI x.2.2))]) (fun x => x.2.1 ≤ 4) (fun x => RP (TwoP (TupP Item x.2.1)))
abbrev H_l_items (P : Program) (w : World) (K : PySem.W.Frag) (mg : Str → Option Value) (base : Heap) : Prop := Has P w K mg base 5 "_law_items" ["_law_own_here", "_law_most", "_law_deep"] (sp_l_items)
theorem has_l_items {P : Program} {w : World} {K : PySem.W.Frag} {mg : Str → Option Value} {base : Heap} (B : Gs mg) (F : DefAt K mg "_law_items" st_l_items) (G_l_item : H_l_item P w K mg base)  : H_l_items P w K mg base :=
  F.hasG sc_l_items (fun _ _ _ _ _ _ us hl => match us, hl with | [_, _, _], _ => rfl) (fun _ => rfl) fun f cdv A outer s H E hr => by
    have hu := room64 hr
    have hu1 := hu_of hr
    refine ⟨_, (pss_cons (ps_set (i := 3) sc_l_items.nd rfl (Or.inl rfl) (pe_op op_mod (pv 0) (pe_op (op_addK (K := K) rfl) (pv 1) pe_int)))
      (pss_cons (ps_set (i := 0) sc_l_items.nd rfl (Or.inl rfl) (pe_op op_fdiv (pv 0) (pe_op (op_addK (K := K) rfl) (pv 1) pe_int)))
      (pss_cons (ps_set (i := 4) sc_l_items.nd rfl (Or.inl rfl) (pe_lst pa_nil))
      (pss_cons (ps_for PassesOwn.never rfl (pi_range1 (by rfl) B.range (pa_cons (pv 3) pa_nil)) (pg_name (i := 5) sc_l_items.nd rfl (Or.inl rfl))
        (pss_cons (ps_asg (pe_has G_l_item hr (by decide) (by rfl) (pa_cons (pv 0) (pa_cons (pv 2) pa_nil))) (pg_tup (by rfl) (pgs_cons (pg_name (i := 6) sc_l_items.nd rfl (Or.inl rfl)) (pgs_cons (pg_name (i := 0) sc_l_items.nd rfl (Or.inl rfl)) pgs_nil))))
        (pss_one (ps_expr (pe_bm PySem.F.plainAttrs_list PySem.F.slot_list_append PySem.F.type_list_append mt_append (pv 4) (pa_cons (pv 6) pa_nil))))))
      (pss_one (ps_ret (pe_tup (pa_cons (pe_callTy (call_tupK (K := K) rfl) (by rfl) B.tuple b_tuple (pa_cons (pv 4) pa_nil)) (pa_cons (pv 0) pa_nil))))))))), fun x hp H R q => ?_⟩
    obtain ⟨x, m, b⟩ := x
    have hp : m ≤ 4 := hp
    dsimp only at q ⊢
    have hb := mod_bd x (m := (m : Int) + 1) (by omega)
    refine s_seq (s_asg (x_mod (x_vd rfl) (x_addI (x_vd rfl) x_ci) (by omega)) ?_)
    refine s_seq (s_asg (x_div (x_vd rfl) (x_addI (x_vd rfl) x_ci) ⟨by omega, by omega⟩) ?_)
    refine s_seq (s_asgN (n_lst d_nil (sz 0 rfl)) ?_)
    generalize x % ((m : Int) + 1) = z at hb ⊢
    refine s_seq (s_forR1 (n := z) (x_vd rfl) (by omega) (fun i S' => ∃ (ds : List D) (n : Int) (u v : SV), S' = [.dat (.int n), .dat (.int (m : Int)), .dat (.int (dI b)), .dat (.int z), .own ds, u, v] ∧ (∀ e ∈ ds, Item e) ∧ ds.length = i) ⟨_, _, _, _, rfl, fun e he => nomem he, rfl⟩ ?_ ?_)
    · rintro H1 e1 i S' hi ⟨ds, n, u, v, rfl, h1, h2⟩
      refine s_seq (s_asg2P (p_callP (n, b) (a_cons (x_vd rfl) (a_cons (x_vd rfl) a_nil)) trivial rfl) fun t n2 ht => ?_)
      exact s_app rfl (x_vd rfl) (by rw [sizeLine_eq]; omega) ⟨_, _, _, _, rfl, mem_snoc h1 ht, by rw [List.length_append, h2]; rfl⟩
    · rintro H1 e1 S' ⟨ds, n, u, v, rfl, h1, h2⟩
      exact r_P (q.upP e1) (EvX.p (x_tup (d_cons (x_tupL (x_vo rfl)) (d_cons (x_vd rfl) d_nil)) (sz 2 rfl)) ⟨_, _, rfl, ds, rfl, h1, by omega⟩) (fun _ z => z)
/-! _law_edited: slots 0 _law_items_here  1 _law_own_here  2 _law_deep  3 _law_found  4 _law_item_here  5 _law_way  6 _law_more   -/
abbrev st_l_edited : Stmt := topS 51
abbrev N_l_edited : List Str := ["_law_items_here", "_law_own_here", "_law_deep", "_law_found", "_law_item_here", "_law_way", "_law_more"]
theorem sc_l_edited : FnScope N_l_edited ["_law_items_here", "_law_own_here", "_law_deep"] (defScope st_l_edited) := ⟨rfl, rfl, rfl, by decide +kernel, rfl, by decide +kernel, by decide +kernel⟩
abbrev sp_l_edited : Sp := SpG (α := List D × Int × Bool) (fun x => [.dat (.tup x.1), .dat (.int x.2.1), .dat (.int (dI x.2.2))]) (fun x => (∀ e ∈ x.1, Item e) ∧ x.1.length ≤ 12) (fun x => RP (TupP Item (2 * x.1.length + 1)))
abbrev H_l_edited (P : Program) (w : World) (K : PySem.W.Frag) (mg : Str → Option Value) (base : Heap) : Prop := Has P w K mg base 5 "_law_edited" ["_law_items_here", "_law_own_here", "_law_deep"] (sp_l_edited)
theorem has_l_edited {P : Program} {w : World} {K : PySem.W.Frag} {mg : Str → Option Value} {base : Heap} (B : Gs mg) (F : DefAt K mg "_law_edited" st_l_edited) (G_l_item : H_l_item P w K mg base)  : H_l_edited P w K mg base :=
  F.hasG sc_l_edited (fun _ _ _ _ _ _ us hl => match us, hl with | [_, _, _], _ => rfl) (fun _ => rfl) fun f cdv A outer s H E hr => by
    have hu := room64 hr
    have hu1 := hu_of hr
    refine ⟨_, (pss_cons (ps_set (i := 3) sc_l_edited.nd rfl (Or.inl rfl) (pe_lst pa_nil))
      (pss_cons (ps_for PassesOwn.never rfl (pi_tup (pv 0)) (pg_name (i := 4) sc_l_edited.nd rfl (Or.inl rfl))
        (pss_cons (ps_set (i := 5) sc_l_edited.nd rfl (Or.inl rfl) (pe_op op_mod (pv 1) pe_int))
        (pss_cons (ps_set (i := 1) sc_l_edited.nd rfl (Or.inl rfl) (pe_op op_fdiv (pv 1) pe_int))
        (pss_cons (ps_if (pt_cmpR (op_inK (K := K) rfl hu) (pv 5) (pe_tup (pa_cons pe_int (pa_cons pe_int pa_nil))) rfl)
          (pss_cons (ps_asg (pe_has G_l_item hr (by decide) (by rfl) (pa_cons (pv 1) (pa_cons (pv 2) pa_nil))) (pg_tup (by rfl) (pgs_cons (pg_name (i := 6) sc_l_edited.nd rfl (Or.inl rfl)) (pgs_cons (pg_name (i := 1) sc_l_edited.nd rfl (Or.inl rfl)) pgs_nil))))
          (pss_one (ps_expr (pe_bm PySem.F.plainAttrs_list PySem.F.slot_list_append PySem.F.type_list_append mt_append (pv 3) (pa_cons (pv 6) pa_nil)))))
          pss_nil)
        (pss_cons (ps_if (PW.pt (pw_or (pt_cmpR (op_eqK (K := K) rfl hu) (pv 5) pe_int (nomark _)) (pw_or (pt_cmpR op_gt (pv 5) pe_int (nomark _)) (pw_or1 (pt_cmpR (op_eqK (K := K) rfl hu) (pv 5) pe_int (nomark _))))))
          (pss_one (ps_expr (pe_bm PySem.F.plainAttrs_list PySem.F.slot_list_append PySem.F.type_list_append mt_append (pv 3) (pa_cons (pv 4) pa_nil))))
          pss_nil)
        (pss_one (ps_if (pt_cmpR (op_eqK (K := K) rfl hu) (pv 5) pe_int (nomark _))
          (pss_one (ps_expr (pe_bm PySem.F.plainAttrs_list PySem.F.slot_list_append PySem.F.type_list_append mt_append (pv 3) (pa_cons (pv 4) pa_nil))))
          pss_nil)))))))
      (pss_cons (ps_if (pt_cmpR (op_eqK (K := K) rfl hu) (pe_op op_mod (pv 1) pe_int) pe_int (nomark _))
        (pss_cons (ps_asg (pe_has G_l_item hr (by decide) (by rfl) (pa_cons (pe_op op_fdiv (pv 1) pe_int) (pa_cons (pv 2) pa_nil))) (pg_tup (by rfl) (pgs_cons (pg_name (i := 6) sc_l_edited.nd rfl (Or.inl rfl)) (pgs_cons (pg_name (i := 1) sc_l_edited.nd rfl (Or.inl rfl)) pgs_nil))))
        (pss_one (ps_expr (pe_bm PySem.F.plainAttrs_list PySem.F.slot_list_append PySem.F.type_list_append mt_append (pv 3) (pa_cons (pv 6) pa_nil)))))
        pss_nil)
      (pss_one (ps_ret (pe_callTy (call_tupK (K := K) rfl) (by rfl) B.tuple b_tuple (pa_cons (pv 3) pa_nil))))))), fun x hp H R q => ?_⟩
    obtain ⟨xs, x, b⟩ := x
    obtain ⟨hx, hz⟩ := hp
    dsimp only at q hx hz ⊢
    refine s_seq (s_asgN (n_lst d_nil (sz 0 rfl)) ?_)
    refine s_seq (s_forT (xs := xs) (js := [4]) (x_vd rfl) (fun i S' => ∃ (ds : List D) (n : Int) (u v w : SV), S' = [.dat (.tup xs), .dat (.int n), .dat (.int (dI b)), .own ds, u, v, w] ∧ (∀ e ∈ ds, Item e) ∧ ds.length ≤ 2 * i) ⟨_, _, _, _, _, rfl, fun e he => nomem he, Nat.le_refl _⟩ ?_ ?_)
    · rintro H1 e1 i y S' hy ⟨ds, n, u, v, w, rfl, h1, h2⟩
      have hyi := hx y (List.mem_of_getElem? hy)
      have hil := (List.getElem?_eq_some_iff.mp hy).1
      refine ⟨_, g_name, ?_⟩
      refine s_seq (s_asg (x_mod (x_vd rfl) x_ci (by decide)) ?_)
      refine s_seq (s_asg (x_div (x_vd rfl) x_ci ⟨by decide, by decide⟩) ?_)
      generalize n % 9 = wy
      refine s_cut (fun _ S' => ∃ (ds : List D) (n : Int) (w : SV), S' = [.dat (.tup xs), .dat (.int n), .dat (.int (dI b)), .own ds, .dat y, .dat (.int wy), w] ∧ (∀ e ∈ ds, Item e) ∧ ds.length ≤ 2 * i + (if wy = 1 ∨ wy = 2 then 1 else 0)) ?_ ?_
      · refine s_if (b := decide (wy = 1 ∨ wy = 2)) (t_cB (x_inT (x_vd rfl) (x_tup (d_cons x_ci (d_cons x_ci d_nil)) (sz 2 rfl)) (by simp [D.dep])) ?_) (fun h => ?_) (fun h => s_next ⟨_, _, _, rfl, h1, by omega⟩)
        · exact decide_eq_decide.mpr (by simp)
        · have h := of_decide_eq_true h
          refine s_seq (s_asg2P (p_callP (n / 9, b) (a_cons (x_vd rfl) (a_cons (x_vd rfl) a_nil)) trivial rfl) fun t n2 ht => ?_)
          exact s_app rfl (x_vd rfl) (by rw [sizeLine_eq]; omega) ⟨_, _, _, rfl, mem_snoc h1 ht, by rw [List.length_append, List.length_singleton, if_pos h]; omega⟩
      rintro H2 S' e2 ⟨ds2, n2, w2, rfl, k1, k2⟩
      have k3 : ds2.length ≤ 2 * i + 1 := Nat.le_trans k2 (Nat.add_le_add_left (by split <;> omega) _)
      refine s_cut (fun _ S' => ∃ (ds : List D) (n : Int) (w : SV), S' = [.dat (.tup xs), .dat (.int n), .dat (.int (dI b)), .own ds, .dat y, .dat (.int wy), w] ∧ (∀ e ∈ ds, Item e) ∧ ds.length ≤ ds2.length + (if wy = 3 ∨ wy > 3 ∨ wy = 1 then 1 else 0)) ?_ ?_
      · refine s_if (b := decide (wy = 3) || (decide (3 < wy) || decide (wy = 1))) (t_or (t_cB (x_eq (x_vd rfl) x_ci (depI _ _)) (decI _ _)) fun _ => t_or (t_cmp (x_gt (x_vd rfl) x_ci)) fun _ => t_cB (x_eq (x_vd rfl) x_ci (depI _ _)) (decI _ _)) (fun h => ?_) (fun h => s_next ⟨_, _, _, rfl, k1, by omega⟩)
        have h : wy = 3 ∨ wy > 3 ∨ wy = 1 := by simpa using h
        exact s_app rfl (x_vd rfl) (by rw [sizeLine_eq]; omega) ⟨_, _, _, rfl, mem_snoc k1 hyi, by rw [List.length_append, List.length_singleton, if_pos h]; exact Nat.le_refl _⟩
      rintro H3 S' e3 ⟨ds3, n3, w3, rfl, j1, j2⟩
      have j3 : ds3.length ≤ ds2.length + 1 := Nat.le_trans j2 (Nat.add_le_add_left (by split <;> omega) _)
      refine s_if (b := decide (wy = 3)) (t_cB (x_eq (x_vd rfl) x_ci (depI _ _)) (decI _ _)) (fun h => ?_) (fun h => s_next ⟨_, _, _, _, _, rfl, j1, ?_⟩)
      · have h := of_decide_eq_true h
        refine s_app rfl (x_vd rfl) (by rw [sizeLine_eq]; omega) ⟨_, _, _, _, _, rfl, mem_snoc j1 hyi, ?_⟩
        rw [List.length_append, List.length_singleton]
        rw [if_neg (by omega)] at k2
        omega
      · omega
    · rintro H1 e1 S' ⟨ds, n, u, v, w, rfl, h1, h2⟩
      refine s_cut (fun _ S' => ∃ (ds : List D) (n : Int) (u v w : SV), S' = [.dat (.tup xs), .dat (.int n), .dat (.int (dI b)), .own ds, u, v, w] ∧ (∀ e ∈ ds, Item e) ∧ ds.length ≤ 2 * xs.length + 1) ?_ ?_
      · refine s_if (t_cmp (x_eq (x_mod (x_vd rfl) x_ci (by decide)) x_ci (depI _ _))) (fun _ => ?_) (fun _ => s_next ⟨_, _, _, _, _, rfl, h1, by omega⟩)
        refine s_seq (s_asg2P (p_callP (n / 3, b) (a_cons (x_div (x_vd rfl) x_ci ⟨by decide, by decide⟩) (a_cons (x_vd rfl) a_nil)) trivial rfl) fun t n2 ht => ?_)
        exact s_app rfl (x_vd rfl) (by rw [sizeLine_eq]; omega) ⟨_, _, _, _, _, rfl, mem_snoc h1 ht, by rw [List.length_append, List.length_singleton]; omega⟩
      · rintro H2 S' e2 ⟨ds2, n2, u2, v2, w2, rfl, k1, k2⟩
        exact r_P (q.upP (e1.trans e2)) (EvX.p (x_tupL (x_vo rfl)) ⟨_, rfl, k1, k2⟩) (fun _ z => z)
end Mw
-- part MwN3
set_option maxHeartbeats 4000000
namespace Mw
open PySem PySem.Spec PyProof.Rows L2
/-- a row with at most n items -/
structure RowN (n : Nat) (x : Rw) : Prop where
  v : RowV x
  l : x.i.length ≤ n
theorem RowN.up {n m : Nat} {x : Rw} (h : RowN n x) (k : n ≤ m) : RowN m x := ⟨h.v, Nat.le_trans h.l k⟩
theorem rowN_none (n : Nat) : RowN n Rw.none := ⟨rowV_none, Nat.zero_le _⟩
def RowP (n : Nat) (d : D) : Prop := ∃ x : Rw, d = x.d ∧ RowN n x
theorem rowN_mk {w : D} {ds : List D} {n : Nat} (hw : Where w) (hn : w ≠ .non) (hi : ∀ e ∈ ds, Item e) (hl : ds.length ≤ n) (h25 : n ≤ 25) : RowN n ⟨w, ds⟩ := ⟨⟨hw, ⟨hi, Nat.le_trans hl h25⟩, fun z => absurd z hn⟩, hl⟩
def WhereS (d : D) : Prop := Where d ∧ d ≠ .non
theorem Path.whereS {d : D} (h : Path d) : WhereS d := by
  obtain ⟨s, rfl, hs⟩ := h
  exact ⟨.inl (.inr ⟨s, rfl, hs⟩), fun z => nomatch z⟩
theorem wCl_nn (b o p : D) : wCl b o p ≠ .non := by
  unfold wCl
  split <;> exact fun z => nomatch z
theorem dep_part {d : D} (h : Part d) (e : D) : min d.dep e.dep ≤ 60 := by rw [part_dep h]; omega
/-! _law_where: slots 0 _law_own_here  1 _law_deep  2 _law_some  3 _law_k  4 _law_part   -/
abbrev st_l_where0 : Stmt := topS 59
abbrev N_l_where0 : List Str := ["_law_own_here", "_law_deep", "_law_some", "_law_k", "_law_part"]
theorem sc_l_where0 : FnScope N_l_where0 ["_law_own_here", "_law_deep"] (defScope st_l_where0) := ⟨rfl, rfl, rfl, by decide +kernel, rfl, by decide +kernel, by decide +kernel⟩
abbrev sp_l_where0 : Sp := SpG (α := Int) (fun x => [.dat (.int x), .dat (.int 0)]) (fun _ => True) (fun _ => RP (TwoP Path))
abbrev H_l_where0 (P : Program) (w : World) (K : PySem.W.Frag) (mg : Str → Option Value) (base : Heap) : Prop := Has P w K mg base 2 "_law_where" ["_law_own_here", "_law_deep"] (sp_l_where0)
theorem has_l_where0 {P : Program} {w : World} {K : PySem.W.Frag} {mg : Str → Option Value} {base : Heap} (B : Gs mg) (F : DefAt K mg "_law_where" st_l_where0) (G_l_path : H_l_path P w K mg base)  : H_l_where0 P w K mg base :=
  F.hasG sc_l_where0 (fun _ _ _ _ _ _ us hl => match us, hl with | [_, _], _ => rfl) (fun _ => rfl) fun f cdv A outer s H E hr => by
    have hu := room64 hr
    have hu1 := hu_of hr
    refine ⟨_, (pss_cons (ps_if (PW.pt (pw_or (pt_cmpR (op_eqK (K := K) rfl hu) (pv 1) pe_int (nomark _)) (pw_or1 (pt_cmpR op_gt (pe_op op_mod (pv 0) pe_int) pe_int (nomark _)))))
        (pss_one (ps_ret (pe_has G_l_path hr (by decide) (by rfl) (pa_cons (pe_op op_fdiv (pv 0) pe_int) pa_nil))))
        pss_nil)
      (pss_cons ps_never
      (pss_cons ps_never
      (pss_cons ps_never
      (pss_cons ps_never
      (pss_one ps_never)))))), fun x hp H R q => ?_⟩
    refine s_seq (s_if (b := true) (t_is (t_or (a := true) (b := true) (t_cB (x_eq (x_vd rfl) x_ci (depI _ _)) (decide_eq_true rfl)) (fun z => nomatch z)) rfl) (fun _ => ?_) (fun z => nomatch z))
    exact r_P q (p_callP (x / 4) (a_cons (x_div (x_vd rfl) x_ci ⟨by decide, by decide⟩) a_nil) trivial rfl) (fun _ z => z)
/-! _law_where: slots 0 _law_own_here  1 _law_deep  2 _law_some  3 _law_k  4 _law_part   -/
abbrev st_l_where : Stmt := topS 59
abbrev N_l_where : List Str := ["_law_own_here", "_law_deep", "_law_some", "_law_k", "_law_part"]
theorem sc_l_where : FnScope N_l_where ["_law_own_here", "_law_deep"] (defScope st_l_where) := ⟨rfl, rfl, rfl, by decide +kernel, rfl, by decide +kernel, by decide +kernel⟩
abbrev sp_l_where : Sp := SpG (α := Int × Bool) (fun x => [.dat (.int x.1), .dat (.int (dI x.2))]) (fun _ => True) (fun _ => RP (TwoP WhereS))
abbrev H_l_where (P : Program) (w : World) (K : PySem.W.Frag) (mg : Str → Option Value) (base : Heap) : Prop := Has P w K mg base 4 "_law_where" ["_law_own_here", "_law_deep"] (sp_l_where)
theorem has_l_where {P : Program} {w : World} {K : PySem.W.Frag} {mg : Str → Option Value} {base : Heap} (B : Gs mg) (F : DefAt K mg "_law_where" st_l_where) (G_l_path : H_l_path P w K mg base) (G_l_where0 : H_l_where0 P w K mg base) (G_l_where_clash : H_l_where_clash P w K mg base)  : H_l_where P w K mg base :=
  F.hasG sc_l_where (fun _ _ _ _ _ _ us hl => match us, hl with | [_, _], _ => rfl) (fun _ => rfl) fun f cdv A outer s H E hr => by
    have hu := room64 hr
    have hu1 := hu_of hr
    refine ⟨_, (pss_cons (ps_if (PW.pt (pw_or (pt_cmpR (op_eqK (K := K) rfl hu) (pv 1) pe_int (nomark _)) (pw_or1 (pt_cmpR op_gt (pe_op op_mod (pv 0) pe_int) pe_int (nomark _)))))
        (pss_one (ps_ret (pe_has G_l_path hr (by decide) (by rfl) (pa_cons (pe_op op_fdiv (pv 0) pe_int) pa_nil))))
        pss_nil)
      (pss_cons (ps_set (i := 2) sc_l_where.nd rfl (Or.inl rfl) (pe_lst pa_nil))
      (pss_cons (ps_set (i := 0) sc_l_where.nd rfl (Or.inl rfl) (pe_op op_fdiv (pv 0) pe_int))
      (pss_cons (ps_for PassesOwn.never rfl (pi_range1 (by rfl) B.range (pa_cons pe_int pa_nil)) (pg_name (i := 3) sc_l_where.nd rfl (Or.inl rfl))
        (pss_cons (ps_set (i := 4) sc_l_where.nd rfl (Or.inl rfl) pe_non)
        (pss_cons (ps_if (pt_cmpR op_gt (pe_op op_mod (pv 0) pe_int) pe_int (nomark _))
          (pss_one (ps_asg (pe_has G_l_where0 hr (by decide) (by rfl) (pa_cons (pe_op op_fdiv (pv 0) pe_int) (pa_cons (pe_op op_sub (pv 1) pe_int) pa_nil))) (pg_tup (by rfl) (pgs_cons (pg_name (i := 4) sc_l_where.nd rfl (Or.inl rfl)) (pgs_cons (pg_name (i := 0) sc_l_where.nd rfl (Or.inl rfl)) pgs_nil)))))
          (pss_one (ps_set (i := 0) sc_l_where.nd rfl (Or.inl rfl) (pe_op op_fdiv (pv 0) pe_int))))
        (pss_one (ps_expr (pe_bm PySem.F.plainAttrs_list PySem.F.slot_list_append PySem.F.type_list_append mt_append (pv 2) (pa_cons (pv 4) pa_nil)))))))
      (pss_cons (ps_if (pt_cmpR (op_eqK (K := K) rfl hu) (pe_ix (ix_seqK (K := K) rfl) (pv 2) pe_int (fun _ _ => rfl)) (pe_ix (ix_seqK (K := K) rfl) (pv 2) pe_int (fun _ _ => rfl)) (nomark _))
        (pss_cons (ps_asg pe_str (pg_sub (pv 2) pe_int set_list))
        (pss_one (ps_if (pt_cmpR (op_eqK (K := K) rfl hu) (pe_ix (ix_seqK (K := K) rfl) (pv 2) pe_int (fun _ _ => rfl)) pe_str (nomark _))
          (pss_one (ps_asg pe_str (pg_sub (pv 2) pe_int set_list)))
          pss_nil)))
        pss_nil)
      (pss_one (ps_ret (pe_tup (pa_cons (pe_has G_l_where_clash hr (by decide) (by rfl) (pa_cons (pe_ix (ix_seqK (K := K) rfl) (pv 2) pe_int (fun _ _ => rfl)) (pa_cons (pe_ix (ix_seqK (K := K) rfl) (pv 2) pe_int (fun _ _ => rfl)) (pa_cons (pe_ix (ix_seqK (K := K) rfl) (pv 2) pe_int (fun _ _ => rfl)) pa_nil)))) (pa_cons (pv 0) pa_nil)))))))))), fun x hp H R q => ?_⟩
    obtain ⟨x, b⟩ := x
    dsimp only at q ⊢
    refine s_seq (s_if (b := decide (D.int (dI b) = D.int 0) || decide (0 < x % 4)) (t_or (t_cmp (x_eq (x_vd rfl) x_ci (depI _ _))) fun _ => t_cmp (x_gt (x_mod (x_vd rfl) x_ci (by decide)) x_ci)) (fun _ => ?_) (fun h => s_next ?_))
    · exact r_P q (p_callP (x / 4) (a_cons (x_div (x_vd rfl) x_ci ⟨by decide, by decide⟩) a_nil) trivial rfl) (two_imp fun _ => Path.whereS)
    cases b with
    | false => exact absurd h (by rw [show decide (D.int (dI false) = D.int 0) = true from decide_eq_true rfl]; exact Bool.noConfusion)
    | true =>
      refine s_seq (s_asgN (n_lst d_nil (sz 0 rfl)) ?_)
      refine s_seq (s_asg (x_div (x_vd rfl) x_ci ⟨by decide, by decide⟩) ?_)
      refine s_seq (s_forR1 (n := 3) x_ci (by decide) (fun i S' => ∃ (ds : List D) (n : Int) (u v : SV), S' = [.dat (.int n), .dat (.int 1), .own ds, u, v] ∧ (∀ e ∈ ds, Part e) ∧ ds.length = i) ⟨_, _, _, _, rfl, fun e he => nomem he, rfl⟩ ?_ ?_)
      · rintro H1 e1 i S' hi ⟨ds, n, u, v, rfl, h1, h2⟩
        have hi : i < 3 := hi
        refine s_seq (s_asg x_cn ?_)
        refine s_cut (fun _ S' => ∃ (t : D) (n : Int), S' = [.dat (.int n), .dat (.int 1), .own ds, .dat (.int i), .dat t] ∧ Part t) ?_ ?_
        · refine s_if (t_cmp (x_gt (x_mod (x_vd rfl) x_ci (by decide)) x_ci)) (fun _ => ?_) (fun _ => ?_)
          · exact s_asg2P (p_callP (n / 4) (a_cons (x_div (x_vd rfl) x_ci ⟨by decide, by decide⟩) (a_cons (EvX.is (x_sub (i := 1) (x_vd rfl) x_ci) rfl) a_nil)) trivial rfl) fun t n2 ht => ⟨t, n2, rfl, ht.part⟩
          · exact s_asg (x_div (x_vd rfl) x_ci ⟨by decide, by decide⟩) ⟨_, _, rfl, .inl rfl⟩
        · rintro H2 S' e2 ⟨t, n2, rfl, ht⟩
          exact s_app rfl (x_vd rfl) (by rw [sizeLine_eq]; omega) ⟨_, _, _, _, rfl, mem_snoc h1 ht, by rw [List.length_append, h2]; rfl⟩
      · rintro H1 e1 S' ⟨ds, n, u, v, rfl, h1, h2⟩
        obtain ⟨a, b, c, rfl⟩ : ∃ a b c, ds = [a, b, c] := by
          match ds, h2 with
          | [a, b, c], _ => exact ⟨a, b, c, rfl⟩
        have ha := h1 a (by simp)
        have hb := h1 b (by simp)
        have hc := h1 c (by simp)
        refine s_cut (fun _ S' => ∃ c', Part c' ∧ S' = [.dat (.int n), .dat (.int 1), .own [a, b, c'], u, v]) ?_ ?_
        · refine s_if (t_cmp (x_eq (x_ixL (x_vo rfl) x_ci (k := 1) rfl rfl) (x_ixL (x_vo rfl) x_ci (k := 2) rfl rfl) (dep_part hb _))) (fun _ => ?_) (fun _ => s_next ⟨c, hc, rfl⟩)
          refine s_seq (s_setL (j := 2) rfl x_cs x_ci rfl (by show 2 < 3; decide) ?_)
          refine s_if (t_cmp (x_eq (x_ixL (x_vo rfl) x_ci (k := 1) rfl rfl) x_cs (dep_part hb _))) (fun _ => ?_) (fun _ => s_next ⟨_, .inr ⟨"z", rfl, by decide +kernel⟩, rfl⟩)
          exact s_setL (j := 2) rfl x_cs x_ci rfl (by show 2 < 3; decide) ⟨_, .inr ⟨"y", rfl, by decide +kernel⟩, rfl⟩
        · rintro H2 S' e2 ⟨c', hc', rfl⟩
          exact r_P (q.upP (e1.trans e2)) (EvX.p (x_tup (d_cons (x_callD (a, b, c') (a_cons (x_ixL (x_vo rfl) x_ci (k := 0) rfl rfl) (a_cons (x_ixL (x_vo rfl) x_ci (k := 1) rfl rfl) (a_cons (x_ixL (x_vo rfl) x_ci (k := 2) rfl rfl) a_nil))) ⟨.inl hb, .inl hc'⟩ rfl) (d_cons (x_vd rfl) d_nil)) (sz 2 rfl)) ⟨_, _, rfl, wCl_where ha hb hc', wCl_nn _ _ _⟩) (fun _ z => z)
/-! _law_row: slots 0 _law_own_here  1 _law_deep  2 _law_where_here  3 _law_items_here   -/
abbrev st_l_row : Stmt := topS 60
abbrev N_l_row : List Str := ["_law_own_here", "_law_deep", "_law_where_here", "_law_items_here"]
theorem sc_l_row : FnScope N_l_row ["_law_own_here", "_law_deep"] (defScope st_l_row) := ⟨rfl, rfl, rfl, by decide +kernel, rfl, by decide +kernel, by decide +kernel⟩
abbrev sp_l_row : Sp := SpG (α := Int × Bool) (fun x => [.dat (.int x.1), .dat (.int (dI x.2))]) (fun _ => True) (fun _ => RP (RowP 4))
abbrev H_l_row (P : Program) (w : World) (K : PySem.W.Frag) (mg : Str → Option Value) (base : Heap) : Prop := Has P w K mg base 6 "_law_row" ["_law_own_here", "_law_deep"] (sp_l_row)
theorem has_l_row {P : Program} {w : World} {K : PySem.W.Frag} {mg : Str → Option Value} {base : Heap} (B : Gs mg) (F : DefAt K mg "_law_row" st_l_row) (G_l_items : H_l_items P w K mg base) (G_l_where : H_l_where P w K mg base)  : H_l_row P w K mg base :=
  F.hasG sc_l_row (fun _ _ _ _ _ _ us hl => match us, hl with | [_, _], _ => rfl) (fun _ => rfl) fun f cdv A outer s H E hr => by
    have hu := room64 hr
    have hu1 := hu_of hr
    refine ⟨_, (pss_cons (ps_if (pt_cmpR (op_eqK (K := K) rfl hu) (pe_op op_mod (pv 0) pe_int) pe_int (nomark _))
        (pss_one (ps_ret (pe_tup (pa_cons pe_non (pa_cons (pe_tup pa_nil) pa_nil)))))
        pss_nil)
      (pss_cons (ps_asg (pe_has G_l_where hr (by decide) (by rfl) (pa_cons (pe_op op_fdiv (pv 0) pe_int) (pa_cons (pv 1) pa_nil))) (pg_tup (by rfl) (pgs_cons (pg_name (i := 2) sc_l_row.nd rfl (Or.inl rfl)) (pgs_cons (pg_name (i := 0) sc_l_row.nd rfl (Or.inl rfl)) pgs_nil))))
      (pss_cons (ps_asg (pe_has G_l_items hr (by decide) (by rfl) (pa_cons (pv 0) (pa_cons pe_int (pa_cons (pv 1) pa_nil)))) (pg_tup (by rfl) (pgs_cons (pg_name (i := 3) sc_l_row.nd rfl (Or.inl rfl)) (pgs_cons (pg_name (i := 0) sc_l_row.nd rfl (Or.inl rfl)) pgs_nil))))
      (pss_one (ps_ret (pe_tup (pa_cons (pv 2) (pa_cons (pv 3) pa_nil)))))))), fun x hp H R q => ?_⟩
    obtain ⟨x, b⟩ := x
    dsimp only at q ⊢
    refine s_seq (s_if (t_cmp (x_eq (x_mod (x_vd rfl) x_ci (by decide)) x_ci (depI _ _))) (fun _ => ?_) (fun _ => s_next ?_))
    · exact r_P q (EvX.p (x_tup (d_cons x_cn (d_cons (x_tup d_nil (sz 0 rfl)) d_nil)) (sz 2 rfl)) ⟨Rw.none, rfl, rowN_none 4⟩) (fun _ z => z)
    refine s_seq (s_asg2P (p_callP (x / 7, b) (a_cons (x_div (x_vd rfl) x_ci ⟨by decide, by decide⟩) (a_cons (x_vd rfl) a_nil)) trivial rfl) fun w n1 h1 => ?_)
    refine s_seq (s_asg2P (p_callP (n1, 4, b) (a_cons (x_vd rfl) (a_cons x_ci (a_cons (x_vd rfl) a_nil))) (by show 4 ≤ 4; decide) rfl) fun t n2 h2 => ?_)
    obtain ⟨ds, rfl, d1, d2⟩ := h2
    exact r_P q (EvX.p (x_tup (d_cons (x_vd rfl) (d_cons (x_vd rfl) d_nil)) (sz 2 rfl)) ⟨⟨w, ds⟩, rfl, rowN_mk h1.1 h1.2 d1 d2 (by decide)⟩) (fun _ z => z)
/-! _law_edited_row: slots 0 _law_row_here  1 _law_own_here  2 _law_deep  3 _law_way  4 _law_where_here  5 _law_items_here   -/
abbrev st_l_edited_row : Stmt := topS 61
abbrev N_l_edited_row : List Str := ["_law_row_here", "_law_own_here", "_law_deep", "_law_way", "_law_where_here", "_law_items_here"]
theorem sc_l_edited_row : FnScope N_l_edited_row ["_law_row_here", "_law_own_here", "_law_deep"] (defScope st_l_edited_row) := ⟨rfl, rfl, rfl, by decide +kernel, rfl, by decide +kernel, by decide +kernel⟩
abbrev sp_l_edited_row : Sp := SpG (α := Rw × Int × Bool × Nat × Nat) (fun x => [.dat x.1.d, .dat (.int x.2.1), .dat (.int (dI x.2.2.1))]) (fun x => RowN x.2.2.2.1 x.1 ∧ x.2.2.2.1 ≤ 12 ∧ 4 ≤ x.2.2.2.2 ∧ 2 * x.2.2.2.1 + 1 ≤ x.2.2.2.2 ∧ x.2.2.2.2 ≤ 25) (fun x => RP (RowP x.2.2.2.2))
abbrev H_l_edited_row (P : Program) (w : World) (K : PySem.W.Frag) (mg : Str → Option Value) (base : Heap) : Prop := Has P w K mg base 7 "_law_edited_row" ["_law_row_here", "_law_own_here", "_law_deep"] (sp_l_edited_row)
theorem has_l_edited_row {P : Program} {w : World} {K : PySem.W.Frag} {mg : Str → Option Value} {base : Heap} (B : Gs mg) (F : DefAt K mg "_law_edited_row" st_l_edited_row) (G_l_edited : H_l_edited P w K mg base) (G_l_row : H_l_row P w K mg base) (G_l_where : H_l_where P w K mg base)  : H_l_edited_row P w K mg base :=
  F.hasG sc_l_edited_row (fun _ _ _ _ _ _ us hl => match us, hl with | [_, _, _], _ => rfl) (fun _ => rfl) fun f cdv A outer s H E hr => by
    have hu := room64 hr
    have hu1 := hu_of hr
    refine ⟨_, (pss_cons (ps_set (i := 3) sc_l_edited_row.nd rfl (Or.inl rfl) (pe_op op_mod (pv 1) pe_int))
      (pss_cons (ps_set (i := 1) sc_l_edited_row.nd rfl (Or.inl rfl) (pe_op op_fdiv (pv 1) pe_int))
      (pss_cons (ps_if (PW.pt (pw_or (pt_cmpR (op_eqK (K := K) rfl hu) (pv 3) pe_int (nomark _)) (pw_or1 (PW.pt (pw_and (pt_cmpR op_isNA (pe_ix (ix_seqK (K := K) rfl) (pv 0) pe_int (fun _ _ => rfl)) pe_non (nomark _)) (pw_and1 (pt_cmpR op_ltA (pv 3) pe_int (nomark _))))))))
        (pss_one (ps_ret (pe_has G_l_row hr (by decide) (by rfl) (pa_cons (pv 1) (pa_cons (pv 2) pa_nil)))))
        pss_nil)
      (pss_cons (ps_if (PW.pt (pw_or (pt_cmpR (op_eqK (K := K) rfl hu) (pv 3) pe_int (nomark _)) (pw_or1 (pt_cmpR op_isNA (pe_ix (ix_seqK (K := K) rfl) (pv 0) pe_int (fun _ _ => rfl)) pe_non (nomark _)))))
        (pss_one (ps_ret (pe_tup (pa_cons pe_non (pa_cons (pe_tup pa_nil) pa_nil)))))
        pss_nil)
      (pss_cons (ps_set (i := 4) sc_l_edited_row.nd rfl (Or.inl rfl) (pe_ix (ix_seqK (K := K) rfl) (pv 0) pe_int (fun _ _ => rfl)))
      (pss_cons (ps_if (pt_cmpR (op_inK (K := K) rfl hu) (pv 3) (pe_tup (pa_cons pe_int (pa_cons pe_int pa_nil))) rfl)
        (pss_one (ps_asg (pe_has G_l_where hr (by decide) (by rfl) (pa_cons (pv 1) (pa_cons (pv 2) pa_nil))) (pg_tup (by rfl) (pgs_cons (pg_name (i := 4) sc_l_edited_row.nd rfl (Or.inl rfl)) (pgs_cons (pg_name (i := 1) sc_l_edited_row.nd rfl (Or.inl rfl)) pgs_nil)))))
        pss_nil)
      (pss_cons (ps_set (i := 5) sc_l_edited_row.nd rfl (Or.inl rfl) (pe_ix (ix_seqK (K := K) rfl) (pv 0) pe_int (fun _ _ => rfl)))
      (pss_cons (ps_if (pt_cmpR op_gt (pv 3) pe_int (nomark _))
        (pss_one (ps_set (i := 5) sc_l_edited_row.nd rfl (Or.inl rfl) (pe_has G_l_edited hr (by decide) (by rfl) (pa_cons (pv 5) (pa_cons (pv 1) (pa_cons (pv 2) pa_nil))))))
        pss_nil)
      (pss_one (ps_ret (pe_tup (pa_cons (pv 4) (pa_cons (pv 5) pa_nil))))))))))))), fun x hp H R q => ?_⟩
    obtain ⟨⟨rw_, ri⟩, x, b, n, m⟩ := x
    obtain ⟨hr0, h12, h4, hm, h25⟩ := hp
    dsimp only at q hr0 h12 h4 hm h25 ⊢
    have hdw := where_dep hr0.v.w
    have hdw : rw_.dep ≤ 2 := hdw
    refine s_seq (s_asg (x_mod (x_vd rfl) x_ci (by decide)) ?_)
    refine s_seq (s_asg (x_div (x_vd rfl) x_ci ⟨by decide, by decide⟩) ?_)
    generalize x % 8 = wy
    generalize x / 8 = z
    refine s_seq (s_if (t_or (t_cmp (x_eq (x_vd rfl) x_ci (depI _ _))) fun _ => t_and (t_cmp (x_isN (x_ixT (x_vd rfl) x_ci (k := 0) rfl rfl) x_cn)) fun _ => t_cmp (x_ltI (x_vd rfl) x_ci)) (fun _ => ?_) (fun _ => s_next ?_))
    · exact r_P q (p_callP (z, b) (a_cons (x_vd rfl) (a_cons (x_vd rfl) a_nil)) trivial rfl) (fun d hd => by
        obtain ⟨y, rfl, hy⟩ := hd
        exact ⟨y, rfl, hy.up h4⟩)
    refine s_seq (s_if (b := decide (D.int wy = D.int 1) || decide (rw_ = D.non)) (t_or (t_cmp (x_eq (x_vd rfl) x_ci (depI _ _))) fun _ => t_cmp (x_isN (x_ixT (x_vd rfl) x_ci (k := 0) rfl rfl) x_cn)) (fun _ => ?_) (fun h => s_next ?_))
    · exact r_P q (EvX.p (x_tup (d_cons x_cn (d_cons (x_tup d_nil (sz 0 rfl)) d_nil)) (sz 2 rfl)) ⟨Rw.none, rfl, rowN_none m⟩) (fun _ z => z)
    have hnn : rw_ ≠ .non := fun z => by
      rw [decide_eq_true z, Bool.or_true] at h
      cases h
    refine s_seq (s_asg (x_ixT (x_vd rfl) x_ci (k := 0) rfl rfl) ?_)
    refine s_cut (fun _ S' => ∃ (w : D) (n : Int), S' = [.dat (.tup [rw_, .tup ri]), .dat (.int n), .dat (.int (dI b)), .dat (.int wy), .dat w, .no] ∧ WhereS w) ?_ ?_
    · refine s_if (t_cmp (x_inT (x_vd rfl) (x_tup (d_cons x_ci (d_cons x_ci d_nil)) (sz 2 rfl)) (by simp [D.dep]))) (fun _ => ?_) (fun _ => s_next ⟨_, _, rfl, hr0.v.w, hnn⟩)
      exact s_asg2P (p_callP (z, b) (a_cons (x_vd rfl) (a_cons (x_vd rfl) a_nil)) trivial rfl) fun t n2 ht => ⟨t, n2, rfl, ht⟩
    rintro H1 S' e1 ⟨w, n1, rfl, hw⟩
    refine s_seq (s_asg (x_ixT (x_vd rfl) x_ci (k := 1) rfl rfl) ?_)
    have hl : ri.length ≤ n := hr0.l
    have hri : ∀ e ∈ ri, Item e := hr0.v.i.1
    refine s_cut (fun _ S' => ∃ (ds : List D), S' = [.dat (.tup [rw_, .tup ri]), .dat (.int n1), .dat (.int (dI b)), .dat (.int wy), .dat w, .dat (.tup ds)] ∧ (∀ e ∈ ds, Item e) ∧ ds.length ≤ 2 * n + 1) ?_ ?_
    · refine s_if (t_cmp (x_gt (x_vd rfl) x_ci)) (fun _ => ?_) (fun _ => s_next ⟨ri, rfl, hri, by omega⟩)
      refine s_asgP (p_callP (ri, n1, b) (a_cons (x_vd rfl) (a_cons (x_vd rfl) (a_cons (x_vd rfl) a_nil))) ⟨hri, by show ri.length ≤ 12; omega⟩ rfl) fun d hd => ?_
      obtain ⟨ds, rfl, d1, d2⟩ := hd
      have d2 : ds.length ≤ 2 * ri.length + 1 := d2
      exact ⟨ds, rfl, d1, by omega⟩
    rintro H2 S' e2 ⟨ds, rfl, d1, d2⟩
    exact r_P (q.upP (e1.trans e2)) (EvX.p (x_tup (d_cons (x_vd rfl) (d_cons (x_vd rfl) d_nil)) (sz 2 rfl)) ⟨⟨w, ds⟩, rfl, rowN_mk hw.1 hw.2 d1 (Nat.le_trans d2 hm) h25⟩) (fun _ z => z)
end Mw
-- part MwS9
set_option maxHeartbeats 4000000
/-! sorted(rows, key=root_of) as data; an own list that is only read from now on. -/
namespace Mw
open PySem PySem.Spec PyProof.Rows L2
def ksD : D → Str
  | .tup (.str s :: _) => s
  | _ => ""
def ksV (H : Hp) : V → Str
  | .ref t => match H t with
    | some (.tup (.str s :: _)) => s
    | _ => ""
  | _ => ""
def IsKeyed (d : D) : Prop := ∃ s r, d = .tup (.str s :: r)
theorem keyed_v {H : Hp} {v : V} {d : D} (h : DV H v d) (hq : IsKeyed d) : (∃ t rest, v = V.ref t ∧ H t = some (.tup (.str (ksV H v) :: rest))) ∧ ksV H v = ksD d := by
  obtain ⟨s, r, rfl⟩ := hq
  obtain ⟨t, us, rfl, h1, u1, r1, rfl, g1, g2⟩ := h
  have g1 : u1 = .str s := g1
  subst g1
  have ek : ksV H (.ref t) = s := by simp only [ksV, h1]
  rw [ek]
  exact ⟨⟨t, r1, rfl, h1⟩, rfl⟩
section
variable {K : PySem.W.Frag} {H0 : Hp} {S : List SV} {R : V → Hp → Prop} {N : Hp → List SV → Prop}
theorem keyed_map {H : Hp} : ∀ {es : List D} {ys : List V}, DVs H ys es → (∀ d ∈ es, IsKeyed d) → ys.map (ksV H) = es.map ksD
  | [], ys, h, _ => by
    have h : ys = [] := h
    rw [h]; rfl
  | d :: es, _, h, hq => by
    obtain ⟨v, r, rfl, e2, e3⟩ := h
    rw [List.map_cons, List.map_cons, keyed_map e3 (fun d hd => hq d (List.mem_cons_of_mem _ hd)), (keyed_v e2 (hq d List.mem_cons_self)).2]
/-- sorted(rows, key=root_of) -/
theorem n_sortedRow {te : TE} {ds es : List D} {f : Addr} (h : EvX H0 S te (.lst ds)) (hq : ∀ d ∈ ds, IsKeyed d) (hp : es.Perm ds) (hs : es.Pairwise fun x y => ltS (ksD x) (ksD y) = true) : EvN H0 S (tCKw (rSortedRow K f) (tCons te tNil) (tCons (tC (.ref f)) tNil)) es := fun σ H hσ Q q =>
  h σ H hσ _ fun v H1 e1 hv => by
    obtain ⟨a, us, rfl, h1, h2⟩ := hv
    have hnd : ∀ x ∈ es, ∀ y ∈ es, ksD x = ksD y → x = y := by
      have key : ∀ {l : List D}, (l.Pairwise fun x y => ltS (ksD x) (ksD y) = true) → ∀ x ∈ l, ∀ y ∈ l, ksD x = ksD y → x = y := by
        intro l
        induction l with
        | nil => intro _ x hx; cases hx
        | cons z l ih =>
          intro hl x hx y hy e
          obtain ⟨hl1, hl2⟩ := List.pairwise_cons.mp hl
          rcases List.mem_cons.mp hx with p | p
          · rcases List.mem_cons.mp hy with r | r
            · rw [p, r]
            · have := hl1 y r
              rw [← p, e, ltS_irr] at this
              cases this
          · rcases List.mem_cons.mp hy with r | r
            · have := hl1 x p
              rw [← r, e, ltS_irr] at this
              cases this
            · exact ih hl2 x p y r e
      exact key hs
    refine ⟨a, us, ksV H1, rfl, rfl, .inl (.inl h1), fun x hx => ?_, fun ys p hperm hsrt hn => ?_⟩
    · obtain ⟨d, g1, g2⟩ := h2.mem hx
      exact (keyed_v g2 (hq d g1)).1
    · obtain ⟨es', f1, f2⟩ := h2.perm hperm
      have hkk := keyed_map f2 (fun d hd => hq d (f1.mem_iff.mp hd))
      have hs' : es'.Pairwise fun x y => (ksD x).cps.toList ≤ (ksD y).cps.toList := by
        have h3 : (ys.map (ksV H1)).Pairwise fun x y => x.cps.toList ≤ y.cps.toList := by
          rw [List.pairwise_map]
          exact hsrt
        rw [hkk, List.pairwise_map] at h3
        exact h3
      have ee : es' = es := by
        refine perm_uniq (R := fun x y => (ksD x).cps.toList ≤ (ksD y).cps.toList) (f1.trans hp.symm) hs' (hs.imp fun {x y} z => ?_) fun x hx y hy r1 r2 => ?_
        · unfold ltS at z
          exact Std.le_of_lt (of_decide_eq_true z)
        · have e : ksD x = ksD y := Str.ext' (Array.toList_inj.mp (Std.le_antisymm r1 r2))
          exact hnd x (hp.mem_iff.mpr (f1.mem_iff.mp hx)) y (hp.mem_iff.mpr (f1.mem_iff.mp hy)) e
      subst ee
      exact q p ys _ (e1.trans (same_new hn)) (e1.free hn) upd_same (f2.mono (same_new hn))
/-- an own list becomes one that is handed in -/
theorem StD.free {H H0 : Hp} {σ : L2.St} {j : Nat} {xs : List D} (h : StD H0 H σ S) (hj : S[j]? = some (.own xs)) : ∃ H1, Same H0 H1 ∧ StD H1 H σ (S.set j (.lst xs)) := by
  obtain ⟨ex, Fs, h1, h2, h3⟩ := id h
  obtain ⟨o, F, h4, h5, a, vs, h6, h7, h8, h9⟩ := h1.get hj
  subst h6 h7
  have sub : ∀ b, b ∈ (Fs.set j []).flatten → b ∈ Fs.flatten := fun b hb => by
    rcases flat_set_sub hb with q | q
    · cases q
    · exact q
  have listy : ∀ b ∈ Fs.flatten, ∀ vs, H b ≠ some (.tup vs) := fun b hb vs z => by
    have key : ∀ {σ : L2.St} {Fs : List (List Addr)} {S : List SV}, SVs H0 H σ Fs S → ∀ b ∈ Fs.flatten, ∀ vs, H b ≠ some (.tup vs) := by
      intro σ
      induction σ with
      | nil =>
        intro Fs S q b hb
        match Fs, S, q, hb with
        | [], [], _, hb => simp at hb
      | cons o σ ih =>
        intro Fs S q b hb vs z
        match Fs, S, q, hb with
        | F :: Fs, x :: S, q, hb =>
          rw [List.flatten_cons, List.mem_append] at hb
          rcases hb with hb | hb
          · have q1 : SVok H0 H o F x := q.1
            cases x with
            | no => have w : F = [] := q1; rw [w] at hb; cases hb
            | dat d => have w : F = [] := q1.1; rw [w] at hb; cases hb
            | own ds =>
              obtain ⟨c, ws, z1, _, z2, _⟩ := q1
              rw [z1] at hb
              rw [List.mem_singleton.mp hb, z2] at z
              cases z
            | otab m =>
              obtain ⟨c, rs, z1, _, z2, z3⟩ := q1
              rw [z1] at hb
              rcases List.mem_cons.mp hb with w | w
              · rw [w, z2] at z; cases z
              · obtain ⟨ws, k⟩ := Rws.mem z3 b w
                rw [k] at z; cases z
            | lst ds => have w : F = [] := q1.1; rw [w] at hb; cases hb
            | tab m => have w : F = [] := q1.1; rw [w] at hb; cases hb
            | val v => have w : F = [] := q1.1; rw [w] at hb; cases hb
            | hand P => have w : F = [] := q1.1; rw [w] at hb; cases hb
            | gen G =>
              obtain ⟨v, _, w⟩ := q1
              obtain ⟨o', k1, k2⟩ := G.inn w b hb
              rw [z] at k1
              cases k1
              exact k2 vs rfl
          · exact ih q.2 b hb vs z
    exact key h1 b hb vs z
  have e0 : Same H0 (fun b => if b ∈ (Fs.set j []).flatten then none else H b) := fun b o q => by
    have nb : ¬ b ∈ (Fs.set j []).flatten := fun z => by rw [h3 b (sub b z)] at q; cases q
    show (if b ∈ (Fs.set j []).flatten then none else H b) = some o
    rw [if_neg nb]
    exact ex _ _ q
  have e1 : Same (fun b => if b ∈ (Fs.set j []).flatten then none else H b) H := fun b o q => by
    have q : (if b ∈ (Fs.set j []).flatten then none else H b) = some o := q
    by_cases nb : b ∈ (Fs.set j []).flatten
    · rw [if_pos nb] at q; cases q
    · rw [if_neg nb] at q; exact q
  have ts : TupS H (fun b => if b ∈ (Fs.set j []).flatten then none else H b) := fun b ws q => by
    have nb : ¬ b ∈ (Fs.set j []).flatten := fun z => listy b (sub b z) ws q
    show (if b ∈ (Fs.set j []).flatten then none else H b) = _
    rw [if_neg nb]
    exact q
  have na : ¬ a ∈ (Fs.set j []).flatten := fun z => by
    have key : ∀ {Fs : List (List Addr)} {j : Nat}, Fs[j]? = some [a] → Fs.flatten.Nodup → a ∈ (Fs.set j []).flatten → False := by
      intro Fs
      induction Fs with
      | nil => intro j h; simp at h
      | cons G Gs ih =>
        intro j h hn hz
        rw [List.flatten_cons] at hn
        obtain ⟨n1, n2, n3⟩ := List.nodup_append.mp hn
        cases j with
        | zero =>
          have e : G = [a] := by simpa using h
          have hz : a ∈ ([] :: Gs).flatten := hz
          rw [List.flatten_cons, List.nil_append] at hz
          exact n3 a (by rw [e]; exact List.mem_cons_self) a hz rfl
        | succ j =>
          have h : Gs[j]? = some [a] := by simpa using h
          have hz : a ∈ (G :: Gs.set j []).flatten := hz
          rw [List.flatten_cons, List.mem_append] at hz
          rcases hz with q | q
          · exact n3 a q a (mem_flat h List.mem_cons_self) rfl
          · exact ih h n2 q
    exact key h5 h2 z
  have eσ : σ.set j (some (.ref a)) = σ := by
    apply List.ext_getElem?
    intro i
    by_cases e : i = j
    · rw [e, List.getElem?_set_self (List.getElem?_eq_some_iff.mp h4).1, h4]
    · rw [List.getElem?_set_ne (fun z => e z.symm)]
  refine ⟨_, e0, e1, Fs.set j [], ?_, flat_set_nodup List.nodup_nil j h2 (fun b hb => by cases hb), fun b hb => if_pos hb⟩
  have h1' := SVs.imp (H1 := fun b => if b ∈ (Fs.set j []).flatten then none else H b) (H' := H) (fun F _ o x q => q.base e0) h1
  have := SVs.set (H' := H) (o := some (.ref a)) (F' := []) (y := .lst xs) j (fun _ _ _ _ q => q) ⟨rfl, .ref a, rfl, a, vs, rfl, by show (if a ∈ (Fs.set j []).flatten then none else H a) = _; rw [if_neg na]; exact h8, DVs.ts ts _ _ h9⟩ h1'
  rw [eσ] at this
  exact this
theorem s_free {t : TS} {j : Nat} {xs : List D} (hj : S[j]? = some (.own xs)) (h : ∀ H1, Same H0 H1 → ExS H1 R t (S.set j (.lst xs)) N) : ExS H0 R t S N := fun D σ H hs hn hr => by
  obtain ⟨H1, e1, hs'⟩ := hs.free hj
  exact h H1 e1 D σ H hs' (fun H2 S' σ' H' e n hs2 => hn H2 S' σ' H' (e1.trans e) n hs2) hr
end
end Mw
-- part MwR4
set_option maxHeartbeats 4000000
/-! Lists of runs in a frame. -/
namespace Mw
open PySem PySem.Spec PyProof.Rows L2
section
variable {K : PySem.W.Frag} {H0 : Hp} {S : List SV} {C : Addr} {R : V → Hp → Prop} {N : Hp → List SV → Prop}
theorem x_vg {i : Nat} {G : Rgn} (h : S[i]? = some (.gen G)) : EvX H0 S (tVar i) (.hand G.hd) := x_var h rfl
theorem x_neg {te : TE} {i : Int} (h : EvX H0 S te (.dat (.int i))) : EvX H0 S (tUn (rU fun i => .int (-i)) te) (.dat (.int (-i))) := fun σ H hs Q q => h σ H hs _ fun v H1 e1 hv => by
  have hv : v = .int i := hv
  subst hv
  exact ⟨i, rfl, q _ H1 e1 rfl⟩
theorem x_eqRuns {te : TE} {rs : List RunS} (h : EvX H0 S te (.hand (RunsHd C rs))) : EvX H0 S (tOp (rEqE K) te (tLst tNil)) (.val (.bl (decide (rs = [])))) :=
  x_op2 h (EvN.x (n_lst d_nil (sz 0 rfl))) fun v u H Q h1 h2 q => by
    obtain ⟨p, as, Fs, rfl, k1, k2⟩ := h1
    obtain ⟨b, us, rfl, k3, k4⟩ := h2
    have k4 : us = [] := k4
    subst k4
    have e : decide (as.map V.ref = []) = decide (rs = []) := by
      have hl := k2.len
      by_cases z : rs = []
      · subst z
        have : as = [] := List.length_eq_zero_iff.mp hl
        subst this
        rfl
      · have z2 : as ≠ [] := fun w => z (List.length_eq_zero_iff.mp (by rw [← hl, w]; rfl))
        rw [decide_eq_false z, decide_eq_false (fun w => z2 (List.map_eq_nil_iff.mp w))]
    exact ⟨p, b, as.map V.ref, rfl, rfl, .inl (.inl k1), .inl (.inl k3), by rw [e]; exact q _ H (Same.refl H) rfl⟩
theorem x_lastRun {te ti : TE} {rs : List RunS} {r : RunS} (h : EvX H0 S te (.hand (RunsHd C (rs ++ [r])))) (hi : EvX H0 S ti (.dat (.int (-1)))) : EvX H0 S (tOp (rIx K) te ti) (.hand (RunHd C r)) :=
  x_op2 h hi fun v u H Q h1 h2 q => by
    obtain ⟨p, as, Fs, rfl, k1, k2⟩ := h1
    have h2 : u = .int (-1) := h2
    subst h2
    obtain ⟨as0, b, Fs0, G, rfl, rfl, k3, k4⟩ := k2.unsnoc
    exact .inl ⟨p, _, -1, .ref b, rfl, rfl, .inl (.inl k1), by rw [List.map_append]; exact atI_last _ _, q _ H (Same.refl H) ⟨b, G, rfl, k4⟩⟩
/-- runs = [] -/
theorem s_asgR0 {te : TE} {i : Nat} (h : EvN H0 S te []) (k : N H0 (S.set i (.gen (RunsR C [])))) : ExS H0 R (tAsg te (gName i)) S N := fun D σ H hs hn hr =>
  h σ H hs _ fun p vs H1 e1 n h1 h2 => by
    have h2 : vs = [] := h2
    subst h2
    exact hn H0 _ _ H1 (Same.refl H0) k (StD.putF (F := [p]) (x := .gen (RunsR C [])) i hs e1 (by simp) (fun a ha => by rw [List.mem_singleton.mp ha]; exact n) ⟨.ref p, rfl, p, [], [], rfl, rfl, h1, trivial⟩)
theorem flat_app (Fs : List (List Addr)) (G : List Addr) : (Fs ++ [G]).flatten = Fs.flatten ++ G := by simp
/-- runs.append(Run(at)) -/
theorem s_appRun {i : Nat} {te : TE} {E : XK} {rs : List RunS} {b : Nat} (hi : S[i]? = some (.gen (RunsR C rs))) (h : EvX H0 S te (.dat (.int (b : Int)))) (hz : rs.length < 1000) (k : N H0 (S.set i (.gen (RunsR C (rs ++ [RunS.new b]))))) :
    ExS H0 R (tDrop (tBM K "list" rAppend (tVar i) (tCons (tMake C (sp_Run_init C) [] E (tCons te tNil)) tNil))) S N := fun D σ H hs hn hr => by
  obtain ⟨v, F, h1, h2, h3, h4, h5⟩ := StD.mutG hs hi
  obtain ⟨p, as, Fs, rfl, rfl, k1, k2⟩ := h2
  refine ⟨.ref p, h1, .inl ⟨rfl, _, .inl (.inl k1)⟩, h σ H hs _ fun u H1 e1 hu => ?_⟩
  have hu : u = .int (b : Int) := hu
  subst hu
  intro x dx hx hdx hdne
  refine ⟨x, dx, b, rfl, upd_same, by rw [upd_ne hdne, upd_same], hdne, fun H' G hG nd hfr hkeep => ⟨rfl, ?_⟩⟩
  have hxp : p ≠ x := fun z => by rw [← z, e1 _ _ k1] at hx; cases hx
  have keep : ∀ c o, H c = some o → H' c = some o := fun c o hc => by
    have hc1 := e1 _ _ hc
    have cx : c ≠ x := fun z => by rw [z, hx] at hc1; cases hc1
    have cd : c ≠ dx := fun z => by rw [z, hdx] at hc1; cases hc1
    exact hkeep c o (by rw [upd_ne cx, upd_ne cd]; exact hc1) cx
  have fresh : ∀ c ∈ G, H c = none := fun c hc => by
    rcases hfr c hc with q | q | q
    · rw [q]; exact e1.free hx
    · rw [q]; exact e1.free hdx
    · have cx : c ≠ x := fun z => by rw [z, upd_same] at q; cases q
      rw [upd_ne cx] at q
      have cd : c ≠ dx := fun z => by rw [z, upd_same] at q; cases q
      rw [upd_ne cd] at q
      exact e1.free q
  have k1' := keep _ _ k1
  have hp' : ∀ c o, H c = some o → c ≠ p → upd H' p (.lst (as.map V.ref ++ [.ref x])) c = some o := fun c o hc hcp => by
    rw [upd_ne hcp]
    exact keep c o hc
  have hxG : RunAt C H' x (RunS.new b) G := hG
  refine ⟨p, _, _, rfl, rfl, k1', ?_, ?_⟩
  · rw [List.length_map, k2.len, sizeLine_eq]; omega
  have nodupF := h3
  obtain ⟨nd1, nd2⟩ := List.nodup_cons.mp nodupF
  have pG : ¬ p ∈ G := fun z => by rw [fresh p z] at k1; cases k1
  refine hn H0 _ _ _ (Same.refl H0) k (h5 (H' := upd H' p (.lst (as.map V.ref ++ [.ref x]))) (F' := p :: (Fs ++ [G]).flatten) (G' := RunsR C (rs ++ [RunS.new b])) (fun c vs hc => ?_) (fun c o hc hcF => ?_) ?_ (fun c hc => ?_) ⟨p, as ++ [x], Fs ++ [G], rfl, rfl, ?_, ?_⟩)
  · exact hp' c _ hc (ne_of hc k1 (by intro z; cases z))
  · exact hp' c o hc (fun z => hcF (by rw [z]; exact List.mem_cons_self))
  · rw [flat_app]
    refine List.nodup_cons.mpr ⟨fun z => ?_, List.nodup_append.mpr ⟨nd2, nd, fun a ha b hb e => ?_⟩⟩
    · rcases List.mem_append.mp z with q | q
      · exact nd1 q
      · exact pG q
    · obtain ⟨o, hao, _⟩ := k2.inn a ha
      rw [e, fresh b hb] at hao
      cases hao
  · rw [flat_app] at hc
    rcases List.mem_cons.mp hc with q | q
    · exact .inl (by rw [q]; exact List.mem_cons_self)
    · rcases List.mem_append.mp q with q | q
      · exact .inl (List.mem_cons_of_mem _ q)
      · exact .inr (fresh c q)
  · rw [upd_same, List.map_append]
    rfl
  · refine RunsL.snoc ?_ (k2.away ⟨fun c vs hc => hp' c _ hc (ne_of hc k1 (by intro z; cases z)), fun c hc o hco => hp' c o hco (fun z => nd1 (by rw [← z]; exact hc))⟩)
    exact hxG.away ⟨fun c vs hc => by rw [upd_ne (ne_of hc k1' (by intro z; cases z))]; exact hc, fun c hc o hco => by rw [upd_ne (fun z => pG (by rw [← z]; exact hc))]; exact hco⟩
/-- runs[-1].take(side, cut) -/
theorem s_takeLast {i : Nat} {tn ts tc : TE} {E : XK} {rs : List RunS} {r : RunS} {x : Bool × Cut} (hi : S[i]? = some (.gen (RunsR C (rs ++ [r])))) (hneg : EvX H0 S tn (.dat (.int (-1)))) (hs1 : EvX H0 S ts (.dat (.int (sideI x.1)))) (hc1 : EvX H0 S tc (.dat x.2.d)) (z1 : r.s.length ≤ 100) (z2 : r.t.length ≤ 100)
    (k : N H0 (S.set i (.gen (RunsR C (rs ++ [r.take x]))))) : ExS H0 R (tDrop (tMeth C "take" (sp_Run_take C) [] E (tOp (rIx K) (tVar i) tn) (tCons ts (tCons tc tNil)))) S N := fun D σ H hs hn hr => by
  obtain ⟨v, F, h1, h2, h3, h4, h5⟩ := StD.mutG hs hi
  obtain ⟨p, as, Fs, rfl, rfl, k1, k2⟩ := h2
  obtain ⟨as0, b, Fs0, G, rfl, rfl, k3, k4⟩ := k2.unsnoc
  refine ⟨.ref p, h1, hneg σ H hs _ fun u H1 e1 hu => ?_⟩
  have hu : u = .int (-1) := hu
  subst hu
  have k4' := k4.mono e1
  obtain ⟨dx, t, l0, l1, v0, v1, rfl, g1, g2, g3, g4, g5, g6, g7⟩ := id k4'
  refine .inl ⟨p, _, -1, .ref b, rfl, rfl, .inl (.inl (e1 _ _ k1)), by rw [List.map_append]; exact atI_last _ _, b, dx, _, rfl, g1, rfl, hs1 σ H1 (hs.grow e1) _ fun u1 H2 e2 hu1 => hc1 σ H2 (hs.grow (e1.trans e2)) _ fun u2 H3 e3 hu2 => ?_⟩
  have hu1 : u1 = .int (sideI x.1) := hu1
  subst hu1
  obtain ⟨nd1, nd2⟩ := List.nodup_cons.mp h3
  rw [flat_app] at nd1 nd2
  obtain ⟨nd3, nd4, nd5⟩ := List.nodup_append.mp nd2
  have e13 := e1.trans (e2.trans e3)
  refine ⟨b, x, r, _, u2, rfl, k4.mono e13, nd4, hu2, z1, z2, fun H' hR hts hst hfr => ?_⟩
  have ts : TupS H H' := (TupS.of e13).trans hts
  have st : ∀ a o, H a = some o → ¬ a ∈ [b, dx, l0, l1] → H' a = some o := fun a o ha hn => hst a o (e13 _ _ ha) hn
  refine hn H0 _ _ _ (Same.refl H0) k (h5 (H' := H') (F' := p :: (Fs0 ++ [[b, dx, l0, l1]]).flatten) ts (fun a o ha hF => st a o ha fun z => hF ?_) h3 (fun a ha => .inl ha) ⟨p, as0 ++ [b], Fs0 ++ [[b, dx, l0, l1]], rfl, rfl, st _ _ k1 fun z => nd1 (List.mem_append.mpr (.inr z)), ?_⟩)
  · rw [flat_app]
    exact List.mem_cons_of_mem _ (List.mem_append.mpr (.inr z))
  · exact RunsL.snoc hR (k3.away ⟨ts, fun a ha o hao => st a o hao fun z => nd5 a ha a z rfl⟩)
/-- an own thing handed back -/
def RG (G : Rgn) : Rp := fun H v H' => Same H H' ∧ ∃ F, G.ok H' v F ∧ F.Nodup ∧ ∀ a ∈ F, H a = none
theorem r_G {i : Nat} {G : Rgn} (q : Gives H0 (RG G) R) (h : S[i]? = some (.gen G)) : ExS H0 R (tRet (tVar i)) S N := fun D σ H hs hn hr => by
  obtain ⟨ex, Fs, h1, h2, h3⟩ := id hs
  obtain ⟨o, F, h4, h5, v, h6, h7⟩ := h1.get h
  exact ⟨v, by rw [h4, h6], hr v H (q v H ⟨ex, F, h7, (List.sublist_flatten_of_mem (List.mem_of_getElem? h5)).nodup h2, fun a ha => h3 a (mem_flat h5 ha)⟩)⟩
theorem Gives.upG {H1 : Hp} {G : Rgn} (e : Same H0 H1) (q : Gives H0 (RG G) R) : Gives H1 (RG G) R := fun v H' k => by
  obtain ⟨k1, F, k2, k3, k4⟩ := k
  exact q v H' ⟨e.trans k1, F, k2, k3, fun a ha => e.free (k4 a ha)⟩
def EvG2 (H0 : Hp) (S : List SV) (te : TE) (G : Rgn) : Prop := ∀ σ H, StD H0 H σ S → ∀ Q : VK, (∀ v F H', Same H H' → G.ok H' v F → F.Nodup → (∀ a ∈ F, H a = none) → Q v H') → te σ H Q
theorem g_callG {α : Type} {av : α → List AV} {pre : α → Prop} {rp : α → Rp} {E : XK} {ta : TA} (x : α) {G : Rgn} (h : EvA H0 S ta (av x)) (hp : pre x) (e : rp x = RG G) : EvG2 H0 S (tCall (SpG av pre rp) [] E ta) G := fun σ H hσ Q q =>
  h σ H hσ _ fun vs H1 e1 h1 => by
    rw [List.append_nil]
    exact ⟨x, h1, hp, fun v H' k => by
      rw [e] at k
      obtain ⟨k1, F, k2, k3, k4⟩ := k
      exact q v F H' (e1.trans k1) k2 k3 fun a ha => e1.free (k4 a ha)⟩
/-- for run in new runs -/
theorem s_forRuns {tl : TE} {j : Nat} {tb : TS} {rs : List RunS} (hx : EvG2 H0 S tl (RunsR C rs)) (I : Nat → List SV → Prop) (h0 : I 0 S)
    (hs : ∀ H1, Same H0 H1 → ∀ (i : Nat) r S', rs[i]? = some r → I i S' → ExS H1 R tb (S'.set j (.hand (RunHd C r))) fun _ S3 => I (i + 1) S3) (hd : ∀ H1, Same H0 H1 → ∀ S', I rs.length S' → N H1 S') : ExS H0 R (tFor (iList K tl) (gName j) tb) S N := fun D σ H hσ hn hr =>
  hx σ H hσ _ fun v F H' e1 ok nd n => by
    obtain ⟨p, as, Fs, rfl, rfl, g2, g3⟩ := ok
    obtain ⟨H1, f1, f2, f3, f4, f5⟩ := hσ.rebase e1
    have hl := g3.len
    have np : H p = none := n p List.mem_cons_self
    have hR : RunsL C H1 as rs Fs := g3.away ⟨f4, fun a ha o hao => f5 a o (n a (List.mem_cons_of_mem _ ha)) hao⟩
    refine ⟨p, rfl, ⟨_, .inl (.inl g2)⟩, for_list (K := K) (a := p) (xs := as.map V.ref) (fun i σ' H'' => ∃ H2 S', Same H1 H2 ∧ I i S' ∧ StD H2 H'' σ' S') ⟨H1, S, Same.refl _, h0, f3⟩ (fun i σ' H'' _ q => ?_) (fun i x σ' H'' hi q => ?_) fun σ' H'' q => ?_⟩
    · obtain ⟨H2, S', q1, q2, q3⟩ := q
      exact .inl (.inl (q3.ex _ _ (q1 _ _ (f5 _ _ np g2))))
    · obtain ⟨H2, S', q1, q2, q3⟩ := q
      rw [List.getElem?_map] at hi
      obtain ⟨a, hi2, rfl⟩ := Option.map_eq_some_iff.mp hi
      obtain ⟨r, G, k1, k2⟩ := hR.get hi2
      have k3 := hs H2 (f1.trans q1) i r S' k1 q2
      exact k3 _ _ H'' (StD.put j q3 (x := .hand (RunHd C r)) (o := some (.ref a)) ⟨rfl, .ref a, rfl, a, G, rfl, k2.mono q1⟩) (fun H3 S3 σ3 H3' e3 n3 hs3 => ⟨H3, S3, q1.trans e3, n3, hs3⟩) hr
    · obtain ⟨H2, S', q1, q2, q3⟩ := q
      rw [List.length_map, hl] at q2
      exact hn H2 S' σ' H'' (f1.trans q1) (hd H2 (f1.trans q1) S' q2) q3
end
end Mw
-- part MwD2
set_option maxHeartbeats 4000000
/-! Dicts from texts to data, in frames. -/
namespace Mw
open PySem PySem.Spec PyProof.Rows L2
abbrev Dct := List (Str × D)
def KD (H : Hp) : List (Key × V) → Dct → Prop
  | [], [] => True
  | kv :: kvs, p :: m => kv.1 = .inr p.1 ∧ DV H kv.2 p.2 ∧ KD H kvs m
  | _, _ => False
def lookS : Dct → Str → Option D
  | [], _ => none
  | p :: m, k => if p.1 = k then some p.2 else lookS m k
def putS (m : Dct) (k : Str) (d : D) : Dct := if (lookS m k).isSome then m.map (fun p => if p.1 = k then (p.1, d) else p) else m ++ [(k, d)]
theorem KD.ts {H H' : Hp} (t : TupS H H') : ∀ {kvs : List (Key × V)} {m : Dct}, KD H kvs m → KD H' kvs m
  | [], [], _ => trivial
  | kv :: kvs, p :: m, h => ⟨h.1, DV.ts t _ _ h.2.1, KD.ts t h.2.2⟩
  | [], _ :: _, h => h.elim
  | _ :: _, [], h => h.elim
theorem KD.len {H : Hp} : ∀ {kvs : List (Key × V)} {m : Dct}, KD H kvs m → kvs.length = m.length
  | [], [], _ => rfl
  | kv :: kvs, p :: m, h => by rw [List.length_cons, List.length_cons, KD.len h.2.2]
  | [], _ :: _, h => h.elim
  | _ :: _, [], h => h.elim
theorem KD.val {H : Hp} (k : Str) : ∀ {kvs : List (Key × V)} {m : Dct}, KD H kvs m → (valV kvs (.inr k) = none ∧ lookS m k = none) ∨ ∃ v d, valV kvs (.inr k) = some v ∧ lookS m k = some d ∧ DV H v d
  | [], [], _ => .inl ⟨rfl, rfl⟩
  | kv :: kvs, p :: m, h => by
    obtain ⟨h1, h2, h3⟩ := h
    by_cases e : p.1 = k
    · refine .inr ⟨kv.2, p.2, valV_pos (by rw [h1, e]), ?_, h2⟩
      unfold lookS
      rw [if_pos e]
    · have e' : ¬ kv.1 = .inr k := fun z => e (by rw [h1] at z; exact Sum.inr.inj z)
      rw [valV_neg e']
      unfold lookS
      rw [if_neg e]
      exact KD.val k h3
  | [], _ :: _, h => h.elim
  | _ :: _, [], h => h.elim
theorem KD.keys {H : Hp} : ∀ {kvs : List (Key × V)} {m : Dct}, KD H kvs m → kvs.map (·.1) = (m.map (·.1)).map Sum.inr
  | [], [], _ => rfl
  | kv :: kvs, p :: m, h => by
    rw [List.map_cons, List.map_cons, List.map_cons, KD.keys h.2.2, h.1]
  | [], _ :: _, h => h.elim
  | _ :: _, [], h => h.elim
theorem KD.get {H : Hp} : ∀ {kvs : List (Key × V)} {m : Dct} {i : Nat} {k : Key} {v : V}, KD H kvs m → kvs[i]? = some (k, v) → ∃ p, m[i]? = some p ∧ k = .inr p.1 ∧ DV H v p.2
  | [], [], i, k, v, _, h => by simp at h
  | kv :: kvs, p :: m, 0, k, v, h, e => by
    have e : kv = (k, v) := by simpa using e
    subst e
    exact ⟨p, rfl, h.1, h.2.1⟩
  | kv :: kvs, p :: m, i + 1, k, v, h, e => by
    obtain ⟨q, h1, h2⟩ := KD.get (i := i) h.2.2 (by simpa using e)
    exact ⟨q, by simpa using h1, h2⟩
  | [], _ :: _, _, _, _, h, _ => h.elim
  | _ :: _, [], _, _, _, h, _ => h.elim
theorem KD.map_ {H : Hp} {k : Str} {v : V} {d : D} (hv : DV H v d) : ∀ {kvs : List (Key × V)} {m : Dct}, KD H kvs m → KD H (kvs.map fun kv => if kv.1 = .inr k then (kv.1, v) else kv) (m.map fun p => if p.1 = k then (p.1, d) else p)
  | [], [], _ => trivial
  | kv :: kvs, p :: m, h => by
    obtain ⟨h1, h2, h3⟩ := h
    rw [List.map_cons, List.map_cons]
    by_cases e : p.1 = k
    · rw [if_pos (by rw [h1, e]), if_pos e]
      exact ⟨h1, hv, KD.map_ hv h3⟩
    · rw [if_neg (fun z => e (by rw [h1] at z; exact Sum.inr.inj z)), if_neg e]
      exact ⟨h1, h2, KD.map_ hv h3⟩
  | [], _ :: _, h => h.elim
  | _ :: _, [], h => h.elim
theorem KD.snoc {H : Hp} {k : Str} {v : V} {d : D} (hv : DV H v d) : ∀ {kvs : List (Key × V)} {m : Dct}, KD H kvs m → KD H (kvs ++ [(.inr k, v)]) (m ++ [(k, d)])
  | [], [], _ => ⟨rfl, hv, trivial⟩
  | kv :: kvs, p :: m, h => ⟨h.1, h.2.1, KD.snoc hv h.2.2⟩
  | [], _ :: _, h => h.elim
  | _ :: _, [], h => h.elim
theorem KD.put {H : Hp} {k : Str} {v : V} {d : D} (hv : DV H v d) {kvs : List (Key × V)} {m : Dct} (h : KD H kvs m) : KD H (putK kvs (.inr k) v) (putS m k d) := by
  unfold putK putS
  rw [valV_any]
  rcases h.val k with ⟨h1, h2⟩ | ⟨v', d', h1, h2, _⟩
  · rw [h1, h2]
    rw [if_neg (by decide), if_neg (by decide)]
    exact h.snoc hv
  · rw [h1, h2]
    rw [if_pos (show (some v').isSome = true from rfl), if_pos (show (some d').isSome = true from rfl)]
    exact h.map_ hv
theorem putS_len (m : Dct) (k : Str) (d : D) : (putS m k d).length ≤ m.length + 1 := by
  unfold putS
  split
  · rw [List.length_map]; omega
  · simp
theorem lookS_put (m : Dct) (k j : Str) (d : D) : lookS (putS m k d) j = if k = j then some d else lookS m j := by
  unfold putS
  have hm : ∀ m : Dct, (lookS m k).isSome = true → lookS (m.map fun p => if p.1 = k then (p.1, d) else p) j = if k = j then some d else lookS m j := by
    intro m
    induction m with
    | nil => intro h; simp [lookS] at h
    | cons p m ih =>
      intro h
      rw [List.map_cons]
      by_cases e : p.1 = k
      · rw [if_pos e]
        unfold lookS
        by_cases f : k = j
        · rw [if_pos (show p.1 = j by rw [e, f]), if_pos f]
        · rw [if_neg (show ¬ p.1 = j by rw [e]; exact f), if_neg f, if_neg (show ¬ p.1 = j by rw [e]; exact f)]
          have nj : ∀ m : Dct, lookS (m.map fun p => if p.1 = k then (p.1, d) else p) j = lookS m j := by
            intro m
            induction m with
            | nil => rfl
            | cons q m ih2 =>
              rw [List.map_cons]
              by_cases g : q.1 = k
              · rw [if_pos g]
                unfold lookS
                rw [if_neg (show ¬ q.1 = j by rw [g]; exact f), if_neg (show ¬ q.1 = j by rw [g]; exact f), ih2]
              · rw [if_neg g]
                unfold lookS
                rw [ih2]
          rw [nj m]
      · rw [if_neg e]
        have h' : (lookS m k).isSome = true := by
          unfold lookS at h
          rw [if_neg e] at h
          exact h
        unfold lookS
        by_cases g : p.1 = j
        · rw [if_pos g, if_neg (fun z => e (g.trans z.symm)), if_pos g]
        · rw [if_neg g, if_neg g]
          exact ih h'
  by_cases h : (lookS m k).isSome = true
  · rw [if_pos h]
    exact hm m h
  · rw [if_neg h]
    have hn : lookS m k = none := by
      cases e : lookS m k with
      | none => rfl
      | some x => rw [e] at h; exact absurd rfl h
    have app : ∀ m : Dct, lookS m k = none → lookS (m ++ [(k, d)]) j = if k = j then some d else lookS m j := by
      intro m
      induction m with
      | nil => intro _; simp [lookS]
      | cons p m ih =>
        intro hn
        have e : ¬ p.1 = k := fun z => by unfold lookS at hn; rw [if_pos z] at hn; cases hn
        have hn' : lookS m k = none := by unfold lookS at hn; rw [if_neg e] at hn; exact hn
        rw [List.cons_append]
        unfold lookS
        by_cases g : p.1 = j
        · rw [if_pos g, if_neg (fun z => e (g.trans z.symm)), if_pos g]
        · rw [if_neg g, if_neg g]
          exact ih hn'
    exact app m hn
theorem lookS_mem {m : Dct} {k : Str} : (lookS m k).isSome = true ↔ k ∈ m.map (·.1) := by
  induction m with
  | nil => simp [lookS]
  | cons p m ih =>
    unfold lookS
    by_cases e : p.1 = k
    · rw [if_pos e]; simp [e]
    · rw [if_neg e, ih, List.map_cons, List.mem_cons]
      exact ⟨.inr, fun h => h.elim (fun z => absurd z.symm e) id⟩
/-! ### in frames -/
def DctHd (m : Dct) : Hd := ⟨fun H v => ∃ p kvs, v = .ref p ∧ Rd H p (.dK kvs) ∧ KD H kvs m, fun e h => by
  obtain ⟨p, kvs, h1, h2, h3⟩ := h
  exact ⟨p, kvs, h1, h2.imp (fun z => e _ _ z) (fun ⟨o, z⟩ => ⟨o, e _ _ z⟩), h3.ts (TupS.of e)⟩⟩
def DctR (m : Dct) : Rgn where
  ok := fun H v F => ∃ p kvs, v = .ref p ∧ F = [p] ∧ H p = some (.dK kvs) ∧ KD H kvs m
  away := fun w h => by
    obtain ⟨p, kvs, h1, h2, h3, h4⟩ := h
    subst h2
    exact ⟨p, kvs, h1, rfl, w.2 p (by simp) _ h3, h4.ts w.1⟩
  inn := fun h b hb => by
    obtain ⟨p, kvs, h1, h2, h3, h4⟩ := h
    subst h2
    rw [List.mem_singleton.mp hb]
    exact ⟨_, h3, fun _ k => by cases k⟩
  hd := DctHd m
  toHd := fun h => by
    obtain ⟨p, kvs, h1, h2, h3, h4⟩ := h
    exact ⟨p, kvs, h1, .inl h3, h4⟩
section
variable {K : PySem.W.Frag} {H0 : Hp} {S : List SV} {R : V → Hp → Prop} {N : Hp → List SV → Prop}
theorem x_vD {i : Nat} {m : Dct} (h : S[i]? = some (.gen (DctR m))) : EvX H0 S (tVar i) (.hand (DctHd m)) := x_vg h
theorem x_dget {td ty : TE} {m : Dct} {k : Str} {d : D} (h : EvX H0 S td (.hand (DctHd m))) (hk : EvX H0 S ty (.dat (.str k))) (hd : lookS m k = some d) : EvX H0 S (tDGet td ty) (.dat d) := fun σ H hs Q q =>
  h σ H hs _ fun v H1 e1 hv => hk σ H1 (hs.grow e1) _ fun u H2 e2 hu => by
    obtain ⟨p, kvs, rfl, h1, h2⟩ := (DctHd m).mono e2 hv
    have hu : u = .str k := hu
    subst hu
    rcases h2.val k with ⟨_, g⟩ | ⟨w, d', g1, g2, g3⟩
    · rw [hd] at g; cases g
    · rw [hd] at g2
      cases g2
      exact ⟨p, w, rfl, .inl ⟨kvs, .inr k, h1, rfl, g1.symm⟩, q w H2 (e1.trans e2) g3⟩
theorem x_dget2 {td ty tz : TE} {m : Dct} {k : Str} {d : D} (h : EvX H0 S td (.hand (DctHd m))) (hk : EvX H0 S ty (.dat (.str k))) (hz : EvX H0 S tz (.dat d)) : EvX H0 S (tDGet2 td ty tz) (.dat ((lookS m k).getD d)) := fun σ H hs Q q =>
  h σ H hs _ fun v H1 e1 hv => by
    obtain ⟨p, kvs, rfl, h1, h2⟩ := id hv
    refine ⟨p, rfl, .inl ⟨kvs, h1⟩, hk σ H1 (hs.grow e1) _ fun u H2 e2 hu => hz σ H2 (hs.grow (e1.trans e2)) _ fun w H3 e3 hw => ?_⟩
    obtain ⟨p', kvs', e', h1', h2'⟩ := (DctHd m).mono (e2.trans e3) hv
    cases e'
    have hu : u = .str k := hu
    subst hu
    rcases h2'.val k with ⟨g1, g2⟩ | ⟨z, d', g1, g2, g3⟩
    · refine ⟨none, .inl ⟨kvs', .inr k, h1', rfl, g1.symm⟩, q _ H3 ((e1.trans e2).trans e3) ?_⟩
      rw [g2]
      exact hw
    · refine ⟨some z, .inl ⟨kvs', .inr k, h1', rfl, g1.symm⟩, q _ H3 ((e1.trans e2).trans e3) ?_⟩
      rw [g2]
      exact g3
theorem x_din {td ty : TE} {m : Dct} {k : Str} (hk : EvX H0 S ty (.dat (.str k))) (h : EvX H0 S td (.hand (DctHd m))) : EvX H0 S (tDIn ty td) (.val (.bl (lookS m k).isSome)) := fun σ H hs Q q =>
  hk σ H hs _ fun u H1 e1 hu => h σ H1 (hs.grow e1) _ fun v H2 e2 hv => by
    obtain ⟨p, kvs, rfl, h1, h2⟩ := hv
    have hu : u = .str k := hu
    subst hu
    rcases h2.val k with ⟨g1, g2⟩ | ⟨w, d', g1, g2, g3⟩
    · exact ⟨p, none, rfl, .inl ⟨kvs, .inr k, h1, rfl, g1.symm⟩, q _ H2 (e1.trans e2) (by rw [g2]; rfl)⟩
    · exact ⟨p, some w, rfl, .inl ⟨kvs, .inr k, h1, rfl, g1.symm⟩, q _ H2 (e1.trans e2) (by rw [g2]; rfl)⟩
theorem x_dni {td ty : TE} {m : Dct} {k : Str} (hk : EvX H0 S ty (.dat (.str k))) (h : EvX H0 S td (.hand (DctHd m))) : EvX H0 S (tDNotIn ty td) (.val (.bl (!(lookS m k).isSome))) := fun σ H hs Q q =>
  hk σ H hs _ fun u H1 e1 hu => h σ H1 (hs.grow e1) _ fun v H2 e2 hv => by
    obtain ⟨p, kvs, rfl, h1, h2⟩ := hv
    have hu : u = .str k := hu
    subst hu
    rcases h2.val k with ⟨g1, g2⟩ | ⟨w, d', g1, g2, g3⟩
    · exact ⟨p, none, rfl, .inl ⟨kvs, .inr k, h1, rfl, g1.symm⟩, q _ H2 (e1.trans e2) (by rw [g2]; rfl)⟩
    · exact ⟨p, some w, rfl, .inl ⟨kvs, .inr k, h1, rfl, g1.symm⟩, q _ H2 (e1.trans e2) (by rw [g2]; rfl)⟩
/-- a dict's own put, for a target -/
theorem dct_put {σ : L2.St} {H : Hp} {i : Nat} {m : Dct} {k : Str} {v : V} {d : D} (hs : StD H0 H σ S) (hi : S[i]? = some (.gen (DctR m))) (hv : DV H v d) (hz : m.length < sizeLine) : ∃ p H', σ[i]? = some (some (.ref p)) ∧ DPut H p (.str k) v H' ∧ StD H0 H' σ (S.set i (.gen (DctR (putS m k d)))) ∧ TupS H H' := by
  obtain ⟨w, F, h1, h2, h3, h4, h5⟩ := StD.mutG hs hi
  obtain ⟨p, kvs, rfl, rfl, k1, k2⟩ := h2
  have ts : TupS H (upd H p (.dK (putK kvs (.inr k) v))) := fun a vs ha => by
    rw [upd_ne (ne_of ha k1 (by intro z; cases z))]
    exact ha
  refine ⟨p, upd H p (.dK (putK kvs (.inr k) v)), h1, .inl ⟨kvs, .inr k, k1, rfl, by rw [k2.len]; exact hz, rfl⟩, h5 (F' := [p]) (G' := DctR (putS m k d)) ts (fun a o ha hF => ?_) (by simp) (fun a ha => .inl ha) ⟨p, _, rfl, rfl, upd_same, (k2.put hv).ts ts⟩, ts⟩
  rw [upd_ne (fun z => hF (by rw [z]; simp))]
  exact ha
/-- m[k] = e -/
theorem s_dput {i : Nat} {te ti : TE} {m : Dct} {k : Str} {d : D} (hi : S[i]? = some (.gen (DctR m))) (hk : EvX H0 S ti (.dat (.str k))) (h : EvX H0 S te (.dat d)) (hz : m.length < sizeLine) (kk : N H0 (S.set i (.gen (DctR (putS m k d))))) : ExS H0 R (sDPut (tVar i) ti te) S N := fun D σ H hs hn hr =>
  h σ H hs _ fun v H1 e1 hv => by
    have hs1 := hs.grow e1
    obtain ⟨p0, _, g0, _⟩ := dct_put (k := k) hs1 hi hv hz
    refine ⟨.ref p0, g0, hk σ H1 hs1 _ fun u H2 e2 hu => ?_⟩
    have hu : u = .str k := hu
    subst hu
    obtain ⟨p, H', g1, g2, g3, _⟩ := dct_put (k := k) (hs1.grow e2) hi (DV.mono e2 hv) hz
    rw [g0] at g1
    cases g1
    exact ⟨p0, H', rfl, g2, hn H0 _ _ _ (Same.refl H0) kk g3⟩
/-- .. a value of which something is told -/
theorem s_dputP {i : Nat} {te ti : TE} {m : Dct} {k : Str} {P : D → Prop} (hi : S[i]? = some (.gen (DctR m))) (hk : EvX H0 S ti (.dat (.str k))) (h : EvP H0 S te P) (hz : m.length < sizeLine) (kk : ∀ d, P d → N H0 (S.set i (.gen (DctR (putS m k d))))) : ExS H0 R (sDPut (tVar i) ti te) S N := fun D σ H hs hn hr =>
  h σ H hs _ fun d v H1 hp e1 hv => by
    have hs1 := hs.grow e1
    obtain ⟨p0, _, g0, _⟩ := dct_put (k := k) hs1 hi hv hz
    refine ⟨.ref p0, g0, hk σ H1 hs1 _ fun u H2 e2 hu => ?_⟩
    have hu : u = .str k := hu
    subst hu
    obtain ⟨p, H', g1, g2, g3, _⟩ := dct_put (k := k) (hs1.grow e2) hi (DV.mono e2 hv) hz
    rw [g0] at g1
    cases g1
    exact ⟨p0, H', rfl, g2, hn H0 _ _ _ (Same.refl H0) (kk d hp) g3⟩
/-- {} -/
theorem s_dnew {i : Nat} (k : N H0 (S.set i (.gen (DctR [])))) : ExS H0 R (tAsg tDNewK (gName i)) S N := fun D σ H hs hn hr p hp =>
  hn H0 _ _ _ (Same.refl H0) k (StD.putF (F := [p]) (x := .gen (DctR [])) i hs (same_new hp) (by simp) (fun a ha => by rw [List.mem_singleton.mp ha]; exact hp) ⟨.ref p, rfl, p, [], rfl, rfl, upd_same, trivial⟩)
/-- a new dict assigned -/
theorem s_asgG2 {te : TE} {i : Nat} {G : Rgn} (h : EvG2 H0 S te G) (k : N H0 (S.set i (.gen G))) : ExS H0 R (tAsg te (gName i)) S N := fun D σ H hs hn hr =>
  h σ H hs _ fun v F H1 e1 ok nd n => hn H0 _ _ H1 (Same.refl H0) k (StD.putF (x := .gen G) i hs e1 nd n ⟨v, rfl, ok⟩)
/-- dict(d): a copy -/
theorem g_copyD {te : TE} {m : Dct} (h : EvX H0 S te (.hand (DctHd m))) : EvG2 H0 S (tCB (fun xs H Q => ∃ (a : Addr) (kvs : List (Key × V)), xs = [.ref a] ∧ Rd H a (.dK kvs) ∧ ∀ p, H p = none → Q (.ref p) (upd H p (.dK kvs))) (tCons te tNil)) (DctR m) := fun σ H hs Q q =>
  h σ H hs _ fun v H1 e1 hv => by
    obtain ⟨p, kvs, rfl, h1, h2⟩ := hv
    exact ⟨p, kvs, rfl, h1, fun p' hp => q _ [p'] _ (e1.trans (same_new hp)) ⟨p', kvs, rfl, rfl, upd_same, h2.ts (TupS.of (same_new hp))⟩ (by simp) fun a ha => by rw [List.mem_singleton.mp ha]; exact e1.free hp⟩
def mergeS (m more : Dct) : Dct := more.foldl (fun acc p => putS acc p.1 p.2) m
theorem KD.merge {H : Hp} : ∀ {more : List (Key × V)} {mm : Dct} {kvs : List (Key × V)} {m : Dct}, KD H more mm → KD H kvs m → KD H (mergeK kvs more) (mergeS m mm)
  | [], [], _, _, _, h => h
  | kv :: more, p :: mm, kvs, m, hm, h => by
    obtain ⟨h1, h2, h3⟩ := hm
    show KD H (mergeK (putK kvs kv.1 kv.2) more) (mergeS (putS m p.1 p.2) mm)
    refine KD.merge h3 ?_
    rw [h1]
    exact h.put h2
  | [], _ :: _, _, _, h, _ => h.elim
  | _ :: _, [], _, _, h, _ => h.elim
def pairSD (p : Str × D) : D := .tup [.str p.1, p.2]
/-- dict(pairs) -/
theorem g_dictP {te : TE} {m : Dct} (h : EvX H0 S te (.lst (m.map pairSD))) : EvG2 H0 S (tCB (fun xs H Q => ∃ (a : Addr) (ps : List Addr) (kvs : List (Key × V)), xs = [.ref a] ∧ SqL K H a (ps.map V.ref) ∧ Paired (fun p kv => SqT K H p [kV kv.1, kv.2]) ps kvs ∧
    ∀ p, H p = none → Q (.ref p) (upd H p (.dK (mergeK [] kvs)))) (tCons te tNil)) (DctR (mergeS [] m)) := fun σ H hs Q q =>
  h σ H hs _ fun v H1 e1 hv => by
    obtain ⟨a, us, rfl, h1, h2⟩ := hv
    have key : ∀ {m : Dct} {us : List V}, DVs H1 us (m.map pairSD) → ∃ (ps : List Addr) (kvs : List (Key × V)), us = ps.map V.ref ∧ Paired (fun p kv => SqT K H1 p [kV kv.1, kv.2]) ps kvs ∧ KD H1 kvs m := by
      intro m
      induction m with
      | nil =>
        intro us h
        have h : us = [] := h
        subst h
        exact ⟨[], [], rfl, .nil, trivial⟩
      | cons p m ih =>
        intro us h
        obtain ⟨v, r, rfl, e2, e3⟩ := h
        obtain ⟨ps, kvs, rfl, k1, k2⟩ := ih e3
        obtain ⟨t, ws, rfl, g1, u1, r1, rfl, g2, u2, r2, rfl, g3, g4⟩ := e2
        have g2 : u1 = .str p.1 := g2
        have g4 : r2 = [] := g4
        subst g2 g4
        exact ⟨t :: ps, (.inr p.1, u2) :: kvs, rfl, .cons (.inl (.inl g1)) k1, rfl, g3, k2⟩
    obtain ⟨ps, kvs, rfl, k1, k2⟩ := key h2
    exact ⟨a, ps, kvs, rfl, .inl (.inl h1), k1, fun p hp => q _ [p] _ (e1.trans (same_new hp)) ⟨p, _, rfl, rfl, upd_same, (KD.merge (m := []) (kvs := []) k2 trivial).ts (TupS.of (same_new hp))⟩ (by simp) fun b hb => by rw [List.mem_singleton.mp hb]; exact e1.free hp⟩
/-- sorted(d) -/
theorem n_sortedDct {te : TE} {m : Dct} (h : EvX H0 S te (.hand (DctHd m))) (hz : m.length < 64) (hn : (m.map (·.1)).Nodup) : EvN H0 S (tCB (fun xs H Q => ∃ (a : Addr) (kvs : List (Key × V)) (ks : List Str), xs = [.ref a] ∧ Rd H a (.dK kvs) ∧ kvs.map (·.1) = ks.map Sum.inr ∧ ks.length < 64 ∧
    ∀ ys p, ys.Perm ks → sortedS ys = true → H p = none → Q (.ref p) (upd H p (.lst (ys.map V.str)))) (tCons te tNil)) ((sortU (m.map (·.1))).map D.str) := fun σ H hs Q q =>
  h σ H hs _ fun v H1 e1 hv => by
    obtain ⟨p, kvs, rfl, h1, h2⟩ := hv
    refine ⟨p, kvs, m.map (·.1), rfl, h1, h2.keys, by rw [List.length_map]; exact hz, fun ys p' hp hsrt hnew => ?_⟩
    have e : ys = sortU (m.map (·.1)) := ris_uniq (ris_of hsrt (hp.nodup_iff.mpr hn)) (ris_sortU _) fun s => by rw [hp.mem_iff, mem_sortU]
    subst e
    exact q p' _ _ (e1.trans (same_new hnew)) (e1.free hnew) upd_same DVs.ofStrs
end
end Mw
-- part MwX2
set_option maxHeartbeats 4000000
/-! The own exception class Touch: made, raised. -/
namespace Mw
open PySem PySem.Spec PyProof.Rows L2
/-- X.__init__ of the own class at Cw is ValueError's -/
structure ClsVe (K : PySem.W.Frag) (Cw : Addr) (mc : Value) : Prop where
  rd : ClX.CRead K Cw mc
  at_ : PySem.W.findCls K (.ref Cw) mc "__init__" = some (.val (.builtin "ValueError.__init__"))
theorem pe_veinitW {X : Cx} {x : Str} {Cw : Addr} {mc : Value} {e : Expr} {es : List Expr} {ta : TA} {p1 p2 pos : Pos} {pl : Sem Bool} (hg : Gl X x) (hm : X.mg x = some (.ref Cw)) (vV : ClsVe X.K Cw mc) (ha : PA X (e :: es) ta)
    (hc : eval (.Call (.Attribute (.Name x p1) "__init__" p2) (e :: es) [] pos) X.env = (do
      let ov ← eval (.Name x p1) X.env
      standAt p2.atName
      let (f, first) ← holding [ov] (getMethod ov "__init__" pl)
      callWith pos f first (backTo pos (starEach (e :: es) X.env)) (backToKw pos (keywordEach [] X.env))) := by rfl)
    (hdb : (x == ("__debug__" : Str)) = false := by decide)
    (he : starEach (e :: es) X.env = (false, eval e X.env) :: starEach es X.env := by rfl) (hpl : (backTo pos (starEach es X.env)).any (·.1) = false := by rfl) :
    PE X (.Call (.Attribute (.Name x p1) "__init__" p2) (e :: es) [] pos) (tVeI X.K ta) := by
  refine ⟨fun pins s σ H Q I h => ?_⟩
  refine PySem.W.methodCall_KW (ld_glob I hg hm ?_ hdb) hc
  refine PySem.W.method_cls I.kIn vV.rd.ga ?_
  refine PySem.W.cls_value I.kIn vV.rd.rd vV.at_ (by rfl) ?_
  show wpAny _ _ (callWith pos (Value.builtin "ValueError.__init__") [] (backTo pos (starEach (e :: es) X.env)) []) _ _ _
  refine PyProof.Rows.callWith_method1 (thn (ha.run pos pins _ σ H _ (I.tok _) h) fun us s1 ⟨vs, H1, I1, r1, a, C, ws, ev, hl, T, ea, q⟩ => ?_) he hpl
  subst ev
  cases r1 with
  | @cons _ u0 _ ur ra rw' =>
    obtain rfl : u0 = Value.ref a := ra
    have hlen : ur.length ≤ sizeLine := by
      rw [← Paired.length rw', sizeLine_eq]
      omega
    exact oinit_ok T I1 ea hlen fun s' J => ⟨.non, H1, J, rfl, q⟩
/-- what the text's top says of Touch -/
structure Tch (K : PySem.W.Frag) (mg : Str → Option Value) (C : Addr) (st : Stmt) : Prop where
  mgT : mg "Touch" = some (.ref C)
  init : ∃ f fd, PySem.W.findIn K (.ref C) "__init__" = some (some (.ref f)) ∧ PySem.W.typeIn K (.ref f) = some (.type "function") ∧ FunD K "__init__" "Touch.__init__" (defArgs st) (defBody st) (defScope st) [] [] f fd
  T : OexC K C
  xf : XfC K C
  n1 : PySem.W.findIn K (.ref C) "one" = some none
  n2 : PySem.W.findIn K (.ref C) "other" = some none
  wood : ∃ Cw mc, mg "WoodError" = some (.ref Cw) ∧ ClsVe K Cw mc
  ex : PySem.W.exmOne K (.ref C) (.ref C) = some true
/-- what Touch.__init__ does -/
def spTI (C : Addr) : Sp := fun vs H Q _ => ∃ a v1 v2, vs = [.ref a, v1, v2] ∧ H a = some (exo a C none) ∧ ∀ dx, H dx = none → dx ≠ a → Q .non (upd (upd (upd H dx (exd dx [("one", v1)])) a (exo a C (some dx))) dx (exd dx [("other", v2), ("one", v1)]))
/-! Touch.__init__: slots 0 self  1 one  2 other   -/
abbrev st_Touch_init : Stmt := inClass (topS 3) 0
abbrev N_Touch_init : List Str := ["self", "one", "other"]
theorem sc_Touch_init : FnScope N_Touch_init ["self", "one", "other"] (defScope st_Touch_init) := ⟨rfl, rfl, rfl, by decide +kernel, rfl, by decide +kernel, by decide +kernel⟩
abbrev tTI (K : PySem.W.Frag) : TS := tSeq (tDrop (tVeI K (tCons (tVar 0) (tCons (tC (.str "two changes touch")) tNil)))) (tSeq (tOst K "one" (tVar 0) (tVar 1)) (tOst K "other" (tVar 0) (tVar 2)))
theorem tTI_ok {K : PySem.W.Frag} {mg : Str → Option Value} {C : Addr} {st : Stmt} (T : Tch K mg C st) {vs : List V} {H : Hp} {Q : VK} {E : XK} (h : spTI C vs H Q E) : tTI K { nx := fun _ H' => Q .non H', rt := Q } (start N_Touch_init vs) H := by
  obtain ⟨a, v1, v2, rfl, ha, hq⟩ := h
  refine ⟨_, rfl, ⟨a, C, [.str "two changes touch"], rfl, by decide, T.T, ha, ?_⟩⟩
  refine ⟨_, rfl, _, rfl, a, C, rfl, T.T, T.n1, .inl ⟨ha, fun dx hn hne => ?_⟩⟩
  refine ⟨_, rfl, _, rfl, a, C, rfl, T.T, T.n2, .inr ⟨dx, [("one", v1)], upd_same, ?_, by simp, ?_⟩⟩
  · rw [upd_ne hne, upd_same]
  · exact hq dx hn hne
theorem spTI_len {C : Addr} (vs : List V) (H : Hp) (Q : VK) (E : XK) (h : spTI C vs H Q E) : vs.length = ["self", "one", "other"].length := by
  obtain ⟨a, v1, v2, rfl, _⟩ := h
  rfl
/-- Touch's making, where nothing is handled and in an except suite -/
structure TchF (P : Program) (w : World) (K : PySem.W.Frag) (mg : Str → Option Value) (base : Heap) (C f : Addr) (fd : FuncData) : Prop where
  iC : PySem.W.findIn K (.ref C) "__init__" = some (some (.ref f))
  tI : PySem.W.typeIn K (.ref f) = some (.type "function")
  ok : FnOk P w K mg base CX0 1 f fd ["self", "one", "other"] (spTI C)
  hot : L2H.FnH P w K mg base CX0 1 f fd ["self", "one", "other"] (spTI C)
  bd : Binds K fd ["self", "one", "other"] []
theorem Tch.fn {P : Program} {w : World} {K : PySem.W.Frag} {mg : Str → Option Value} {base : Heap} {C : Addr} (T : Tch K mg C st_Touch_init) : ∃ f fd, TchF P w K mg base C f fd := by
  obtain ⟨f, fd, h1, h2, h3⟩ := T.init
  obtain ⟨Cw, mc, w1, w2⟩ := T.wood
  refine ⟨f, fd, h1, h2, ?_, ?_, h3.bindsN fun _ _ _ _ _ _ us hl => match us, hl with | [_, _, _], _ => rfl⟩
  · exact h3.ok sc_Touch_init spTI_len fun cdv A outer s H vs Q E hr h =>
      ⟨_, pss_cons (ps_expr (pe_veinitW (by rfl) w1 w2 (pa_cons (pv 0) (pa_cons pe_str pa_nil)))) (pss_cons (ps_ost (pv 0) (pv 1)) (pss_one (ps_ost (pv 0) (pv 2)))), tTI_ok T h⟩
  · obtain ⟨oc, od, dV, kV, doc, pm, an, cdv, ct, osl, rfl, lk, hcd, _, _⟩ := h3.ex
    exact L2H.fn_ofH lk hcd sc_Touch_init spTI_len fun A outer s H vs Q E p hot hr h =>
      ⟨_, pss_cons (ps_expr (pe_veinitW (by rfl) w1 w2 (pa_cons (pv 0) (pa_cons pe_str pa_nil)))) (pss_cons (ps_ost (pv 0) (pv 1)) (pss_one (ps_ost (pv 0) (pv 2)))), tTI_ok T h⟩
end Mw
-- part MwX3
set_option maxHeartbeats 4000000
/-! Touch(..) where nothing is handled, with no context. -/
namespace Mw
open PySem PySem.Spec PyProof.Rows L2
theorem pmk_TN {X : Cx} {C f : Addr} {k : Nat} {fd : FuncData} {ps : List Str} {sp : Sp} {x : Str} {e : Expr} {es : List Expr} {ta : TA} {p pos : Pos} (T : OexC X.K C) (iC : PySem.W.findIn X.K (.ref C) "__init__" = some (some (.ref f))) (tI : PySem.W.typeIn X.K (.ref f) = some (.type "function"))
    (F : FnOk X.prog X.w X.K X.mg X.base CX0 k f fd ps sp) (hr : Room (k + 1) X.A) (hb : Binds X.K fd ps []) (hg : Gl X x) (hm : X.mg x = some (.ref C)) (ha : PA X (e :: es) ta)
    (hdb : (x == ("__debug__" : Str)) = false := by decide) (he : starEach (e :: es) X.env = (false, eval e X.env) :: starEach es X.env := by rfl) (hpl : (backTo pos (starEach es X.env)).any (·.1) = false := by rfl) :
    L2N.PMk X (.Call (.Name x p) (e :: es) [] pos) (tMkO C sp [] ta) := by
  intro pins s σ H Q I h
  obtain ⟨nm, q, N, bs, bm, sn, sub, ab, col, dd, k0, k1, k2, k3, k5, hC, hbm⟩ := T.cls
  refine wpAny_Call_Name_kw (ld_glob I hg hm ?_ hdb)
  refine PySem.W.callWith_K (h₀ := X.base) I.ok.mod.kin T.kC (thn (ha.run pos pins s σ H _ I h) fun us s1 ⟨vs, H1, I1, r1, hz, q1⟩ => ⟨I1.kIn, ?_⟩) he hpl
  show wpAny _ _ (call (.ref C) us) _ _ _
  obtain ⟨hp, g, dr, tk, os⟩ := s1
  have hsz : hp.objs.size ≤ hp.objs.size + 1 := Nat.le_succ _
  have hn : H1 (hp.objs.size + 1) = none := I1.hok.fresh hsz
  have hq := q1 (hp.objs.size + 1) hn
  rw [List.append_nil] at hq
  have kk : ∀ b o, hp.get? b = some o → ((hp.push (PySem.W.kdv_tup us)).push (PySem.HandSPX.excO C hp.objs.size)).get? b = some o := fun b o e => Heap.get?_push_of_some _ (Heap.get?_push_of_some _ e)
  have hget : ((hp.push (PySem.W.kdv_tup us)).push (PySem.HandSPX.excO C hp.objs.size)).get? (hp.objs.size + 1) = some (PySem.HandSPX.excO C hp.objs.size) := by heap_get
  have I2 : Inv X pins σ (upd H1 (hp.objs.size + 1) (exo (hp.objs.size + 1) C none)) ⟨(hp.push (PySem.W.kdv_tup us)).push (PySem.HandSPX.excO C hp.objs.size), g, dr, tk, os⟩ :=
    I1.laid (t' := tk) (a := hp.objs.size + 1) (o := exo (hp.objs.size + 1) C none) (h' := (hp.push (PySem.W.kdv_tup us)).push (PySem.HandSPX.excO C hp.objs.size)) kk hsz (exo_ok hget)
  have r2 : Vals (V.ref (hp.objs.size + 1) :: vs) (Value.ref (hp.objs.size + 1) :: us) := .cons rfl r1
  have hl : (Value.ref (hp.objs.size + 1) :: us).length = ps.length := by
    have e := r2.length
    rw [F.len _ _ _ _ hq] at e
    exact e.symm
  have hus : us.length ≤ sizeLine := by
    rw [← Paired.length r1, sizeLine_eq]
    omega
  have b2 := hb _ (Value.ref (hp.objs.size + 1) :: us) I2.kIn (by rw [List.append_nil]; exact hl)
  rw [List.append_nil] at b2
  refine wpAny_call (PySem.HandSPX.call_own PySem.F.excBase_ValueError (fun Y => PySem.HandSPX.refsVE_contains Y bm hbm) (I1.kIn _ _ hC) (PySem.W.looks_findIn I1.kIn iC) (fun self => PySem.W.bind_fn I1.kIn self tI) hus
    (codeAny_mono (F.run _ X.stack _ _ ⟨Value.ref (hp.objs.size + 1) :: us, []⟩ (Value.ref (hp.objs.size + 1) :: us) _ _ (fun _ _ _ => False) (hr.make C us []) (I2.env0.make C us []) b2 r2 hq) fun r s' hq' => ?_))
  cases r with
  | error er => exact False.elim hq'
  | ok fl =>
    cases fl with
    | ret u =>
      obtain ⟨v, H2, os2, bare2, un2, hok2, rv, ev, d, fs, ea, ed, hd1, q2⟩ := hq'
      subst ev
      obtain ⟨h2, g2, d2, t2, os'⟩ := s'
      obtain ⟨t0, G, J, kG, ge, hoe, na⟩ := mk_end0 (d2 := d2) (t2 := t2) I1 hsz kk un2 hok2 os2 bare2 ea ed hd1
      refine ⟨rv, ⟨hp.objs.size + 1, _, _, ⟨G, g2, d2, t2, os'⟩, _, .ref C, some d, rfl, J, kG, ge, hoe, ⟨rfl, rfl, fun vs hv => ?_⟩, rfl, rfl, na, rfl, bare2, raises_own T.exC T.tyC, q2⟩⟩
      cases hv
      rfl
    | next => exact False.elim hq'
    | brk => exact False.elim hq'
    | cont => exact False.elim hq'
/-! what making a Touch comes to -/
theorem tMkO_ok {K : PySem.W.Frag} {C : Addr} {ta : TA} {σ : L2.St} {H : Hp} {Q : XK}
    (h : ta σ H fun vs H1 => ∃ v1 v2, vs = [v1, v2] ∧ ∀ d H', (∀ b, b ≠ d → H' b = H1 b) → H1 d = none → H' d = some (.xd [("other", v2), ("one", v1)]) → Q (.ref C) (some d) H')
    (mono : ∀ {P P' : List V → Hp → Prop}, (∀ vs H, P vs H → P' vs H) → ta σ H P → ta σ H P') : tMkO C (spTI C) [] ta σ H Q := by
  refine mono (fun vs H1 ⟨v1, v2, ev, hq⟩ => ?_) h
  subst ev
  refine ⟨by simp, fun a ha => ⟨a, v1, v2, rfl, upd_same, fun dx hn hne => ⟨rfl, dx, [("other", v2), ("one", v1)], ?_, upd_same, ?_, ?_⟩⟩⟩
  · rw [upd_ne (Ne.symm hne), upd_same]
  · rw [upd_ne hne] at hn; exact hn
  · refine hq dx _ (fun b hb => ?_) (by rw [upd_ne hne] at hn; exact hn) upd_same
    rw [upd_ne hb]
    by_cases e : b = a
    · rw [e, del_same, ha]
    · rw [del_ne e, upd_ne hb, upd_ne e, upd_ne hb, upd_ne e]
end Mw
-- part MwS2
set_option maxHeartbeats 4000000
/-! A comprehension whose items are new lists: a new table. -/
namespace Mw
open PySem PySem.Spec PyProof.Rows L2
section
variable {K : PySem.W.Frag} {H0 : Hp} {S : List SV}
theorem Rws.append {H : Hp} : ∀ {rs rs' : List Addr} {m m' : List (List D)}, Rws H rs m → Rws H rs' m' → Rws H (rs ++ rs') (m ++ m')
  | [], _, [], _, _, h => h
  | [], _, _ :: _, _, h, _ => h.elim
  | _ :: _, _, [], _, h, _ => h.elim
  | r :: rs, _, row :: m, _, h, h' => ⟨h.1, Rws.append h.2 h'⟩
theorem nt_lcR1 {tl : TE} {g : TG} {te : TE} {vs : List Nat} {n : Int} {row : List D} (hx : EvX H0 S tl (.dat (.int n))) (hn : -(2 ^ 62) ≤ n ∧ n ≤ 16777216)
    (ht : ∀ i : Nat, i < n.toNat → ∃ js S2, EvG H0 g js (.int (i : Int)) (wipeS S vs) S2 ∧ (∀ j ∈ js, j ∈ vs) ∧ EvN H0 S2 te row) : EvNT H0 S (tLc (iRng1 (tCons tl tNil)) g tYes te vs) (List.replicate n.toNat row) := fun σ H hσ Q q =>
  hx σ H hσ _ fun v H1 e1 hv => by
    have hv : v = .int n := hv
    subst hv
    refine ⟨n, rfl, hn.1, by omega, fun Dl hD => ⟨fun i m H' => m = n.toNat - i ∧ i ≤ n.toNat ∧ Same H1 H' ∧ ∃ rs : List Addr, H' Dl = some (.lst (rs.map V.ref)) ∧ (Dl :: rs).Nodup ∧ (∀ a ∈ rs, H1 a = none) ∧ Rws H' rs (List.replicate i row), ⟨n.toNat, rfl, Nat.zero_le _, same_new hD, [], upd_same, by simp, by simp, trivial⟩, ?_⟩⟩
    rintro i m H' ⟨rfl, hi, s1, rs, hacc, hnd, hfr, hrw⟩
    by_cases hlt : i < n.toNat
    · refine .inr ⟨hlt, fun H' => Same H1 H' ∧ ∃ rs : List Addr, H' Dl = some (.lst (rs.map V.ref)) ∧ (Dl :: rs).Nodup ∧ (∀ a ∈ rs, H1 a = none) ∧ Rws H' rs (List.replicate (i + 1) row), fun H2 h2 => ⟨n.toNat - (i + 1), by omega, rfl, hlt, h2⟩, fun x H3 hy => ?_⟩
      obtain ⟨h3, hx3⟩ := hy
      subst h3
      have e0 : (0 : Int) + (i : Int) = (i : Int) := Int.zero_add _
      rw [e0] at hx3
      subst hx3
      obtain ⟨js, S2, hg, hjs, hte⟩ := ht i hlt
      have hsw := StD.wipe (hσ.grow (e1.trans s1)) vs
      refine hg _ H3 _ hsw rfl _ fun σ2 hs2 hw => ⟨by rw [hw vs hjs, wipe_wipe], ?_⟩
      unfold tYes
      refine Eq.mpr (if_pos rfl) ?_
      refine hte σ2 H3 hs2 _ fun p ws H4 e4 np h4 dv => ⟨rs.map V.ref, e4 _ _ hacc, ?_, ?_⟩
      · rw [List.length_map, hrw.length, List.length_replicate, sizeLine_eq]; omega
      · have hp : H1 p = none := s1.free np
        have hpD : p ≠ Dl := fun z => by rw [z, hacc] at np; cases np
        have hpr : ¬ p ∈ rs := fun z => by
          obtain ⟨ws, k⟩ := hrw.mem p z
          rw [np] at k
          cases k
        obtain ⟨nd1, nd2⟩ := List.nodup_cons.mp hnd
        refine ⟨fun b o z => ?_, rs ++ [p], ?_, ?_, fun a ha => ?_, ?_⟩
        · rw [upd_ne (ne_of_none z hD)]
          exact e4 _ _ (s1 _ _ z)
        · rw [upd_same, List.map_append]
          rfl
        · refine List.nodup_cons.mpr ⟨fun z => ?_, List.nodup_append.mpr ⟨nd2, by simp, fun a ha b hb e => ?_⟩⟩
          · rcases List.mem_append.mp z with q | q
            · exact nd1 q
            · exact hpD (List.mem_singleton.mp q).symm
          · rw [List.mem_singleton.mp hb] at e
            exact hpr (by rw [← e]; exact ha)
        · rcases List.mem_append.mp ha with q | q
          · exact hfr a q
          · rw [List.mem_singleton.mp q]; exact hp
        · rw [List.replicate_succ']
          have ts : TupS H4 (upd H4 Dl (.lst (rs.map V.ref ++ [.ref p]))) := TupS.lst (e4 _ _ hacc)
          have away : ∀ a, a ≠ Dl → ∀ o, H4 a = some o → upd H4 Dl (.lst (rs.map V.ref ++ [.ref p])) a = some o := fun a ha o k => by
            rw [upd_ne ha]; exact k
          refine Rws.append (Rws.away ts (fun a ha o k => away a (fun z => nd1 (by rw [← z]; exact ha)) o k) (hrw.mono e4)) ⟨⟨ws, away p hpD _ h4, DVs.ts ts _ _ dv⟩, trivial⟩
    · have e : i = n.toNat := by omega
      subst e
      exact .inl ⟨Nat.le_refl _, q Dl rs H' (e1.trans s1) hnd (fun a ha => by
        rcases List.mem_cons.mp ha with z | z
        · rw [z]; exact e1.free hD
        · exact e1.free (hfr a z)) hacc hrw⟩
end
end Mw
-- part MwH
set_option maxHeartbeats 4000000
namespace Mw
open PySem PySem.Spec PyProof.Rows L2
theorem flat_rep {α : Type} (x : α) (n : Nat) : (List.replicate n [x]).flatten = List.replicate n x := by
  induction n with
  | zero => rfl
  | succ n ih => rw [List.replicate_succ, List.replicate_succ, List.flatten_cons, ih]; rfl
theorem max_cast (a b : Nat) : ((max a b : Nat) : Int) = max (a : Int) (b : Int) := by omega
theorem fill_in {A B : List D} {i j : Nat} (hi : i < A.length) (a b : Nat) (hb : b < B.length + 1) : fill A B (i + 1) 0 a b = fill A B i B.length a b := by
  unfold fill
  by_cases h1 : i + 1 < a ∨ a = i + 1 ∧ 0 ≤ b
  · rw [if_pos h1, if_pos (.inl (by omega))]
  · rw [if_neg h1]
    by_cases h2 : i < a ∨ a = i ∧ B.length ≤ b
    · rw [if_pos h2]
      have e : a = i ∧ b = B.length := by omega
      rw [e.1, e.2, L_endB]
    · rw [if_neg h2]
/-- one turn of the table -/
theorem fill_step {A B : List D} {i j : Nat} (hi : i < A.length) (hj : j < B.length) (z : Nat) (hz : z = L A B i j) (a b : Nat) : (if a = i ∧ b = j then z else fill A B i (j + 1) a b) = fill A B i j a b := by
  unfold fill
  by_cases h : a = i ∧ b = j
  · rw [if_pos h, if_pos (.inr (by omega)), hz, h.1, h.2]
  · rw [if_neg h]
    by_cases h2 : i < a ∨ a = i ∧ j + 1 ≤ b
    · rw [if_pos h2, if_pos (by omega)]
    · rw [if_neg h2, if_neg (by omega)]
/-! lengths_of: slots 0 items  1 others*  2 k  3 rows  4 i  5 j   -/
abbrev st_lengths_of : Stmt := topS 19
abbrev N_lengths_of : List Str := ["items", "others", "k", "rows", "i", "j"]
theorem sc_lengths_of : FnScope N_lengths_of ["items", "others"] (defScope st_lengths_of) := ⟨rfl, rfl, rfl, by decide +kernel, rfl, by decide +kernel, by decide +kernel⟩
abbrev sp_lengths_of : Sp := SpG (α := List D × List D) (fun x => [.dat (.tup x.1), .dat (.tup x.2)]) (fun x => Low x.1 ∧ Low x.2 ∧ x.1.length ≤ 100 ∧ x.2.length ≤ 100) (fun x => RT (lcsTab x.1 x.2))
abbrev H_lengths_of (P : Program) (w : World) (K : PySem.W.Frag) (mg : Str → Option Value) (base : Heap) : Prop := Has P w K mg base 1 "lengths_of" ["items", "others"] sp_lengths_of
theorem has_lengths_of {P : Program} {w : World} {K : PySem.W.Frag} {mg : Str → Option Value} {base : Heap} (B : Gs mg) (F : DefAt K mg "lengths_of" st_lengths_of)  : H_lengths_of P w K mg base :=
  F.hasG sc_lengths_of (fun _ _ _ _ _ _ us hl => match us, hl with | [_, _], _ => rfl) (fun _ => rfl) fun f cdv A outer s H E hr => by
    have hu := room64 hr
    have hu1 := hu_of hr
    refine ⟨_, (pss_cons (ps_setLc (i := 3) (own := [("k", 2)]) (g := gName 2) (tt := tYes) rfl sc_lengths_of.nd rfl rfl (sw_true rfl rfl rfl (by decide +kernel)) (pi_range1 (by rfl) B.range (pa_cons (pe_op (op_addK (K := K) rfl) (pe_callB (call_lenK (K := K) rfl) (by rfl) B.len b_len (pa_cons (pv 0) pa_nil)) pe_int) pa_nil)) (blkOk_by (own := [("k", 2)]) (N := N_lengths_of) (sc := defScope st_lengths_of) (by decide +kernel)) (fun _ _ _ _ _ => (pg_name (i := 2) sc_lengths_of.nd rfl (Or.inl rfl))) (fun _ _ _ _ _ => pts_nil) (fun _ _ _ _ _ => (pe_op op_mulA (pe_lst (pa_cons pe_int pa_nil)) (pe_op (op_addK (K := K) rfl) (pe_callB (call_lenK (K := K) rfl) (by rfl) B.len b_len (pa_cons (pv 1) pa_nil)) pe_int))))
      (pss_cons (ps_for PassesOwn.never rfl (pi_revR (by rfl) B.rev (prg_1 (by rfl) B.range (pe_callB (call_lenK (K := K) rfl) (by rfl) B.len b_len (pa_cons (pv 0) pa_nil)))) (pg_name (i := 4) sc_lengths_of.nd rfl (Or.inl rfl))
        (pss_one (ps_for PassesOwn.never rfl (pi_revR (by rfl) B.rev (prg_1 (by rfl) B.range (pe_callB (call_lenK (K := K) rfl) (by rfl) B.len b_len (pa_cons (pv 1) pa_nil)))) (pg_name (i := 5) sc_lengths_of.nd rfl (Or.inl rfl))
          (pss_cons (ps_asg (pe_callB (call_maxA rfl) (by rfl) B.max b_max (pa_cons (pe_ix (ix_seqK (K := K) rfl) (pe_ix (ix_seqK (K := K) rfl) (pv 3) (pe_op (op_addK (K := K) rfl) (pv 4) pe_int) (fun _ _ => rfl)) (pv 5) (fun _ _ => rfl)) (pa_cons (pe_ix (ix_seqK (K := K) rfl) (pe_ix (ix_seqK (K := K) rfl) (pv 3) (pv 4) (fun _ _ => rfl)) (pe_op (op_addK (K := K) rfl) (pv 5) pe_int) (fun _ _ => rfl)) pa_nil))) (pg_sub (pe_ix (ix_seqK (K := K) rfl) (pv 3) (pv 4) (fun _ _ => rfl)) (pv 5) set_list))
          (pss_one (ps_if (pt_cmpR (op_eqK (K := K) rfl hu) (pe_ix (ix_seqK (K := K) rfl) (pv 0) (pv 4) (fun _ _ => rfl)) (pe_ix (ix_seqK (K := K) rfl) (pv 1) (pv 5) (fun _ _ => rfl)) (nomark _))
            (pss_one (ps_asg (pe_callB (call_maxA rfl) (by rfl) B.max b_max (pa_cons (pe_ix (ix_seqK (K := K) rfl) (pe_ix (ix_seqK (K := K) rfl) (pv 3) (pv 4) (fun _ _ => rfl)) (pv 5) (fun _ _ => rfl)) (pa_cons (pe_op (op_addK (K := K) rfl) pe_int (pe_ix (ix_seqK (K := K) rfl) (pe_ix (ix_seqK (K := K) rfl) (pv 3) (pe_op (op_addK (K := K) rfl) (pv 4) pe_int) (fun _ _ => rfl)) (pe_op (op_addK (K := K) rfl) (pv 5) pe_int) (fun _ _ => rfl))) pa_nil))) (pg_sub (pe_ix (ix_seqK (K := K) rfl) (pv 3) (pv 4) (fun _ _ => rfl)) (pv 5) set_list)))
            pss_nil))))))
      (pss_one (ps_ret (pv 3))))), fun x hp H R q => ?_⟩
    obtain ⟨A, B⟩ := x
    obtain ⟨la, lb, za, zb⟩ := hp
    have za : A.length ≤ 100 := za
    have zb : B.length ≤ 100 := zb
    refine s_seq (s_asgNT (nt_lcR1 (row := List.replicate (B.length + 1) (.int 0)) (x_addI (x_lenT (x_vd rfl)) x_ci) (by omega) ?_) ?_)
    · intro i hi
      refine ⟨_, _, g_name, by simp, EvN.is (n_mulL (n_lst (d_cons x_ci d_nil) (sz 1 rfl)).x (x_addI (x_lenT (x_vd rfl)) x_ci) (by omega) (by omega) ?_) ?_⟩
      · rw [sizeLine_eq, List.length_singleton]; omega
      · rw [flat_rep]
        congr 1
    refine s_seq (s_forRev (n := A.length) (x_lenT (x_vd rfl)) (by omega) (fun t S' => ∃ m u v, S' = [.dat (.tup A), .dat (.tup B), .no, .otab m, u, v] ∧ Tab m (A.length + 1) (B.length + 1) (fill A B (A.length - t) 0)) ⟨_, _, _, rfl, ?_⟩ ?_ ?_)
    · have e : ((A.length : Int) + 1).toNat = A.length + 1 := by omega
      rw [e]
      refine (Tab.zero _ _).imp fun a b ha hb => ?_
      unfold fill
      by_cases h : A.length - 0 < a ∨ a = A.length - 0 ∧ 0 ≤ b
      · rw [if_pos h]
        have e : a = A.length := by omega
        rw [e, L_endA]
      · rw [if_neg h]
    · rintro H1 e1 t S' ht ⟨m, u, v, rfl, hm⟩
      have ei : A.length - t = (A.length - 1 - t) + 1 := by omega
      rw [ei] at hm
      have hi : A.length - 1 - t < A.length := by omega
      generalize hgi : A.length - 1 - t = i at hm hi ⊢
      refine s_forRev (n := B.length) (x_lenT (x_vd rfl)) (by omega) (fun t S' => ∃ m v, S' = [.dat (.tup A), .dat (.tup B), .no, .otab m, .dat (.int (i : Int)), v] ∧ Tab m (A.length + 1) (B.length + 1) (fill A B i (B.length - t))) ⟨m, _, rfl, hm.imp fun a b _ hb => fill_in (j := 0) hi a b hb⟩ ?_ ?_
      · rintro H2 e2 t2 S' ht2 ⟨m, v, rfl, hm⟩
        have ej : B.length - t2 = (B.length - 1 - t2) + 1 := by omega
        have ej2 : B.length - (t2 + 1) = B.length - 1 - t2 := by omega
        rw [ej] at hm
        rw [ej2]
        have hj : B.length - 1 - t2 < B.length := by omega
        generalize hgj : B.length - 1 - t2 = j at hm hj ⊢
        obtain ⟨r0, k1, k2, k3⟩ := hm.row i (by omega)
        obtain ⟨r1, l1, l2, l3⟩ := hm.row (i + 1) (by omega)
        have f1 : fill A B i (j + 1) (i + 1) j = L A B (i + 1) j := by unfold fill; rw [if_pos (by omega)]
        have f2 : fill A B i (j + 1) i (j + 1) = L A B i (j + 1) := by unfold fill; rw [if_pos (by omega)]
        have f3 : fill A B i (j + 1) (i + 1) (j + 1) = L A B (i + 1) (j + 1) := by unfold fill; rw [if_pos (by omega)]
        have g1 := l3 j (by omega)
        have g2 := k3 (j + 1) (by omega)
        rw [f1] at g1
        rw [f2] at g2
        have hx : A[i]? = some A[i] := by simp [hi]
        have hy : B[j]? = some B[j] := by simp [hj]
        have hst := L_step hx hy
        refine s_seq (s_setT (n := i) (j := j) rfl k1 (EvX.is (x_max (x_ixL (x_ixR (x_vot rfl) (x_addI (x_vd rfl) x_ci) (k := i + 1) (by omega) l1) (x_vd rfl) rfl g1) (x_ixL (x_ixR (x_vot rfl) (x_vd rfl) (k := i) rfl k1) (x_addI (x_vd rfl) x_ci) (k := j + 1) (by omega) g2)) (congrArg (fun z => AV.dat (.int z)) (max_cast _ _).symm)) (x_vd rfl) (x_vd rfl) rfl rfl (by omega) ?_)
        have hm2 := hm.set (max (L A B (i + 1) j) (L A B i (j + 1))) (i := i) (j := j) (by omega) k1
        refine s_if (b := decide (A[i] = B[j])) (t_cmp (x_eq (x_ixT (x_vd rfl) (x_vd rfl) rfl hx) (x_ixT (x_vd rfl) (x_vd rfl) rfl hy) ?_)) (fun hd => ?_) (fun hd => s_next ⟨_, _, rfl, ?_⟩)
        · have := la _ (List.getElem_mem hi)
          omega
        · have hd := of_decide_eq_true hd
          rw [if_pos hd] at hst
          obtain ⟨r0', k1', k2', k3'⟩ := hm2.row i (by omega)
          obtain ⟨r1', l1', l2', l3'⟩ := hm2.row (i + 1) (by omega)
          have g3 := l3' (j + 1) (by omega)
          have g4 := k3' j (by omega)
          have f4 : (if i + 1 = i ∧ j + 1 = j then max (L A B (i + 1) j) (L A B i (j + 1)) else fill A B i (j + 1) (i + 1) (j + 1)) = L A B (i + 1) (j + 1) := by
            rw [if_neg (by omega), f3]
          have f5 : (if i = i ∧ j = j then max (L A B (i + 1) j) (L A B i (j + 1)) else fill A B i (j + 1) i j) = max (L A B (i + 1) j) (L A B i (j + 1)) := if_pos ⟨rfl, rfl⟩
          rw [f4] at g3
          rw [f5] at g4
          refine s_setT (n := i) (j := j) rfl k1' (EvX.is (x_max (x_ixL (x_ixR (x_vot rfl) (x_vd rfl) (k := i) rfl k1') (x_vd rfl) rfl g4) (x_addI x_ci (x_ixL (x_ixR (x_vot rfl) (x_addI (x_vd rfl) x_ci) (k := i + 1) (by omega) l1') (x_addI (x_vd rfl) x_ci) (k := j + 1) (by omega) g3))) (congrArg (fun z => AV.dat (.int z)) (?_ : _ = ((max (max (L A B (i + 1) j) (L A B i (j + 1))) (1 + L A B (i + 1) (j + 1)) : Nat) : Int)))) (x_vd rfl) (x_vd rfl) rfl rfl (by omega) ⟨_, _, rfl, ?_⟩
          · omega
          · refine (hm2.set _ (i := i) (j := j) (by omega) k1').imp fun a b _ _ => ?_
            rw [← fill_step hi hj _ hst.symm a b]
            by_cases h : a = i ∧ b = j
            · rw [if_pos h, if_pos h]
            · rw [if_neg h, if_neg h, if_neg h]
        · have hd := of_decide_eq_false hd
          rw [if_neg hd] at hst
          exact hm2.imp fun a b _ _ => fill_step hi hj _ hst.symm a b
      · rintro H2 e2 S' ⟨m, v, rfl, hm⟩
        rw [Nat.sub_self] at hm
        exact ⟨m, _, _, rfl, by rw [← hgi] at hm; rw [show A.length - (t + 1) = A.length - 1 - t by omega]; exact hm⟩
    · rintro H1 e1 S' ⟨m, u, v, rfl, hm⟩
      rw [Nat.sub_self] at hm
      have e : m = lcsTab A B := Tab.uniq hm ((lcsTab_tab A B).imp fun a b ha hb => by
        unfold fill
        rw [if_pos (by omega)])
      subst e
      exact r_OT (q.upT e1) rfl
end Mw
-- part MwI
set_option maxHeartbeats 4000000
namespace Mw
open PySem PySem.Spec PyProof.Rows L2
def pairD (x : Nat × Nat) : D := .tup [.int (x.1 : Int), .int (x.2 : Int)]
def nxtD : Option (Nat × Nat) → D
  | none => .non
  | some x => pairD x
theorem prs_len : ∀ (xs : List D) (i : Nat) (ys : List D) (j : Nat), (prs xs i ys j).length ≤ xs.length
  | [], _, _, _ => by rw [prs]; exact Nat.le_refl _
  | x :: xs, i, ys, j => by
    rw [prs]
    split
    · exact Nat.zero_le _
    · split
      · rename_i k _
        have := prs_len xs (i + 1) (ys.drop (k + 1 - j)) (k + 1)
        rw [List.length_cons, List.length_cons]; omega
      · have := prs_len xs (i + 1) ys j
        rw [List.length_cons]; omega
theorem intsD_succ (j : Int) (n : Nat) : intsD j (n + 1) = .int j :: intsD (j + 1) n := by
  unfold intsD
  rw [List.range_succ_eq_map, List.map_cons, List.map_map]
  congr 1
  · simp
  · apply List.map_congr_left
    intro a _
    simp only [Function.comp]
    congr 1
    omega
theorem fst_filter (x : D) (xs B : List D) (m : Nat) (p : D → Bool) (hp : ∀ k : Nat, p (.int (k : Int)) = decide (B[k]? = some x ∧ 1 + lcs xs (B.drop (k + 1)) = m)) : ∀ (n j : Nat), j + n = B.length → ((intsD (j : Int) n).filter p).head? = (fstK x xs m (B.drop j) j).map fun k => D.int (k : Int)
  | 0, j, h => by
    rw [List.drop_of_length_le (by omega), fstK]
    rfl
  | n + 1, j, h => by
    have hj : j < B.length := by omega
    have hy : B[j]? = some B[j] := by simp [hj]
    have ih := fst_filter x xs B m p hp n (j + 1) (by omega)
    rw [intsD_succ, drop_get hy, fstK, List.filter_cons, hp j, hy]
    by_cases e : x = B[j] ∧ 1 + lcs xs (B.drop (j + 1)) = m
    · rw [if_pos e, if_pos (decide_eq_true ⟨congrArg some e.1.symm, e.2⟩)]
      rfl
    · rw [if_neg e, if_neg (by
        intro z
        have z := of_decide_eq_true z
        exact e ⟨(Option.some.inj z.1).symm, z.2⟩)]
      exact ih
theorem pairs_low (ps : List (Nat × Nat)) : Low (ps.map pairD) := fun d hd => by
  obtain ⟨x, _, rfl⟩ := List.mem_map.mp hd
  simp [pairD, D.dep, D.deps]
/-! next_pair: slots 0 items  1 others  2 rows  3 i  4 j  5 many  6 one  7 other   -/
abbrev st_next_pair : Stmt := topS 20
abbrev N_next_pair : List Str := ["items", "others", "rows", "i", "j", "many", "one", "other"]
theorem sc_next_pair : FnScope N_next_pair ["items", "others", "rows", "i", "j"] (defScope st_next_pair) := ⟨rfl, rfl, rfl, by decide +kernel, rfl, by decide +kernel, by decide +kernel⟩
abbrev sp_next_pair : Sp := SpG (α := List D × List D × Nat × Nat) (fun x => [.dat (.tup x.1), .dat (.tup x.2.1), .tab (lcsTab x.1 x.2.1), .dat (.int (x.2.2.1 : Int)), .dat (.int (x.2.2.2 : Int))]) (fun x => (Low x.1 ∧ Low x.2.1 ∧ x.1.length ≤ 100 ∧ x.2.1.length ≤ 100) ∧ x.2.2.1 ≤ x.1.length ∧ x.2.2.2 ≤ x.2.1.length) (fun x => RD (nxtD (nxt (L x.1 x.2.1 x.2.2.1 x.2.2.2) (x.2.1.drop x.2.2.2) x.2.2.2 (x.1.drop x.2.2.1) x.2.2.1)))
abbrev H_next_pair (P : Program) (w : World) (K : PySem.W.Frag) (mg : Str → Option Value) (base : Heap) : Prop := Has P w K mg base 1 "next_pair" ["items", "others", "rows", "i", "j"] sp_next_pair
theorem has_next_pair {P : Program} {w : World} {K : PySem.W.Frag} {mg : Str → Option Value} {base : Heap} (B : Gs mg) (F : DefAt K mg "next_pair" st_next_pair)  : H_next_pair P w K mg base :=
  F.hasG sc_next_pair (fun _ _ _ _ _ _ us hl => match us, hl with | [_, _, _, _, _], _ => rfl) (fun _ => rfl) fun f cdv A outer s H E hr => by
    have hu := room64 hr
    have hu1 := hu_of hr
    refine ⟨_, (pss_cons (ps_set (i := 5) sc_next_pair.nd rfl (Or.inl rfl) (pe_ix (ix_seqK (K := K) rfl) (pe_ix (ix_seqK (K := K) rfl) (pv 2) (pv 3) (fun _ _ => rfl)) (pv 4) (fun _ _ => rfl)))
      (pss_cons (ps_for PassesOwn.never rfl (pi_range2 (by rfl) B.range (pa_cons (pv 3) (pa_cons (pe_callB (call_lenK (K := K) rfl) (by rfl) B.len b_len (pa_cons (pv 0) pa_nil)) pa_nil))) (pg_name (i := 6) sc_next_pair.nd rfl (Or.inl rfl))
        (pss_one (ps_for PassesOwn.never rfl (pi_range2 (by rfl) B.range (pa_cons (pv 4) (pa_cons (pe_callB (call_lenK (K := K) rfl) (by rfl) B.len b_len (pa_cons (pv 1) pa_nil)) pa_nil))) (pg_name (i := 7) sc_next_pair.nd rfl (Or.inl rfl))
          (pss_one (ps_if (PW.pt (pw_and (pt_cmpR (op_eqK (K := K) rfl hu) (pe_ix (ix_seqK (K := K) rfl) (pv 0) (pv 6) (fun _ _ => rfl)) (pe_ix (ix_seqK (K := K) rfl) (pv 1) (pv 7) (fun _ _ => rfl)) (nomark _)) (pw_and1 (pt_cmpR (op_eqK (K := K) rfl hu) (pe_op (op_addK (K := K) rfl) pe_int (pe_ix (ix_seqK (K := K) rfl) (pe_ix (ix_seqK (K := K) rfl) (pv 2) (pe_op (op_addK (K := K) rfl) (pv 6) pe_int) (fun _ _ => rfl)) (pe_op (op_addK (K := K) rfl) (pv 7) pe_int) (fun _ _ => rfl))) (pv 5) (nomark _)))))
            (pss_one (ps_ret (pe_tup (pa_cons (pv 6) (pa_cons (pv 7) pa_nil)))))
            pss_nil)))))
      (pss_one (ps_ret pe_non)))), fun x hp H R q => ?_⟩
    obtain ⟨A, B, i, j⟩ := x
    obtain ⟨⟨la, lb, za, zb⟩, hi, hj⟩ := hp
    have za : A.length ≤ 100 := za
    have zb : B.length ≤ 100 := zb
    have hi : i ≤ A.length := hi
    have hj : j ≤ B.length := hj
    obtain ⟨r, g1, g2⟩ := lcsTab_get A B hi hj
    refine s_seq (s_asg (x_ixL (x_ixR (x_vt rfl) (x_vd rfl) rfl g1) (x_vd rfl) rfl g2) ?_)
    refine s_seq (s_forR2 (a := (i : Int)) (b := (A.length : Int)) (x_vd rfl) (x_lenT (x_vd rfl)) (by omega) (fun t S' => ∃ u v, S' = [.dat (.tup A), .dat (.tup B), .tab (lcsTab A B), .dat (.int (i : Int)), .dat (.int (j : Int)), .dat (.int (L A B i j : Int)), u, v] ∧ nxt (L A B i j) (B.drop j) j (A.drop i) i = nxt (L A B i j) (B.drop j) j (A.drop (i + t)) (i + t)) ⟨_, _, rfl, rfl⟩ ?_ ?_)
    · rintro H1 e1 t S' ht ⟨u, v, rfl, hn⟩
      have hit : i + t < A.length := by omega
      have hx : A[i + t]? = some A[i + t] := by simp [hit]
      generalize hgx : A[i + t] = x at hx
      rw [drop_get hx, nxt] at hn
      have ec : ((i : Int) + (t : Int)) = ((i + t : Nat) : Int) := by omega
      rw [ec]
      refine s_forR2 (a := (j : Int)) (b := (B.length : Int)) (x_vd rfl) (x_lenT (x_vd rfl)) (by omega) (fun t2 S' => ∃ v, S' = [.dat (.tup A), .dat (.tup B), .tab (lcsTab A B), .dat (.int (i : Int)), .dat (.int (j : Int)), .dat (.int (L A B i j : Int)), .dat (.int ((i + t : Nat) : Int)), v] ∧ fstK x (A.drop (i + t + 1)) (L A B i j) (B.drop j) j = fstK x (A.drop (i + t + 1)) (L A B i j) (B.drop (j + t2)) (j + t2)) ⟨_, rfl, rfl⟩ ?_ ?_
      · rintro H2 e2 t2 S' ht2 ⟨v, rfl, hf⟩
        have hjt : j + t2 < B.length := by omega
        have hy : B[j + t2]? = some B[j + t2] := by simp [hjt]
        generalize hgy : B[j + t2] = y at hy
        rw [drop_get hy, fstK] at hf
        have ec : ((j : Int) + (t2 : Int)) = ((j + t2 : Nat) : Int) := by omega
        rw [ec]
        obtain ⟨r2, g3, g4⟩ := lcsTab_get A B (i := i + t + 1) (j := j + t2 + 1) (by omega) (by omega)
        have hlow : min x.dep y.dep ≤ 60 := by
          have := la x (List.mem_of_getElem? hx)
          omega
        refine s_if (b := decide (x = y) && decide ((1 : Int) + (L A B (i + t + 1) (j + t2 + 1) : Int) = (L A B i j : Int))) (t_and (t_cmp (x_eq (x_ixT (x_vd rfl) (x_vd rfl) rfl hx) (x_ixT (x_vd rfl) (x_vd rfl) rfl hy) hlow)) fun _ => t_cB (x_eq (x_addI x_ci (x_ixL (x_ixR (x_vt rfl) (x_addI (x_vd rfl) x_ci) (k := i + t + 1) (by omega) g3) (x_addI (x_vd rfl) x_ci) (k := j + t2 + 1) (by omega) g4)) (x_vd rfl) (by simp [D.dep])) ?_) (fun hd => ?_) (fun hd => s_next ⟨_, rfl, ?_⟩)
        · by_cases q : (1 : Int) + (L A B (i + t + 1) (j + t2 + 1) : Int) = (L A B i j : Int)
          · rw [decide_eq_true q, decide_eq_true (by rw [q])]
          · rw [decide_eq_false q, decide_eq_false (fun z => q (by injection z))]
        · simp only [Bool.and_eq_true, decide_eq_true_eq] at hd
          have hc : x = y ∧ 1 + lcs (A.drop (i + t + 1)) (B.drop (j + t2 + 1)) = L A B i j := ⟨hd.1, by have := hd.2; unfold L at this ⊢; omega⟩
          rw [if_pos hc] at hf
          rw [hf] at hn
          exact r_De (q.up (e1.trans e2)) (x_tup (d_cons (x_vd rfl) (d_cons (x_vd rfl) d_nil)) (sz 2 rfl)) (by
            show _ = nxtD (nxt (L A B i j) (B.drop j) j (A.drop i) i)
            rw [hn]
            rfl)
        · have hc : ¬ (x = y ∧ 1 + lcs (A.drop (i + t + 1)) (B.drop (j + t2 + 1)) = L A B i j) := fun z => by
            have h2 : (1 : Int) + (L A B (i + t + 1) (j + t2 + 1) : Int) = (L A B i j : Int) := by have := z.2; unfold L at this ⊢; omega
            rw [decide_eq_true z.1, decide_eq_true h2] at hd
            cases hd
          rw [if_neg hc] at hf
          exact hf
      · rintro H2 e2 S' ⟨v, rfl, hf⟩
        have e0 : ((B.length : Int) - (j : Int)).toNat = B.length - j := by omega
        rw [e0, List.drop_of_length_le (show B.length ≤ j + (B.length - j) by omega), fstK] at hf
        rw [hf] at hn
        exact ⟨_, _, rfl, hn⟩
    · rintro H1 e1 S' ⟨u, v, rfl, hn⟩
      have e0 : ((A.length : Int) - (i : Int)).toNat = A.length - i := by omega
      rw [e0, List.drop_of_length_le (show A.length ≤ i + (A.length - i) by omega), nxt] at hn
      exact r_De (q.up e1) x_cn (by
        show _ = nxtD (nxt (L A B i j) (B.drop j) j (A.drop i) i)
        rw [hn]
        rfl)
/-! pairs_of: slots 0 items  1 others  2 rows  3 found  4 i  5 j  6 pair   -/
abbrev st_pairs_of : Stmt := topS 21
abbrev N_pairs_of : List Str := ["items", "others", "rows", "found", "i", "j", "pair"]
theorem sc_pairs_of : FnScope N_pairs_of ["items", "others"] (defScope st_pairs_of) := ⟨rfl, rfl, rfl, by decide +kernel, rfl, by decide +kernel, by decide +kernel⟩
abbrev sp_pairs_of : Sp := SpG (α := List D × List D) (fun x => [.dat (.tup x.1), .dat (.tup x.2)]) (fun x => Low x.1 ∧ Low x.2 ∧ x.1.length ≤ 100 ∧ x.2.length ≤ 100) (fun x => RN ((prs x.1 0 x.2 0).map pairD))
abbrev H_pairs_of (P : Program) (w : World) (K : PySem.W.Frag) (mg : Str → Option Value) (base : Heap) : Prop := Has P w K mg base 2 "pairs_of" ["items", "others"] sp_pairs_of
theorem has_pairs_of {P : Program} {w : World} {K : PySem.W.Frag} {mg : Str → Option Value} {base : Heap} (B : Gs mg) (F : DefAt K mg "pairs_of" st_pairs_of) (G_lengths_of : H_lengths_of P w K mg base) (G_next_pair : H_next_pair P w K mg base) : H_pairs_of P w K mg base :=
  F.hasG sc_pairs_of (fun _ _ _ _ _ _ us hl => match us, hl with | [_, _], _ => rfl) (fun _ => rfl) fun f cdv A outer s H E hr => by
    have hu := room64 hr
    have hu1 := hu_of hr
    refine ⟨_, (pss_cons (ps_set (i := 2) sc_pairs_of.nd rfl (Or.inl rfl) (pe_has G_lengths_of hr (by decide) (by rfl) (pa_cons (pv 0) (pa_cons (pv 1) pa_nil))))
      (pss_cons (ps_set (i := 3) sc_pairs_of.nd rfl (Or.inl rfl) (pe_lst pa_nil))
      (pss_cons (ps_set (i := 4) sc_pairs_of.nd rfl (Or.inl rfl) pe_int)
      (pss_cons (ps_set (i := 5) sc_pairs_of.nd rfl (Or.inl rfl) pe_int)
      (pss_cons (ps_while PassesOwn.never (pt_cmpR op_gt (pe_ix (ix_seqK (K := K) rfl) (pe_ix (ix_seqK (K := K) rfl) (pv 2) (pv 4) (fun _ _ => rfl)) (pv 5) (fun _ _ => rfl)) pe_int (nomark _))
        (pss_cons (ps_set (i := 6) sc_pairs_of.nd rfl (Or.inl rfl) (pe_has G_next_pair hr (by decide) (by rfl) (pa_cons (pv 0) (pa_cons (pv 1) (pa_cons (pv 2) (pa_cons (pv 4) (pa_cons (pv 5) pa_nil)))))))
        (pss_cons (ps_expr (pe_bm PySem.F.plainAttrs_list PySem.F.slot_list_append PySem.F.type_list_append mt_append (pv 3) (pa_cons (pv 6) pa_nil)))
        (pss_cons (ps_set (i := 4) sc_pairs_of.nd rfl (Or.inl rfl) (pe_op (op_addK (K := K) rfl) (pe_ix (ix_seqK (K := K) rfl) (pv 6) pe_int (fun _ _ => rfl)) pe_int))
        (pss_one (ps_set (i := 5) sc_pairs_of.nd rfl (Or.inl rfl) (pe_op (op_addK (K := K) rfl) (pe_ix (ix_seqK (K := K) rfl) (pv 6) pe_int (fun _ _ => rfl)) pe_int)))))))
      (pss_one (ps_ret (pv 3)))))))), fun x hp H R q => ?_⟩
    obtain ⟨A, B⟩ := x
    obtain ⟨la, lb, za, zb⟩ := hp
    have za : A.length ≤ 100 := za
    have zb : B.length ≤ 100 := zb
    refine s_seq (s_asgNT (nt_callT (A, B) (a_cons (x_vd rfl) (a_cons (x_vd rfl) a_nil)) ⟨la, lb, za, zb⟩ rfl) ?_)
    refine s_seq (s_asgN (n_lst d_nil (sz 0 rfl)) ?_)
    refine s_seq (s_asg x_ci ?_)
    refine s_seq (s_asg x_ci ?_)
    refine s_seq (s_while (fun m S' => ∃ f i j u, S' = [.dat (.tup A), .dat (.tup B), .otab (lcsTab A B), .own (f.map pairD), .dat (.int ((i : Nat) : Int)), .dat (.int ((j : Nat) : Int)), u] ∧ f ++ prs (A.drop i) i (B.drop j) j = prs A 0 B 0 ∧ i ≤ A.length ∧ j ≤ B.length ∧ m = A.length - i ∧ f.length ≤ i) A.length ⟨[], 0, 0, _, rfl, rfl, Nat.zero_le _, Nat.zero_le _, rfl, Nat.zero_le _⟩ ?_)
    rintro H1 e1 m S' ⟨f, i, j, u, rfl, h1, hi, hj, rfl, hfl⟩
    obtain ⟨r, g1, g2⟩ := lcsTab_get A B hi hj
    refine ⟨decide (0 < L A B i j), t_cB (x_gt (x_ixL (x_ixR (x_vot rfl) (x_vd rfl) rfl g1) (x_vd rfl) rfl g2) x_ci) ?_, fun hd => ?_, fun hd => ?_⟩
    · by_cases q : 0 < L A B i j
      · rw [decide_eq_true q, decide_eq_true (by omega)]
      · rw [decide_eq_false q, decide_eq_false (by omega)]
    · have hd := of_decide_eq_true hd
      have hli := (L_pos hd).1
      have hlj := (L_pos hd).2
      obtain ⟨a, b, k1, k2, k3, k4, k5, k6⟩ := nxt_some (A.drop i) i (B.drop j) j hd
      rw [List.length_drop] at k3 k5
      rw [k6] at h1
      refine s_seq (s_asg (x_callD (A, B, i, j) (a_cons (x_vd rfl) (a_cons (x_vd rfl) (a_cons (x_vot rfl) (a_cons (x_vd rfl) (a_cons (x_vd rfl) a_nil))))) ⟨⟨la, lb, za, zb⟩, hi, hj⟩ (congrArg (fun z => RD (nxtD z)) (k1 : nxt (L A B i j) (B.drop j) j (A.drop i) i = some (a, b)))) ?_)
      refine s_seq (s_app rfl (x_vd rfl) ?_ ?_)
      · rw [List.length_map, sizeLine_eq]; omega
      refine s_seq (s_asg (x_addI (x_ixT (ds := [.int (a : Int), .int (b : Int)]) (k := 0) (x_vd rfl) x_ci rfl rfl) x_ci) ?_)
      refine s_asg (x_addI (x_ixT (ds := [.int (a : Int), .int (b : Int)]) (k := 1) (x_vd rfl) x_ci rfl rfl) x_ci) ?_
      refine ⟨A.length - (a + 1), by omega, f ++ [(a, b)], a + 1, b + 1, _, by rw [List.map_append]; rfl, ?_, by omega, by omega, rfl, by rw [List.length_append, List.length_singleton]; omega⟩
      rw [← h1, List.append_assoc, List.drop_drop, List.drop_drop, show i + (a + 1 - i) = a + 1 by omega, show j + (b + 1 - j) = b + 1 by omega]
      rfl
    · have hd := of_decide_eq_false hd
      have hz : lcs (A.drop i) (B.drop j) = 0 := by
        have : L A B i j = 0 := by omega
        exact this
      rw [prs_zero hz, List.append_nil] at h1
      subst h1
      exact r_O (q.upN e1) rfl
/-! change_of: slots 0 items  1 others  2 found  3 i  4 j  5 one  6 other   -/
abbrev st_change_of : Stmt := topS 22
abbrev N_change_of : List Str := ["items", "others", "found", "i", "j", "one", "other"]
theorem sc_change_of : FnScope N_change_of ["items", "others"] (defScope st_change_of) := ⟨rfl, rfl, rfl, by decide +kernel, rfl, by decide +kernel, by decide +kernel⟩
abbrev sp_change_of : Sp := SpG (α := List D × List D) (fun x => [.dat (.tup x.1), .dat (.tup x.2)]) (fun x => Low x.1 ∧ Low x.2 ∧ x.1.length ≤ 100 ∧ x.2.length ≤ 100) (fun x => RD (.tup (cutsD (chg x.1 x.2))))
abbrev H_change_of (P : Program) (w : World) (K : PySem.W.Frag) (mg : Str → Option Value) (base : Heap) : Prop := Has P w K mg base 3 "change_of" ["items", "others"] sp_change_of
theorem has_change_of {P : Program} {w : World} {K : PySem.W.Frag} {mg : Str → Option Value} {base : Heap} (B : Gs mg) (F : DefAt K mg "change_of" st_change_of) (G_pairs_of : H_pairs_of P w K mg base) : H_change_of P w K mg base :=
  F.hasG sc_change_of (fun _ _ _ _ _ _ us hl => match us, hl with | [_, _], _ => rfl) (fun _ => rfl) fun f cdv A outer s H E hr => by
    have hu := room64 hr
    have hu1 := hu_of hr
    refine ⟨_, (pss_cons (ps_set (i := 2) sc_change_of.nd rfl (Or.inl rfl) (pe_lst pa_nil))
      (pss_cons (ps_set (i := 3) sc_change_of.nd rfl (Or.inl rfl) pe_int)
      (pss_cons (ps_set (i := 4) sc_change_of.nd rfl (Or.inl rfl) pe_int)
      (pss_cons (ps_for PassesOwn.never rfl (pi_list (pe_op (op_addK (K := K) rfl) (pe_has G_pairs_of hr (by decide) (by rfl) (pa_cons (pv 0) (pa_cons (pv 1) pa_nil))) (pe_lst (pa_cons (pe_tup (pa_cons (pe_callB (call_lenK (K := K) rfl) (by rfl) B.len b_len (pa_cons (pv 0) pa_nil)) (pa_cons (pe_callB (call_lenK (K := K) rfl) (by rfl) B.len b_len (pa_cons (pv 1) pa_nil)) pa_nil))) pa_nil)))) (pg_tup (by rfl) (pgs_cons (pg_name (i := 5) sc_change_of.nd rfl (Or.inl rfl)) (pgs_cons (pg_name (i := 6) sc_change_of.nd rfl (Or.inl rfl)) pgs_nil)))
        (pss_cons (ps_if (PW.pt (pw_or (pt_cmpR op_gt (pv 5) (pv 3) (nomark _)) (pw_or1 (pt_cmpR op_gt (pv 6) (pv 4) (nomark _)))))
          (pss_one (ps_expr (pe_bm PySem.F.plainAttrs_list PySem.F.slot_list_append PySem.F.type_list_append mt_append (pv 2) (pa_cons (pe_tup (pa_cons (pv 3) (pa_cons (pe_slice (sl_anyK (K := K) rfl) (pv 0) (po_some (pv 3)) (po_some (pv 5))) (pa_cons (pe_slice (sl_anyK (K := K) rfl) (pv 1) (po_some (pv 4)) (po_some (pv 6))) pa_nil)))) pa_nil))))
          pss_nil)
        (pss_cons (ps_set (i := 3) sc_change_of.nd rfl (Or.inl rfl) (pe_op (op_addK (K := K) rfl) (pv 5) pe_int))
        (pss_one (ps_set (i := 4) sc_change_of.nd rfl (Or.inl rfl) (pe_op (op_addK (K := K) rfl) (pv 6) pe_int))))))
      (pss_one (ps_ret (pe_callTy (call_tupK (K := K) rfl) (by rfl) B.tuple b_tuple (pa_cons (pv 2) pa_nil)))))))), fun x hp H R q => ?_⟩
    obtain ⟨A, B⟩ := x
    obtain ⟨la, lb, za, zb⟩ := hp
    have za : A.length ≤ 100 := za
    have zb : B.length ≤ 100 := zb
    have hpl := prs_len A 0 B 0
    refine s_seq (s_asgN (n_lst d_nil (sz 0 rfl)) ?_)
    refine s_seq (s_asg x_ci ?_)
    refine s_seq (s_asg x_ci ?_)
    refine s_seq (s_forN (xs := (prs A 0 B 0 ++ [(A.length, B.length)]).map pairD) (js := [5, 6]) (EvN.is (n_addL (EvN.x (n_callN (A, B) (a_cons (x_vd rfl) (a_cons (x_vd rfl) a_nil)) ⟨la, lb, za, zb⟩ rfl)) (EvN.x (n_lst (d_cons (x_tup (d_cons (x_lenT (x_vd rfl)) (d_cons (x_lenT (x_vd rfl)) d_nil)) (sz 2 rfl)) d_nil) (sz 1 rfl))) ?_) ?_) (fun t S' => ∃ f i j u v, S' = [.dat (.tup A), .dat (.tup B), .own (cutsD f), .dat (.int ((i : Nat) : Int)), .dat (.int ((j : Nat) : Int)), u, v] ∧ f ++ cutsGo A B ((prs A 0 B 0 ++ [(A.length, B.length)]).drop t) i j = chg A B ∧ f.length ≤ t) ⟨[], 0, 0, _, _, rfl, rfl, Nat.zero_le _⟩ ?_ ?_)
    · rw [List.length_map, List.length_singleton, sizeLine_eq]
      show (prs A 0 B 0).length + 1 ≤ _
      omega
    · rw [List.map_append]; rfl
    · rintro H1 e1 t x S' hx ⟨f, i, j, u, v, rfl, h1, hfl⟩
      rw [List.getElem?_map] at hx
      obtain ⟨⟨h, k⟩, hx2, rfl⟩ := Option.map_eq_some_iff.mp hx
      have htl := (List.getElem?_eq_some_iff.mp hx2).1
      rw [List.length_append, List.length_singleton] at htl
      rw [drop_get hx2, cutsGo] at h1
      refine ⟨_, g_tup (ds := [.int (h : Int), .int (k : Int)]) rfl rfl, ?_⟩
      refine s_seq (s_if (b := decide (i < h) || decide (j < k)) (t_or (t_cB (x_gt (x_vd rfl) (x_vd rfl)) ?_) fun _ => t_cB (x_gt (x_vd rfl) (x_vd rfl)) ?_) (fun hd => ?_) (fun hd => s_next ?_))
      · simp only [Int.ofNat_lt]
      · simp only [Int.ofNat_lt]
      · simp only [Bool.or_eq_true, decide_eq_true_eq] at hd
        refine s_app rfl (x_tup (d_cons (x_vd rfl) (d_cons (x_slN i h (x_vd rfl) (x_vd rfl) (x_vd rfl) rfl rfl) (d_cons (x_slN j k (x_vd rfl) (x_vd rfl) (x_vd rfl) rfl rfl) d_nil))) (sz 3 rfl)) ?_ ?_
        · rw [List.length_map, sizeLine_eq]; omega
        refine s_seq (s_asg (x_addI (x_vd rfl) x_ci) ?_)
        refine s_asg (x_addI (x_vd rfl) x_ci) ⟨f ++ [⟨i, (A.take h).drop i, (B.take k).drop j⟩], h + 1, k + 1, _, _, by unfold cutsD; rw [List.map_append]; rfl, ?_, by rw [List.length_append, List.length_singleton]; omega⟩
        rw [← h1, cutIf, if_pos hd, List.append_assoc]
      · simp only [Bool.or_eq_false_iff, decide_eq_false_iff_not] at hd
        refine s_seq (s_asg (x_addI (x_vd rfl) x_ci) ?_)
        refine s_asg (x_addI (x_vd rfl) x_ci) ⟨f, h + 1, k + 1, _, _, rfl, ?_, by omega⟩
        rw [← h1, cutIf, if_neg (by omega), List.nil_append]
    · rintro H1 e1 S' ⟨f, i, j, u, v, rfl, h1, hfl⟩
      rw [List.length_map, List.drop_length, cutsGo, List.append_nil] at h1
      subst h1
      exact r_D (q.up e1) (x_tupL (x_vo rfl))
/-! _law_pairs: slots 0 _law_items_here*  1 _law_others*  2 _law_k  3 _law_most*  4 _law_i*  5 _law_j*  6 _law_found  7 _law_at  8 _law_some   -/
abbrev st_l_pairs : Stmt := topS 52
abbrev N_l_pairs : List Str := ["_law_items_here", "_law_others", "_law_k", "_law_most", "_law_i", "_law_j", "_law_found", "_law_at", "_law_some"]
theorem sc_l_pairs : FnScope N_l_pairs ["_law_items_here", "_law_others"] (defScope st_l_pairs) := ⟨rfl, rfl, rfl, by decide +kernel, rfl, by decide +kernel, by decide +kernel⟩
abbrev sp_l_pairs : Sp := SpG (α := List D × List D) (fun x => [.dat (.tup x.1), .dat (.tup x.2)]) (fun x => Low x.1 ∧ Low x.2 ∧ x.1.length ≤ 100 ∧ x.2.length ≤ 100) (fun x => RN ((prs x.1 0 x.2 0).map pairD))
abbrev H_l_pairs (P : Program) (w : World) (K : PySem.W.Frag) (mg : Str → Option Value) (base : Heap) : Prop := Has P w K mg base 1 "_law_pairs" ["_law_items_here", "_law_others"] sp_l_pairs
theorem has_l_pairs {P : Program} {w : World} {K : PySem.W.Frag} {mg : Str → Option Value} {base : Heap} (B : Gs mg) (F : DefAt K mg "_law_pairs" st_l_pairs)  : H_l_pairs P w K mg base :=
  F.hasG sc_l_pairs (fun _ _ _ _ _ _ us hl => match us, hl with | [_, _], _ => rfl) (fun _ => rfl) fun f cdv A outer s H E hr => by
    have hu := room64 hr
    have hu1 := hu_of hr
    refine ⟨_, (pss_cons (ps_set (i := 3) sc_l_pairs.nd rfl (Or.inr rfl) (pe_lc (own := [("_law_k", 2)]) (g := gName 2) (tt := tYes) rfl sc_l_pairs.nd (pi_range1 (by rfl) B.range (pa_cons (pe_op (op_addK (K := K) rfl) (pe_callB (call_lenK (K := K) rfl) (by rfl) B.len b_len (pa_cons (pv 0) pa_nil)) pe_int) pa_nil)) (blkOk_by (own := [("_law_k", 2)]) (N := N_l_pairs) (sc := defScope st_l_pairs) (by decide +kernel)) (fun _ _ _ _ _ => (pg_name (i := 2) sc_l_pairs.nd rfl (Or.inl rfl))) (fun _ _ _ _ _ => pts_nil) (fun _ _ _ _ _ => (pe_op op_mulA (pe_lst (pa_cons pe_int pa_nil)) (pe_op (op_addK (K := K) rfl) (pe_callB (call_lenK (K := K) rfl) (by rfl) B.len b_len (pa_cons (pv 1) pa_nil)) pe_int)))))
      (pss_cons (ps_for PassesOwn.never rfl (pi_revR (by rfl) B.rev (prg_1 (by rfl) B.range (pe_callB (call_lenK (K := K) rfl) (by rfl) B.len b_len (pa_cons (pv 0) pa_nil)))) (pg_name (i := 4) sc_l_pairs.nd rfl (Or.inr rfl))
        (pss_one (ps_for PassesOwn.never rfl (pi_revR (by rfl) B.rev (prg_1 (by rfl) B.range (pe_callB (call_lenK (K := K) rfl) (by rfl) B.len b_len (pa_cons (pv 1) pa_nil)))) (pg_name (i := 5) sc_l_pairs.nd rfl (Or.inr rfl))
          (pss_cons (ps_asg (pe_callB (call_maxA rfl) (by rfl) B.max b_max (pa_cons (pe_ix (ix_seqK (K := K) rfl) (pe_ix (ix_seqK (K := K) rfl) (pv 3) (pe_op (op_addK (K := K) rfl) (pv 4) pe_int) (fun _ _ => rfl)) (pv 5) (fun _ _ => rfl)) (pa_cons (pe_ix (ix_seqK (K := K) rfl) (pe_ix (ix_seqK (K := K) rfl) (pv 3) (pv 4) (fun _ _ => rfl)) (pe_op (op_addK (K := K) rfl) (pv 5) pe_int) (fun _ _ => rfl)) pa_nil))) (pg_sub (pe_ix (ix_seqK (K := K) rfl) (pv 3) (pv 4) (fun _ _ => rfl)) (pv 5) set_list))
          (pss_one (ps_if (pt_cmpR (op_eqK (K := K) rfl hu) (pe_ix (ix_seqK (K := K) rfl) (pv 0) (pv 4) (fun _ _ => rfl)) (pe_ix (ix_seqK (K := K) rfl) (pv 1) (pv 5) (fun _ _ => rfl)) (nomark _))
            (pss_one (ps_asg (pe_callB (call_maxA rfl) (by rfl) B.max b_max (pa_cons (pe_ix (ix_seqK (K := K) rfl) (pe_ix (ix_seqK (K := K) rfl) (pv 3) (pv 4) (fun _ _ => rfl)) (pv 5) (fun _ _ => rfl)) (pa_cons (pe_op (op_addK (K := K) rfl) pe_int (pe_ix (ix_seqK (K := K) rfl) (pe_ix (ix_seqK (K := K) rfl) (pv 3) (pe_op (op_addK (K := K) rfl) (pv 4) pe_int) (fun _ _ => rfl)) (pe_op (op_addK (K := K) rfl) (pv 5) pe_int) (fun _ _ => rfl))) pa_nil))) (pg_sub (pe_ix (ix_seqK (K := K) rfl) (pv 3) (pv 4) (fun _ _ => rfl)) (pv 5) set_list)))
            pss_nil))))))
      (pss_cons (ps_set (i := 6) sc_l_pairs.nd rfl (Or.inl rfl) (pe_lst pa_nil))
      (pss_cons (ps_set (i := 4) sc_l_pairs.nd rfl (Or.inr rfl) pe_int)
      (pss_cons (ps_set (i := 5) sc_l_pairs.nd rfl (Or.inr rfl) pe_int)
      (pss_cons (ps_while PassesOwn.never (pt_cmpR op_gt (pe_ix (ix_seqK (K := K) rfl) (pe_ix (ix_seqK (K := K) rfl) (pv 3) (pv 4) (fun _ _ => rfl)) (pv 5) (fun _ _ => rfl)) pe_int (nomark _))
        (pss_cons (ps_setLc (i := 8) (own := [("_law_at", 7)]) (g := gName 7) rfl sc_l_pairs.nd rfl rfl (sw_true rfl rfl rfl (by decide +kernel)) (pi_range2 (by rfl) B.range (pa_cons (pv 5) (pa_cons (pe_callB (call_lenK (K := K) rfl) (by rfl) B.len b_len (pa_cons (pv 1) pa_nil)) pa_nil))) (blkOk_by (own := [("_law_at", 7)]) (N := N_l_pairs) (sc := defScope st_l_pairs) (by decide +kernel)) (fun _ _ _ _ _ => (pg_name (i := 7) sc_l_pairs.nd rfl (Or.inl rfl))) (fun _ _ _ _ _ => (pts_one (pt_cmpR (op_eqK (K := K) rfl hu) (pe_ix (ix_seqK (K := K) rfl) (pv 0) (pv 4) (fun _ _ => rfl)) (pe_ix (ix_seqK (K := K) rfl) (pv 1) (pv 7) (fun _ _ => rfl)) (nomark _)))) (fun _ _ _ _ _ => (pv 7)))
        (pss_cons (ps_setLc (i := 8) (own := [("_law_at", 7)]) (g := gName 7) rfl sc_l_pairs.nd rfl rfl (sw_true rfl rfl rfl (by decide +kernel)) (pi_list (pv 8)) (blkOk_by (own := [("_law_at", 7)]) (N := N_l_pairs) (sc := defScope st_l_pairs) (by decide +kernel)) (fun _ _ _ _ _ => (pg_name (i := 7) sc_l_pairs.nd rfl (Or.inl rfl))) (fun _ _ _ _ _ => (pts_one (pt_cmpR (op_eqK (K := K) rfl hu) (pe_op (op_addK (K := K) rfl) pe_int (pe_ix (ix_seqK (K := K) rfl) (pe_ix (ix_seqK (K := K) rfl) (pv 3) (pe_op (op_addK (K := K) rfl) (pv 4) pe_int) (fun _ _ => rfl)) (pe_op (op_addK (K := K) rfl) (pv 7) pe_int) (fun _ _ => rfl))) (pe_ix (ix_seqK (K := K) rfl) (pe_ix (ix_seqK (K := K) rfl) (pv 3) (pv 4) (fun _ _ => rfl)) (pv 5) (fun _ _ => rfl)) (nomark _)))) (fun _ _ _ _ _ => (pv 7)))
        (pss_cons (ps_if (pt_cmpR (op_neK (K := K) rfl hu) (pv 8) (pe_lst pa_nil) (nomark _))
          (pss_cons (ps_expr (pe_bm PySem.F.plainAttrs_list PySem.F.slot_list_append PySem.F.type_list_append mt_append (pv 6) (pa_cons (pe_tup (pa_cons (pv 4) (pa_cons (pe_ix (ix_seqK (K := K) rfl) (pv 8) pe_int (fun _ _ => rfl)) pa_nil))) pa_nil)))
          (pss_one (ps_set (i := 5) sc_l_pairs.nd rfl (Or.inr rfl) (pe_op (op_addK (K := K) rfl) (pe_ix (ix_seqK (K := K) rfl) (pv 8) pe_int (fun _ _ => rfl)) pe_int))))
          pss_nil)
        (pss_one (ps_set (i := 4) sc_l_pairs.nd rfl (Or.inr rfl) (pe_op (op_addK (K := K) rfl) (pv 4) pe_int)))))))
      (pss_one (ps_ret (pv 6))))))))), fun x hp H R q => ?_⟩
    obtain ⟨A, B⟩ := x
    obtain ⟨la, lb, za, zb⟩ := hp
    have za : A.length ≤ 100 := za
    have zb : B.length ≤ 100 := zb
    refine s_seq (s_asgNT (nt_lcR1 (row := List.replicate (B.length + 1) (.int 0)) (x_addI (x_lenT (x_vd rfl)) x_ci) (by omega) ?_) ?_)
    · intro i hi
      refine ⟨_, _, g_name, by simp, EvN.is (n_mulL (n_lst (d_cons x_ci d_nil) (sz 1 rfl)).x (x_addI (x_lenT (x_vd rfl)) x_ci) (by omega) (by omega) ?_) ?_⟩
      · rw [sizeLine_eq, List.length_singleton]; omega
      · rw [flat_rep]
        congr 1
    refine s_seq (s_forRev (n := A.length) (x_lenT (x_vd rfl)) (by omega) (fun t S' => ∃ m u v, S' = [.dat (.tup A), .dat (.tup B), .no, .otab m, u, v, .no, .no, .no] ∧ Tab m (A.length + 1) (B.length + 1) (fill A B (A.length - t) 0)) ⟨_, _, _, rfl, ?_⟩ ?_ ?_)
    · have e : ((A.length : Int) + 1).toNat = A.length + 1 := by omega
      rw [e]
      refine (Tab.zero _ _).imp fun a b ha hb => ?_
      unfold fill
      by_cases h : A.length - 0 < a ∨ a = A.length - 0 ∧ 0 ≤ b
      · rw [if_pos h]
        have e : a = A.length := by omega
        rw [e, L_endA]
      · rw [if_neg h]
    · rintro H1 e1 t S' ht ⟨m, u, v, rfl, hm⟩
      have ei : A.length - t = (A.length - 1 - t) + 1 := by omega
      rw [ei] at hm
      have hi : A.length - 1 - t < A.length := by omega
      generalize hgi : A.length - 1 - t = i at hm hi ⊢
      refine s_forRev (n := B.length) (x_lenT (x_vd rfl)) (by omega) (fun t S' => ∃ m v, S' = [.dat (.tup A), .dat (.tup B), .no, .otab m, .dat (.int (i : Int)), v, .no, .no, .no] ∧ Tab m (A.length + 1) (B.length + 1) (fill A B i (B.length - t))) ⟨m, _, rfl, hm.imp fun a b _ hb => fill_in (j := 0) hi a b hb⟩ ?_ ?_
      · rintro H2 e2 t2 S' ht2 ⟨m, v, rfl, hm⟩
        have ej : B.length - t2 = (B.length - 1 - t2) + 1 := by omega
        have ej2 : B.length - (t2 + 1) = B.length - 1 - t2 := by omega
        rw [ej] at hm
        rw [ej2]
        have hj : B.length - 1 - t2 < B.length := by omega
        generalize hgj : B.length - 1 - t2 = j at hm hj ⊢
        obtain ⟨r0, k1, k2, k3⟩ := hm.row i (by omega)
        obtain ⟨r1, l1, l2, l3⟩ := hm.row (i + 1) (by omega)
        have f1 : fill A B i (j + 1) (i + 1) j = L A B (i + 1) j := by unfold fill; rw [if_pos (by omega)]
        have f2 : fill A B i (j + 1) i (j + 1) = L A B i (j + 1) := by unfold fill; rw [if_pos (by omega)]
        have f3 : fill A B i (j + 1) (i + 1) (j + 1) = L A B (i + 1) (j + 1) := by unfold fill; rw [if_pos (by omega)]
        have g1 := l3 j (by omega)
        have g2 := k3 (j + 1) (by omega)
        rw [f1] at g1
        rw [f2] at g2
        have hx : A[i]? = some A[i] := by simp [hi]
        have hy : B[j]? = some B[j] := by simp [hj]
        have hst := L_step hx hy
        refine s_seq (s_setT (n := i) (j := j) rfl k1 (EvX.is (x_max (x_ixL (x_ixR (x_vot rfl) (x_addI (x_vd rfl) x_ci) (k := i + 1) (by omega) l1) (x_vd rfl) rfl g1) (x_ixL (x_ixR (x_vot rfl) (x_vd rfl) (k := i) rfl k1) (x_addI (x_vd rfl) x_ci) (k := j + 1) (by omega) g2)) (congrArg (fun z => AV.dat (.int z)) (max_cast _ _).symm)) (x_vd rfl) (x_vd rfl) rfl rfl (by omega) ?_)
        have hm2 := hm.set (max (L A B (i + 1) j) (L A B i (j + 1))) (i := i) (j := j) (by omega) k1
        refine s_if (b := decide (A[i] = B[j])) (t_cmp (x_eq (x_ixT (x_vd rfl) (x_vd rfl) rfl hx) (x_ixT (x_vd rfl) (x_vd rfl) rfl hy) ?_)) (fun hd => ?_) (fun hd => s_next ⟨_, _, rfl, ?_⟩)
        · have := la _ (List.getElem_mem hi)
          omega
        · have hd := of_decide_eq_true hd
          rw [if_pos hd] at hst
          obtain ⟨r0', k1', k2', k3'⟩ := hm2.row i (by omega)
          obtain ⟨r1', l1', l2', l3'⟩ := hm2.row (i + 1) (by omega)
          have g3 := l3' (j + 1) (by omega)
          have g4 := k3' j (by omega)
          have f4 : (if i + 1 = i ∧ j + 1 = j then max (L A B (i + 1) j) (L A B i (j + 1)) else fill A B i (j + 1) (i + 1) (j + 1)) = L A B (i + 1) (j + 1) := by
            rw [if_neg (by omega), f3]
          have f5 : (if i = i ∧ j = j then max (L A B (i + 1) j) (L A B i (j + 1)) else fill A B i (j + 1) i j) = max (L A B (i + 1) j) (L A B i (j + 1)) := if_pos ⟨rfl, rfl⟩
          rw [f4] at g3
          rw [f5] at g4
          refine s_setT (n := i) (j := j) rfl k1' (EvX.is (x_max (x_ixL (x_ixR (x_vot rfl) (x_vd rfl) (k := i) rfl k1') (x_vd rfl) rfl g4) (x_addI x_ci (x_ixL (x_ixR (x_vot rfl) (x_addI (x_vd rfl) x_ci) (k := i + 1) (by omega) l1') (x_addI (x_vd rfl) x_ci) (k := j + 1) (by omega) g3))) (congrArg (fun z => AV.dat (.int z)) (?_ : _ = ((max (max (L A B (i + 1) j) (L A B i (j + 1))) (1 + L A B (i + 1) (j + 1)) : Nat) : Int)))) (x_vd rfl) (x_vd rfl) rfl rfl (by omega) ⟨_, _, rfl, ?_⟩
          · omega
          · refine (hm2.set _ (i := i) (j := j) (by omega) k1').imp fun a b _ _ => ?_
            rw [← fill_step hi hj _ hst.symm a b]
            by_cases h : a = i ∧ b = j
            · rw [if_pos h, if_pos h]
            · rw [if_neg h, if_neg h, if_neg h]
        · have hd := of_decide_eq_false hd
          rw [if_neg hd] at hst
          exact hm2.imp fun a b _ _ => fill_step hi hj _ hst.symm a b
      · rintro H2 e2 S' ⟨m, v, rfl, hm⟩
        rw [Nat.sub_self] at hm
        exact ⟨m, _, _, rfl, by rw [← hgi] at hm; rw [show A.length - (t + 1) = A.length - 1 - t by omega]; exact hm⟩
    · rintro H1 e1 S' ⟨m, u, v, rfl, hm⟩
      rw [Nat.sub_self] at hm
      have e : m = lcsTab A B := Tab.uniq hm ((lcsTab_tab A B).imp fun a b ha hb => by
        unfold fill
        rw [if_pos (by omega)])
      subst e
      refine s_seq (s_asgN (n_lst d_nil (sz 0 rfl)) ?_)
      refine s_seq (s_asg x_ci ?_)
      refine s_seq (s_asg x_ci ?_)
      refine s_seq (s_while (fun m S' => ∃ f i j u v, S' = [.dat (.tup A), .dat (.tup B), .no, .otab (lcsTab A B), .dat (.int ((i : Nat) : Int)), .dat (.int ((j : Nat) : Int)), .own (f.map pairD), u, v] ∧ f ++ prs (A.drop i) i (B.drop j) j = prs A 0 B 0 ∧ i ≤ A.length ∧ j ≤ B.length ∧ m = A.length - i ∧ f.length ≤ i) A.length ⟨[], 0, 0, _, _, rfl, rfl, Nat.zero_le _, Nat.zero_le _, rfl, Nat.zero_le _⟩ ?_)
      rintro H2 e2 m S' ⟨f, i, j, u, v, rfl, h1, hi, hj, rfl, hfl⟩
      obtain ⟨r, g1, g2⟩ := lcsTab_get A B hi hj
      refine ⟨decide (0 < L A B i j), t_cB (x_gt (x_ixL (x_ixR (x_vot rfl) (x_vd rfl) rfl g1) (x_vd rfl) rfl g2) x_ci) ?_, fun hd => ?_, fun hd => ?_⟩
      · by_cases q : 0 < L A B i j
        · rw [decide_eq_true q, decide_eq_true (by omega)]
        · rw [decide_eq_false q, decide_eq_false (by omega)]
      · have hd := of_decide_eq_true hd
        have hli := (L_pos hd).1
        have hlj := (L_pos hd).2
        have hx : A[i]? = some A[i] := by simp [hli]
        generalize hgx : A[i] = x at hx
        rw [drop_get hx, prs, if_neg (by unfold L at hd; rw [drop_get hx] at hd; omega)] at h1
        have hLx : lcs (x :: A.drop (i + 1)) (B.drop j) = L A B i j := by unfold L; rw [drop_get hx]
        rw [hLx] at h1
        have ej : ((B.length : Int) - (j : Int)).toNat = B.length - j := by omega
        have low1 : ∀ e : D, min x.dep e.dep ≤ 60 := fun e => by
          have := la x (List.mem_of_getElem? hx)
          omega
        refine s_seq (s_asgN (n_lcR2 (fun d => match d with | .int z => decide (B[z.toNat]? = some x) | _ => false) id (a := (j : Int)) (b := (B.length : Int)) (x_vd rfl) (x_lenT (x_vd rfl)) (by omega) (by omega) ?_) ?_)
        · intro t ht
          have htl : j + t < B.length := by omega
          have hy : B[j + t]? = some B[j + t] := by simp [htl]
          refine ⟨_, _, g_name, by simp, t_cB (x_eq (x_ixT (x_vd rfl) (x_vd rfl) rfl hx) (x_ixT (x_vd rfl) (x_vd rfl) (k := j + t) (by omega) hy) (low1 _)) ?_, fun _ => x_vd rfl⟩
          show _ = decide (B[((j : Int) + (t : Int)).toNat]? = some x)
          rw [show ((j : Int) + (t : Int)).toNat = j + t by omega, hy]
          by_cases q : x = B[j + t]
          · rw [decide_eq_true q, decide_eq_true (by rw [q])]
          · rw [decide_eq_false q, decide_eq_false (fun z => q (Option.some.inj z).symm)]
        rw [List.map_id, ej]
        refine s_seq (s_asgN (n_lcL (fun d => match d with | .int z => decide (1 + lcs (A.drop (i + 1)) (B.drop (z.toNat + 1)) = L A B i j) | _ => false) id (x_vo rfl) ?_ ?_) ?_)
        · refine Nat.le_trans (List.length_filter_le _ _) ?_
          unfold intsD
          rw [List.length_map, List.length_range]; omega
        · intro t d hd2
          have hm := List.mem_of_getElem? hd2
          rw [List.mem_filter] at hm
          obtain ⟨hm1, hm2⟩ := hm
          unfold intsD at hm1
          obtain ⟨k, hk, rfl⟩ := List.mem_map.mp hm1
          rw [List.mem_range] at hk
          obtain ⟨r2, g3, g4⟩ := lcsTab_get A B (i := i + 1) (j := j + k + 1) (by omega) (by omega)
          refine ⟨_, _, g_name, by simp, t_cB (x_eq (x_addI x_ci (x_ixL (x_ixR (x_vot rfl) (x_addI (x_vd rfl) x_ci) (k := i + 1) (by omega) g3) (x_addI (x_vd rfl) x_ci) (k := j + k + 1) (by omega) g4)) (x_ixL (x_ixR (x_vot rfl) (x_vd rfl) rfl g1) (x_vd rfl) rfl g2) (by simp [D.dep])) ?_, fun _ => x_vd rfl⟩
          show _ = decide (1 + lcs (A.drop (i + 1)) (B.drop (((j : Int) + (k : Int)).toNat + 1)) = L A B i j)
          rw [show ((j : Int) + (k : Int)).toNat + 1 = j + k + 1 by omega]
          by_cases q : 1 + lcs (A.drop (i + 1)) (B.drop (j + k + 1)) = L A B i j
          · rw [decide_eq_true q, decide_eq_true (congrArg D.int (by unfold L at q ⊢; omega))]
          · rw [decide_eq_false q, decide_eq_false (fun z => q (by injection z with z; unfold L at z ⊢; omega))]
        rw [List.map_id, List.filter_filter]
        have hff := fst_filter x (A.drop (i + 1)) B (L A B i j) (fun d => (match d with | .int z => decide (1 + lcs (A.drop (i + 1)) (B.drop (z.toNat + 1)) = L A B i j) | _ => false) && (match d with | .int z => decide (B[z.toNat]? = some x) | _ => false)) (fun k => by
          show (decide (1 + lcs (A.drop (i + 1)) (B.drop ((k : Int).toNat + 1)) = L A B i j) && decide (B[(k : Int).toNat]? = some x)) = _
          rw [Int.toNat_natCast, Bool.and_comm, ← Bool.decide_and]) (B.length - j) j (by omega)
        generalize hw : (intsD (j : Int) (B.length - j)).filter _ = w at hff ⊢
        have hwl : D.deps w ≤ 60 := by
          refine Nat.le_trans (D.deps_le (n := 0) fun d hd => ?_) (by decide)
          rw [← hw] at hd
          have hd := (List.mem_filter.mp hd).1
          unfold intsD at hd
          obtain ⟨k, _, rfl⟩ := List.mem_map.mp hd
          simp [D.dep]
        refine s_seq (s_if (b := !decide (w = [])) (t_cmp (x_neL (x_vo rfl) (EvN.x (n_lst d_nil (sz 0 rfl))) (by omega))) (fun hd => ?_) (fun hd => s_next ?_))
        · cases hf : fstK x (A.drop (i + 1)) (L A B i j) (B.drop j) j with
          | none =>
            rw [hf] at hff
            cases w with
            | nil => simp at hd
            | cons d w => simp at hff
          | some k =>
            rw [hf] at hff h1
            obtain ⟨k1, k2, _⟩ := fstK_spec hf
            rw [List.length_drop] at k2
            have hw0 : w[0]? = some (.int (k : Int)) := by rw [← List.head?_eq_getElem?]; exact hff
            refine s_seq (s_app rfl (x_tup (d_cons (x_vd rfl) (d_cons (x_ixL (x_vo rfl) x_ci (k := 0) rfl hw0) d_nil)) (sz 2 rfl)) ?_ ?_)
            · rw [List.length_map, sizeLine_eq]; omega
            refine s_asg (x_addI (x_ixL (x_vo rfl) x_ci (k := 0) rfl hw0) x_ci) ?_
            refine s_asg (x_addI (x_vd rfl) x_ci) ?_
            refine ⟨A.length - (i + 1), by omega, f ++ [(i, k)], i + 1, k + 1, _, _, by rw [List.map_append]; rfl, ?_, by omega, by omega, rfl, by rw [List.length_append, List.length_singleton]; omega⟩
            rw [← h1, List.append_assoc]
            show _ = f ++ (i, k) :: prs (A.drop (i + 1)) (i + 1) ((B.drop j).drop (k + 1 - j)) (k + 1)
            rw [List.drop_drop, show j + (k + 1 - j) = k + 1 by omega]
            rfl
        · have hd2 : w = [] := by simpa using hd
          rw [hd2] at hff
          have hf : fstK x (A.drop (i + 1)) (L A B i j) (B.drop j) j = none := by
            cases hf : fstK x (A.drop (i + 1)) (L A B i j) (B.drop j) j with
            | none => rfl
            | some k => rw [hf] at hff; simp at hff
          rw [hf] at h1
          refine s_asg (x_addI (x_vd rfl) x_ci) ?_
          exact ⟨A.length - (i + 1), by omega, f, i + 1, j, _, _, rfl, h1, by omega, hj, rfl, by omega⟩
      · have hd := of_decide_eq_false hd
        have hz : lcs (A.drop i) (B.drop j) = 0 := by
          have : L A B i j = 0 := by omega
          exact this
        rw [prs_zero hz, List.append_nil] at h1
        subst h1
        exact r_O (q.upN (e1.trans e2)) rfl
/-! _law_cuts: slots 0 _law_items_here  1 _law_others  2 _law_found  3 _law_i  4 _law_j  5 _law_here  6 _law_there   -/
abbrev st_l_cuts : Stmt := topS 53
abbrev N_l_cuts : List Str := ["_law_items_here", "_law_others", "_law_found", "_law_i", "_law_j", "_law_here", "_law_there"]
theorem sc_l_cuts : FnScope N_l_cuts ["_law_items_here", "_law_others"] (defScope st_l_cuts) := ⟨rfl, rfl, rfl, by decide +kernel, rfl, by decide +kernel, by decide +kernel⟩
abbrev sp_l_cuts : Sp := SpG (α := List D × List D) (fun x => [.dat (.tup x.1), .dat (.tup x.2)]) (fun x => Low x.1 ∧ Low x.2 ∧ x.1.length ≤ 100 ∧ x.2.length ≤ 100) (fun x => RN (cutsD (chg x.1 x.2)))
abbrev H_l_cuts (P : Program) (w : World) (K : PySem.W.Frag) (mg : Str → Option Value) (base : Heap) : Prop := Has P w K mg base 2 "_law_cuts" ["_law_items_here", "_law_others"] sp_l_cuts
theorem has_l_cuts {P : Program} {w : World} {K : PySem.W.Frag} {mg : Str → Option Value} {base : Heap} (B : Gs mg) (F : DefAt K mg "_law_cuts" st_l_cuts) (G_l_pairs : H_l_pairs P w K mg base) : H_l_cuts P w K mg base :=
  F.hasG sc_l_cuts (fun _ _ _ _ _ _ us hl => match us, hl with | [_, _], _ => rfl) (fun _ => rfl) fun f cdv A outer s H E hr => by
    have hu := room64 hr
    have hu1 := hu_of hr
    refine ⟨_, (pss_cons (ps_set (i := 2) sc_l_cuts.nd rfl (Or.inl rfl) (pe_lst pa_nil))
      (pss_cons (ps_set (i := 3) sc_l_cuts.nd rfl (Or.inl rfl) pe_int)
      (pss_cons (ps_set (i := 4) sc_l_cuts.nd rfl (Or.inl rfl) pe_int)
      (pss_cons (ps_for PassesOwn.never rfl (pi_list (pe_op (op_addK (K := K) rfl) (pe_has G_l_pairs hr (by decide) (by rfl) (pa_cons (pv 0) (pa_cons (pv 1) pa_nil))) (pe_lst (pa_cons (pe_tup (pa_cons (pe_callB (call_lenK (K := K) rfl) (by rfl) B.len b_len (pa_cons (pv 0) pa_nil)) (pa_cons (pe_callB (call_lenK (K := K) rfl) (by rfl) B.len b_len (pa_cons (pv 1) pa_nil)) pa_nil))) pa_nil)))) (pg_tup (by rfl) (pgs_cons (pg_name (i := 5) sc_l_cuts.nd rfl (Or.inl rfl)) (pgs_cons (pg_name (i := 6) sc_l_cuts.nd rfl (Or.inl rfl)) pgs_nil)))
        (pss_cons (ps_if (PW.pt (pw_or (pt_cmpR op_gt (pv 5) (pv 3) (nomark _)) (pw_or1 (pt_cmpR op_gt (pv 6) (pv 4) (nomark _)))))
          (pss_one (ps_expr (pe_bm PySem.F.plainAttrs_list PySem.F.slot_list_append PySem.F.type_list_append mt_append (pv 2) (pa_cons (pe_tup (pa_cons (pv 3) (pa_cons (pe_slice (sl_anyK (K := K) rfl) (pv 0) (po_some (pv 3)) (po_some (pv 5))) (pa_cons (pe_slice (sl_anyK (K := K) rfl) (pv 1) (po_some (pv 4)) (po_some (pv 6))) pa_nil)))) pa_nil))))
          pss_nil)
        (pss_cons (ps_set (i := 3) sc_l_cuts.nd rfl (Or.inl rfl) (pe_op (op_addK (K := K) rfl) (pv 5) pe_int))
        (pss_one (ps_set (i := 4) sc_l_cuts.nd rfl (Or.inl rfl) (pe_op (op_addK (K := K) rfl) (pv 6) pe_int))))))
      (pss_one (ps_ret (pv 2))))))), fun x hp H R q => ?_⟩
    obtain ⟨A, B⟩ := x
    obtain ⟨la, lb, za, zb⟩ := hp
    have za : A.length ≤ 100 := za
    have zb : B.length ≤ 100 := zb
    have hpl := prs_len A 0 B 0
    refine s_seq (s_asgN (n_lst d_nil (sz 0 rfl)) ?_)
    refine s_seq (s_asg x_ci ?_)
    refine s_seq (s_asg x_ci ?_)
    refine s_seq (s_forN (xs := (prs A 0 B 0 ++ [(A.length, B.length)]).map pairD) (js := [5, 6]) (EvN.is (n_addL (EvN.x (n_callN (A, B) (a_cons (x_vd rfl) (a_cons (x_vd rfl) a_nil)) ⟨la, lb, za, zb⟩ rfl)) (EvN.x (n_lst (d_cons (x_tup (d_cons (x_lenT (x_vd rfl)) (d_cons (x_lenT (x_vd rfl)) d_nil)) (sz 2 rfl)) d_nil) (sz 1 rfl))) ?_) ?_) (fun t S' => ∃ f i j u v, S' = [.dat (.tup A), .dat (.tup B), .own (cutsD f), .dat (.int ((i : Nat) : Int)), .dat (.int ((j : Nat) : Int)), u, v] ∧ f ++ cutsGo A B ((prs A 0 B 0 ++ [(A.length, B.length)]).drop t) i j = chg A B ∧ f.length ≤ t) ⟨[], 0, 0, _, _, rfl, rfl, Nat.zero_le _⟩ ?_ ?_)
    · rw [List.length_map, List.length_singleton, sizeLine_eq]
      show (prs A 0 B 0).length + 1 ≤ _
      omega
    · rw [List.map_append]; rfl
    · rintro H1 e1 t x S' hx ⟨f, i, j, u, v, rfl, h1, hfl⟩
      rw [List.getElem?_map] at hx
      obtain ⟨⟨h, k⟩, hx2, rfl⟩ := Option.map_eq_some_iff.mp hx
      have htl := (List.getElem?_eq_some_iff.mp hx2).1
      rw [List.length_append, List.length_singleton] at htl
      rw [drop_get hx2, cutsGo] at h1
      refine ⟨_, g_tup (ds := [.int (h : Int), .int (k : Int)]) rfl rfl, ?_⟩
      refine s_seq (s_if (b := decide (i < h) || decide (j < k)) (t_or (t_cB (x_gt (x_vd rfl) (x_vd rfl)) ?_) fun _ => t_cB (x_gt (x_vd rfl) (x_vd rfl)) ?_) (fun hd => ?_) (fun hd => s_next ?_))
      · simp only [Int.ofNat_lt]
      · simp only [Int.ofNat_lt]
      · simp only [Bool.or_eq_true, decide_eq_true_eq] at hd
        refine s_app rfl (x_tup (d_cons (x_vd rfl) (d_cons (x_slN i h (x_vd rfl) (x_vd rfl) (x_vd rfl) rfl rfl) (d_cons (x_slN j k (x_vd rfl) (x_vd rfl) (x_vd rfl) rfl rfl) d_nil))) (sz 3 rfl)) ?_ ?_
        · rw [List.length_map, sizeLine_eq]; omega
        refine s_seq (s_asg (x_addI (x_vd rfl) x_ci) ?_)
        refine s_asg (x_addI (x_vd rfl) x_ci) ⟨f ++ [⟨i, (A.take h).drop i, (B.take k).drop j⟩], h + 1, k + 1, _, _, by unfold cutsD; rw [List.map_append]; rfl, ?_, by rw [List.length_append, List.length_singleton]; omega⟩
        rw [← h1, cutIf, if_pos hd, List.append_assoc]
      · simp only [Bool.or_eq_false_iff, decide_eq_false_iff_not] at hd
        refine s_seq (s_asg (x_addI (x_vd rfl) x_ci) ?_)
        refine s_asg (x_addI (x_vd rfl) x_ci) ⟨f, h + 1, k + 1, _, _, rfl, ?_, by omega⟩
        rw [← h1, cutIf, if_neg (by omega), List.nil_append]
    · rintro H1 e1 S' ⟨f, i, j, u, v, rfl, h1, hfl⟩
      rw [List.length_map, List.drop_length, cutsGo, List.append_nil] at h1
      subst h1
      exact r_O (q.upN e1) rfl
/-! _law_become: slots 0 _law_base  1 _law_start  2 _law_end  3 _law_cuts_here  4 _law_found  5 _law_place  6 _law_at  7 _law_out  8 _law_put   -/
abbrev st_l_become : Stmt := topS 54
abbrev N_l_become : List Str := ["_law_base", "_law_start", "_law_end", "_law_cuts_here", "_law_found", "_law_place", "_law_at", "_law_out", "_law_put"]
theorem sc_l_become : FnScope N_l_become ["_law_base", "_law_start", "_law_end", "_law_cuts_here"] (defScope st_l_become) := ⟨rfl, rfl, rfl, by decide +kernel, rfl, by decide +kernel, by decide +kernel⟩
abbrev sp_l_become : Sp := SpG (α := List D × Nat × Nat × List Cut) (fun x => [.dat (.tup x.1), .dat (.int (x.2.1 : Int)), .dat (.int (x.2.2.1 : Int)), .lst (cutsD x.2.2.2)]) (fun x => (layTo x.1 x.2.2.1 x.2.2.2 x.2.1).length ≤ 10000) (fun x => RD (.tup (layTo x.1 x.2.2.1 x.2.2.2 x.2.1)))
abbrev H_l_become (P : Program) (w : World) (K : PySem.W.Frag) (mg : Str → Option Value) (base : Heap) : Prop := Has P w K mg base 1 "_law_become" ["_law_base", "_law_start", "_law_end", "_law_cuts_here"] sp_l_become
theorem has_l_become {P : Program} {w : World} {K : PySem.W.Frag} {mg : Str → Option Value} {base : Heap} (B : Gs mg) (F : DefAt K mg "_law_become" st_l_become)  : H_l_become P w K mg base :=
  F.hasG sc_l_become (fun _ _ _ _ _ _ us hl => match us, hl with | [_, _, _, _], _ => rfl) (fun _ => rfl) fun f cdv A outer s H E hr => by
    have hu := room64 hr
    have hu1 := hu_of hr
    refine ⟨_, (pss_cons (ps_set (i := 4) sc_l_become.nd rfl (Or.inl rfl) (pe_tup pa_nil))
      (pss_cons (ps_set (i := 5) sc_l_become.nd rfl (Or.inl rfl) (pv 1))
      (pss_cons (ps_for PassesOwn.never rfl (pi_list (pv 3)) (pg_tup (by rfl) (pgs_cons (pg_name (i := 6) sc_l_become.nd rfl (Or.inl rfl)) (pgs_cons (pg_name (i := 7) sc_l_become.nd rfl (Or.inl rfl)) (pgs_cons (pg_name (i := 8) sc_l_become.nd rfl (Or.inl rfl)) pgs_nil))))
        (pss_cons (ps_set (i := 4) sc_l_become.nd rfl (Or.inl rfl) (pe_op (op_addK (K := K) rfl) (pe_op (op_addK (K := K) rfl) (pv 4) (pe_slice (sl_anyK (K := K) rfl) (pv 0) (po_some (pv 5)) (po_some (pv 6)))) (pv 8)))
        (pss_one (ps_set (i := 5) sc_l_become.nd rfl (Or.inl rfl) (pe_op (op_addK (K := K) rfl) (pv 6) (pe_callB (call_lenK (K := K) rfl) (by rfl) B.len b_len (pa_cons (pv 7) pa_nil)))))))
      (pss_one (ps_ret (pe_op (op_addK (K := K) rfl) (pv 4) (pe_slice (sl_anyK (K := K) rfl) (pv 0) (po_some (pv 5)) (po_some (pv 2))))))))), fun x hp H R q => ?_⟩
    obtain ⟨A, b, e, cs⟩ := x
    have hz : (layTo A e cs b).length ≤ 10000 := hp
    refine s_seq (s_asg (x_tup d_nil (sz 0 rfl)) ?_)
    refine s_seq (s_asg (x_vd rfl) ?_)
    refine s_seq (s_forH (xs := cutsD cs) (js := [6, 7, 8]) rfl (fun t S' => ∃ f p u v w, S' = [.dat (.tup A), .dat (.int (b : Int)), .dat (.int (e : Int)), .lst (cutsD cs), .dat (.tup f), .dat (.int ((p : Nat) : Int)), u, v, w] ∧ f ++ layTo A e (cs.drop t) p = layTo A e cs b) ⟨[], b, _, _, _, rfl, rfl⟩ ?_ ?_)
    · rintro H1 e1 t x S' hx ⟨f, p, u, v, w, rfl, h1⟩
      rw [List.getElem?_map] at hx
      obtain ⟨c, hx2, rfl⟩ := Option.map_eq_some_iff.mp hx
      rw [drop_get hx2, layTo] at h1
      have hzz : f.length + ((A.take c.a).drop p).length + c.p.length ≤ 10000 := by
        rw [← h1] at hz
        simp only [List.length_append] at hz ⊢
        omega
      refine ⟨_, g_tup (ds := [.int (c.a : Int), .tup c.o, .tup c.p]) rfl rfl, ?_⟩
      refine s_seq (s_asg (x_addT (x_addT (x_vd rfl) (x_slN p c.a (x_vd rfl) (x_vd rfl) (x_vd rfl) rfl rfl) ?_) (x_vd rfl) ?_) ?_)
      · rw [sizeLine_eq]; omega
      · rw [sizeLine_eq, List.length_append]; omega
      · refine s_asg (x_addI (x_vd rfl) (x_lenT (x_vd rfl))) ⟨_, c.e, _, _, _, rfl, ?_⟩
        rw [← h1]
        simp only [List.append_assoc]
    · rintro H1 e1 S' ⟨f, p, u, v, w, rfl, h1⟩
      rw [List.length_map, List.drop_length, layTo] at h1
      have hzz : f.length + ((A.take e).drop p).length ≤ 10000 := by
        rw [← h1] at hz
        simp only [List.length_append] at hz ⊢
        exact hz
      exact r_De (q.up e1) (x_addT (x_vd rfl) (x_slN p e (x_vd rfl) (x_vd rfl) (x_vd rfl) rfl rfl) (by rw [sizeLine_eq]; omega)) (congrArg D.tup h1)
end Mw
-- part MwX4
set_option maxHeartbeats 4000000
/-! Defs that may let a Touch out. -/
namespace Mw
open PySem PySem.Spec PyProof.Rows L2
abbrev Xp := Hp → Value → Option Addr → Hp → Prop
def SpX {α : Type} (av : α → List AV) (pre : α → Prop) (rp : α → Rp) (xp : α → Xp) : Sp := fun vs H Q E => ∃ x, AVs H vs (av x) ∧ pre x ∧ (∀ v H', rp x H v H' → Q v H') ∧ ∀ c d H', xp x H c d H' → E c d H'
def GivesX (H0 : Hp) (xp : Xp) (E : XK) : Prop := ∀ c d H', xp H0 c d H' → E c d H'
/-- a Touch of two things -/
def TouchX (C : Addr) (P : D → D → Prop) : Xp := fun H c d H' => c = .ref C ∧ ∃ dd v1 v2 d1 d2, d = some dd ∧ Same H H' ∧ H' dd = some (.xd [("other", v2), ("one", v1)]) ∧ DV H' v1 d1 ∧ DV H' v2 d2 ∧ P d1 d2
theorem GivesX.up {H0 H1 : Hp} {C : Addr} {P : D → D → Prop} {E : XK} (e : Same H0 H1) (q : GivesX H0 (TouchX C P) E) : GivesX H1 (TouchX C P) E := fun c d H' ⟨h1, dd, v1, v2, d1, d2, h2, h3, h4⟩ => q c d H' ⟨h1, dd, v1, v2, d1, d2, h2, e.trans h3, h4⟩
theorem GivesX.imp {H0 : Hp} {C : Addr} {P P' : D → D → Prop} {E : XK} (k : ∀ d1 d2, P' d1 d2 → P d1 d2) (q : GivesX H0 (TouchX C P) E) : GivesX H0 (TouchX C P') E := fun c d H' ⟨h1, dd, v1, v2, d1, d2, h2, h3, h4, h5, h6, h7⟩ => q c d H' ⟨h1, dd, v1, v2, d1, d2, h2, h3, h4, h5, h6, k _ _ h7⟩
def HasX (P : Program) (w : World) (K : PySem.W.Frag) (mg : Str → Option Value) (base : Heap) (CX : CXT) (k : Nat) (x : Str) (ps : List Str) (sp : Sp) : Prop :=
  ∃ f fd, mg x = some (.ref f) ∧ FnOk P w K mg base CX k f fd ps sp ∧ PySem.W.keepIn K (.ref f) = true ∧ Binds K fd ps []
theorem ExS.enterN {t : TS} {N : List Str} {as : List AV} {vs : List V} {H : Hp} {Q : VK} {S : List SV} (h : AVs H vs as) (eS : as.map AV.sv ++ List.replicate (N.length - as.length) .no = S) (k : ExS H Q t S (fun _ _ => ∀ H', Same H H' → Q .non H')) : t { nx := fun _ H' => Q .non H', rt := Q } (start N vs) H :=
  k _ _ H (eS ▸ StD.start h) (fun H1 S' σ' H' e n hs => n H' (e.trans hs.ex)) fun v H' r => r
theorem DefAt.hasX {P : Program} {w : World} {K : PySem.W.Frag} {mg : Str → Option Value} {base : Heap} {CX : CXT} {x : Str} {st : Stmt} {N ps : List Str} {k : Nat} {α : Type} {av : α → List AV} {pre : α → Prop} {rp : α → Rp} {xp : α → Xp} (F : DefAt K mg x st) (S : FnScope N ps (defScope st)) (hb : ∀ (kV doc pm : Value) (an : Option Addr) (cdv ct : Value) (us : List Value), us.length = ps.length → bindArgs (PySem.W.fnOf x x (defArgs st) (defBody st) (defScope st) .none kV doc pm an cdv ct) ⟨us, []⟩ = pure (ps.zip us))
    (len : ∀ x, (av x).length = ps.length)
    (hbody : ∀ (f : Addr) (cdv : Value) (A : Around) (outer : List Env) (s : Shared) (H : Hp) (E : XK), Room k (A.deeper (envOfC x (defScope st) s.heap.objs.size f cdv)) →
      ∃ t, PSs (cxOf CX P w K mg base N x (defScope st) f cdv A outer s H E) (defBody st) t ∧ ∀ y, pre y → ∀ H R, Gives H (rp y) R → GivesX H (xp y) E → ExS H R t ((av y).map AV.sv ++ List.replicate (N.length - (av y).length) .no) (fun _ _ => ∀ H', Same H H' → R .non H')) : HasX P w K mg base CX (k + 1) x ps (SpX av pre rp xp) := by
  obtain ⟨f, fd, h1, h2⟩ := F
  exact ⟨f, fd, h1, h2.ok S (fun vs H Q E h => by
    obtain ⟨y, h, _⟩ := h
    rw [h.length, len]) (fun cdv A outer s H vs Q E hr h => by
    obtain ⟨t, k1, k2⟩ := hbody f cdv A outer s H E hr
    obtain ⟨y, h3, h4, h5, h6⟩ := h
    exact ⟨t, k1, ExS.enterN h3 rfl (k2 y h4 H Q h5 h6)⟩), h2.kp, h2.bindsN hb⟩
section
variable {X : Cx} {k j : Nat} {x : Str} {ps : List Str} {sp : Sp} {e : Expr} {es : List Expr} {t : TA} {p pos : Pos} {E : XK}
theorem pe_hasN (G : HasX X.prog X.w X.K X.mg X.base (L2N.CX X.prog X.w) k x ps sp) (hr : Room j X.A) (hk : k ≤ j) (hg : Gl X x) (tk : L2N.Takes X (fun cls d _ H => E cls d H)) (ha : PA X (e :: es) t)
    (hdb : (x == ("__debug__" : Str)) = false := by decide) (he : starEach (e :: es) X.env = (false, eval e X.env) :: starEach es X.env := by rfl) (hpl : (backTo pos (starEach es X.env)).any (·.1) = false := by rfl) : PE X (.Call (.Name x p) (e :: es) [] pos) (tCall sp [] E t) := by
  obtain ⟨f, fd, h1, h2, h3, h4⟩ := G
  exact pe_call h2 (hr.mono hk) hg h1 h3 h4 .nil (L2N.passes_call tk fun _ _ _ _ h => h) ha hdb he hpl
theorem pe_hasE (G : HasX X.prog X.w X.K X.mg X.base (L2.CX X.prog X.w) k x ps sp) (hr : Room j X.A) (hk : k ≤ j) (hg : Gl X x) (tk : L2.Takes X (fun cls d _ H => E cls d H)) (ha : PA X (e :: es) t)
    (hdb : (x == ("__debug__" : Str)) = false := by decide) (he : starEach (e :: es) X.env = (false, eval e X.env) :: starEach es X.env := by rfl) (hpl : (backTo pos (starEach es X.env)).any (·.1) = false := by rfl) : PE X (.Call (.Name x p) (e :: es) [] pos) (tCall sp [] E t) := by
  obtain ⟨f, fd, h1, h2, h3, h4⟩ := G
  exact pe_call h2 (hr.mono hk) hg h1 h3 h4 .nil (L2.passes_call tk fun _ _ _ _ h => h) ha hdb he hpl
theorem pe_hasNS {W : WX} (G : HasX X.prog X.w X.K X.mg X.base (L2N.CX X.prog X.w) k x ps sp) (hr : Room j X.A) (hk : k ≤ j) (hg : Gl X x) (tk : L2N.Takes X W) (ha : PA X (e :: es) t)
    (hdb : (x == ("__debug__" : Str)) = false := by decide) (he : starEach (e :: es) X.env = (false, eval e X.env) :: starEach es X.env := by rfl) (hpl : (backTo pos (starEach es X.env)).any (·.1) = false := by rfl) : PE X (.Call (.Name x p) (e :: es) [] pos) (tCallS sp (fun σ cls d H => W cls d σ H) t) := by
  obtain ⟨f, fd, h1, h2, h3, h4⟩ := G
  exact pe_callS h2 (hr.mono hk) hg h1 h3 h4 (fun σ pins H s e s' I c => tk e s' (L2N.XE.of_call I (fun cls d H' h => h) c)) ha hdb he hpl
theorem pe_hasES {W : WX} (G : HasX X.prog X.w X.K X.mg X.base (L2.CX X.prog X.w) k x ps sp) (hr : Room j X.A) (hk : k ≤ j) (hg : Gl X x) (tk : L2.Takes X W) (ha : PA X (e :: es) t)
    (hdb : (x == ("__debug__" : Str)) = false := by decide) (he : starEach (e :: es) X.env = (false, eval e X.env) :: starEach es X.env := by rfl) (hpl : (backTo pos (starEach es X.env)).any (·.1) = false := by rfl) : PE X (.Call (.Name x p) (e :: es) [] pos) (tCallS sp (fun σ cls d H => W cls d σ H) t) := by
  obtain ⟨f, fd, h1, h2, h3, h4⟩ := G
  exact pe_callS h2 (hr.mono hk) hg h1 h3 h4 (fun σ pins H s e s' I c => tk e s' (L2.XE.of_call I (fun cls d H' h => h) c)) ha hdb he hpl
end
section
variable {H0 : Hp} {S : List SV} {R : V → Hp → Prop} {N : Hp → List SV → Prop}
/-- what is told of Touch(a, b) -/
theorem mk_T {C : Addr} {ta : TA} {d1 d2 : D} {P : D → D → Prop} {σ : L2.St} {H : Hp} {Q : XK} (hs : StD H0 H σ S) (h : EvA H0 S ta [.dat d1, .dat d2]) (hp : P d1 d2) (q : GivesX H0 (TouchX C P) Q) : tMkO C (spTI C) [] ta σ H Q := by
  refine h σ H hs _ fun vs H1 e1 hv => ?_
  obtain ⟨v1, _, rfl, hv1, v2, _, rfl, hv2, rfl⟩ := hv
  refine ⟨by simp, fun a ha => ⟨a, v1, v2, rfl, upd_same, fun dx hn hne => ⟨rfl, dx, [("other", v2), ("one", v1)], ?_, upd_same, ?_, ?_⟩⟩⟩
  · rw [upd_ne (Ne.symm hne), upd_same]
  · rw [upd_ne hne] at hn; exact hn
  · have hn1 : H1 dx = none := by rw [upd_ne hne] at hn; exact hn
    have hk : ∀ b, b ≠ dx → upd (del (upd (upd (upd (upd H1 a (exo a C none)) dx (exd dx [("one", v1)])) a (exo a C (some dx))) dx (exd dx [("other", v2), ("one", v1)])) a) dx (.xd [("other", v2), ("one", v1)]) b = H1 b := fun b hb => by
      rw [upd_ne hb]
      by_cases e : b = a
      · rw [e, del_same, ha]
      · rw [del_ne e, upd_ne hb, upd_ne e, upd_ne hb, upd_ne e]
    have hsame : Same H1 (upd (del (upd (upd (upd (upd H1 a (exo a C none)) dx (exd dx [("one", v1)])) a (exo a C (some dx))) dx (exd dx [("other", v2), ("one", v1)])) a) dx (.xd [("other", v2), ("one", v1)])) := fun b o z => by
      rw [hk b (fun z2 => by rw [z2, hn1] at z; cases z)]
      exact z
    exact q _ _ _ ⟨rfl, dx, v1, v2, d1, d2, rfl, (hs.ex.trans e1).trans hsame, upd_same, DV.mono hsame hv1, DV.mono hsame hv2, hp⟩
theorem s_raiseT {C : Addr} {ta : TA} {d1 d2 : D} {P : D → D → Prop} {E : XK} (h : EvA H0 S ta [.dat d1, .dat d2]) (hp : P d1 d2) (q : GivesX H0 (TouchX C P) E) : ExS H0 R (fun _ σ H => tMkO C (spTI C) [] ta σ H fun cls d H' => E cls d H') S N :=
  fun D σ H hs hn hr => mk_T hs h hp q
theorem x_callDX {α : Type} {av : α → List AV} {pre : α → Prop} {rp : α → Rp} {xp : α → Xp} {E : XK} {ta : TA} {C : Addr} {P : D → D → Prop} (x : α) {d : D} (h : EvA H0 S ta (av x)) (hp : pre x) (e : rp x = RD d) (ex : xp x = TouchX C P) (q : GivesX H0 (TouchX C P) E) : EvX H0 S (tCall (SpX av pre rp xp) [] E ta) (.dat d) := fun σ H hs Q k =>
  h σ H hs _ fun vs H1 e1 hv => by
    rw [List.append_nil]
    refine ⟨x, hv, hp, fun v H' r => ?_, fun c dd H' r => ?_⟩
    · rw [e] at r
      exact k v H' (e1.trans r.1) r.2
    · rw [ex] at r
      exact (q.up (hs.ex.trans e1)) c dd H' r
theorem x_callVX {α : Type} {av : α → List AV} {pre : α → Prop} {rp : α → Rp} {xp : α → Xp} {E : XK} {ta : TA} {C : Addr} {P : D → D → Prop} (x : α) {u : V} (h : EvA H0 S ta (av x)) (hp : pre x) (e : rp x = RV u) (ex : xp x = TouchX C P) (q : GivesX H0 (TouchX C P) E) : EvX H0 S (tCall (SpX av pre rp xp) [] E ta) (.val u) := fun σ H hs Q k =>
  h σ H hs _ fun vs H1 e1 hv => by
    rw [List.append_nil]
    refine ⟨x, hv, hp, fun v H' r => ?_, fun c dd H' r => ?_⟩
    · rw [e] at r
      exact k v H' (e1.trans r.1) r.2
    · rw [ex] at r
      exact (q.up (hs.ex.trans e1)) c dd H' r
end
end Mw
-- part MwP2
set_option maxHeartbeats 4000000
/-! Stands and changes of stands. -/
namespace Mw
open PySem
abbrev Stand := List (Str × Rw)
def rowSD (p : Str × Rw) : D := .tup [.str p.1, p.2.w, .tup p.2.i]
def standD (s : Stand) : List D := s.map rowSD
def keys (s : Stand) : List Str := s.map (·.1)
def rowOf : Stand → Str → Rw
  | [], _ => Rw.none
  | p :: s, k => if p.1 = k then p.2 else rowOf s k
/-- rows of f at roots, the absent ones left out -/
noncomputable def mkS (R : List Str) (f : Str → Rw) : Stand := (R.filter fun r => !decide ((f r).w = .non)).map fun r => (r, f r)
def insS (p : Str × Rw) : Stand → Stand
  | [] => [p]
  | q :: s => if ltS p.1 q.1 then p :: q :: s else q :: insS p s
noncomputable def withRow (s : Stand) (k : Str) (x : Rw) : Stand := if x.w = .non then s.filter fun p => !decide (p.1 = k) else insS (k, x) (s.filter fun p => !decide (p.1 = k))
theorem insS_perm (p : Str × Rw) : ∀ s : Stand, (insS p s).Perm (p :: s)
  | [] => List.Perm.refl _
  | q :: s => by
    unfold insS
    split
    · exact List.Perm.refl _
    · exact ((insS_perm p s).cons q).trans (List.Perm.swap _ _ _)
theorem insS_ris {p : Str × Rw} : ∀ {s : Stand}, Ris (keys s) → (∀ q ∈ s, q.1 ≠ p.1) → Ris (keys (insS p s))
  | [], _, _ => List.pairwise_singleton _ _
  | q :: s, h, hn => by
    obtain ⟨h1, h2⟩ := List.pairwise_cons.mp h
    unfold insS
    by_cases hl : ltS p.1 q.1 = true
    · rw [if_pos hl]
      refine List.pairwise_cons.mpr ⟨fun z hz => ?_, h⟩
      rcases List.mem_cons.mp hz with e | e
      · rw [e]; exact hl
      · exact ltS_trans hl (h1 z e)
    · rw [if_neg hl]
      have hqp : ltS q.1 p.1 = true := by
        cases e : ltS q.1 p.1 with
        | true => rfl
        | false => exact absurd (ltS_total e (by simpa using hl)) (hn q List.mem_cons_self)
      refine List.pairwise_cons.mpr ⟨fun z hz => ?_, insS_ris h2 fun r hr => hn r (List.mem_cons_of_mem _ hr)⟩
      obtain ⟨r, hr, rfl⟩ := List.mem_map.mp hz
      rcases List.mem_cons.mp ((insS_perm p s).mem_iff.mp hr) with e | e
      · rw [e]; exact hqp
      · exact h1 _ (List.mem_map.mpr ⟨r, e, rfl⟩)
theorem ris_filter {s : Stand} (h : Ris (keys s)) (f : Str × Rw → Bool) : Ris (keys (s.filter f)) := h.sublist ((List.filter_sublist (p := f)).map _)
theorem withRow_ris {s : Stand} (h : Ris (keys s)) (k : Str) (x : Rw) : Ris (keys (withRow s k x)) := by
  unfold withRow
  split
  · exact ris_filter h _
  · exact insS_ris (ris_filter h _) fun q hq => by
      have := (List.mem_filter.mp hq).2
      simpa using this
theorem insU_len (x : Str) : ∀ l : List Str, (insU x l).length ≤ l.length + 1
  | [] => Nat.le_refl _
  | y :: ys => by
    have := insU_len x ys
    unfold insU
    split
    · simp
    · split
      · rw [List.length_cons, List.length_cons]; omega
      · simp
theorem sortU_len : ∀ l : List Str, (sortU l).length ≤ l.length
  | [] => Nat.le_refl _
  | x :: xs => by
    have h1 := insU_len x (sortU xs)
    have h2 := sortU_len xs
    rw [sortU, List.length_cons]
    omega
structure Deed where
  r : Str
  o : D
  n : D
  c : List Cut
abbrev Deed.d (x : Deed) : D := .tup [.str x.r, x.o, x.n, .tup (cutsD x.c)]
/-- the change between rows at roots -/
noncomputable def deeds (R : List Str) (f g : Str → Rw) : List Deed := (R.filter fun r => !decide (f r = g r)).map fun r => ⟨r, (f r).w, (g r).w, chg (f r).i (g r).i⟩
theorem mkS_step {Rs : List Str} {i : Nat} {r : Str} (f : Str → Rw) (h : Rs[i]? = some r) : mkS (Rs.take (i + 1)) f = mkS (Rs.take i) f ++ if (f r).w = .non then [] else [(r, f r)] := by
  unfold mkS
  rw [List.take_add_one, h, List.filter_append, List.map_append]
  congr 1
  show List.map _ (List.filter _ [r]) = _
  rw [List.filter_cons]
  by_cases e : (f r).w = .non
  · rw [if_neg (by simp [e]), if_pos e]; rfl
  · rw [if_pos (by simp [e]), if_neg e]; rfl
theorem deeds_step {Rs : List Str} {i : Nat} {r : Str} (f g : Str → Rw) (h : Rs[i]? = some r) : deeds (Rs.take (i + 1)) f g = deeds (Rs.take i) f g ++ if f r = g r then [] else [⟨r, (f r).w, (g r).w, chg (f r).i (g r).i⟩] := by
  unfold deeds
  rw [List.take_add_one, h, List.filter_append, List.map_append]
  congr 1
  show List.map _ (List.filter _ [r]) = _
  rw [List.filter_cons]
  by_cases e : f r = g r
  · rw [if_neg (by simp [e]), if_pos e]; rfl
  · rw [if_pos (by simp [e]), if_neg e]; rfl
noncomputable def layC : List Deed → Stand → Stand
  | [], s => s
  | d :: ds, s => layC ds (withRow s d.r ⟨d.n, lay (rowOf s d.r).i d.c 0⟩)
/-- a change fits a stand -/
def LayOk : List Deed → Stand → Prop
  | [], _ => True
  | d :: ds, s => ((rowOf s d.r).w = d.o ∧ Fits (rowOf s d.r).i 0 d.c ∧ Low (rowOf s d.r).i ∧ (lay (rowOf s d.r).i d.c 0).length ≤ 10000 ∧ d.o.dep ≤ 30 ∧ (d.n = .non → lay (rowOf s d.r).i d.c 0 = []) ∧ s.length ≤ 1000 ∧ Ris (keys s)) ∧ LayOk ds (withRow s d.r ⟨d.n, lay (rowOf s d.r).i d.c 0⟩)
end Mw
-- part MwM7
set_option maxHeartbeats 4000000
/-! Rows and stands: changes led past one another and laid come to the join. -/
namespace Mw
open PySem
theorem tch_sym (c d : Cut) : tch c d = tch d c := by
  unfold tch
  rw [Bool.and_comm]
theorem touchR_sym (b o p : Rw) : touchR b p o = touchR b o p := by
  unfold touchR
  by_cases e1 : o = b
  · simp [e1]
  · by_cases e2 : p = b
    · simp [e2]
    · simp only [e1, e2, or_self, if_false]
      by_cases h : (b.w = .non ∨ o.w = .non ∨ p.w = .non) ∨ (o.w ≠ b.w ∧ p.w ≠ b.w)
      · rw [if_pos h, if_pos]
        rcases h with (h | h | h) | h
        · exact .inl (.inl h)
        · exact .inl (.inr (.inr h))
        · exact .inl (.inr (.inl h))
        · exact .inr ⟨h.2, h.1⟩
      · rw [if_neg h, if_neg]
        · rw [Bool.eq_iff_iff, List.any_eq_true, List.any_eq_true]
          constructor
          · rintro ⟨d, hd, hh⟩
            obtain ⟨c, hc, ht⟩ := List.any_eq_true.mp hh
            exact ⟨c, hc, List.any_eq_true.mpr ⟨d, hd, by rw [tch_sym]; exact ht⟩⟩
          · rintro ⟨d, hd, hh⟩
            obtain ⟨c, hc, ht⟩ := List.any_eq_true.mp hh
            exact ⟨c, hc, List.any_eq_true.mpr ⟨d, hd, by rw [tch_sym]; exact ht⟩⟩
        · intro z
          apply h
          rcases z with (z | z | z) | z
          · exact .inl (.inl z)
          · exact .inl (.inr (.inr z))
          · exact .inl (.inr (.inl z))
          · exact .inr ⟨z.2, z.1⟩
/-- what no touch says, where both have a deed -/
theorem touchR_no {b o p : Rw} (h : touchR b o p = false) (h1 : o ≠ b) (h2 : p ≠ b) : b.w ≠ .non ∧ o.w ≠ .non ∧ p.w ≠ .non ∧ (o.w = b.w ∨ p.w = b.w) ∧ Apart (chg b.i o.i) (chg b.i p.i) := by
  unfold touchR at h
  rw [if_neg (fun z => z.elim h1 h2)] at h
  by_cases hh : (b.w = .non ∨ o.w = .non ∨ p.w = .non) ∨ (o.w ≠ b.w ∧ p.w ≠ b.w)
  · rw [if_pos hh] at h; cases h
  · rw [if_neg hh] at h
    refine ⟨fun z => hh (.inl (.inl z)), fun z => hh (.inl (.inr (.inl z))), fun z => hh (.inl (.inr (.inr z))), ?_, fun c hc d hd => ?_⟩
    · by_cases e : o.w = b.w
      · exact .inl e
      · exact .inr (Classical.byContradiction fun z => hh (.inr ⟨e, z⟩))
    · rw [List.any_eq_false] at h
      have := h c hc
      rw [Bool.not_eq_true, List.any_eq_false] at this
      exact Bool.not_eq_true _ ▸ this d hd
theorem chg_nil {A B : List D} (h : chg A B = []) : A = B := by
  have := chg_lay A B
  rw [h] at this
  exact this
theorem tch_self (c : Cut) : tch c c = true := by
  unfold tch Cut.e
  simp
/-- both have a deed and don't touch: they differ -/
theorem touchR_ne {b o p : Rw} (h : touchR b o p = false) (h1 : o ≠ b) (h2 : p ≠ b) : o ≠ p := by
  intro e
  obtain ⟨_, _, _, hw, ha⟩ := touchR_no h h1 h2
  rw [← e] at hw ha
  have hw : o.w = b.w := hw.elim id id
  have hi : b.i ≠ o.i := fun z => h1 (Rw.ext hw z.symm)
  cases hc : chg b.i o.i with
  | nil => exact hi (chg_nil hc)
  | cons c cs =>
    have := ha c (by rw [hc]; exact List.mem_cons_self) c (by rw [hc]; exact List.mem_cons_self)
    rw [tch_self] at this
    cases this
/-- the first of two deeds of a root, behind the other -/
noncomputable def past1 (r : Str) (b o p : Rw) : Deed :=
  if p = b then ⟨r, b.w, o.w, chg b.i o.i⟩ else if b.w ≠ o.w then ⟨r, b.w, o.w, (chg b.i o.i).map (shC (chg b.i p.i))⟩ else ⟨r, p.w, p.w, (chg b.i o.i).map (shC (chg b.i p.i))⟩
theorem past1_r (r : Str) (b o p : Rw) : (past1 r b o p).r = r := by
  unfold past1
  split
  · rfl
  · split <;> rfl
theorem chg_laid (A B : List D) : lay A (chg A B) 0 = B := chg_lay A B
/-- a deed behind the other laid on the other's row -/
theorem past1_ok {r : Str} {b o p : Rw} (hb : RowV b) (ho : RowV o) (hp : RowV p) (h : touchR b o p = false) (h1 : o ≠ b) :
    (past1 r b o p).o = p.w ∧ Fits p.i 0 (past1 r b o p).c ∧ (⟨(past1 r b o p).n, lay p.i (past1 r b o p).c 0⟩ : Rw) = joinR b o p ∧ ((past1 r b o p).n = .non → lay p.i (past1 r b o p).c 0 = []) := by
  unfold past1
  by_cases e : p = b
  · rw [if_pos e, e]
    refine ⟨rfl, chg_fits _ _, ?_, ?_⟩
    · dsimp only
      rw [chg_lay]
      unfold joinR
      rw [if_pos (.inr rfl)]
    · dsimp only
      rw [chg_lay]
      exact ho.n
  · rw [if_neg e]
    obtain ⟨nb, no, np, hw, ha⟩ := touchR_no h h1 e
    have hne := touchR_ne h h1 e
    obtain ⟨r1, r2, _⟩ := past_one (chg_fits b.i o.i) (chg_fits b.i p.i) ha
    rw [chg_lay] at r1 r2
    have hj : joinR b o p = ⟨joinW b.w o.w p.w, joinI b.i o.i p.i⟩ := by
      unfold joinR
      rw [if_neg (fun z => z.elim hne e), if_neg h1, if_neg no, if_neg np]
    have hji : lay p.i ((chg b.i o.i).map (shC (chg b.i p.i))) 0 = joinI b.i o.i p.i := by
      rw [r1, joinI_apart ha]
    by_cases ew : b.w ≠ o.w
    · rw [if_pos ew]
      have hpw : p.w = b.w := hw.elim (fun z => absurd z.symm ew) id
      refine ⟨hpw.symm, r2, ?_, fun z => absurd z no⟩
      rw [hj]
      dsimp only
      rw [hji]
      congr 1
      unfold joinW
      rw [if_pos (.inr hpw)]
    · rw [if_neg ew]
      have ew : b.w = o.w := Classical.byContradiction ew
      refine ⟨rfl, r2, ?_, fun z => absurd z np⟩
      rw [hj]
      dsimp only
      rw [hji]
      congr 1
      unfold joinW
      by_cases e3 : o.w = p.w ∨ p.w = b.w
      · rw [if_pos e3]
        exact e3.elim (fun z => z.symm) fun z => z.trans ew
      · rw [if_neg e3, if_pos ew.symm]
theorem joinR_b (b p : Rw) : joinR b b p = p := by
  unfold joinR
  by_cases e : b = p ∨ p = b
  · rw [if_pos e]
    exact e.elim id fun z => z.symm
  · rw [if_neg e, if_pos rfl]
theorem joinR_ob (b o : Rw) : joinR b o b = o := by
  unfold joinR
  rw [if_pos (.inr rfl)]
theorem joinR_none : joinR Rw.none Rw.none Rw.none = Rw.none := joinR_b _ _
/-! ### stands -/
theorem mkS_mem {R : List Str} {f : Str → Rw} {p : Str × Rw} : p ∈ mkS R f ↔ p.1 ∈ R ∧ p.2 = f p.1 ∧ (f p.1).w ≠ .non := by
  unfold mkS
  rw [List.mem_map]
  constructor
  · rintro ⟨r, h, rfl⟩
    obtain ⟨h1, h2⟩ := List.mem_filter.mp h
    exact ⟨h1, rfl, by simpa using h2⟩
  · rintro ⟨h1, h2, h3⟩
    exact ⟨p.1, List.mem_filter.mpr ⟨h1, by simpa using h3⟩, by rw [← h2]⟩
theorem mkS_keys (R : List Str) (f : Str → Rw) : keys (mkS R f) = R.filter fun r => !decide ((f r).w = .non) := by
  unfold keys mkS
  rw [List.map_map]
  exact List.map_id _
theorem mkS_ris {R : List Str} (h : Ris R) (f : Str → Rw) : Ris (keys (mkS R f)) := by
  rw [mkS_keys]
  exact h.sublist List.filter_sublist
theorem stand_uniq {s t : Stand} (h1 : Ris (keys s)) (h2 : Ris (keys t)) (h : ∀ p, p ∈ s ↔ p ∈ t) : s = t := by
  have n1 : s.Pairwise fun x y => ltS x.1 y.1 = true := List.pairwise_map.mp h1
  have n2 : t.Pairwise fun x y => ltS x.1 y.1 = true := List.pairwise_map.mp h2
  have nd : ∀ {s : Stand}, s.Pairwise (fun x y => ltS x.1 y.1 = true) → s.Nodup := fun h => h.imp fun {x y} z e => by
    rw [e, ltS_irr] at z; cases z
  exact perm_uniq ((List.perm_ext_iff_of_nodup (nd n1) (nd n2)).mpr h) n1 n2 fun x _ y _ z1 z2 => by
    have := ltS_trans z1 z2
    rw [ltS_irr] at this
    cases this
theorem rowOf_mem {s : Stand} (h : Ris (keys s)) {p : Str × Rw} (hp : p ∈ s) : rowOf s p.1 = p.2 := by
  induction s with
  | nil => exact nomem hp
  | cons q s ih =>
    obtain ⟨h1, h2⟩ := List.pairwise_cons.mp h
    unfold rowOf
    rcases List.mem_cons.mp hp with e | e
    · rw [e, if_pos rfl]
    · rw [if_neg, ih h2 e]
      intro z
      have : ltS q.1 p.1 = true := h1 p.1 (List.mem_map.mpr ⟨p, e, rfl⟩)
      rw [z, ltS_irr] at this
      cases this
theorem rowOf_none {s : Stand} {k : Str} (h : k ∉ keys s) : rowOf s k = Rw.none := by
  induction s with
  | nil => rfl
  | cons q s ih =>
    unfold rowOf
    rw [if_neg (fun z => h (List.mem_cons.mpr (.inl z.symm))), ih fun z => h (List.mem_cons_of_mem _ z)]
/-- what rows there are: nothing at other roots, the absent one has no items -/
structure Rows (R : List Str) (f : Str → Rw) : Prop where
  out : ∀ r, r ∉ R → f r = Rw.none
  non : ∀ r, (f r).w = .non → f r = Rw.none
theorem rowOf_mkS {R : List Str} {f : Str → Rw} (hR : Ris R) (h : Rows R f) (r : Str) : rowOf (mkS R f) r = f r := by
  by_cases e : r ∈ keys (mkS R f)
  · obtain ⟨p, hp, rfl⟩ := List.mem_map.mp e
    rw [rowOf_mem (mkS_ris hR f) hp]
    exact (mkS_mem.mp hp).2.1
  · rw [rowOf_none e]
    rw [mkS_keys, List.mem_filter] at e
    by_cases hr : r ∈ R
    · have : (f r).w = .non := by
        apply Classical.byContradiction
        intro z
        exact e ⟨hr, by simpa using z⟩
      exact (h.non r this).symm
    · exact (h.out r hr).symm
theorem mkS_sub {R : List Str} {f : Str → Rw} {T : List Str} (hR : Ris R) (hT : Ris T) (h1 : ∀ r ∈ T, r ∈ R) (h2 : ∀ r ∈ R, (f r).w ≠ .non → r ∈ T) : mkS T f = mkS R f :=
  stand_uniq (mkS_ris hT f) (mkS_ris hR f) fun p => by
    rw [mkS_mem, mkS_mem]
    exact ⟨fun ⟨a, b, c⟩ => ⟨h1 _ a, b, c⟩, fun ⟨a, b, c⟩ => ⟨h2 _ a c, b, c⟩⟩
theorem mkS_len (R : List Str) (f : Str → Rw) : (mkS R f).length ≤ R.length := by
  unfold mkS
  rw [List.length_map]
  exact List.length_filter_le _ _
theorem mkS_congr {R : List Str} {f g : Str → Rw} (h : ∀ r ∈ R, f r = g r) : mkS R f = mkS R g := by
  unfold mkS
  have e : (R.filter fun r => !decide ((f r).w = .non)) = R.filter fun r => !decide ((g r).w = .non) := List.filter_congr fun r hr => by rw [h r hr]
  rw [e]
  exact List.map_congr_left fun r hr => by rw [h r (List.mem_filter.mp hr).1]
theorem keys_mem {R : List Str} {f : Str → Rw} {r : Str} : r ∈ keys (mkS R f) ↔ r ∈ R ∧ (f r).w ≠ .non := by
  rw [mkS_keys, List.mem_filter]
  simp
/-- the join's roots -/
theorem join_stand {R : List Str} {f g h J : Str → Rw} (hR : Ris R) (hJ : ∀ r, (f r).w = .non → (g r).w = .non → (h r).w = .non → (J r).w = .non) :
    mkS (sortU (keys (mkS R f ++ mkS R g ++ mkS R h))) J = mkS R J := by
  have hm : ∀ r, r ∈ keys (mkS R f ++ mkS R g ++ mkS R h) ↔ r ∈ R ∧ ((f r).w ≠ .non ∨ (g r).w ≠ .non ∨ (h r).w ≠ .non) := fun r => by
    have : keys (mkS R f ++ mkS R g ++ mkS R h) = keys (mkS R f) ++ keys (mkS R g) ++ keys (mkS R h) := by unfold keys; rw [List.map_append, List.map_append]
    rw [this, List.mem_append, List.mem_append, keys_mem, keys_mem, keys_mem]
    constructor
    · rintro ((⟨a, b⟩ | ⟨a, b⟩) | ⟨a, b⟩)
      · exact ⟨a, .inl b⟩
      · exact ⟨a, .inr (.inl b)⟩
      · exact ⟨a, .inr (.inr b)⟩
    · rintro ⟨a, b | b | b⟩
      · exact .inl (.inl ⟨a, b⟩)
      · exact .inl (.inr ⟨a, b⟩)
      · exact .inr ⟨a, b⟩
  refine mkS_sub hR (ris_sortU _) (fun r hr => ((hm r).mp (mem_sortU.mp hr)).1) fun r hr hn => mem_sortU.mpr ((hm r).mpr ⟨hr, ?_⟩)
  apply Classical.byContradiction
  intro z
  exact hn (hJ r (Classical.byContradiction fun q => z (.inl q)) (Classical.byContradiction fun q => z (.inr (.inl q))) (Classical.byContradiction fun q => z (.inr (.inr q))))
/-- the change's roots -/
theorem deeds_stand {R : List Str} {f g : Str → Rw} (hR : Ris R) (hf : Rows R f) (hg : Rows R g) :
    deeds (sortU (keys (mkS R f ++ mkS R g))) (rowOf (mkS R f)) (rowOf (mkS R g)) = deeds R f g := by
  have e1 : rowOf (mkS R f) = f := funext (rowOf_mkS hR hf)
  have e2 : rowOf (mkS R g) = g := funext (rowOf_mkS hR hg)
  rw [e1, e2]
  unfold deeds
  congr 1
  have hm : ∀ r, r ∈ keys (mkS R f ++ mkS R g) ↔ r ∈ R ∧ ((f r).w ≠ .non ∨ (g r).w ≠ .non) := fun r => by
    have : keys (mkS R f ++ mkS R g) = keys (mkS R f) ++ keys (mkS R g) := by unfold keys; rw [List.map_append]
    rw [this, List.mem_append, keys_mem, keys_mem]
    constructor
    · rintro (⟨a, b⟩ | ⟨a, b⟩)
      · exact ⟨a, .inl b⟩
      · exact ⟨a, .inr b⟩
    · rintro ⟨a, b | b⟩
      · exact .inl ⟨a, b⟩
      · exact .inr ⟨a, b⟩
  refine ris_uniq ((ris_sortU _).sublist List.filter_sublist) (hR.sublist List.filter_sublist) fun r => ?_
  rw [List.mem_filter, List.mem_filter, mem_sortU, hm]
  constructor
  · rintro ⟨⟨a, _⟩, b⟩
    exact ⟨a, b⟩
  · rintro ⟨a, b⟩
    refine ⟨⟨a, ?_⟩, b⟩
    apply Classical.byContradiction
    intro z
    have z1 : (f r).w = .non := Classical.byContradiction fun q => z (.inl q)
    have z2 : (g r).w = .non := Classical.byContradiction fun q => z (.inr q)
    rw [hf.non r z1, hg.non r z2] at b
    simp at b
/-! ### laying -/
theorem insS_mem {p q : Str × Rw} {s : Stand} : q ∈ insS p s ↔ q = p ∨ q ∈ s := by
  rw [(insS_perm p s).mem_iff, List.mem_cons]
noncomputable def setR (f : Str → Rw) (k : Str) (x : Rw) : Str → Rw := fun r => if r = k then x else f r
theorem withRow_mkS {R : List Str} {f : Str → Rw} {k : Str} {x : Rw} (hR : Ris R) (hk : k ∈ R) : withRow (mkS R f) k x = mkS R (setR f k x) :=
  stand_uniq (withRow_ris (mkS_ris hR f) k x) (mkS_ris hR _) fun p => by
    rw [mkS_mem]
    unfold withRow setR
    by_cases e : p.1 = k
    · rw [if_pos e]
      by_cases hx : x.w = .non
      · rw [if_pos hx, List.mem_filter]
        constructor
        · rintro ⟨_, b⟩
          simp [e] at b
        · rintro ⟨_, _, b⟩
          exact absurd hx b
      · rw [if_neg hx, insS_mem, List.mem_filter]
        constructor
        · rintro (h | ⟨_, b⟩)
          · exact ⟨by rw [e]; exact hk, by rw [h], hx⟩
          · simp [e] at b
        · rintro ⟨_, b, _⟩
          exact .inl (Prod.ext e b)
    · rw [if_neg e]
      have hm : p ∈ (mkS R f).filter (fun p => !decide (p.1 = k)) ↔ p.1 ∈ R ∧ p.2 = f p.1 ∧ (f p.1).w ≠ .non := by
        rw [List.mem_filter, mkS_mem]
        exact ⟨fun z => z.1, fun z => ⟨z, by simpa using e⟩⟩
      by_cases hx : x.w = .non
      · rw [if_pos hx, hm]
      · rw [if_neg hx, insS_mem, hm]
        constructor
        · rintro (h | h)
          · exact absurd (congrArg Prod.fst h) e
          · exact h
        · exact .inr
theorem setR_rows {R : List Str} {f : Str → Rw} {k : Str} {x : Rw} (h : Rows R f) (hk : k ∈ R) (hx : x.w = .non → x = Rw.none) : Rows R (setR f k x) where
  out := fun r hr => by
    unfold setR
    rw [if_neg (fun z => hr (by rw [z]; exact hk)), h.out r hr]
  non := fun r hr => by
    unfold setR at hr ⊢
    by_cases e : r = k
    · rw [if_pos e] at hr ⊢; exact hx hr
    · rw [if_neg e] at hr ⊢; exact h.non r hr
/-- deeds laid at their roots -/
theorem layC_ok {R : List Str} (hR : Ris R) (hRl : R.length ≤ 1000) {d : Str → Deed} {g : Str → Rw} (hd : ∀ r, (d r).r = r) :
    ∀ {T : List Str} {f : Str → Rw}, T.Nodup → (∀ r ∈ T, r ∈ R) → Rows R f → (∀ r ∈ T, (f r).w = (d r).o ∧ Fits (f r).i 0 (d r).c ∧ Low (f r).i ∧ (g r).i.length ≤ 10000 ∧ (d r).o.dep ≤ 30 ∧ ((d r).n = .non → (g r).i = []) ∧ (⟨(d r).n, lay (f r).i (d r).c 0⟩ : Rw) = g r) →
      LayOk (T.map d) (mkS R f) ∧ layC (T.map d) (mkS R f) = mkS R (fun r => if r ∈ T then g r else f r)
  | [], f, _, _, _, _ => ⟨trivial, mkS_congr fun r _ => by rw [if_neg]; exact fun z => nomem z⟩
  | k :: T, f, hn, hT, hf, h => by
    obtain ⟨n1, n2⟩ := List.nodup_cons.mp hn
    obtain ⟨a1, a2, a3, a4, a5, a6, a7⟩ := h k List.mem_cons_self
    have hk := hT k List.mem_cons_self
    have hli : lay (f k).i (d k).c 0 = (g k).i := congrArg Rw.i a7
    have hgw : (d k).n = (g k).w := congrArg Rw.w a7
    have hs : ∀ r ∈ T, setR f k (g k) r = f r := fun r hr => by
      unfold setR
      rw [if_neg]
      intro z
      exact n1 (by rw [← z]; exact hr)
    have hrow : rowOf (mkS R f) (d k).r = f k := by rw [hd, rowOf_mkS hR hf]
    have hx : (g k).w = .non → g k = Rw.none := fun z => Rw.ext z (a6 (by rw [hgw]; exact z))
    obtain ⟨i1, i2⟩ := layC_ok (f := setR f k (g k)) hR hRl hd n2 (fun r hr => hT r (List.mem_cons_of_mem _ hr)) (setR_rows hf hk hx) fun r hr => by
      rw [hs r hr]
      exact h r (List.mem_cons_of_mem _ hr)
    have hw : withRow (mkS R f) (d k).r ⟨(d k).n, lay (rowOf (mkS R f) (d k).r).i (d k).c 0⟩ = mkS R (setR f k (g k)) := by
      rw [hrow, a7, hd, withRow_mkS hR hk]
    refine ⟨?_, ?_⟩
    · show LayOk (d k :: T.map d) (mkS R f)
      unfold LayOk
      rw [hw, hrow]
      refine ⟨⟨a1, a2, a3, by rw [hli]; exact a4, a5, fun z => by rw [hli]; exact a6 z, Nat.le_trans (mkS_len R f) hRl, mkS_ris hR f⟩, i1⟩
    · show layC (d k :: T.map d) (mkS R f) = _
      unfold layC
      rw [hw, i2]
      refine mkS_congr fun r hr => ?_
      by_cases e : r = k
      · rw [e, if_neg n1, if_pos List.mem_cons_self]
        unfold setR
        rw [if_pos rfl]
      · by_cases e2 : r ∈ T
        · rw [if_pos e2, if_pos (List.mem_cons_of_mem _ e2)]
        · rw [if_neg e2, if_neg (fun z => (List.mem_cons.mp z).elim e e2)]
          unfold setR
          rw [if_neg e]
end Mw
-- part MwM8
set_option maxHeartbeats 4000000
/-! All roots at once. -/
namespace Mw
open PySem
theorem lay_mem (A : List D) : ∀ (cs : List Cut) (p : Nat) (d : D), d ∈ lay A cs p → d ∈ A ∨ ∃ c ∈ cs, d ∈ c.p
  | [], p, d, h => .inl (List.mem_of_mem_drop h)
  | c :: cs, p, d, h => by
    rw [lay, List.mem_append, List.mem_append] at h
    rcases h with (h | h) | h
    · exact .inl (List.mem_of_mem_take (List.mem_of_mem_drop h))
    · exact .inr ⟨c, List.mem_cons_self, h⟩
    · rcases lay_mem A cs _ d h with q | ⟨c', q1, q2⟩
      · exact .inl q
      · exact .inr ⟨c', List.mem_cons_of_mem _ q1, q2⟩
theorem items_deps {ds : List D} (h : ∀ d ∈ ds, Item d) : D.deps ds ≤ 3 := D.deps_le fun d hd => item_dep (h d hd)
theorem iCl_dep {b o p : List D} (hb : ∀ d ∈ b, Item d) (ho : ∀ d ∈ o, Item d) (hp : ∀ d ∈ p, Item d) : (iCl b o p).dep ≤ 6 := by
  have h1 := items_deps hb
  have h2 := items_deps ho
  have h3 := items_deps hp
  unfold iCl
  split
  · simp only [D.dep, D.deps]
    omega
  · simp only [D.dep, D.deps]
    omega
theorem wCl_dep {b o p : D} (hb : Where b) (ho : Where o) (hp : Where p) : (wCl b o p).dep ≤ 6 := by
  have h1 := where_dep hb
  have h2 := where_dep ho
  have h3 := where_dep hp
  unfold wCl
  split
  · simp only [D.dep, D.deps]
    omega
  · simp only [D.dep, D.deps]
    omega
theorem outc_low {A B C : List D} {r : RunS} (hA : Its A) (hB : Its B) (hC : Its C) (hr : r ∈ runsOf A B C) : ∀ d ∈ outc A r, d.dep ≤ 6 := by
  have h1 := run_one hA hB hr
  have h2 := run_oth hA hC hr
  intro d hd
  unfold outc at hd
  dsimp only at hd
  split at hd
  · exact Nat.le_trans (item_dep (h1.1 d hd)) (by decide)
  · split at hd
    · exact Nat.le_trans (item_dep (h2.1 d hd)) (by decide)
    · rw [List.mem_singleton.mp hd]
      exact iCl_dep (fun x hx => hA.1 x (List.mem_of_mem_take (List.mem_of_mem_drop hx))) h1.1 h2.1
theorem joinGo_low {A : List D} (hA : ∀ d ∈ A, d.dep ≤ 6) : ∀ {rs : List RunS} {p : Nat}, (∀ r ∈ rs, ∀ d ∈ outc A r, d.dep ≤ 6) → ∀ d ∈ joinGo A rs p, d.dep ≤ 6
  | [], p, _, d, hd => hA d (List.mem_of_mem_drop hd)
  | r :: rs, p, h, d, hd => by
    rw [joinGo, List.mem_append, List.mem_append] at hd
    rcases hd with (hd | hd) | hd
    · exact hA d (List.mem_of_mem_take (List.mem_of_mem_drop hd))
    · exact h r List.mem_cons_self d hd
    · exact joinGo_low hA (fun x hx => h x (List.mem_cons_of_mem _ hx)) d hd
theorem joinI_low {A B C : List D} (hA : Its A) (hB : Its B) (hC : Its C) : ∀ d ∈ joinI A B C, d.dep ≤ 6 :=
  joinGo_low (fun d hd => Nat.le_trans (item_dep (hA.1 d hd)) (by decide)) fun r hr => outc_low hA hB hC hr
/-- a row that is no deeper than a join -/
structure RowL (x : Rw) : Prop where
  w : x.w.dep ≤ 6
  i : ∀ d ∈ x.i, d.dep ≤ 6
  l : x.i.length ≤ 4000
  n : x.w = .non → x.i = []
theorem RowV.L {x : Rw} (h : RowV x) : RowL x := ⟨Nat.le_trans (where_dep h.w) (by decide), fun d hd => Nat.le_trans (item_dep (h.i.1 d hd)) (by decide), Nat.le_trans h.i.2 (by decide), h.n⟩
theorem wCl_ne (b o p : D) : wCl b o p ≠ .non := by
  unfold wCl
  split <;> exact D.noConfusion
theorem joinR_L {b o p : Rw} (hb : RowV b) (ho : RowV o) (hp : RowV p) : RowL (joinR b o p) := by
  unfold joinR
  split
  · exact ho.L
  · split
    · exact hp.L
    · split
      · exact ⟨wCl_dep hb.w (.inl (.inl rfl)) hp.w, hp.L.i, hp.L.l, fun z => absurd z (wCl_ne _ _ _)⟩
      · split
        · exact ⟨wCl_dep hb.w ho.w (.inl (.inl rfl)), ho.L.i, ho.L.l, fun z => absurd z (wCl_ne _ _ _)⟩
        · rename_i n1 n2
          refine ⟨?_, joinI_low hb.i ho.i hp.i, joinI_len hb.i ho.i hp.i, fun z => absurd z ?_⟩
          · show (joinW b.w o.w p.w).dep ≤ 6
            unfold joinW
            split
            · exact ho.L.w
            · split
              · exact hp.L.w
              · exact wCl_dep hb.w ho.w hp.w
          · show joinW b.w o.w p.w ≠ .non
            unfold joinW
            split
            · exact n1
            · split
              · exact n2
              · exact wCl_ne _ _ _
theorem RowL.dep {x : Rw} (h : RowL x) : x.d.dep ≤ 9 := by
  have h1 := D.deps_le h.i
  have h2 := h.w
  simp only [D.dep, D.deps]
  omega
theorem RowL.low {x : Rw} (h : RowL x) : Low x.i := fun d hd => Nat.le_trans (h.i d hd) (by decide)
/-- where nothing touches, the join has no thing that neither side has -/
theorem joinR_fresh {b o p : Rw} (hb : RowV b) (ho : RowV o) (hp : RowV p) (h : touchR b o p = false) :
    ((joinR b o p = o ∨ joinR b o p = p) ∨ o.w ≠ .non ∧ p.w ≠ .non) ∧ ((joinR b o p).w = o.w ∨ (joinR b o p).w = p.w) ∧ ∀ d ∈ (joinR b o p).i, d ∈ o.i ∨ d ∈ p.i := by
  by_cases h1 : o = b
  · rw [h1, joinR_b]
    exact ⟨.inl (.inr rfl), .inr rfl, fun d hd => .inr hd⟩
  · by_cases h2 : p = b
    · rw [h2, joinR_ob]
      exact ⟨.inl (.inl rfl), .inl rfl, fun d hd => .inl hd⟩
    · obtain ⟨nb, no, np, hw, ha⟩ := touchR_no h h1 h2
      have hne := touchR_ne h h1 h2
      obtain ⟨r1, r2, _⟩ := past_one (chg_fits b.i o.i) (chg_fits b.i p.i) ha
      rw [chg_lay] at r1 r2
      have hj : joinR b o p = ⟨joinW b.w o.w p.w, joinI b.i o.i p.i⟩ := by
        unfold joinR
        rw [if_neg (fun z => z.elim hne h2), if_neg h1, if_neg no, if_neg np]
      have hji : lay p.i ((chg b.i o.i).map (shC (chg b.i p.i))) 0 = joinI b.i o.i p.i := by
        rw [r1, joinI_apart ha]
      refine ⟨.inr ⟨no, np⟩, ?_, fun d hd => ?_⟩
      · rw [hj]
        show joinW b.w o.w p.w = o.w ∨ joinW b.w o.w p.w = p.w
        unfold joinW
        split
        · exact .inl rfl
        · split
          · exact .inr rfl
          · rename_i z1 z2
            exact (hw.elim (fun z => z2 z) (fun z => z1 (.inr z))).elim
      · rw [hj] at hd
        have hd : d ∈ joinI b.i o.i p.i := hd
        rw [← hji] at hd
        rcases lay_mem _ _ _ d hd with q | ⟨c, q1, q2⟩
        · exact .inr q
        · obtain ⟨c', q3, rfl⟩ := List.mem_map.mp q1
          left
          have := mem_lay b.i (chg b.i o.i) 0 c' q3 d q2
          rw [chg_lay] at this
          exact this
theorem RowV.rows {R : List Str} {f : Str → Rw} (h : ∀ r, RowV (f r)) (ho : ∀ r, r ∉ R → f r = Rw.none) : Rows R f := ⟨ho, fun r z => Rw.ext z ((h r).n z)⟩
theorem joinR_rows {R : List Str} {f g h : Str → Rw} (hf : ∀ r, RowV (f r)) (hg : ∀ r, RowV (g r)) (hh : ∀ r, RowV (h r)) (h1 : Rows R f) (h2 : Rows R g) (h3 : Rows R h) : Rows R fun r => joinR (f r) (g r) (h r) where
  out := fun r hr => by
    show joinR _ _ _ = _
    rw [h1.out r hr, h2.out r hr, h3.out r hr, joinR_none]
  non := fun r z => Rw.ext z ((joinR_L (hf r) (hg r) (hh r)).n z)
/-- the first change behind the second one -/
noncomputable def pastD (R : List Str) (f g h : Str → Rw) : List Deed := (R.filter fun r => !decide (f r = g r)).map fun r => past1 r (f r) (g r) (h r)
theorem past_lay {R : List Str} {f g h : Str → Rw} (hR : Ris R) (hl : R.length ≤ 1000) (hf : ∀ r, RowV (f r)) (hg : ∀ r, RowV (g r)) (hh : ∀ r, RowV (h r)) (h1 : Rows R f) (h2 : Rows R g) (h3 : Rows R h)
    (ht : ∀ r ∈ R, touchR (f r) (g r) (h r) = false) :
    LayOk (pastD R f g h) (mkS R h) ∧ layC (pastD R f g h) (mkS R h) = mkS R fun r => joinR (f r) (g r) (h r) := by
  have hn : R.Nodup := hR.imp fun {x y} z e => by rw [e, ltS_irr] at z; cases z
  obtain ⟨a, b⟩ := layC_ok (d := fun r => past1 r (f r) (g r) (h r)) (g := fun r => joinR (f r) (g r) (h r)) hR hl (fun r => past1_r _ _ _ _) (T := R.filter fun r => !decide (f r = g r)) (f := h) (hn.sublist List.filter_sublist) (fun r hr => (List.mem_filter.mp hr).1) h3 fun r hr => by
    obtain ⟨m1, m2⟩ := List.mem_filter.mp hr
    have m2 : g r ≠ f r := fun z => by rw [z] at m2; simp at m2
    obtain ⟨e1, e2, e3, e4⟩ := past1_ok (r := r) (hf r) (hg r) (hh r) (ht r m1) m2
    have jl := joinR_L (hf r) (hg r) (hh r)
    have ei : lay (h r).i (past1 r (f r) (g r) (h r)).c 0 = (joinR (f r) (g r) (h r)).i := congrArg Rw.i e3
    exact ⟨e1.symm, e2, (hh r).i.low, Nat.le_trans jl.l (by decide), by rw [e1]; exact Nat.le_trans (where_dep (hh r).w) (by decide), fun z => by rw [← ei]; exact e4 z, e3⟩
  refine ⟨a, b.trans (mkS_congr fun r hr => ?_)⟩
  by_cases e : f r = g r
  · rw [if_neg, ← e, joinR_b]
    intro z
    have := (List.mem_filter.mp z).2
    rw [e] at this
    simp at this
  · rw [if_pos (List.mem_filter.mpr ⟨hr, by simpa using e⟩)]
theorem past_lay2 {R : List Str} {f g h : Str → Rw} (hR : Ris R) (hl : R.length ≤ 1000) (hf : ∀ r, RowV (f r)) (hg : ∀ r, RowV (g r)) (hh : ∀ r, RowV (h r)) (h1 : Rows R f) (h2 : Rows R g) (h3 : Rows R h)
    (ht : ∀ r ∈ R, touchR (f r) (g r) (h r) = false) :
    LayOk (pastD R f h g) (mkS R g) ∧ layC (pastD R f h g) (mkS R g) = mkS R fun r => joinR (f r) (g r) (h r) := by
  obtain ⟨a, b⟩ := past_lay hR hl hf hh hg h1 h3 h2 (fun r hr => by rw [touchR_sym]; exact ht r hr)
  exact ⟨a, b.trans (mkS_congr fun r _ => joinR_sym (hf r) (hg r) (hh r))⟩
theorem mkS_filter {R : List Str} {f : Str → Rw} (q : Str → Bool) : mkS (R.filter q) f = (mkS R f).filter fun p => q p.1 := by
  unfold mkS
  rw [List.filter_map, List.filter_filter, List.filter_filter]
  congr 1
  refine List.filter_congr fun r _ => ?_
  show (!decide ((f r).w = .non) && q r) = (q r && !decide ((f r).w = .non))
  rw [Bool.and_comm]
end Mw
-- part MwX5
set_option maxHeartbeats 4000000
/-! check_apart, past_cuts. -/
namespace Mw
open PySem PySem.Spec PyProof.Rows L2
/-- a value, of which something beside is known -/
def RVi (P : Prop) (u : V) : Rp := fun H v H' => P ∧ RV u H v H'
def RDi (P : Prop) (d : D) : Rp := fun H v H' => P ∧ RD d H v H'
theorem r_Di {H0 : Hp} {S : List SV} {R : V → Hp → Prop} {N : Hp → List SV → Prop} {te : TE} {d d' : D} {P : Prop} (q : Gives H0 (RDi P d) R) (hp : P) (h : EvX H0 S te (.dat d')) (e : d' = d) : ExS H0 R (tRet te) S N := r_De (fun v H' k => q v H' ⟨hp, k⟩) h e
theorem Gives.upDi {H0 H1 : Hp} {R : V → Hp → Prop} {d : D} {P : Prop} (e : Same H0 H1) (q : Gives H0 (RDi P d) R) : Gives H1 (RDi P d) R := fun v H' k => q v H' ⟨k.1, e.trans k.2.1, k.2.2⟩
theorem s_dropX {H0 : Hp} {S : List SV} {R : V → Hp → Prop} {N : Hp → List SV → Prop} {α : Type} {av : α → List AV} {pre : α → Prop} {rp : α → Rp} {xp : α → Xp} {E : XK} {ta : TA} {C : Addr} {P : D → D → Prop} {Q : Prop} (x : α) {u : V} (h : EvA H0 S ta (av x)) (hp : pre x) (e : rp x = RVi Q u) (ex : xp x = TouchX C P) (q : GivesX H0 (TouchX C P) E) (k : Q → N H0 S) :
    ExS H0 R (tDrop (tCall (SpX av pre rp xp) [] E ta)) S N := fun D σ H hs hn hr =>
  h σ H hs _ fun vs H1 e1 hv => by
    rw [List.append_nil]
    refine ⟨x, hv, hp, fun v H' r => ?_, fun c dd H' r => ?_⟩
    · rw [e] at r
      exact hn H0 S σ H' (Same.refl H0) (k r.1) ((hs.grow e1).grow r.2.1)
    · rw [ex] at r
      exact (q.up (hs.ex.trans e1)) c dd H' r
/-! check_apart: slots 0 one  1 other  2 k  3 cut  4 j  5 beside   -/
abbrev st_check_apart : Stmt := topS 15
abbrev N_check_apart : List Str := ["one", "other", "k", "cut", "j", "beside"]
theorem sc_check_apart : FnScope N_check_apart ["one", "other"] (defScope st_check_apart) := ⟨rfl, rfl, rfl, by decide +kernel, rfl, by decide +kernel, by decide +kernel⟩
abbrev sp_check_apart (C : Addr) : Sp := SpX (α := List Cut × List Cut) (fun x => [.dat (.tup (cutsD x.1)), .dat (.tup (cutsD x.2))]) (fun _ => True) (fun x => RVi (Apart x.1 x.2) .non) (fun x => TouchX C fun _ _ => ¬ Apart x.1 x.2)
abbrev H_check_apart (P : Program) (w : World) (K : PySem.W.Frag) (mg : Str → Option Value) (base : Heap) (C : Addr) : Prop := HasX P w K mg base (L2N.CX P w) 3 "check_apart" ["one", "other"] (sp_check_apart C)
theorem has_check_apart {P : Program} {w : World} {K : PySem.W.Frag} {mg : Str → Option Value} {base : Heap} {C : Addr} (B : Gs mg) (F : DefAt K mg "check_apart" st_check_apart) (T : Tch K mg C st_Touch_init) (G_cuts_touch : H_cuts_touch P w K mg base) : H_check_apart P w K mg base C := by
  obtain ⟨fT, fdT, TF⟩ := T.fn (P := P) (w := w) (base := base)
  exact F.hasX sc_check_apart (fun _ _ _ _ _ _ us hl => match us, hl with | [_, _], _ => rfl) (fun _ => rfl) fun f cdv A outer s H E hr => by
    have hu := room64 hr
    refine ⟨_, (pss_one (ps_for PassesOwn.leaving rfl (pi_enumT (by rfl) B.enum (pa_cons (pv 0) pa_nil)) (pg_tup (by rfl) (pgs_cons (pg_name (i := 2) sc_check_apart.nd rfl (Or.inl rfl)) (pgs_cons (pg_name (i := 3) sc_check_apart.nd rfl (Or.inl rfl)) pgs_nil)))
        (pss_one (ps_for PassesOwn.leaving rfl (pi_enumT (by rfl) B.enum (pa_cons (pv 1) pa_nil)) (pg_tup (by rfl) (pgs_cons (pg_name (i := 4) sc_check_apart.nd rfl (Or.inl rfl)) (pgs_cons (pg_name (i := 5) sc_check_apart.nd rfl (Or.inl rfl)) pgs_nil)))
          (pss_one (ps_if (pt_val (pe_has G_cuts_touch hr (by decide) (by rfl) (pa_cons (pv 3) (pa_cons (pv 5) pa_nil))))
            (pss_one (L2N.ps_raise rfl (L2N.takes_of rfl rfl rfl rfl) (pmk_TN T.T TF.iC TF.tI TF.ok (hr.mono (by decide)) TF.bd (by rfl) T.mgT (pa_cons (pv 2) (pa_cons (pv 4) pa_nil)))))
            pss_nil)))))), fun x hp H R q qx => ?_⟩
    obtain ⟨cs, ds⟩ := x
    dsimp only at q qx ⊢
    refine s_forE (xs := cutsD cs) (js := [2, 3]) (x_vd rfl) (fun i S' => ∃ (u v w z : SV), S' = [.dat (.tup (cutsD cs)), .dat (.tup (cutsD ds)), u, v, w, z] ∧ Apart (cs.take i) ds) ⟨_, _, _, _, rfl, fun _ h => nomem h⟩ ?_ ?_
    · rintro H1 e1 i c' S' hc ⟨u, v, w, z, rfl, hA⟩
      rw [List.getElem?_map] at hc
      obtain ⟨c, hc2, rfl⟩ := Option.map_eq_some_iff.mp hc
      refine ⟨_, g_tup rfl rfl, ?_⟩
      refine s_forE (xs := cutsD ds) (js := [4, 5]) (x_vd rfl) (fun j S' => ∃ (w z : SV), S' = [.dat (.tup (cutsD cs)), .dat (.tup (cutsD ds)), .dat (.int (i : Int)), .dat c.d, w, z] ∧ ∀ d ∈ ds.take j, tch c d = false) ⟨_, _, rfl, fun _ h => nomem h⟩ ?_ ?_
      · rintro H2 e2 j d' S' hd ⟨w, z, rfl, hB⟩
        rw [List.getElem?_map] at hd
        obtain ⟨d, hd2, rfl⟩ := Option.map_eq_some_iff.mp hd
        refine ⟨_, g_tup rfl rfl, ?_⟩
        refine s_if (b := tch c d) (t_val (x_callV (c, d) (a_cons (x_vd rfl) (a_cons (x_vd rfl) a_nil)) trivial rfl)) (fun h => ?_) (fun h => s_next ⟨_, _, rfl, fun x hx => ?_⟩)
        · refine s_raiseT (P := fun _ _ => ¬ Apart cs ds) (a_cons (x_vd rfl) (a_cons (x_vd rfl) a_nil)) (fun hA => ?_) ((qx.up e1).up e2)
          have := hA c (List.mem_of_getElem? hc2) d (List.mem_of_getElem? hd2)
          rw [h] at this
          cases this
        · rw [List.take_add_one, hd2] at hx
          rcases List.mem_append.mp hx with z | z
          · exact hB x z
          · rw [List.mem_singleton.mp z]; exact h
      · rintro H2 e2 S' ⟨w, z, rfl, hB⟩
        refine ⟨_, _, _, _, rfl, fun x hx => ?_⟩
        rw [List.take_add_one, hc2] at hx
        rcases List.mem_append.mp hx with z | z
        · exact hA x z
        · rw [List.mem_singleton.mp z]
          intro d hd
          refine hB d ?_
          rw [List.length_map, List.take_length]
          exact hd
    · rintro H1 e1 S' ⟨u, v, w, z, rfl, hA⟩
      rw [List.length_map, List.take_length] at hA
      exact fun H' e => q .non H' ⟨hA, e, rfl⟩
/-! past_cuts: slots 0 one  1 other   -/
abbrev st_past_cuts : Stmt := topS 17
abbrev N_past_cuts : List Str := ["one", "other"]
theorem sc_past_cuts : FnScope N_past_cuts ["one", "other"] (defScope st_past_cuts) := ⟨rfl, rfl, rfl, by decide +kernel, rfl, by decide +kernel, by decide +kernel⟩
abbrev shD (cs ds : List Cut) : D := .tup (cs.map fun c => D.tup [.int ((c.a : Int) + moreI ds c.a), .tup c.o, .tup c.p])
abbrev sp_past_cuts (C : Addr) : Sp := SpX (α := List Cut × List Cut) (fun x => [.dat (.tup (cutsD x.1)), .dat (.tup (cutsD x.2))]) (fun x => x.1.length ≤ 100 ∧ x.2.length ≤ 100) (fun x => RDi (Apart x.1 x.2) (.tup [shD x.1 x.2, shD x.2 x.1])) (fun x => TouchX C fun _ _ => ¬ Apart x.1 x.2)
abbrev H_past_cuts (P : Program) (w : World) (K : PySem.W.Frag) (mg : Str → Option Value) (base : Heap) (C : Addr) : Prop := HasX P w K mg base (L2N.CX P w) 4 "past_cuts" ["one", "other"] (sp_past_cuts C)
theorem has_past_cuts {P : Program} {w : World} {K : PySem.W.Frag} {mg : Str → Option Value} {base : Heap} {C : Addr} (B : Gs mg) (F : DefAt K mg "past_cuts" st_past_cuts) (G_check_apart : H_check_apart P w K mg base C) (G_shifted : H_shifted P w K mg base) : H_past_cuts P w K mg base C := by
  exact F.hasX sc_past_cuts (fun _ _ _ _ _ _ us hl => match us, hl with | [_, _], _ => rfl) (fun _ => rfl) fun f cdv A outer s H E hr => by
    have hu := room64 hr
    refine ⟨_, (pss_cons (ps_expr (pe_hasN G_check_apart hr (by decide) (by rfl) (L2N.takes_of rfl rfl rfl rfl) (pa_cons (pv 0) (pa_cons (pv 1) pa_nil))))
      (pss_one (ps_ret (pe_tup (pa_cons (pe_has G_shifted hr (by decide) (by rfl) (pa_cons (pv 0) (pa_cons (pv 1) pa_nil))) (pa_cons (pe_has G_shifted hr (by decide) (by rfl) (pa_cons (pv 1) (pa_cons (pv 0) pa_nil))) pa_nil)))))), fun x hp H R q qx => ?_⟩
    obtain ⟨cs, ds⟩ := x
    dsimp only at q qx hp ⊢
    refine s_seq (s_dropX (cs, ds) (a_cons (x_vd rfl) (a_cons (x_vd rfl) a_nil)) trivial rfl rfl qx (fun hA => ?_))
    exact r_Di q hA (x_tup (d_cons (x_callD (cs, ds) (a_cons (x_vd rfl) (a_cons (x_vd rfl) a_nil)) hp rfl) (d_cons (x_callD (ds, cs) (a_cons (x_vd rfl) (a_cons (x_vd rfl) a_nil)) ⟨hp.2, hp.1⟩ rfl) d_nil)) (sz 2 rfl)) rfl
end Mw
-- part MwS3
set_option maxHeartbeats 4000000
/-! xs.extend(a tuple). -/
namespace Mw
open PySem PySem.Spec PyProof.Rows L2
open PySem.Builtin PySem.Builtin.List
theorem extend_tup (l : Addr) (items : Array Value) (n : Nat) (b : Addr) (items2 : Array Value) (n2 : Nat) (dd : Option Addr) (ss : Array (Option Value)) (hs0 : ¬(!items.isEmpty && Builtin.List.listTooLong (items.size + items2.size)) = true) (hs1 : items.size ≤ sizeLine) (hs2 : items.size + items2.size ≤ sizeLine + 1) :
    Meets (Builtin.«list.extend» ⟨[.ref l, .ref b], []⟩) (fun _ R s => s.heap.get? l = some { cls := .type "list", dict := none, data := .seq items n, slots := #[] } ∧ s.heap.get? b = some { cls := .type "tuple", dict := dd, data := .seq items2 n2, slots := ss } ∧ R (.ok (.ret Value.none)) { s with heap := s.heap.update l (Obj.mapSeq fun x => x ++ items2), toks := s.toks }) :=
  .of_wp fun prog w A R s h => by
    obtain ⟨hp, g, d, tk, os⟩ := s; obtain ⟨hl, hb, h⟩ := h; have f1 := AutoSeq1.idx_int; have f2 := AutoSeq1.sub_tuple_tuple; have f3 := AutoSeq1.sub_list_list; have f4 := AutoSeq1.sub_tuple_list; have f5 := AutoSeq1.sub_list_tuple;
    have hz' : (items ++ items2).size ≤ sizeLine + 1 := by rw [Array.size_append]; exact hs2
    wp_walk using (wpAny_updateSeq hl rfl (hz := hs1) (_hz' := hz')), wpAny_loadPart' hl, wpAny_loadPart' hb; exact ⟨_, rfl, h⟩
def rExtT : V → List V → Hp → VK → Prop := fun x vs H Q => ∃ l b xs zs, x = .ref l ∧ vs = [.ref b] ∧ H l = some (.lst xs) ∧ H b = some (.tup zs) ∧ xs.length + zs.length ≤ sizeLine ∧ Q .non (upd H l (.lst (xs ++ zs)))
theorem mt_extendT {X : Cx} : MtM X "list.extend" rExtT := by
  intro pins s σ H x vs v us Q I rx rv h
  obtain ⟨l, b, xs, zs, rfl, rfl, hH, hB, hz, q⟩ := h
  cases rx
  obtain ⟨u, rfl, ru⟩ := rv.one
  cases ru
  obtain ⟨z, its, n, r, hl, e⟩ := I.lstM hH
  obtain ⟨its2, r2, ⟨o, e2, hc, n2, hd⟩, hz2⟩ := I.tuple (.inl (.inl hB))
  have hl2 := r2.length
  obtain ⟨cls, dd, dat, ss⟩ := o
  have hc : cls = .type "tuple" := hc
  have hd : dat = .seq its2.toArray n2 := hd
  subst hc hd
  have hsz : its.toArray.size + its2.toArray.size ≤ sizeLine := by rw [List.size_toArray, List.size_toArray]; omega
  have hlong : ¬ (!its.toArray.isEmpty && Builtin.List.listTooLong (its.toArray.size + its2.toArray.size)) = true := by
    rw [notLongL hsz, Bool.and_false]
    exact Bool.false_ne_true
  refine call_meets F.slot_list_extend ⟨_, e, rfl⟩ F.entry_list_extend (F.args_list_extend_2 _ _)
    (extend_tup l its.toArray n b its2.toArray n2 dd ss hlong (by rw [List.size_toArray]; omega) (by omega)) ⟨e, e2, ?_⟩
  refine ⟨.non, _, I.lset (its' := its ++ its2) hH e (by simp) (r.append r2) ?_, rfl, q⟩
  rw [List.length_append]
  omega
section
variable {K : PySem.W.Frag} {H0 : Hp} {S : List SV} {R : V → Hp → Prop} {N : Hp → List SV → Prop}
/-- xs.extend(t), t a tuple -/
theorem s_extT {i : Nat} {te : TE} {ds es : List D} (hi : S[i]? = some (.own ds)) (h : EvX H0 S te (.dat (.tup es))) (hz : ds.length + es.length ≤ sizeLine) (k : N H0 (S.set i (.own (ds ++ es)))) : ExS H0 R (tDrop (tBM K "list" rExtT (tVar i) (tCons te tNil))) S N := fun D σ H hs hn hr => by
  obtain ⟨a, vs, h1, h2, h3, h4⟩ := StD.mut (es := ds ++ es) hs hi
  refine ⟨.ref a, h1, .inl ⟨rfl, vs, .inl (.inl h2)⟩, h σ H hs _ fun v H1 e1 hv => ?_⟩
  obtain ⟨b, us, g1, g2, g3⟩ := hv
  exact ⟨a, b, vs, us, rfl, by rw [g1], e1 _ _ h2, g2, by rw [h3.length, g3.length]; exact hz, hn H0 _ _ _ (Same.refl H0) k (h4 e1 ((h3.mono e1).append g3))⟩
end
end Mw
-- part MwR3
set_option maxHeartbeats 4000000
namespace Mw
open PySem PySem.Spec PyProof.Rows L2
theorem len_flat {f : RunS → List Cut} : ∀ {rs : List RunS} {r : RunS}, r ∈ rs → (f r).length ≤ (rs.flatMap f).length
  | [], _, h => nomem h
  | q :: rs, r, h => by
    rw [List.flatMap_cons, List.length_append]
    rcases List.mem_cons.mp h with e | e
    · rw [e]; omega
    · have := len_flat (f := f) e
      omega
theorem x_vR {H0 : Hp} {S : List SV} {C : Addr} {i : Nat} {rs : List RunS} (h : S[i]? = some (.gen (RunsR C rs))) : EvX H0 S (tVar i) (.hand (RunsHd C rs)) := x_vg h
theorem cutsD_nil {cs : List Cut} : decide (cutsD cs = []) = decide (cs = []) := by
  cases cs <;> simp [cutsD]
def rowD (x : Bool × Cut) : D := .tup [.int (x.2.a : Int), .int (x.2.o.length : Int), .int (sideI x.1), x.2.d]
theorem rowD_quad (x : Bool × Cut) : IsQuad (rowD x) := ⟨_, _, _, _, rfl⟩
theorem rowD_key (x y : Bool × Cut) : Q4.lex3 (k3D (rowD x)) (k3D (rowD y)) = true ↔ ltK3 (rowK x) (rowK y) := by
  rw [Q4.lex3_iff]
  obtain ⟨b, c⟩ := x
  obtain ⟨b', c'⟩ := y
  show (((c.a : Int) < (c'.a : Int)) ∨ ((c.a : Int) = (c'.a : Int) ∧ (((c.o.length : Int) < (c'.o.length : Int)) ∨ ((c.o.length : Int) = (c'.o.length : Int) ∧ sideI b < sideI b')))) ↔ _
  unfold ltK3 rowK sideI
  cases b <;> cases b' <;> simp <;> omega
/-- a run in its items -/
structure RunIt (A : List D) (r : RunS) : Prop where
  ok : RunOk A r
  low : Its A
  one : Items (layTo A r.e r.s r.b)
  oth : Items (layTo A r.e r.t r.b)
  zs : r.s.length ≤ 100
  zt : r.t.length ≤ 100
/-! Run.become: slots 0 self*  1 base  2 side  3 at  4 out  5 put  6 cuts   -/
abbrev st_Run_become : Stmt := inClass (topS 28) 2
abbrev N_Run_become : List Str := ["self", "base", "side", "at", "out", "put", "cuts"]
theorem sc_Run_become : FnScope N_Run_become ["self", "base", "side"] (defScope st_Run_become) := ⟨rfl, rfl, rfl, by decide +kernel, rfl, by decide +kernel, by decide +kernel⟩
abbrev sp_Run_become (C : Addr) : Sp := SpG (α := List D × RunS × Bool) (fun x => [.hand (RunHd C x.2.1), .dat (.tup x.1), .dat (.int (sideI x.2.2))]) (fun x => RunIt x.1 x.2.1) (fun x => RD (.tup (layTo x.1 x.2.1.e (x.2.1.side x.2.2) x.2.1.b)))
abbrev H_Run_become (P : Program) (w : World) (K : PySem.W.Frag) (mg : Str → Option Value) (base : Heap) (C : Addr) : Prop := HasM P w K mg base C 3 "become" ["self", "base", "side"] (sp_Run_become C)
theorem has_Run_become {P : Program} {w : World} {K : PySem.W.Frag} {mg : Str → Option Value} {base : Heap} {C : Addr} (B : Gs mg) (RC : RunC K C) (F : MethAt K C "become" "Run.become" st_Run_become) (G_laid_cuts : H_laid_cuts P w K mg base)  : H_Run_become P w K mg base C :=
  F.hasG RC.cls sc_Run_become (fun _ _ _ _ _ _ us hl => match us, hl with | [_, _, _], _ => rfl) (fun _ => rfl) fun f cdv A outer s H E hr => by
    have hu := room64 hr
    have hu1 := hu_of hr
    refine ⟨_, (pss_cons (ps_set (i := 6) sc_Run_become.nd rfl (Or.inl rfl) (pe_callTy (call_tupK (K := K) rfl) (by rfl) B.tuple b_tuple (pa_cons (pe_lc (own := [("at", 3), ("out", 4), ("put", 5)]) (g := gTup K 3 (gAll [3, 4, 5])) (tt := tYes) rfl sc_Run_become.nd (pi_list (pe_ix (ix_seqK (K := K) rfl) (pe_fldK (K := K) rfl (pv 0) rfl) (pv 2) (fun _ _ => rfl))) (blkOk_by (own := [("at", 3), ("out", 4), ("put", 5)]) (N := N_Run_become) (sc := defScope st_Run_become) (by decide +kernel)) (fun _ _ _ _ _ => (pg_tup (by rfl) (pgs_cons (pg_name (i := 3) sc_Run_become.nd rfl (Or.inl rfl)) (pgs_cons (pg_name (i := 4) sc_Run_become.nd rfl (Or.inl rfl)) (pgs_cons (pg_name (i := 5) sc_Run_become.nd rfl (Or.inl rfl)) pgs_nil))))) (fun _ _ _ _ _ => pts_nil) (fun _ _ _ _ _ => (pe_tup (pa_cons (pe_op op_sub (pv 3) (pe_fldK (K := K) rfl (pv 0) rfl)) (pa_cons (pv 4) (pa_cons (pv 5) pa_nil)))))) pa_nil)))
      (pss_one (ps_ret (pe_has G_laid_cuts hr (by decide) (by rfl) (pa_cons (pv 6) (pa_cons (pe_slice (sl_anyK (K := K) rfl) (pv 1) (po_some (pe_fldK (K := K) rfl (pv 0) rfl)) (po_some (pe_fldK (K := K) rfl (pv 0) rfl))) pa_nil)))))), fun x hp H R q => ?_⟩
    obtain ⟨A, r, b⟩ := x
    dsimp only at hp q ⊢
    have ok := hp.ok
    have hf : FitsIn A r.b r.e (r.side b) := by cases b; exact ok.fs; exact ok.ft
    have hi : Items (layTo A r.e (r.side b) r.b) := by cases b; exact hp.one; exact hp.oth
    have hz : (r.side b).length ≤ 100 := by cases b; exact hp.zs; exact hp.zt
    obtain ⟨k1, k2⟩ := back_ok ok.el hf (Nat.le_refl r.b)
    rw [Nat.sub_self] at k1 k2
    have hl := hi.2
    refine s_seq (s_asg (x_tupL (EvN.x (EvN.is (n_lcLY (xs := cutsD (r.side b)) (fun d => match d with | .tup [.int a, o, p] => .tup [.int (a - (r.b : Int)), o, p] | _ => .non) (x_ixSide (x_fldS RC (x_vh rfl)) (x_vd rfl) rfl) (by rw [List.length_map]; omega) ?_) (?_ : _ = cutsD ((r.side b).map (Cut.back r.b)))))) ?_)
    · intro i d hd
      rw [List.getElem?_map] at hd
      obtain ⟨c, hc, rfl⟩ := Option.map_eq_some_iff.mp hd
      exact ⟨_, _, g_tup (ds := [.int (c.a : Int), .tup c.o, .tup c.p]) rfl rfl, by simp, x_tup (d_cons (x_sub (x_vd rfl) (x_fldB RC (x_vh rfl))) (d_cons (x_vd rfl) (d_cons (x_vd rfl) d_nil))) (sz 3 rfl)⟩
    · unfold cutsD
      rw [List.map_map, List.map_map]
      refine List.map_congr_left fun c hc => ?_
      have := (hf.all c hc).1
      show D.tup [.int ((c.a : Int) - (r.b : Int)), _, _] = D.tup [.int ((c.a - r.b : Nat) : Int), _, _]
      rw [show ((c.a : Int) - (r.b : Int)) = ((c.a - r.b : Nat) : Int) by omega]
      rfl
    · exact r_De q (x_callD ((r.side b).map (Cut.back r.b), (A.take r.e).drop r.b) (a_cons (x_vd rfl) (a_cons (x_slN r.b r.e (x_vd rfl) (x_fldB RC (x_vh rfl)) (x_fldE RC (x_vh rfl)) rfl rfl) a_nil)) ⟨(hp.low.low.take _).drop _, k1, by rw [k2]; omega⟩ rfl) (congrArg D.tup k2)
/-! Run.outcome: slots 0 self  1 base  2 one  3 other   -/
abbrev st_Run_outcome : Stmt := inClass (topS 28) 3
abbrev N_Run_outcome : List Str := ["self", "base", "one", "other"]
theorem sc_Run_outcome : FnScope N_Run_outcome ["self", "base"] (defScope st_Run_outcome) := ⟨rfl, rfl, rfl, by decide +kernel, rfl, by decide +kernel, by decide +kernel⟩
abbrev sp_Run_outcome (C : Addr) : Sp := SpG (α := List D × RunS) (fun x => [.hand (RunHd C x.2), .dat (.tup x.1)]) (fun x => RunIt x.1 x.2) (fun x => RD (.tup (outc x.1 x.2)))
abbrev H_Run_outcome (P : Program) (w : World) (K : PySem.W.Frag) (mg : Str → Option Value) (base : Heap) (C : Addr) : Prop := HasM P w K mg base C 7 "outcome" ["self", "base"] (sp_Run_outcome C)
theorem has_Run_outcome {P : Program} {w : World} {K : PySem.W.Frag} {mg : Str → Option Value} {base : Heap} {C : Addr} (B : Gs mg) (RC : RunC K C) (F : MethAt K C "outcome" "Run.outcome" st_Run_outcome) (G_Run_become : H_Run_become P w K mg base C) (G_items_clash : H_items_clash P w K mg base)  : H_Run_outcome P w K mg base C :=
  F.hasG RC.cls sc_Run_outcome (fun _ _ _ _ _ _ us hl => match us, hl with | [_, _], _ => rfl) (fun _ => rfl) fun f cdv A outer s H E hr => by
    have hu := room64 hr
    have hu1 := hu_of hr
    refine ⟨_, (pss_cons (ps_set (i := 2) sc_Run_outcome.nd rfl (Or.inl rfl) (pe_hasM G_Run_become hr (by decide) (pv 0) (pa_cons (pv 1) (pa_cons pe_int pa_nil))))
      (pss_cons (ps_set (i := 3) sc_Run_outcome.nd rfl (Or.inl rfl) (pe_hasM G_Run_become hr (by decide) (pv 0) (pa_cons (pv 1) (pa_cons pe_int pa_nil))))
      (pss_cons (ps_if (PW.pt (pw_or (pt_cmpR (op_eqK (K := K) rfl hu) (pe_ix (ix_seqK (K := K) rfl) (pe_fldK (K := K) rfl (pv 0) rfl) pe_int (fun _ _ => rfl)) (pe_lst pa_nil) (nomark _)) (pw_or1 (pt_cmpR (op_eqK (K := K) rfl hu) (pv 2) (pv 3) (nomark _)))))
        (pss_one (ps_ret (pv 2)))
        pss_nil)
      (pss_cons (ps_if (pt_cmpR (op_eqK (K := K) rfl hu) (pe_ix (ix_seqK (K := K) rfl) (pe_fldK (K := K) rfl (pv 0) rfl) pe_int (fun _ _ => rfl)) (pe_lst pa_nil) (nomark _))
        (pss_one (ps_ret (pv 3)))
        pss_nil)
      (pss_one (ps_ret (pe_tup (pa_cons (pe_has G_items_clash hr (by decide) (by rfl) (pa_cons (pe_slice (sl_anyK (K := K) rfl) (pv 1) (po_some (pe_fldK (K := K) rfl (pv 0) rfl)) (po_some (pe_fldK (K := K) rfl (pv 0) rfl))) (pa_cons (pv 2) (pa_cons (pv 3) pa_nil)))) pa_nil)))))))), fun x hp H R q => ?_⟩
    obtain ⟨A, r⟩ := x
    dsimp only at hp q ⊢
    refine s_seq (s_asg (x_methD (A, r, false) (x_vh rfl) (a_cons (x_vd rfl) (a_cons x_ci a_nil)) rfl hp rfl) ?_)
    refine s_seq (s_asg (x_methD (A, r, true) (x_vh rfl) (a_cons (x_vd rfl) (a_cons x_ci a_nil)) rfl hp rfl) ?_)
    have lo := hp.one.low
    refine s_seq (s_if (b := decide (r.t = []) || decide (layTo A r.e r.s r.b = layTo A r.e r.t r.b)) (t_or (t_cB (x_eqL (x_ixSide (b := true) (x_fldS RC (x_vh rfl)) x_ci rfl) (EvN.x (n_lst d_nil (sz 0 rfl))) ?_) cutsD_nil) fun _ => t_cB (x_eq (x_vd rfl) (x_vd rfl) ?_) ?_) (fun hd => ?_) (fun hd => s_next ?_))
    · have : D.deps [] = 0 := by simp [D.deps]
      omega
    · have := Low.tup lo
      simp only [RunS.side]
      exact low_min lo _
    · simp only [RunS.side, D.tup.injEq]
      rfl
    · simp only [Bool.or_eq_true, decide_eq_true_eq] at hd
      refine r_De q (x_vd rfl) ?_
      unfold outc
      dsimp only
      rw [if_pos hd]
      rfl
    · simp only [Bool.or_eq_false_iff, decide_eq_false_iff_not] at hd
      have hn : ¬ (r.t = [] ∨ layTo A r.e r.s r.b = layTo A r.e r.t r.b) := fun z => z.elim hd.1 hd.2
      refine s_seq (s_if (b := decide (r.s = [])) (t_cB (x_eqL (x_ixSide (b := false) (x_fldS RC (x_vh rfl)) x_ci rfl) (EvN.x (n_lst d_nil (sz 0 rfl))) ?_) cutsD_nil) (fun hd2 => ?_) (fun hd2 => s_next ?_))
      · have : D.deps [] = 0 := by simp [D.deps]
        omega
      · have hd2 := of_decide_eq_true hd2
        refine r_De q (x_vd rfl) ?_
        unfold outc
        dsimp only
        rw [if_neg hn, if_pos hd2]
        rfl
      · have hd2 := of_decide_eq_false hd2
        refine r_De q (x_tup (d_cons (x_callD ((A.take r.e).drop r.b, layTo A r.e r.s r.b, layTo A r.e r.t r.b) (a_cons (x_slN r.b r.e (x_vd rfl) (x_fldB RC (x_vh rfl)) (x_fldE RC (x_vh rfl)) rfl rfl) (a_cons (x_vd rfl) (a_cons (x_vd rfl) a_nil))) ⟨hp.one, hp.oth⟩ rfl) d_nil) (sz 1 rfl)) ?_
        unfold outc
        dsimp only
        rw [if_neg hn, if_neg hd2]
/-! joint_runs: slots 0 base  1 one  2 other  3 cut  4 rows  5 runs  6 at  7 many  8 side   -/
abbrev st_joint_runs : Stmt := topS 31
abbrev N_joint_runs : List Str := ["base", "one", "other", "cut", "rows", "runs", "at", "many", "side"]
theorem sc_joint_runs : FnScope N_joint_runs ["base", "one", "other"] (defScope st_joint_runs) := ⟨rfl, rfl, rfl, by decide +kernel, rfl, by decide +kernel, by decide +kernel⟩
abbrev sp_joint_runs (C : Addr) : Sp := SpG (α := List D × List D × List D) (fun x => [.dat (.tup x.1), .dat (.tup x.2.1), .dat (.tup x.2.2)]) (fun x => Its x.1 ∧ Its x.2.1 ∧ Its x.2.2) (fun x => RG (RunsR C (runsOf x.1 x.2.1 x.2.2)))
abbrev H_joint_runs (P : Program) (w : World) (K : PySem.W.Frag) (mg : Str → Option Value) (base : Heap) (C : Addr) : Prop := Has P w K mg base 4 "joint_runs" ["base", "one", "other"] (sp_joint_runs C)
theorem has_joint_runs {P : Program} {w : World} {K : PySem.W.Frag} {mg : Str → Option Value} {base : Heap} {C : Addr} (RC : RunC K C) (B : Gs mg) (F : DefAt K mg "joint_runs" st_joint_runs) (G_Run_init : H_Run_init P w K mg base C) (G_Run_take : H_Run_take P w K mg base C) (G_change_of : H_change_of P w K mg base)  : H_joint_runs P w K mg base C :=
  F.hasG sc_joint_runs (fun _ _ _ _ _ _ us hl => match us, hl with | [_, _, _], _ => rfl) (fun _ => rfl) fun f cdv A outer s H E hr => by
    have hu := room64 hr
    have hu1 := hu_of hr
    refine ⟨_, (pss_cons (ps_setLc (i := 4) (own := [("cut", 3)]) (g := gName 3) (tt := tYes) rfl sc_joint_runs.nd rfl rfl (sw_true rfl rfl rfl (by decide +kernel)) (pi_tup (pe_has G_change_of hr (by decide) (by rfl) (pa_cons (pv 0) (pa_cons (pv 1) pa_nil)))) (blkOk_by (own := [("cut", 3)]) (N := N_joint_runs) (sc := defScope st_joint_runs) (by decide +kernel)) (fun _ _ _ _ _ => (pg_name (i := 3) sc_joint_runs.nd rfl (Or.inl rfl))) (fun _ _ _ _ _ => pts_nil) (fun _ _ _ _ _ => (pe_tup (pa_cons (pe_ix (ix_seqK (K := K) rfl) (pv 3) pe_int (fun _ _ => rfl)) (pa_cons (pe_callB (call_lenK (K := K) rfl) (by rfl) B.len b_len (pa_cons (pe_ix (ix_seqK (K := K) rfl) (pv 3) pe_int (fun _ _ => rfl)) pa_nil)) (pa_cons pe_int (pa_cons (pv 3) pa_nil)))))))
      (pss_cons (ps_expr (pe_bm PySem.F.plainAttrs_list PySem.F.slot_list_extend PySem.F.type_list_extend mt_extend (pv 4) (pa_cons (pe_lc (own := [("cut", 3)]) (g := gName 3) (tt := tYes) rfl sc_joint_runs.nd (pi_tup (pe_has G_change_of hr (by decide) (by rfl) (pa_cons (pv 0) (pa_cons (pv 2) pa_nil)))) (blkOk_by (own := [("cut", 3)]) (N := N_joint_runs) (sc := defScope st_joint_runs) (by decide +kernel)) (fun _ _ _ _ _ => (pg_name (i := 3) sc_joint_runs.nd rfl (Or.inl rfl))) (fun _ _ _ _ _ => pts_nil) (fun _ _ _ _ _ => (pe_tup (pa_cons (pe_ix (ix_seqK (K := K) rfl) (pv 3) pe_int (fun _ _ => rfl)) (pa_cons (pe_callB (call_lenK (K := K) rfl) (by rfl) B.len b_len (pa_cons (pe_ix (ix_seqK (K := K) rfl) (pv 3) pe_int (fun _ _ => rfl)) pa_nil)) (pa_cons pe_int (pa_cons (pv 3) pa_nil))))))) pa_nil)))
      (pss_cons (ps_set (i := 5) sc_joint_runs.nd rfl (Or.inl rfl) (pe_lst pa_nil))
      (pss_cons (ps_for PassesOwn.never rfl (pi_list (pe_callB (cr_sorted4 (K := K) rfl) (by rfl) B.sorted b_sorted (pa_cons (pv 4) pa_nil))) (pg_tup (by rfl) (pgs_cons (pg_name (i := 6) sc_joint_runs.nd rfl (Or.inl rfl)) (pgs_cons (pg_name (i := 7) sc_joint_runs.nd rfl (Or.inl rfl)) (pgs_cons (pg_name (i := 8) sc_joint_runs.nd rfl (Or.inl rfl)) (pgs_cons (pg_name (i := 3) sc_joint_runs.nd rfl (Or.inl rfl)) pgs_nil)))))
        (pss_cons (ps_if (PW.pt (pw_or (pt_cmpR (op_eqE (K := K) rfl hu) (pv 5) (pe_lst pa_nil) (nomark _)) (pw_or1 (pt_cmpR op_ltA (pe_fldK (K := K) rfl (pe_ix (ix_seqK (K := K) rfl) (pv 5) (pe_un un_neg pe_int) (fun _ _ => rfl)) rfl) (pv 6) (nomark _)))))
          (pss_one (ps_expr (pe_bm PySem.F.plainAttrs_list PySem.F.slot_list_append PySem.F.type_list_append mt_append (pv 5) (pa_cons (pe_hasI G_Run_init hr (by decide) (by rfl) (pa_cons (pv 6) pa_nil)) pa_nil))))
          pss_nil)
        (pss_one (ps_expr (pe_hasM G_Run_take hr (by decide) (pe_ix (ix_seqK (K := K) rfl) (pv 5) (pe_un un_neg pe_int) (fun _ _ => rfl)) (pa_cons (pv 8) (pa_cons (pv 3) pa_nil)))))))
      (pss_one (ps_ret (pv 5))))))), fun x hp H R q => ?_⟩
    obtain ⟨A, B', C'⟩ := x
    dsimp only at hp q ⊢
    obtain ⟨hA, hB, hC⟩ := hp
    have lA := hA.2
    have lB := hB.2
    have lC := hC.2
    have nB := chg_len A B'
    have nC := chg_len A C'
    have hrow : ∀ (b : Bool) (cs : List Cut), (cutsD cs).map (fun d => match d with | .tup [a, .tup o, p] => .tup [a, .int (o.length : Int), .int (sideI b), .tup [a, .tup o, p]] | _ => .non) = cs.map fun c => rowD (b, c) := fun b cs => by
      unfold cutsD
      rw [List.map_map]
      rfl
    refine s_seq (s_asgN (EvN.is (n_lcTY (xs := cutsD (chg A B')) (fun d => match d with | .tup [a, .tup o, p] => .tup [a, .int (o.length : Int), .int (sideI false), .tup [a, .tup o, p]] | _ => .non) (x_callD (A, B') (a_cons (x_vd rfl) (a_cons (x_vd rfl) a_nil)) ⟨hA.low, hB.low, Nat.le_trans lA (by decide), Nat.le_trans lB (by decide)⟩ rfl) (by rw [List.length_map]; omega) ?_) (hrow false _)) ?_)
    · intro i d hd
      rw [List.getElem?_map] at hd
      obtain ⟨c, hc, rfl⟩ := Option.map_eq_some_iff.mp hd
      exact ⟨_, _, g_name, by simp, x_tup (d_cons (x_ixT (x_vd rfl) x_ci (k := 0) rfl rfl) (d_cons (x_lenT (x_ixT (x_vd rfl) x_ci (k := 1) rfl rfl)) (d_cons x_ci (d_cons (x_vd rfl) d_nil)))) (sz 4 rfl)⟩
    refine s_seq (s_ext rfl (EvN.x (EvN.is (n_lcTY (xs := cutsD (chg A C')) (fun d => match d with | .tup [a, .tup o, p] => .tup [a, .int (o.length : Int), .int (sideI true), .tup [a, .tup o, p]] | _ => .non) (x_callD (A, C') (a_cons (x_vd rfl) (a_cons (x_vd rfl) a_nil)) ⟨hA.low, hC.low, Nat.le_trans lA (by decide), Nat.le_trans lC (by decide)⟩ rfl) (by rw [List.length_map]; omega) ?_) (hrow true _))) ?_ ?_)
    · intro i d hd
      rw [List.getElem?_map] at hd
      obtain ⟨c, hc, rfl⟩ := Option.map_eq_some_iff.mp hd
      exact ⟨_, _, g_name, by simp, x_tup (d_cons (x_ixT (x_vd rfl) x_ci (k := 0) rfl rfl) (d_cons (x_lenT (x_ixT (x_vd rfl) x_ci (k := 1) rfl rfl)) (d_cons x_ci (d_cons (x_vd rfl) d_nil)))) (sz 4 rfl)⟩
    · rw [List.length_map, List.length_map, sizeLine_eq]; omega
    refine s_seq (s_asgR0 (C := C) (n_lst d_nil (sz 0 rfl)) ?_)
    have hperm := mrg_perm _ (chg A B') (chg A C') (Nat.le_refl _)
    have hsort := mrg_sorted _ (chg A B') (chg A C') (Nat.le_refl _) (chg_fits A B').fin.risA (chg_fits A C').fin.risA
    have hml := mrg_len (chg A B') (chg A C')
    refine s_seq (s_forN (xs := (mrg (chg A B') (chg A C')).map rowD) (js := [6, 7, 8, 3]) (n_sorted4 (x_vo rfl) ?_ ?_ ?_) (fun i S' => ∃ u v w z done, S' = [.dat (.tup A), .dat (.tup B'), .dat (.tup C'), u, .own ((chg A B').map (fun c => rowD (false, c)) ++ (chg A C').map fun c => rowD (true, c)), .gen (RunsR C done), v, w, z] ∧ done.length ≤ i ∧ (∀ r ∈ done, r.s.length ≤ i ∧ r.t.length ≤ i) ∧ (match done.getLast? with | none => i = 0 | some r => done.dropLast ++ grpGo r ((mrg (chg A B') (chg A C')).drop i) = runsOf A B' C')) ⟨_, _, _, _, [], rfl, Nat.le_refl _, fun _ h => nomem h, rfl⟩ ?_ ?_)
    · intro d hd
      rcases List.mem_append.mp hd with q | q
      · obtain ⟨c, _, rfl⟩ := List.mem_map.mp q
        exact rowD_quad _
      · obtain ⟨c, _, rfl⟩ := List.mem_map.mp q
        exact rowD_quad _
    · have := hperm.map rowD
      rw [List.map_append, List.map_map, List.map_map] at this
      exact this
    · rw [List.pairwise_map]
      exact hsort.imp fun {x y} z => (rowD_key x y).mpr z
    · rintro H1 e1 i d S' hd ⟨u, v, w, z, done, rfl, hdl, hds, hlast⟩
      rw [List.getElem?_map] at hd
      obtain ⟨x, hx, rfl⟩ := Option.map_eq_some_iff.mp hd
      have hil := (List.getElem?_eq_some_iff.mp hx).1
      refine ⟨_, g_tup (ds := [.int (x.2.a : Int), .int (x.2.o.length : Int), .int (sideI x.1), x.2.d]) rfl rfl, ?_⟩
      rcases List.eq_nil_or_concat done with hn | ⟨pre, r, hn⟩
      · subst hn
        have hi0 : i = 0 := hlast
        subst hi0
        refine s_seq (s_if (b := true) (t_is (t_or (b := false) (t_cB (x_eqRuns (x_vR rfl)) (decide_eq_true rfl)) (fun z => nomatch z)) rfl) (fun _ => ?_) (fun z => nomatch z))
        refine s_appRun rfl (x_vd rfl) (by simp) ?_
        refine s_takeLast (rs := []) (r := RunS.new x.2.a) (x := x) rfl (x_neg x_ci) (x_vd rfl) (x_vd rfl) (by simp [RunS.new]) (by simp [RunS.new]) ⟨_, _, _, _, _, rfl, by simp, fun r hr => ?_, ?_⟩
        · have hr : r = (RunS.new x.2.a).take x := by simpa using hr
          rw [hr]
          unfold RunS.take RunS.new
          cases x.1 <;> simp
        · show [] ++ grpGo ((RunS.new x.2.a).take x) ((mrg (chg A B') (chg A C')).drop 1) = _
          have := drop_get hx
          rw [List.drop_zero] at this
          show _ = grp (mrg (chg A B') (chg A C'))
          rw [this]
          rfl
      · rw [List.concat_eq_append] at hn
        subst hn
        rw [List.getLast?_append, List.getLast?_singleton] at hlast
        have hlast : (pre ++ [r]).dropLast ++ grpGo r ((mrg (chg A B') (chg A C')).drop i) = runsOf A B' C' := hlast
        rw [List.dropLast_concat, drop_get hx, grpGo] at hlast
        rw [List.length_append, List.length_singleton] at hdl
        obtain ⟨hr1, hr2⟩ := hds r (by simp)
        refine s_seq (s_if (b := decide (r.e < x.2.a)) (t_is (t_or (a := false) (b := decide (r.e < x.2.a)) (t_cB (x_eqRuns (x_vR rfl)) (decide_eq_false (by simp))) (fun _ => t_cB (x_ltI (x_fldE RC (x_lastRun (x_vR rfl) (x_neg x_ci))) (x_vd rfl)) (by simp only [Int.ofNat_lt]))) (Bool.false_or _)) (fun hlt => ?_) (fun hlt => s_next ?_))
        · have hlt := of_decide_eq_true hlt
          rw [if_pos hlt] at hlast
          refine s_appRun rfl (x_vd rfl) (by rw [List.length_append, List.length_singleton]; omega) ?_
          refine s_takeLast (rs := pre ++ [r]) (r := RunS.new x.2.a) (x := x) rfl (x_neg x_ci) (x_vd rfl) (x_vd rfl) (by simp [RunS.new]) (by simp [RunS.new]) ⟨_, _, _, _, _, rfl, by rw [List.length_append, List.length_append, List.length_singleton]; simp; omega, fun q hq => ?_, ?_⟩
          · rcases List.mem_append.mp hq with h | h
            · have := hds q h
              omega
            · have h : q = (RunS.new x.2.a).take x := by simpa using h
              rw [h]
              unfold RunS.take RunS.new
              cases x.1 <;> simp
          · rw [List.getLast?_append, List.getLast?_singleton]
            show (pre ++ [r] ++ [(RunS.new x.2.a).take x]).dropLast ++ grpGo ((RunS.new x.2.a).take x) _ = _
            rw [List.dropLast_concat, ← hlast, List.append_assoc]
            rfl
        · have hlt := of_decide_eq_false hlt
          rw [if_neg hlt] at hlast
          refine s_takeLast (rs := pre) (r := r) (x := x) rfl (x_neg x_ci) (x_vd rfl) (x_vd rfl) (by omega) (by omega) ⟨_, _, _, _, _, rfl, by rw [List.length_append, List.length_singleton]; omega, fun q hq => ?_, ?_⟩
          · rcases List.mem_append.mp hq with h | h
            · have := hds q (List.mem_append.mpr (.inl h))
              omega
            · have h : q = r.take x := by simpa using h
              rw [h]
              unfold RunS.take
              cases x.1 <;> simp <;> omega
          · rw [List.getLast?_append, List.getLast?_singleton]
            show (pre ++ [r.take x]).dropLast ++ grpGo (r.take x) _ = _
            rw [List.dropLast_concat, ← hlast]
    · rintro H1 e1 S' ⟨u, v, w, z, done, rfl, hdl, hds, hlast⟩
      rw [List.length_map] at hlast
      have hfin : done = runsOf A B' C' := by
        rcases List.eq_nil_or_concat done with hn | ⟨pre, r, hn⟩
        · subst hn
          have hi0 : (mrg (chg A B') (chg A C')).length = 0 := hlast
          show [] = grp (mrg (chg A B') (chg A C'))
          rw [List.length_eq_zero_iff.mp hi0]
          rfl
        · rw [List.concat_eq_append] at hn
          subst hn
          rw [List.getLast?_append, List.getLast?_singleton] at hlast
          have hlast : (pre ++ [r]).dropLast ++ grpGo r ((mrg (chg A B') (chg A C')).drop (mrg (chg A B') (chg A C')).length) = runsOf A B' C' := hlast
          rw [List.dropLast_concat, List.drop_length, grpGo] at hlast
          exact hlast
      subst hfin
      exact r_G (q.upG e1) rfl
/-! joined_items: slots 0 base  1 one  2 other  3 found  4 place  5 run   -/
abbrev st_joined_items : Stmt := topS 32
abbrev N_joined_items : List Str := ["base", "one", "other", "found", "place", "run"]
theorem sc_joined_items : FnScope N_joined_items ["base", "one", "other"] (defScope st_joined_items) := ⟨rfl, rfl, rfl, by decide +kernel, rfl, by decide +kernel, by decide +kernel⟩
abbrev sp_joined_items : Sp := SpG (α := List D × List D × List D) (fun x => [.dat (.tup x.1), .dat (.tup x.2.1), .dat (.tup x.2.2)]) (fun x => Its x.1 ∧ Its x.2.1 ∧ Its x.2.2) (fun x => RD (.tup (joinI x.1 x.2.1 x.2.2)))
abbrev H_joined_items (P : Program) (w : World) (K : PySem.W.Frag) (mg : Str → Option Value) (base : Heap) : Prop := Has P w K mg base 8 "joined_items" ["base", "one", "other"] (sp_joined_items)
theorem has_joined_items {P : Program} {w : World} {K : PySem.W.Frag} {mg : Str → Option Value} {base : Heap} {C : Addr} (RC : RunC K C) (B : Gs mg) (F : DefAt K mg "joined_items" st_joined_items) (G_Run_outcome : H_Run_outcome P w K mg base C) (G_joint_runs : H_joint_runs P w K mg base C)  : H_joined_items P w K mg base :=
  F.hasG sc_joined_items (fun _ _ _ _ _ _ us hl => match us, hl with | [_, _, _], _ => rfl) (fun _ => rfl) fun f cdv A outer s H E hr => by
    have hu := room64 hr
    have hu1 := hu_of hr
    refine ⟨_, (pss_cons (ps_set (i := 3) sc_joined_items.nd rfl (Or.inl rfl) (pe_lst pa_nil))
      (pss_cons (ps_set (i := 4) sc_joined_items.nd rfl (Or.inl rfl) pe_int)
      (pss_cons (ps_for PassesOwn.never rfl (pi_list (pe_has G_joint_runs hr (by decide) (by rfl) (pa_cons (pv 0) (pa_cons (pv 1) (pa_cons (pv 2) pa_nil))))) (pg_name (i := 5) sc_joined_items.nd rfl (Or.inl rfl))
        (pss_cons (ps_expr (pe_bm PySem.F.plainAttrs_list PySem.F.slot_list_extend PySem.F.type_list_extend mt_extendT (pv 3) (pa_cons (pe_slice (sl_anyK (K := K) rfl) (pv 0) (po_some (pv 4)) (po_some (pe_fldK (K := K) rfl (pv 5) rfl))) pa_nil)))
        (pss_cons (ps_expr (pe_bm PySem.F.plainAttrs_list PySem.F.slot_list_extend PySem.F.type_list_extend mt_extendT (pv 3) (pa_cons (pe_hasM G_Run_outcome hr (by decide) (pv 5) (pa_cons (pv 0) pa_nil)) pa_nil)))
        (pss_one (ps_set (i := 4) sc_joined_items.nd rfl (Or.inl rfl) (pe_fldK (K := K) rfl (pv 5) rfl))))))
      (pss_cons (ps_expr (pe_bm PySem.F.plainAttrs_list PySem.F.slot_list_extend PySem.F.type_list_extend mt_extendT (pv 3) (pa_cons (pe_slice (sl_anyK (K := K) rfl) (pv 0) (po_some (pv 4)) po_none) pa_nil)))
      (pss_one (ps_ret (pe_callTy (call_tupK (K := K) rfl) (by rfl) B.tuple b_tuple (pa_cons (pv 3) pa_nil)))))))), fun x hp H R q => ?_⟩
    obtain ⟨A, B', C'⟩ := x
    dsimp only at hp q ⊢
    obtain ⟨hA, hB, hC⟩ := hp
    have hlen := joinI_len hA hB hC
    have nB := chg_len A B'
    have nC := chg_len A C'
    have lA := hA.2
    have gok := grp_ok (chg_fits A B').fin (chg_fits A C').fin
    have rok := runs_ok A B' C'
    refine s_seq (s_asgN (n_lst d_nil (sz 0 rfl)) ?_)
    refine s_seq (s_asg x_ci ?_)
    refine s_seq (s_forRuns (rs := runsOf A B' C') (g_callG (A, B', C') (a_cons (x_vd rfl) (a_cons (x_vd rfl) (a_cons (x_vd rfl) a_nil))) ⟨hA, hB, hC⟩ rfl) (fun i S' => ∃ f p u, S' = [.dat (.tup A), .dat (.tup B'), .dat (.tup C'), .own f, .dat (.int ((p : Nat) : Int)), u] ∧ f ++ joinGo A ((runsOf A B' C').drop i) p = joinI A B' C') ⟨[], 0, _, rfl, rfl⟩ ?_ ?_)
    · rintro H1 e1 i r S' hr ⟨f, p, u, rfl, h1⟩
      rw [drop_get hr, joinGo] at h1
      have hm := List.mem_of_getElem? hr
      have hlz : f.length + ((A.take r.b).drop p).length + (outc A r).length ≤ 4000 := by
        rw [← h1] at hlen
        simp only [List.length_append] at hlen ⊢
        omega
      have hit : RunIt A r := ⟨rok.mem hm, hA, run_one hA hB hm, run_oth hA hC hm, by
        have h2 := len_flat (f := RunS.s) hm
        rw [gok.2.1] at h2
        omega, by
        have h2 := len_flat (f := RunS.t) hm
        rw [gok.2.2] at h2
        omega⟩
      refine s_seq (s_extT rfl (x_slN p r.b (x_vd rfl) (x_vd rfl) (x_fldB RC (x_vh rfl)) rfl rfl) (by rw [sizeLine_eq]; omega) ?_)
      refine s_seq (s_extT rfl (x_methD (A, r) (x_vh rfl) (a_cons (x_vd rfl) a_nil) rfl hit rfl) (by rw [sizeLine_eq, List.length_append]; show _ + _ + (outc A r).length ≤ _; omega) ?_)
      refine s_asg (x_fldE RC (x_vh rfl)) ⟨_, r.e, _, rfl, ?_⟩
      rw [← h1]
      simp only [List.append_assoc]
    · rintro H1 e1 S' ⟨f, p, u, rfl, h1⟩
      rw [List.drop_length, joinGo] at h1
      have hlz : f.length + (A.drop p).length ≤ 4000 := by
        rw [← h1] at hlen
        simp only [List.length_append] at hlen ⊢
        exact hlen
      refine s_seq (s_extT rfl (x_slF p (x_vd rfl) (x_vd rfl) rfl) (by rw [sizeLine_eq]; omega) ?_)
      rw [← h1] at q
      exact r_D (q.up e1) (x_tupL (x_vo rfl))
end Mw
-- part MwL1
set_option maxHeartbeats 4000000
namespace Mw
open PySem PySem.Spec PyProof.Rows L2
def rowE (x : Bool × Cut) : D := .tup [.int (x.2.a : Int), .int (x.2.e : Int), .int (sideI x.1), x.2.d]
theorem rowE_quad (x : Bool × Cut) : IsQuad (rowE x) := ⟨_, _, _, _, rfl⟩
theorem rowE_key (x y : Bool × Cut) : Q4.lex3 (k3D (rowE x)) (k3D (rowE y)) = true ↔ ltK3 (rowK x) (rowK y) := by
  rw [Q4.lex3_iff]
  obtain ⟨b, c⟩ := x
  obtain ⟨b', c'⟩ := y
  show (((c.a : Int) < (c'.a : Int)) ∨ ((c.a : Int) = (c'.a : Int) ∧ (((c.e : Int) < (c'.e : Int)) ∨ ((c.e : Int) = (c'.e : Int) ∧ sideI b < sideI b')))) ↔ _
  unfold ltK3 rowK sideI Cut.e
  cases b <;> cases b' <;> simp <;> omega
section
variable {K : PySem.W.Frag} {H0 : Hp} {S : List SV}
/-- [[], []] -/
theorem nt_two : EvNT H0 S (tLst (tCons (tLst tNil) (tCons (tLst tNil) tNil))) [[], []] := fun σ H hs Q q =>
  ⟨sz 0 rfl, fun a ha => ⟨sz 0 rfl, fun b hb => ⟨sz 2 rfl, fun p hp => by
    have hab : a ≠ b := fun z => by rw [← z, upd_same] at hb; cases hb
    have hbH : H b = none := by rw [upd_ne hab.symm] at hb; exact hb
    have hap : a ≠ p := fun z => by rw [← z, upd_ne hab, upd_same] at hp; cases hp
    have hbp : b ≠ p := fun z => by rw [← z, upd_same] at hp; cases hp
    have hpH : H p = none := by rw [upd_ne hbp.symm, upd_ne hap.symm] at hp; exact hp
    refine q p [a, b] _ (((same_new ha).trans (same_new hb)).trans (same_new hp)) ?_ (fun c hc => ?_) upd_same ⟨⟨[], ?_, rfl⟩, ⟨[], ?_, rfl⟩, trivial⟩
    · simp [hab, hap.symm, hbp.symm]
    · have hc : c = p ∨ c = a ∨ c = b := by simpa using hc
      rcases hc with rfl | rfl | rfl
      · exact hpH
      · exact ha
      · exact hbH
    · rw [upd_ne hap, upd_ne hab, upd_same]
    · rw [upd_ne hbp, upd_same]⟩⟩⟩
end
theorem rowsE_low (xs : List (Bool × Cut)) (ds : List D) : min (D.deps ds) (D.deps []) ≤ 60 := by
  have : D.deps [] = 0 := by simp [D.deps]
  omega
/-! _law_joined: slots 0 _law_base  1 _law_one  2 _law_other  3 _law_cut  4 _law_rows  5 _law_found  6 _law_place  7 _law_start  8 _law_end  9 _law_run  10 _law_here  11 _law_there   -/
abbrev st_l_joined : Stmt := topS 55
abbrev N_l_joined : List Str := ["_law_base", "_law_one", "_law_other", "_law_cut", "_law_rows", "_law_found", "_law_place", "_law_start", "_law_end", "_law_run", "_law_here", "_law_there"]
theorem sc_l_joined : FnScope N_l_joined ["_law_base", "_law_one", "_law_other"] (defScope st_l_joined) := ⟨rfl, rfl, rfl, by decide +kernel, rfl, by decide +kernel, by decide +kernel⟩
abbrev sp_l_joined : Sp := SpG (α := List D × List D × List D) (fun x => [.dat (.tup x.1), .dat (.tup x.2.1), .dat (.tup x.2.2)]) (fun x => Its x.1 ∧ Its x.2.1 ∧ Its x.2.2) (fun x => RD (.tup (joinI x.1 x.2.1 x.2.2)))
abbrev H_l_joined (P : Program) (w : World) (K : PySem.W.Frag) (mg : Str → Option Value) (base : Heap) : Prop := Has P w K mg base 4 "_law_joined" ["_law_base", "_law_one", "_law_other"] (sp_l_joined)
theorem has_l_joined {P : Program} {w : World} {K : PySem.W.Frag} {mg : Str → Option Value} {base : Heap} (B : Gs mg) (F : DefAt K mg "_law_joined" st_l_joined) (G_l_become : H_l_become P w K mg base) (G_l_clash : H_l_clash P w K mg base) (G_l_cuts : H_l_cuts P w K mg base)  : H_l_joined P w K mg base :=
  F.hasG sc_l_joined (fun _ _ _ _ _ _ us hl => match us, hl with | [_, _, _], _ => rfl) (fun _ => rfl) fun f cdv A outer s H E hr => by
    have hu := room64 hr
    have hu1 := hu_of hr
    refine ⟨_, (pss_cons (ps_setLc (i := 4) (own := [("_law_cut", 3)]) (g := gName 3) (tt := tYes) rfl sc_l_joined.nd rfl rfl (sw_true rfl rfl rfl (by decide +kernel)) (pi_list (pe_has G_l_cuts hr (by decide) (by rfl) (pa_cons (pv 0) (pa_cons (pv 1) pa_nil)))) (blkOk_by (own := [("_law_cut", 3)]) (N := N_l_joined) (sc := defScope st_l_joined) (by decide +kernel)) (fun _ _ _ _ _ => (pg_name (i := 3) sc_l_joined.nd rfl (Or.inl rfl))) (fun _ _ _ _ _ => pts_nil) (fun _ _ _ _ _ => (pe_tup (pa_cons (pe_ix (ix_seqK (K := K) rfl) (pv 3) pe_int (fun _ _ => rfl)) (pa_cons (pe_op (op_addK (K := K) rfl) (pe_ix (ix_seqK (K := K) rfl) (pv 3) pe_int (fun _ _ => rfl)) (pe_callB (call_lenK (K := K) rfl) (by rfl) B.len b_len (pa_cons (pe_ix (ix_seqK (K := K) rfl) (pv 3) pe_int (fun _ _ => rfl)) pa_nil))) (pa_cons pe_int (pa_cons (pv 3) pa_nil)))))))
      (pss_cons (ps_set (i := 4) sc_l_joined.nd rfl (Or.inl rfl) (pe_callB (cr_sorted4 (K := K) rfl) (by rfl) B.sorted b_sorted (pa_cons (pe_op (op_addK (K := K) rfl) (pv 4) (pe_lc (own := [("_law_cut", 3)]) (g := gName 3) (tt := tYes) rfl sc_l_joined.nd (pi_list (pe_has G_l_cuts hr (by decide) (by rfl) (pa_cons (pv 0) (pa_cons (pv 2) pa_nil)))) (blkOk_by (own := [("_law_cut", 3)]) (N := N_l_joined) (sc := defScope st_l_joined) (by decide +kernel)) (fun _ _ _ _ _ => (pg_name (i := 3) sc_l_joined.nd rfl (Or.inl rfl))) (fun _ _ _ _ _ => pts_nil) (fun _ _ _ _ _ => (pe_tup (pa_cons (pe_ix (ix_seqK (K := K) rfl) (pv 3) pe_int (fun _ _ => rfl)) (pa_cons (pe_op (op_addK (K := K) rfl) (pe_ix (ix_seqK (K := K) rfl) (pv 3) pe_int (fun _ _ => rfl)) (pe_callB (call_lenK (K := K) rfl) (by rfl) B.len b_len (pa_cons (pe_ix (ix_seqK (K := K) rfl) (pv 3) pe_int (fun _ _ => rfl)) pa_nil))) (pa_cons pe_int (pa_cons (pv 3) pa_nil)))))))) pa_nil)))
      (pss_cons (ps_set (i := 5) sc_l_joined.nd rfl (Or.inl rfl) (pe_tup pa_nil))
      (pss_cons (ps_set (i := 6) sc_l_joined.nd rfl (Or.inl rfl) pe_int)
      (pss_cons (ps_while PassesOwn.never (pt_cmpR (op_neK (K := K) rfl hu) (pv 4) (pe_lst pa_nil) (nomark _))
        (pss_cons (ps_set (i := 7) sc_l_joined.nd rfl (Or.inl rfl) (pe_ix (ix_seqK (K := K) rfl) (pe_ix (ix_seqK (K := K) rfl) (pv 4) pe_int (fun _ _ => rfl)) pe_int (fun _ _ => rfl)))
        (pss_cons (ps_set (i := 8) sc_l_joined.nd rfl (Or.inl rfl) (pv 7))
        (pss_cons (ps_set (i := 9) sc_l_joined.nd rfl (Or.inl rfl) (pe_lst (pa_cons (pe_lst pa_nil) (pa_cons (pe_lst pa_nil) pa_nil))))
        (pss_cons (ps_while PassesOwn.never (PW.pt (pw_and (pt_cmpR (op_neK (K := K) rfl hu) (pv 4) (pe_lst pa_nil) (nomark _)) (pw_and1 (pt_cmpR op_le (pe_ix (ix_seqK (K := K) rfl) (pe_ix (ix_seqK (K := K) rfl) (pv 4) pe_int (fun _ _ => rfl)) pe_int (fun _ _ => rfl)) (pv 8) (nomark _)))))
          (pss_cons (ps_set (i := 8) sc_l_joined.nd rfl (Or.inl rfl) (pe_callB (call_maxA rfl) (by rfl) B.max b_max (pa_cons (pv 8) (pa_cons (pe_ix (ix_seqK (K := K) rfl) (pe_ix (ix_seqK (K := K) rfl) (pv 4) pe_int (fun _ _ => rfl)) pe_int (fun _ _ => rfl)) pa_nil))))
          (pss_cons (ps_expr (pe_bm PySem.F.plainAttrs_list PySem.F.slot_list_append PySem.F.type_list_append mt_append (pe_ix (ix_seqK (K := K) rfl) (pv 9) (pe_ix (ix_seqK (K := K) rfl) (pe_ix (ix_seqK (K := K) rfl) (pv 4) pe_int (fun _ _ => rfl)) pe_int (fun _ _ => rfl)) (fun _ _ => rfl)) (pa_cons (pe_ix (ix_seqK (K := K) rfl) (pe_ix (ix_seqK (K := K) rfl) (pv 4) pe_int (fun _ _ => rfl)) pe_int (fun _ _ => rfl)) pa_nil)))
          (pss_one (ps_set (i := 4) sc_l_joined.nd rfl (Or.inl rfl) (pe_slice (sl_anyK (K := K) rfl) (pv 4) (po_some pe_int) po_none))))))
        (pss_cons (ps_set (i := 10) sc_l_joined.nd rfl (Or.inl rfl) (pe_has G_l_become hr (by decide) (by rfl) (pa_cons (pv 0) (pa_cons (pv 7) (pa_cons (pv 8) (pa_cons (pe_ix (ix_seqK (K := K) rfl) (pv 9) pe_int (fun _ _ => rfl)) pa_nil))))))
        (pss_cons (ps_set (i := 11) sc_l_joined.nd rfl (Or.inl rfl) (pe_has G_l_become hr (by decide) (by rfl) (pa_cons (pv 0) (pa_cons (pv 7) (pa_cons (pv 8) (pa_cons (pe_ix (ix_seqK (K := K) rfl) (pv 9) pe_int (fun _ _ => rfl)) pa_nil))))))
        (pss_cons (ps_if (pt_cmpR (op_eqK (K := K) rfl hu) (pe_ix (ix_seqK (K := K) rfl) (pv 9) pe_int (fun _ _ => rfl)) (pe_lst pa_nil) (nomark _))
          (pss_one (ps_set (i := 11) sc_l_joined.nd rfl (Or.inl rfl) (pv 10)))
          pss_nil)
        (pss_cons (ps_if (pt_cmpR (op_eqK (K := K) rfl hu) (pe_ix (ix_seqK (K := K) rfl) (pv 9) pe_int (fun _ _ => rfl)) (pe_lst pa_nil) (nomark _))
          (pss_one (ps_set (i := 10) sc_l_joined.nd rfl (Or.inl rfl) (pv 11)))
          pss_nil)
        (pss_cons (ps_if (pt_cmpR (op_neK (K := K) rfl hu) (pv 10) (pv 11) (nomark _))
          (pss_one (ps_set (i := 10) sc_l_joined.nd rfl (Or.inl rfl) (pe_tup (pa_cons (pe_has G_l_clash hr (by decide) (by rfl) (pa_cons (pe_slice (sl_anyK (K := K) rfl) (pv 0) (po_some (pv 7)) (po_some (pv 8))) (pa_cons (pv 10) (pa_cons (pv 11) pa_nil)))) pa_nil))))
          pss_nil)
        (pss_cons (ps_set (i := 5) sc_l_joined.nd rfl (Or.inl rfl) (pe_op (op_addK (K := K) rfl) (pe_op (op_addK (K := K) rfl) (pv 5) (pe_slice (sl_anyK (K := K) rfl) (pv 0) (po_some (pv 6)) (po_some (pv 7)))) (pv 10)))
        (pss_one (ps_set (i := 6) sc_l_joined.nd rfl (Or.inl rfl) (pv 8))))))))))))))
      (pss_one (ps_ret (pe_op (op_addK (K := K) rfl) (pv 5) (pe_slice (sl_anyK (K := K) rfl) (pv 0) (po_some (pv 6)) po_none))))))))), fun x hp H R q => ?_⟩
    obtain ⟨A, B', C'⟩ := x
    dsimp only at hp q ⊢
    obtain ⟨hA, hB, hC⟩ := hp
    have lA := hA.2
    have lB := hB.2
    have lC := hC.2
    have nB := chg_len A B'
    have nC := chg_len A C'
    have hlen := joinI_len hA hB hC
    have rok := runs_ok A B' C'
    have hrow : ∀ (b : Bool) (cs : List Cut), (cutsD cs).map (fun d => match d with | .tup [.int a, .tup o, p] => .tup [.int a, .int (a + (o.length : Int)), .int (sideI b), .tup [.int a, .tup o, p]] | _ => .non) = cs.map fun c => rowE (b, c) := fun b cs => by
      unfold cutsD
      rw [List.map_map]
      refine List.map_congr_left fun c _ => ?_
      show D.tup [.int (c.a : Int), .int ((c.a : Int) + (c.o.length : Int)), _, _] = D.tup [.int (c.a : Int), .int ((c.a + c.o.length : Nat) : Int), _, _]
      rw [Int.natCast_add]
    refine s_seq (s_asgN (EvN.is (n_lcLY (xs := cutsD (chg A B')) (fun d => match d with | .tup [.int a, .tup o, p] => .tup [.int a, .int (a + (o.length : Int)), .int (sideI false), .tup [.int a, .tup o, p]] | _ => .non) (EvN.x (n_callN (A, B') (a_cons (x_vd rfl) (a_cons (x_vd rfl) a_nil)) ⟨hA.low, hB.low, Nat.le_trans lA (by decide), Nat.le_trans lB (by decide)⟩ rfl)) (by rw [List.length_map]; omega) ?_) (hrow false _)) ?_)
    · intro i d hd
      rw [List.getElem?_map] at hd
      obtain ⟨c, hc, rfl⟩ := Option.map_eq_some_iff.mp hd
      exact ⟨_, _, g_name, by simp, x_tup (d_cons (x_ixT (x_vd rfl) x_ci (k := 0) rfl rfl) (d_cons (x_addI (x_ixT (x_vd rfl) x_ci (k := 0) rfl rfl) (x_lenT (x_ixT (x_vd rfl) x_ci (k := 1) rfl rfl))) (d_cons x_ci (d_cons (x_vd rfl) d_nil)))) (sz 4 rfl)⟩
    have hperm := mrg_perm _ (chg A B') (chg A C') (Nat.le_refl _)
    have hsort := mrg_sorted _ (chg A B') (chg A C') (Nat.le_refl _) (chg_fits A B').fin.risA (chg_fits A C').fin.risA
    have hml := mrg_len (chg A B') (chg A C')
    refine s_seq (s_asgN (n_sorted4 (es := (mrg (chg A B') (chg A C')).map rowE) (EvN.x (n_addL (x_vo rfl) (EvN.x (EvN.is (n_lcLY (xs := cutsD (chg A C')) (fun d => match d with | .tup [.int a, .tup o, p] => .tup [.int a, .int (a + (o.length : Int)), .int (sideI true), .tup [.int a, .tup o, p]] | _ => .non) (EvN.x (n_callN (A, C') (a_cons (x_vd rfl) (a_cons (x_vd rfl) a_nil)) ⟨hA.low, hC.low, Nat.le_trans lA (by decide), Nat.le_trans lC (by decide)⟩ rfl)) (by rw [List.length_map]; omega) ?_) (hrow true _))) ?_)) ?_ ?_ ?_) ?_)
    · intro i d hd
      rw [List.getElem?_map] at hd
      obtain ⟨c, hc, rfl⟩ := Option.map_eq_some_iff.mp hd
      exact ⟨_, _, g_name, by simp, x_tup (d_cons (x_ixT (x_vd rfl) x_ci (k := 0) rfl rfl) (d_cons (x_addI (x_ixT (x_vd rfl) x_ci (k := 0) rfl rfl) (x_lenT (x_ixT (x_vd rfl) x_ci (k := 1) rfl rfl))) (d_cons x_ci (d_cons (x_vd rfl) d_nil)))) (sz 4 rfl)⟩
    · rw [List.length_map, List.length_map, sizeLine_eq]; omega
    · intro d hd
      rcases List.mem_append.mp hd with q | q
      · obtain ⟨c, _, rfl⟩ := List.mem_map.mp q
        exact rowE_quad _
      · obtain ⟨c, _, rfl⟩ := List.mem_map.mp q
        exact rowE_quad _
    · have := hperm.map rowE
      rw [List.map_append, List.map_map, List.map_map] at this
      exact this
    · rw [List.pairwise_map]
      exact hsort.imp fun {x y} z => (rowE_key x y).mpr z
    refine s_seq (s_asg (x_tup d_nil (sz 0 rfl)) ?_)
    refine s_seq (s_asg x_ci ?_)
    refine s_seq (s_while (fun m S' => ∃ u xs f p a b c d e, S' = [.dat (.tup A), .dat (.tup B'), .dat (.tup C'), u, .own (xs.map rowE), .dat (.tup f), .dat (.int ((p : Nat) : Int)), a, b, c, d, e] ∧ m = xs.length ∧ (∃ pre, pre ++ grp xs = runsOf A B' C') ∧ f ++ joinGo A (grp xs) p = joinI A B' C' ∧ xs.length ≤ 60) (mrg (chg A B') (chg A C')).length ⟨_, mrg (chg A B') (chg A C'), [], 0, _, _, _, _, _, rfl, rfl, ⟨[], rfl⟩, rfl, by omega⟩ ?_)
    rintro H1 e1 m S' ⟨u, xs, f, p, a, b, c, d, e, rfl, rfl, ⟨pre, hpre⟩, hj, hxl⟩
    refine ⟨!decide (xs = []), t_cB (x_neL (x_vo rfl) (EvN.x (n_lst d_nil (sz 0 rfl))) (rowsE_low xs _)) (by simp), fun hne => ?_, fun hne => ?_⟩
    · cases xs with
      | nil => simp at hne
      | cons x xs =>
        refine s_seq (s_asg (x_ixT (x_ixL (x_vo rfl) x_ci (k := 0) rfl rfl) x_ci (k := 0) rfl rfl) ?_)
        refine s_seq (s_asg (x_vd rfl) ?_)
        refine s_seq (s_asgNT nt_two ?_)
        refine s_seq (s_while (fun m S' => ∃ r ys, S' = [.dat (.tup A), .dat (.tup B'), .dat (.tup C'), u, .own (ys.map rowE), .dat (.tup f), .dat (.int ((p : Nat) : Int)), .dat (.int ((r : RunS).b : Int)), .dat (.int (r.e : Int)), .otab [cutsD r.s, cutsD r.t], d, e] ∧ m = ys.length ∧ grpGo r ys = grp (x :: xs) ∧ (r = RunS.new x.2.a ∧ ys = x :: xs ∨ ys.length ≤ xs.length) ∧ r.s.length + ys.length ≤ 60 ∧ r.t.length + ys.length ≤ 60) (xs.length + 1) ⟨RunS.new x.2.a, x :: xs, rfl, rfl, ?_, .inl ⟨rfl, rfl⟩, ?_, ?_⟩ ?_)
        · unfold grpGo grp
          rw [if_neg (by show ¬ x.2.a < x.2.a; omega)]
        · show 0 + _ ≤ _
          simp only [List.length_cons] at hxl ⊢
          omega
        · show 0 + _ ≤ _
          simp only [List.length_cons] at hxl ⊢
          omega
        rintro H2 e2 m S' ⟨r, ys, rfl, rfl, hg, hor, hz1, hz2⟩
        cases ys with
        | nil =>
          refine ⟨false, t_is (t_and (a := false) (b := false) (t_cB (x_neL (x_vo rfl) (EvN.x (n_lst d_nil (sz 0 rfl))) (rowsE_low xs _)) (by simp)) (fun z => nomatch z)) rfl, (fun z => nomatch z), fun _ => ?_⟩
          have hgr : grp (x :: xs) = r :: grp ([] : List (Bool × Cut)) := by
            rw [← hg]
            rfl
          rw [hgr] at hpre hj
          rw [joinGo] at hj
          have hmem : r ∈ runsOf A B' C' := by rw [← hpre]; simp
          have hone := run_one hA hB hmem
          have hoth := run_oth hA hC hmem
          have hol := hone.2
          have htl := hoth.2
          have hlz : f.length + ((A.take r.b).drop p).length + (outc A r).length ≤ 4000 := by
            rw [← hj] at hlen
            simp only [List.length_append] at hlen ⊢
            omega
          refine s_seq (s_asg (x_callD (A, r.b, r.e, r.s) (a_cons (x_vd rfl) (a_cons (x_vd rfl) (a_cons (x_vd rfl) (a_cons (x_ixR (x_vot rfl) x_ci (k := 0) rfl rfl) a_nil)))) (by show (layTo A r.e r.s r.b).length ≤ 10000; omega) rfl) ?_)
          refine s_seq (s_asg (x_callD (A, r.b, r.e, r.t) (a_cons (x_vd rfl) (a_cons (x_vd rfl) (a_cons (x_vd rfl) (a_cons (x_ixR (x_vot rfl) x_ci (k := 1) rfl rfl) a_nil)))) (by show (layTo A r.e r.t r.b).length ≤ 10000; omega) rfl) ?_)
          generalize hO : layTo A r.e r.s r.b = one at hone hol ⊢
          generalize hT : layTo A r.e r.t r.b = oth at hoth htl ⊢
          have houtc : outc A r = if r.t = [] ∨ one = oth then one else if r.s = [] then oth else [iCl ((A.take r.e).drop r.b) one oth] := by
            unfold outc
            rw [hO, hT]
          have hdep : ∀ ds : List D, min (D.deps ds) (D.deps []) ≤ 60 := fun ds => rowsE_low [] ds
          refine s_seq (s_if (b := decide (r.t = [])) (t_cB (x_eqL (x_ixR (x_vot rfl) x_ci (k := 1) rfl rfl) (EvN.x (n_lst d_nil (sz 0 rfl))) (hdep _)) cutsD_nil) (fun h1 => s_asg (x_vd rfl) ?_) (fun h1 => s_next ?_))
          · have h1 := of_decide_eq_true h1
            refine s_seq (s_if (b := decide (r.s = [])) (t_cB (x_eqL (x_ixR (x_vot rfl) x_ci (k := 0) rfl rfl) (EvN.x (n_lst d_nil (sz 0 rfl))) (hdep _)) cutsD_nil) (fun h2 => s_asg (x_vd rfl) ?_) (fun h2 => s_next ?_))
            all_goals
              refine s_seq (s_if (b := false) (t_cB (x_ne (x_vd rfl) (x_vd rfl) (low_min hone.low _)) (by simp)) (fun z => nomatch z) (fun _ => s_next ?_))
              rw [houtc, if_pos (.inl h1)] at hj hlz
              refine s_seq (s_asg (x_addT (x_addT (x_vd rfl) (x_slN p r.b (x_vd rfl) (x_vd rfl) (x_vd rfl) rfl rfl) (by rw [sizeLine_eq]; omega)) (x_vd rfl) (by rw [sizeLine_eq, List.length_append]; omega)) ?_)
              refine s_asg (x_vd rfl) ⟨_, by simp, _, ([] : List (Bool × Cut)), _, r.e, _, _, _, _, _, rfl, rfl, ⟨pre ++ [r], by rw [List.append_assoc]; exact hpre⟩, ?_, by simp⟩
              rw [← hj]
              simp only [List.append_assoc]
          · have h1 := of_decide_eq_false h1
            refine s_seq (s_if (b := decide (r.s = [])) (t_cB (x_eqL (x_ixR (x_vot rfl) x_ci (k := 0) rfl rfl) (EvN.x (n_lst d_nil (sz 0 rfl))) (hdep _)) cutsD_nil) (fun h2 => s_asg (x_vd rfl) ?_) (fun h2 => s_next ?_))
            · have h2 := of_decide_eq_true h2
              have hoo : outc A r = oth := by
                rw [houtc]
                by_cases e : one = oth
                · rw [if_pos (.inr e), e]
                · rw [if_neg (fun z => z.elim h1 e), if_pos h2]
              refine s_seq (s_if (b := false) (t_cB (x_ne (x_vd rfl) (x_vd rfl) (low_min hoth.low _)) (by simp)) (fun z => nomatch z) (fun _ => s_next ?_))
              rw [hoo] at hj hlz
              refine s_seq (s_asg (x_addT (x_addT (x_vd rfl) (x_slN p r.b (x_vd rfl) (x_vd rfl) (x_vd rfl) rfl rfl) (by rw [sizeLine_eq]; omega)) (x_vd rfl) (by rw [sizeLine_eq, List.length_append]; omega)) ?_)
              refine s_asg (x_vd rfl) ⟨_, by simp, _, ([] : List (Bool × Cut)), _, r.e, _, _, _, _, _, rfl, rfl, ⟨pre ++ [r], by rw [List.append_assoc]; exact hpre⟩, ?_, by simp⟩
              rw [← hj]
              simp only [List.append_assoc]
            · have h2 := of_decide_eq_false h2
              refine s_seq (s_if (b := !decide (one = oth)) (t_cB (x_ne (x_vd rfl) (x_vd rfl) (low_min hone.low _)) (by simp only [D.tup.injEq])) (fun h3 => s_asg (x_tup (d_cons (x_callD ((A.take r.e).drop r.b, one, oth) (a_cons (x_slN r.b r.e (x_vd rfl) (x_vd rfl) (x_vd rfl) rfl rfl) (a_cons (x_vd rfl) (a_cons (x_vd rfl) a_nil))) ⟨hone, hoth⟩ rfl) d_nil) (sz 1 rfl)) ?_) (fun h3 => s_next ?_))
              · have h3 : one ≠ oth := by simpa using h3
                rw [houtc, if_neg (fun z => z.elim h1 h3), if_neg h2] at hj hlz
                refine s_seq (s_asg (x_addT (x_addT (x_vd rfl) (x_slN p r.b (x_vd rfl) (x_vd rfl) (x_vd rfl) rfl rfl) (by rw [sizeLine_eq]; omega)) (x_vd rfl) (by rw [sizeLine_eq, List.length_append]; show _ + _ + 1 ≤ _; omega)) ?_)
                refine s_asg (x_vd rfl) ⟨_, by simp, _, ([] : List (Bool × Cut)), _, r.e, _, _, _, _, _, rfl, rfl, ⟨pre ++ [r], by rw [List.append_assoc]; exact hpre⟩, ?_, by simp⟩
                rw [← hj]
                simp only [List.append_assoc]
              · have h3 : one = oth := by simpa using h3
                rw [houtc, if_pos (.inr h3)] at hj hlz
                refine s_seq (s_asg (x_addT (x_addT (x_vd rfl) (x_slN p r.b (x_vd rfl) (x_vd rfl) (x_vd rfl) rfl rfl) (by rw [sizeLine_eq]; omega)) (x_vd rfl) (by rw [sizeLine_eq, List.length_append]; omega)) ?_)
                refine s_asg (x_vd rfl) ⟨_, by simp, _, ([] : List (Bool × Cut)), _, r.e, _, _, _, _, _, rfl, rfl, ⟨pre ++ [r], by rw [List.append_assoc]; exact hpre⟩, ?_, by simp⟩
                rw [← hj]
                simp only [List.append_assoc]
        | cons y ys =>
          refine ⟨decide (y.2.a ≤ r.e), t_is (t_and (a := true) (b := decide (y.2.a ≤ r.e)) (t_cB (x_neL (x_vo rfl) (EvN.x (n_lst d_nil (sz 0 rfl))) (rowsE_low xs _)) (by simp)) (fun _ => t_cB (x_le (x_ixT (x_ixL (x_vo rfl) x_ci (k := 0) rfl rfl) x_ci (k := 0) rfl rfl) (x_vd rfl)) (by simp only [Int.ofNat_le]))) (Bool.true_and _), fun hle => ?_, fun hle => ?_⟩
          · have hle := of_decide_eq_true hle
            rw [grpGo, if_neg (by omega)] at hg
            simp only [List.length_cons] at hz1 hz2
            refine s_seq (s_asg (EvX.is (x_max (x_vd rfl) (x_ixT (x_ixL (x_vo rfl) x_ci (k := 0) rfl rfl) x_ci (k := 1) rfl rfl)) (congrArg (fun z => AV.dat (.int z)) (max_cast r.e y.2.e).symm)) ?_)
            obtain ⟨yb, yc⟩ := y
            have fin : r.s.length + 1 + ys.length ≤ 60 ∧ r.t.length + 1 + ys.length ≤ 60 := ⟨by omega, by omega⟩
            cases yb with
            | false =>
              refine s_seq (s_appT (n := 0) (row := cutsD r.s) (d := yc.d) (y := 0) rfl rfl (x_ixT (x_ixL (x_vo rfl) x_ci (k := 0) rfl rfl) x_ci (k := 2) rfl rfl) rfl (x_ixT (x_ixL (x_vo rfl) x_ci (k := 0) rfl rfl) x_ci (k := 3) rfl rfl) (by rw [List.length_map, sizeLine_eq]; omega) ?_)
              refine s_asgN (EvN.is (n_slL (x_vo rfl) (o_some x_ci) o_no) (cutD_from _ 1)) ⟨ys.length, by simp, r.take (false, yc), ys, ?_, rfl, hg, .inr ?_, ?_, ?_⟩
              · show [_, _, _, _, _, _, _, _, _, SV.otab [cutsD r.s ++ [yc.d], cutsD r.t], _, _] = [_, _, _, _, _, _, _, _, _, SV.otab [cutsD (r.s ++ [yc]), cutsD r.t], _, _]
                rw [show cutsD (r.s ++ [yc]) = cutsD r.s ++ [yc.d] from List.map_append]
                rfl
              · rcases hor with ⟨_, h⟩ | h
                · cases h; exact Nat.le_refl _
                · simp only [List.length_cons] at h; omega
              · show (r.s ++ [yc]).length + _ ≤ _
                rw [List.length_append, List.length_singleton]; omega
              · show r.t.length + _ ≤ _
                omega
            | true =>
              refine s_seq (s_appT (n := 1) (row := cutsD r.t) (d := yc.d) (y := 1) rfl rfl (x_ixT (x_ixL (x_vo rfl) x_ci (k := 0) rfl rfl) x_ci (k := 2) rfl rfl) rfl (x_ixT (x_ixL (x_vo rfl) x_ci (k := 0) rfl rfl) x_ci (k := 3) rfl rfl) (by rw [List.length_map, sizeLine_eq]; omega) ?_)
              refine s_asgN (EvN.is (n_slL (x_vo rfl) (o_some x_ci) o_no) (cutD_from _ 1)) ⟨ys.length, by simp, r.take (true, yc), ys, ?_, rfl, hg, .inr ?_, ?_, ?_⟩
              · show [_, _, _, _, _, _, _, _, _, SV.otab [cutsD r.s, cutsD r.t ++ [yc.d]], _, _] = [_, _, _, _, _, _, _, _, _, SV.otab [cutsD r.s, cutsD (r.t ++ [yc])], _, _]
                rw [show cutsD (r.t ++ [yc]) = cutsD r.t ++ [yc.d] from List.map_append]
                rfl
              · rcases hor with ⟨_, h⟩ | h
                · cases h; exact Nat.le_refl _
                · simp only [List.length_cons] at h; omega
              · show r.s.length + _ ≤ _
                omega
              · show (r.t ++ [yc]).length + _ ≤ _
                rw [List.length_append, List.length_singleton]; omega
          · have hle := of_decide_eq_false hle
            have hlt0 : (y :: ys).length < (x :: xs).length := by
              rcases hor with ⟨h, h2⟩ | h
              · cases h2
                rw [h] at hle
                exact absurd (Nat.le_refl _) hle
              · simp only [List.length_cons] at h ⊢
                omega
            have hbd0 : (y :: ys).length ≤ 60 := by omega
            have hgr : grp (x :: xs) = r :: grp (y :: ys) := by
              rw [← hg]
              rw [grpGo, if_pos (by omega)]; rfl
            rw [hgr] at hpre hj
            rw [joinGo] at hj
            have hmem : r ∈ runsOf A B' C' := by rw [← hpre]; simp
            have hone := run_one hA hB hmem
            have hoth := run_oth hA hC hmem
            have hol := hone.2
            have htl := hoth.2
            have hlz : f.length + ((A.take r.b).drop p).length + (outc A r).length ≤ 4000 := by
              rw [← hj] at hlen
              simp only [List.length_append] at hlen ⊢
              omega
            refine s_seq (s_asg (x_callD (A, r.b, r.e, r.s) (a_cons (x_vd rfl) (a_cons (x_vd rfl) (a_cons (x_vd rfl) (a_cons (x_ixR (x_vot rfl) x_ci (k := 0) rfl rfl) a_nil)))) (by show (layTo A r.e r.s r.b).length ≤ 10000; omega) rfl) ?_)
            refine s_seq (s_asg (x_callD (A, r.b, r.e, r.t) (a_cons (x_vd rfl) (a_cons (x_vd rfl) (a_cons (x_vd rfl) (a_cons (x_ixR (x_vot rfl) x_ci (k := 1) rfl rfl) a_nil)))) (by show (layTo A r.e r.t r.b).length ≤ 10000; omega) rfl) ?_)
            generalize hO : layTo A r.e r.s r.b = one at hone hol ⊢
            generalize hT : layTo A r.e r.t r.b = oth at hoth htl ⊢
            have houtc : outc A r = if r.t = [] ∨ one = oth then one else if r.s = [] then oth else [iCl ((A.take r.e).drop r.b) one oth] := by
              unfold outc
              rw [hO, hT]
            have hdep : ∀ ds : List D, min (D.deps ds) (D.deps []) ≤ 60 := fun ds => rowsE_low [] ds
            refine s_seq (s_if (b := decide (r.t = [])) (t_cB (x_eqL (x_ixR (x_vot rfl) x_ci (k := 1) rfl rfl) (EvN.x (n_lst d_nil (sz 0 rfl))) (hdep _)) cutsD_nil) (fun h1 => s_asg (x_vd rfl) ?_) (fun h1 => s_next ?_))
            · have h1 := of_decide_eq_true h1
              refine s_seq (s_if (b := decide (r.s = [])) (t_cB (x_eqL (x_ixR (x_vot rfl) x_ci (k := 0) rfl rfl) (EvN.x (n_lst d_nil (sz 0 rfl))) (hdep _)) cutsD_nil) (fun h2 => s_asg (x_vd rfl) ?_) (fun h2 => s_next ?_))
              all_goals
                refine s_seq (s_if (b := false) (t_cB (x_ne (x_vd rfl) (x_vd rfl) (low_min hone.low _)) (by simp)) (fun z => nomatch z) (fun _ => s_next ?_))
                rw [houtc, if_pos (.inl h1)] at hj hlz
                refine s_seq (s_asg (x_addT (x_addT (x_vd rfl) (x_slN p r.b (x_vd rfl) (x_vd rfl) (x_vd rfl) rfl rfl) (by rw [sizeLine_eq]; omega)) (x_vd rfl) (by rw [sizeLine_eq, List.length_append]; omega)) ?_)
                refine s_asg (x_vd rfl) ⟨_, hlt0, _, (y :: ys), _, r.e, _, _, _, _, _, rfl, rfl, ⟨pre ++ [r], by rw [List.append_assoc]; exact hpre⟩, ?_, hbd0⟩
                rw [← hj]
                simp only [List.append_assoc]
            · have h1 := of_decide_eq_false h1
              refine s_seq (s_if (b := decide (r.s = [])) (t_cB (x_eqL (x_ixR (x_vot rfl) x_ci (k := 0) rfl rfl) (EvN.x (n_lst d_nil (sz 0 rfl))) (hdep _)) cutsD_nil) (fun h2 => s_asg (x_vd rfl) ?_) (fun h2 => s_next ?_))
              · have h2 := of_decide_eq_true h2
                have hoo : outc A r = oth := by
                  rw [houtc]
                  by_cases e : one = oth
                  · rw [if_pos (.inr e), e]
                  · rw [if_neg (fun z => z.elim h1 e), if_pos h2]
                refine s_seq (s_if (b := false) (t_cB (x_ne (x_vd rfl) (x_vd rfl) (low_min hoth.low _)) (by simp)) (fun z => nomatch z) (fun _ => s_next ?_))
                rw [hoo] at hj hlz
                refine s_seq (s_asg (x_addT (x_addT (x_vd rfl) (x_slN p r.b (x_vd rfl) (x_vd rfl) (x_vd rfl) rfl rfl) (by rw [sizeLine_eq]; omega)) (x_vd rfl) (by rw [sizeLine_eq, List.length_append]; omega)) ?_)
                refine s_asg (x_vd rfl) ⟨_, hlt0, _, (y :: ys), _, r.e, _, _, _, _, _, rfl, rfl, ⟨pre ++ [r], by rw [List.append_assoc]; exact hpre⟩, ?_, hbd0⟩
                rw [← hj]
                simp only [List.append_assoc]
              · have h2 := of_decide_eq_false h2
                refine s_seq (s_if (b := !decide (one = oth)) (t_cB (x_ne (x_vd rfl) (x_vd rfl) (low_min hone.low _)) (by simp only [D.tup.injEq])) (fun h3 => s_asg (x_tup (d_cons (x_callD ((A.take r.e).drop r.b, one, oth) (a_cons (x_slN r.b r.e (x_vd rfl) (x_vd rfl) (x_vd rfl) rfl rfl) (a_cons (x_vd rfl) (a_cons (x_vd rfl) a_nil))) ⟨hone, hoth⟩ rfl) d_nil) (sz 1 rfl)) ?_) (fun h3 => s_next ?_))
                · have h3 : one ≠ oth := by simpa using h3
                  rw [houtc, if_neg (fun z => z.elim h1 h3), if_neg h2] at hj hlz
                  refine s_seq (s_asg (x_addT (x_addT (x_vd rfl) (x_slN p r.b (x_vd rfl) (x_vd rfl) (x_vd rfl) rfl rfl) (by rw [sizeLine_eq]; omega)) (x_vd rfl) (by rw [sizeLine_eq, List.length_append]; show _ + _ + 1 ≤ _; omega)) ?_)
                  refine s_asg (x_vd rfl) ⟨_, hlt0, _, (y :: ys), _, r.e, _, _, _, _, _, rfl, rfl, ⟨pre ++ [r], by rw [List.append_assoc]; exact hpre⟩, ?_, hbd0⟩
                  rw [← hj]
                  simp only [List.append_assoc]
                · have h3 : one = oth := by simpa using h3
                  rw [houtc, if_pos (.inr h3)] at hj hlz
                  refine s_seq (s_asg (x_addT (x_addT (x_vd rfl) (x_slN p r.b (x_vd rfl) (x_vd rfl) (x_vd rfl) rfl rfl) (by rw [sizeLine_eq]; omega)) (x_vd rfl) (by rw [sizeLine_eq, List.length_append]; omega)) ?_)
                  refine s_asg (x_vd rfl) ⟨_, hlt0, _, (y :: ys), _, r.e, _, _, _, _, _, rfl, rfl, ⟨pre ++ [r], by rw [List.append_assoc]; exact hpre⟩, ?_, hbd0⟩
                  rw [← hj]
                  simp only [List.append_assoc]
    · have hx : xs = [] := by simpa using hne
      subst hx
      have hj : f ++ A.drop p = joinI A B' C' := hj
      have hzz : f.length + (A.drop p).length ≤ 4000 := by
        rw [← hj, List.length_append] at hlen
        exact hlen
      exact r_De (q.up e1) (x_addT (x_vd rfl) (x_slF p (x_vd rfl) (x_vd rfl) rfl) (by rw [sizeLine_eq]; omega)) (congrArg D.tup hj)
end Mw
-- part MwR5
set_option maxHeartbeats 4000000
namespace Mw
open PySem PySem.Spec PyProof.Rows L2
theorem bool_mix (P Q R : Prop) [Decidable P] [Decidable Q] [Decidable R] [Decidable (P ∨ (¬Q ∧ ¬R))] : (decide P || (!decide Q && !decide R)) = decide (P ∨ (¬Q ∧ ¬R)) := by
  by_cases h1 : P <;> by_cases h2 : Q <;> by_cases h3 : R <;> simp [h1, h2, h3]
/-! joined_row: slots 0 base  1 one  2 other   -/
abbrev st_joined_row : Stmt := topS 34
abbrev N_joined_row : List Str := ["base", "one", "other"]
theorem sc_joined_row : FnScope N_joined_row ["base", "one", "other"] (defScope st_joined_row) := ⟨rfl, rfl, rfl, by decide +kernel, rfl, by decide +kernel, by decide +kernel⟩
abbrev sp_joined_row : Sp := SpG (α := Rw × Rw × Rw) (fun x => [.dat x.1.d, .dat x.2.1.d, .dat x.2.2.d]) (fun x => RowV x.1 ∧ RowV x.2.1 ∧ RowV x.2.2) (fun x => RD (joinR x.1 x.2.1 x.2.2).d)
abbrev H_joined_row (P : Program) (w : World) (K : PySem.W.Frag) (mg : Str → Option Value) (base : Heap) : Prop := Has P w K mg base 9 "joined_row" ["base", "one", "other"] (sp_joined_row)
theorem has_joined_row {P : Program} {w : World} {K : PySem.W.Frag} {mg : Str → Option Value} {base : Heap} (B : Gs mg) (F : DefAt K mg "joined_row" st_joined_row) (G_joined_items : H_joined_items P w K mg base) (G_joined_where : H_joined_where P w K mg base) (G_where_clash : H_where_clash P w K mg base)  : H_joined_row P w K mg base :=
  F.hasG sc_joined_row (fun _ _ _ _ _ _ us hl => match us, hl with | [_, _, _], _ => rfl) (fun _ => rfl) fun f cdv A outer s H E hr => by
    have hu := room64 hr
    have hu1 := hu_of hr
    refine ⟨_, (pss_cons (ps_if (PW.pt (pw_or (pt_cmpR (op_eqK (K := K) rfl hu) (pv 1) (pv 2) (nomark _)) (pw_or1 (pt_cmpR (op_eqK (K := K) rfl hu) (pv 2) (pv 0) (nomark _)))))
        (pss_one (ps_ret (pv 1)))
        pss_nil)
      (pss_cons (ps_if (pt_cmpR (op_eqK (K := K) rfl hu) (pv 1) (pv 0) (nomark _))
        (pss_one (ps_ret (pv 2)))
        pss_nil)
      (pss_cons (ps_if (pt_cmpR op_isNA (pe_ix (ix_seqK (K := K) rfl) (pv 1) pe_int (fun _ _ => rfl)) pe_non (nomark _))
        (pss_one (ps_ret (pe_tup (pa_cons (pe_has G_where_clash hr (by decide) (by rfl) (pa_cons (pe_ix (ix_seqK (K := K) rfl) (pv 0) pe_int (fun _ _ => rfl)) (pa_cons pe_non (pa_cons (pe_ix (ix_seqK (K := K) rfl) (pv 2) pe_int (fun _ _ => rfl)) pa_nil)))) (pa_cons (pe_ix (ix_seqK (K := K) rfl) (pv 2) pe_int (fun _ _ => rfl)) pa_nil)))))
        pss_nil)
      (pss_cons (ps_if (pt_cmpR op_isNA (pe_ix (ix_seqK (K := K) rfl) (pv 2) pe_int (fun _ _ => rfl)) pe_non (nomark _))
        (pss_one (ps_ret (pe_tup (pa_cons (pe_has G_where_clash hr (by decide) (by rfl) (pa_cons (pe_ix (ix_seqK (K := K) rfl) (pv 0) pe_int (fun _ _ => rfl)) (pa_cons (pe_ix (ix_seqK (K := K) rfl) (pv 1) pe_int (fun _ _ => rfl)) (pa_cons pe_non pa_nil)))) (pa_cons (pe_ix (ix_seqK (K := K) rfl) (pv 1) pe_int (fun _ _ => rfl)) pa_nil)))))
        pss_nil)
      (pss_one (ps_ret (pe_tup (pa_cons (pe_has G_joined_where hr (by decide) (by rfl) (pa_cons (pe_ix (ix_seqK (K := K) rfl) (pv 0) pe_int (fun _ _ => rfl)) (pa_cons (pe_ix (ix_seqK (K := K) rfl) (pv 1) pe_int (fun _ _ => rfl)) (pa_cons (pe_ix (ix_seqK (K := K) rfl) (pv 2) pe_int (fun _ _ => rfl)) pa_nil)))) (pa_cons (pe_has G_joined_items hr (by decide) (by rfl) (pa_cons (pe_ix (ix_seqK (K := K) rfl) (pv 0) pe_int (fun _ _ => rfl)) (pa_cons (pe_ix (ix_seqK (K := K) rfl) (pv 1) pe_int (fun _ _ => rfl)) (pa_cons (pe_ix (ix_seqK (K := K) rfl) (pv 2) pe_int (fun _ _ => rfl)) pa_nil)))) pa_nil))))))))), fun x hp H R q => ?_⟩
    obtain ⟨b, o, p⟩ := x
    dsimp only at hp q ⊢
    obtain ⟨hb, ho, hp⟩ := hp
    have db := hb.dep
    have dob := ho.dep
    have dp := hp.dep
    refine s_seq (s_if (b := decide (o = p) || decide (p = b)) (t_or (t_cB (x_eq (x_vd rfl) (x_vd rfl) (by omega)) (Rw.dec _ _)) fun _ => t_cB (x_eq (x_vd rfl) (x_vd rfl) (by omega)) (Rw.dec _ _)) (fun hd => ?_) (fun hd => s_next ?_))
    · simp only [Bool.or_eq_true, decide_eq_true_eq] at hd
      exact r_De q (x_vd rfl) (by unfold joinR; rw [if_pos hd])
    simp only [Bool.or_eq_false_iff, decide_eq_false_iff_not] at hd
    have hn : ¬ (o = p ∨ p = b) := fun z => z.elim hd.1 hd.2
    refine s_seq (s_if (b := decide (o = b)) (t_cB (x_eq (x_vd rfl) (x_vd rfl) (by omega)) (Rw.dec _ _)) (fun hd2 => ?_) (fun hd2 => s_next ?_))
    · have hd2 := of_decide_eq_true hd2
      exact r_De q (x_vd rfl) (by unfold joinR; rw [if_neg hn, if_pos hd2])
    have hd2 := of_decide_eq_false hd2
    refine s_seq (s_if (b := decide (o.w = .non)) (t_cmp (x_isN (x_ixT (x_vd rfl) x_ci (k := 0) rfl rfl) x_cn)) (fun hd3 => ?_) (fun hd3 => s_next ?_))
    · have hd3 := of_decide_eq_true hd3
      exact r_De q (x_tup (d_cons (x_callD (b.w, .non, p.w) (a_cons (x_ixT (x_vd rfl) x_ci (k := 0) rfl rfl) (a_cons x_cn (a_cons (x_ixT (x_vd rfl) x_ci (k := 0) rfl rfl) a_nil))) ⟨.inl (.inl rfl), hp.w⟩ rfl) (d_cons (x_ixT (x_vd rfl) x_ci (k := 1) rfl rfl) d_nil)) (sz 2 rfl)) (by unfold joinR; rw [if_neg hn, if_neg hd2, if_pos hd3])
    have hd3 := of_decide_eq_false hd3
    refine s_seq (s_if (b := decide (p.w = .non)) (t_cmp (x_isN (x_ixT (x_vd rfl) x_ci (k := 0) rfl rfl) x_cn)) (fun hd4 => ?_) (fun hd4 => s_next ?_))
    · have hd4 := of_decide_eq_true hd4
      exact r_De q (x_tup (d_cons (x_callD (b.w, o.w, .non) (a_cons (x_ixT (x_vd rfl) x_ci (k := 0) rfl rfl) (a_cons (x_ixT (x_vd rfl) x_ci (k := 0) rfl rfl) (a_cons x_cn a_nil))) ⟨ho.w, .inl (.inl rfl)⟩ rfl) (d_cons (x_ixT (x_vd rfl) x_ci (k := 1) rfl rfl) d_nil)) (sz 2 rfl)) (by unfold joinR; rw [if_neg hn, if_neg hd2, if_neg hd3, if_pos hd4])
    have hd4 := of_decide_eq_false hd4
    exact r_De q (x_tup (d_cons (x_callD (b.w, o.w, p.w) (a_cons (x_ixT (x_vd rfl) x_ci (k := 0) rfl rfl) (a_cons (x_ixT (x_vd rfl) x_ci (k := 0) rfl rfl) (a_cons (x_ixT (x_vd rfl) x_ci (k := 0) rfl rfl) a_nil))) ⟨hb.w, ho.w, hp.w⟩ rfl) (d_cons (x_callD (b.i, o.i, p.i) (a_cons (x_ixT (x_vd rfl) x_ci (k := 1) rfl rfl) (a_cons (x_ixT (x_vd rfl) x_ci (k := 1) rfl rfl) (a_cons (x_ixT (x_vd rfl) x_ci (k := 1) rfl rfl) a_nil))) ⟨hb.i, ho.i, hp.i⟩ rfl) d_nil)) (sz 2 rfl)) (by unfold joinR; rw [if_neg hn, if_neg hd2, if_neg hd3, if_neg hd4])
/-! _law_joined_row: slots 0 _law_base  1 _law_one  2 _law_other  3 _law_row_here  4 _law_there  5 _law_where_here   -/
abbrev st_l_joined_row : Stmt := topS 62
abbrev N_l_joined_row : List Str := ["_law_base", "_law_one", "_law_other", "_law_row_here", "_law_there", "_law_where_here"]
theorem sc_l_joined_row : FnScope N_l_joined_row ["_law_base", "_law_one", "_law_other"] (defScope st_l_joined_row) := ⟨rfl, rfl, rfl, by decide +kernel, rfl, by decide +kernel, by decide +kernel⟩
abbrev sp_l_joined_row : Sp := SpG (α := Rw × Rw × Rw) (fun x => [.dat x.1.d, .dat x.2.1.d, .dat x.2.2.d]) (fun x => (RowV x.1 ∧ RowV x.2.1 ∧ RowV x.2.2) ∧ (x.2.2.w = .non → x.2.1.w ≠ .non → wCl x.1.w .non x.2.1.w = wCl x.1.w x.2.1.w .non)) (fun x => RD (joinR x.1 x.2.1 x.2.2).d)
abbrev H_l_joined_row (P : Program) (w : World) (K : PySem.W.Frag) (mg : Str → Option Value) (base : Heap) : Prop := Has P w K mg base 5 "_law_joined_row" ["_law_base", "_law_one", "_law_other"] (sp_l_joined_row)
theorem has_l_joined_row {P : Program} {w : World} {K : PySem.W.Frag} {mg : Str → Option Value} {base : Heap} (B : Gs mg) (F : DefAt K mg "_law_joined_row" st_l_joined_row) (G_l_joined : H_l_joined P w K mg base) (G_l_where_clash : H_l_where_clash P w K mg base)  : H_l_joined_row P w K mg base :=
  F.hasG sc_l_joined_row (fun _ _ _ _ _ _ us hl => match us, hl with | [_, _, _], _ => rfl) (fun _ => rfl) fun f cdv A outer s H E hr => by
    have hu := room64 hr
    have hu1 := hu_of hr
    refine ⟨_, (pss_cons (ps_if (PW.pt (pw_or (pt_cmpR (op_eqK (K := K) rfl hu) (pv 1) (pv 2) (nomark _)) (pw_or1 (pt_cmpR (op_eqK (K := K) rfl hu) (pv 2) (pv 0) (nomark _)))))
        (pss_one (ps_ret (pv 1)))
        pss_nil)
      (pss_cons (ps_if (pt_cmpR (op_eqK (K := K) rfl hu) (pv 1) (pv 0) (nomark _))
        (pss_one (ps_ret (pv 2)))
        pss_nil)
      (pss_cons (ps_if (pt_cmpR (op_inK (K := K) rfl hu) pe_non (pe_tup (pa_cons (pe_ix (ix_seqK (K := K) rfl) (pv 1) pe_int (fun _ _ => rfl)) (pa_cons (pe_ix (ix_seqK (K := K) rfl) (pv 2) pe_int (fun _ _ => rfl)) pa_nil))) rfl)
        (pss_cons (ps_set (i := 4) sc_l_joined_row.nd rfl (Or.inl rfl) (pe_ix (ix_seqK (K := K) rfl) (pe_lc (own := [("_law_row_here", 3)]) (g := gName 3) rfl sc_l_joined_row.nd (pi_tup (pe_tup (pa_cons (pv 1) (pa_cons (pv 2) pa_nil)))) (blkOk_by (own := [("_law_row_here", 3)]) (N := N_l_joined_row) (sc := defScope st_l_joined_row) (by decide +kernel)) (fun _ _ _ _ _ => (pg_name (i := 3) sc_l_joined_row.nd rfl (Or.inl rfl))) (fun _ _ _ _ _ => (pts_one (pt_cmpR op_notNA (pe_ix (ix_seqK (K := K) rfl) (pv 3) pe_int (fun _ _ => rfl)) pe_non (nomark _)))) (fun _ _ _ _ _ => (pv 3))) pe_int (fun _ _ => rfl)))
        (pss_one (ps_ret (pe_tup (pa_cons (pe_has G_l_where_clash hr (by decide) (by rfl) (pa_cons (pe_ix (ix_seqK (K := K) rfl) (pv 0) pe_int (fun _ _ => rfl)) (pa_cons pe_non (pa_cons (pe_ix (ix_seqK (K := K) rfl) (pv 4) pe_int (fun _ _ => rfl)) pa_nil)))) (pa_cons (pe_ix (ix_seqK (K := K) rfl) (pv 4) pe_int (fun _ _ => rfl)) pa_nil))))))
        pss_nil)
      (pss_cons (ps_set (i := 5) sc_l_joined_row.nd rfl (Or.inl rfl) (pe_has G_l_where_clash hr (by decide) (by rfl) (pa_cons (pe_ix (ix_seqK (K := K) rfl) (pv 0) pe_int (fun _ _ => rfl)) (pa_cons (pe_ix (ix_seqK (K := K) rfl) (pv 1) pe_int (fun _ _ => rfl)) (pa_cons (pe_ix (ix_seqK (K := K) rfl) (pv 2) pe_int (fun _ _ => rfl)) pa_nil)))))
      (pss_cons (ps_if (PW.pt (pw_or (pt_cmpR (op_eqK (K := K) rfl hu) (pe_ix (ix_seqK (K := K) rfl) (pv 1) pe_int (fun _ _ => rfl)) (pe_ix (ix_seqK (K := K) rfl) (pv 2) pe_int (fun _ _ => rfl)) (nomark _)) (pw_or1 (pt_cmpR (op_eqK (K := K) rfl hu) (pe_ix (ix_seqK (K := K) rfl) (pv 2) pe_int (fun _ _ => rfl)) (pe_ix (ix_seqK (K := K) rfl) (pv 0) pe_int (fun _ _ => rfl)) (nomark _)))))
        (pss_one (ps_set (i := 5) sc_l_joined_row.nd rfl (Or.inl rfl) (pe_ix (ix_seqK (K := K) rfl) (pv 1) pe_int (fun _ _ => rfl))))
        (pss_one (ps_if (pt_cmpR (op_eqK (K := K) rfl hu) (pe_ix (ix_seqK (K := K) rfl) (pv 1) pe_int (fun _ _ => rfl)) (pe_ix (ix_seqK (K := K) rfl) (pv 0) pe_int (fun _ _ => rfl)) (nomark _))
          (pss_one (ps_set (i := 5) sc_l_joined_row.nd rfl (Or.inl rfl) (pe_ix (ix_seqK (K := K) rfl) (pv 2) pe_int (fun _ _ => rfl))))
          pss_nil)))
      (pss_one (ps_ret (pe_tup (pa_cons (pv 5) (pa_cons (pe_has G_l_joined hr (by decide) (by rfl) (pa_cons (pe_ix (ix_seqK (K := K) rfl) (pv 0) pe_int (fun _ _ => rfl)) (pa_cons (pe_ix (ix_seqK (K := K) rfl) (pv 1) pe_int (fun _ _ => rfl)) (pa_cons (pe_ix (ix_seqK (K := K) rfl) (pv 2) pe_int (fun _ _ => rfl)) pa_nil)))) pa_nil)))))))))), fun x hp H R q => ?_⟩
    obtain ⟨b, o, p⟩ := x
    dsimp only at hp q ⊢
    obtain ⟨⟨hb, ho, hp⟩, hsym⟩ := hp
    have db := hb.dep
    have dob := ho.dep
    have dp := hp.dep
    have dwb := where_dep hb.w
    have dwo := where_dep ho.w
    have dwp := where_dep hp.w
    refine s_seq (s_if (b := decide (o = p) || decide (p = b)) (t_or (t_cB (x_eq (x_vd rfl) (x_vd rfl) (by omega)) (Rw.dec _ _)) fun _ => t_cB (x_eq (x_vd rfl) (x_vd rfl) (by omega)) (Rw.dec _ _)) (fun hd => ?_) (fun hd => s_next ?_))
    · simp only [Bool.or_eq_true, decide_eq_true_eq] at hd
      exact r_De q (x_vd rfl) (by unfold joinR; rw [if_pos hd])
    simp only [Bool.or_eq_false_iff, decide_eq_false_iff_not] at hd
    have hn : ¬ (o = p ∨ p = b) := fun z => z.elim hd.1 hd.2
    refine s_seq (s_if (b := decide (o = b)) (t_cB (x_eq (x_vd rfl) (x_vd rfl) (by omega)) (Rw.dec _ _)) (fun hd2 => ?_) (fun hd2 => s_next ?_))
    · have hd2 := of_decide_eq_true hd2
      exact r_De q (x_vd rfl) (by unfold joinR; rw [if_neg hn, if_pos hd2])
    have hd2 := of_decide_eq_false hd2
    have hnn : ¬ (o.w = .non ∧ p.w = .non) := fun z => hn (.inl (Rw.ext (z.1.trans z.2.symm) ((ho.n z.1).trans (hp.n z.2).symm)))
    have hlc : EvN H [SV.dat b.d, SV.dat o.d, SV.dat p.d, .no, .no, .no] (tLc (iTup K (tTup (tCons (tVar 1) (tCons (tVar 2) tNil)))) (gName 3) (tTest (tOp rNotNA (tOp (rIx K) (tVar 3) (tC (.int 0))) (tC .non))) (tVar 3) [3]) ((([o.d, p.d].filter fun d => match d with | .tup [w, _] => !decide (w = .non) | _ => false)).map id) := n_lcT (xs := [o.d, p.d]) (fun d => match d with | .tup [w, _] => !decide (w = .non) | _ => false) id (x_tup (d_cons (x_vd rfl) (d_cons (x_vd rfl) d_nil)) (sz 2 rfl)) (by simp) fun i d hd => by
      have hpd : ∃ r : Rw, d = r.d := by
        have := List.mem_of_getElem? hd
        simp at this
        rcases this with rfl | rfl
        · exact ⟨_, rfl⟩
        · exact ⟨_, rfl⟩
      obtain ⟨r, rfl⟩ := hpd
      exact ⟨_, _, g_name, by simp, t_cB (x_notN (x_ixT (x_vd rfl) x_ci (k := 0) rfl rfl) x_cn) rfl, fun _ => x_vd rfl⟩
    refine s_seq (s_if (b := decide (o.w = .non) || decide (p.w = .non)) (t_cB (x_inT x_cn (x_tup (d_cons (x_ixT (x_vd rfl) x_ci (k := 0) rfl rfl) (d_cons (x_ixT (x_vd rfl) x_ci (k := 0) rfl rfl) d_nil)) (sz 2 rfl)) (by simp [D.dep, D.deps])) ?_) (fun hd3 => ?_) (fun hd3 => s_next ?_))
    · simp only [List.mem_cons, List.not_mem_nil, or_false]
      rw [← Bool.decide_or]
      exact decide_eq_decide.mpr ⟨fun h => h.imp Eq.symm Eq.symm, fun h => h.imp Eq.symm Eq.symm⟩
    · simp only [Bool.or_eq_true, decide_eq_true_eq] at hd3
      rcases hd3 with h3 | h3
      · have h4 : p.w ≠ .non := fun z => hnn ⟨h3, z⟩
        refine s_seq (s_asg (x_ixL (ds := [p.d]) (EvN.x (EvN.is hlc (by simp [h3, h4]))) x_ci (k := 0) rfl rfl) ?_)
        exact r_De q (x_tup (d_cons (x_callD (b.w, .non, p.w) (a_cons (x_ixT (x_vd rfl) x_ci (k := 0) rfl rfl) (a_cons x_cn (a_cons (x_ixT (x_vd rfl) x_ci (k := 0) rfl rfl) a_nil))) ⟨.inl (.inl rfl), hp.w⟩ rfl) (d_cons (x_ixT (x_vd rfl) x_ci (k := 1) rfl rfl) d_nil)) (sz 2 rfl)) (by unfold joinR; rw [if_neg hn, if_neg hd2, if_pos h3])
      · have h4 : o.w ≠ .non := fun z => hnn ⟨z, h3⟩
        refine s_seq (s_asg (x_ixL (ds := [o.d]) (EvN.x (EvN.is hlc (by simp [h3, h4]))) x_ci (k := 0) rfl rfl) ?_)
        exact r_De q (x_tup (d_cons (x_callD (b.w, .non, o.w) (a_cons (x_ixT (x_vd rfl) x_ci (k := 0) rfl rfl) (a_cons x_cn (a_cons (x_ixT (x_vd rfl) x_ci (k := 0) rfl rfl) a_nil))) ⟨.inl (.inl rfl), ho.w⟩ rfl) (d_cons (x_ixT (x_vd rfl) x_ci (k := 1) rfl rfl) d_nil)) (sz 2 rfl)) (by unfold joinR; rw [if_neg hn, if_neg hd2, if_neg h4, if_pos h3, ← hsym h3 h4])
    simp only [Bool.or_eq_false_iff, decide_eq_false_iff_not] at hd3
    refine s_seq (s_asg (x_callD (b.w, o.w, p.w) (a_cons (x_ixT (x_vd rfl) x_ci (k := 0) rfl rfl) (a_cons (x_ixT (x_vd rfl) x_ci (k := 0) rfl rfl) (a_cons (x_ixT (x_vd rfl) x_ci (k := 0) rfl rfl) a_nil))) ⟨ho.w, hp.w⟩ rfl) ?_)
    have fin : ∀ {H2 : Hp} {S2 : List SV} {wv : D} {tt : TE}, Same H H2 → S2 = [SV.dat b.d, SV.dat o.d, SV.dat p.d, .no, .no, .dat wv] → wv = joinW b.w o.w p.w → ExS H2 R (tRet (tTup (tCons (tVar 5) (tCons (tCall sp_l_joined [] E0 (tCons (tOp (rIx K) (tVar 0) (tC (.int 1))) (tCons (tOp (rIx K) (tVar 1) (tC (.int 1))) (tCons (tOp (rIx K) (tVar 2) (tC (.int 1))) tNil)))) tNil)))) S2 (fun _ _ => False) := fun {H2 S2 wv tt} e hS hw => by
      subst hS hw
      exact r_De (q.up e) (x_tup (d_cons (x_vd rfl) (d_cons (x_callD (b.i, o.i, p.i) (a_cons (x_ixT (x_vd rfl) x_ci (k := 1) rfl rfl) (a_cons (x_ixT (x_vd rfl) x_ci (k := 1) rfl rfl) (a_cons (x_ixT (x_vd rfl) x_ci (k := 1) rfl rfl) a_nil))) ⟨hb.i, ho.i, hp.i⟩ rfl) d_nil)) (sz 2 rfl)) (by unfold joinR; rw [if_neg hn, if_neg hd2, if_neg hd3.1, if_neg hd3.2])
    refine s_seq (s_if (b := decide (o.w = p.w) || decide (p.w = b.w)) (t_or (t_cmp (x_eq (x_ixT (x_vd rfl) x_ci (k := 0) rfl rfl) (x_ixT (x_vd rfl) x_ci (k := 0) rfl rfl) (by omega))) fun _ => t_cmp (x_eq (x_ixT (x_vd rfl) x_ci (k := 0) rfl rfl) (x_ixT (x_vd rfl) x_ci (k := 0) rfl rfl) (by omega))) (fun hd5 => ?_) (fun hd5 => ?_))
    · simp only [Bool.or_eq_true, decide_eq_true_eq] at hd5
      refine s_asg (x_ixT (x_vd rfl) x_ci (k := 0) rfl rfl) (fin (tt := tVar 0) (Same.refl H) rfl ?_)
      unfold joinW
      rw [if_pos hd5]
    · simp only [Bool.or_eq_false_iff, decide_eq_false_iff_not] at hd5
      have hn5 : ¬ (o.w = p.w ∨ p.w = b.w) := fun z => z.elim hd5.1 hd5.2
      refine s_if (b := decide (o.w = b.w)) (t_cmp (x_eq (x_ixT (x_vd rfl) x_ci (k := 0) rfl rfl) (x_ixT (x_vd rfl) x_ci (k := 0) rfl rfl) (by omega))) (fun hd6 => ?_) (fun hd6 => s_next ?_)
      · have hd6 := of_decide_eq_true hd6
        refine s_asg (x_ixT (x_vd rfl) x_ci (k := 0) rfl rfl) (fin (tt := tVar 0) (Same.refl H) rfl ?_)
        unfold joinW
        rw [if_neg hn5, if_pos hd6]
      · have hd6 := of_decide_eq_false hd6
        refine fin (tt := tVar 0) (Same.refl H) rfl ?_
        unfold joinW
        rw [if_neg hn5, if_neg hd6]
/-! _law_touch: slots 0 _law_base  1 _law_one  2 _law_other  3 _law_cut  4 _law_beside   -/
abbrev st_l_touch : Stmt := topS 66
abbrev N_l_touch : List Str := ["_law_base", "_law_one", "_law_other", "_law_cut", "_law_beside"]
theorem sc_l_touch : FnScope N_l_touch ["_law_base", "_law_one", "_law_other"] (defScope st_l_touch) := ⟨rfl, rfl, rfl, by decide +kernel, rfl, by decide +kernel, by decide +kernel⟩
abbrev sp_l_touch : Sp := SpG (α := Rw × Rw × Rw) (fun x => [.dat x.1.d, .dat x.2.1.d, .dat x.2.2.d]) (fun x => RowV x.1 ∧ RowV x.2.1 ∧ RowV x.2.2) (fun x => RV (.bl (touchR x.1 x.2.1 x.2.2)))
abbrev H_l_touch (P : Program) (w : World) (K : PySem.W.Frag) (mg : Str → Option Value) (base : Heap) : Prop := Has P w K mg base 3 "_law_touch" ["_law_base", "_law_one", "_law_other"] (sp_l_touch)
theorem has_l_touch {P : Program} {w : World} {K : PySem.W.Frag} {mg : Str → Option Value} {base : Heap} (B : Gs mg) (F : DefAt K mg "_law_touch" st_l_touch) (G_l_cuts : H_l_cuts P w K mg base)  : H_l_touch P w K mg base :=
  F.hasG sc_l_touch (fun _ _ _ _ _ _ us hl => match us, hl with | [_, _, _], _ => rfl) (fun _ => rfl) fun f cdv A outer s H E hr => by
    have hu := room64 hr
    have hu1 := hu_of hr
    refine ⟨_, (pss_cons (ps_if (PW.pt (pw_or (pt_cmpR (op_eqK (K := K) rfl hu) (pv 1) (pv 0) (nomark _)) (pw_or1 (pt_cmpR (op_eqK (K := K) rfl hu) (pv 2) (pv 0) (nomark _)))))
        (pss_one (ps_ret pe_bl))
        pss_nil)
      (pss_cons (ps_if (PW.pt (pw_or (pt_cmpR (op_inK (K := K) rfl hu) pe_non (pe_tup (pa_cons (pe_ix (ix_seqK (K := K) rfl) (pv 0) pe_int (fun _ _ => rfl)) (pa_cons (pe_ix (ix_seqK (K := K) rfl) (pv 1) pe_int (fun _ _ => rfl)) (pa_cons (pe_ix (ix_seqK (K := K) rfl) (pv 2) pe_int (fun _ _ => rfl)) pa_nil)))) rfl) (pw_or1 (PW.pt (pw_and (pt_cmpR (op_neK (K := K) rfl hu) (pe_ix (ix_seqK (K := K) rfl) (pv 1) pe_int (fun _ _ => rfl)) (pe_ix (ix_seqK (K := K) rfl) (pv 0) pe_int (fun _ _ => rfl)) (nomark _)) (pw_and1 (pt_cmpR (op_neK (K := K) rfl hu) (pe_ix (ix_seqK (K := K) rfl) (pv 2) pe_int (fun _ _ => rfl)) (pe_ix (ix_seqK (K := K) rfl) (pv 0) pe_int (fun _ _ => rfl)) (nomark _))))))))
        (pss_one (ps_ret pe_bl))
        pss_nil)
      (pss_cons (ps_for PassesOwn.never rfl (pi_list (pe_has G_l_cuts hr (by decide) (by rfl) (pa_cons (pe_ix (ix_seqK (K := K) rfl) (pv 0) pe_int (fun _ _ => rfl)) (pa_cons (pe_ix (ix_seqK (K := K) rfl) (pv 1) pe_int (fun _ _ => rfl)) pa_nil)))) (pg_name (i := 3) sc_l_touch.nd rfl (Or.inl rfl))
        (pss_one (ps_for PassesOwn.never rfl (pi_list (pe_has G_l_cuts hr (by decide) (by rfl) (pa_cons (pe_ix (ix_seqK (K := K) rfl) (pv 0) pe_int (fun _ _ => rfl)) (pa_cons (pe_ix (ix_seqK (K := K) rfl) (pv 2) pe_int (fun _ _ => rfl)) pa_nil)))) (pg_name (i := 4) sc_l_touch.nd rfl (Or.inl rfl))
          (pss_one (ps_if (PW.pt (pw_and (pt_cmpR op_le (pe_ix (ix_seqK (K := K) rfl) (pv 3) pe_int (fun _ _ => rfl)) (pe_op (op_addK (K := K) rfl) (pe_ix (ix_seqK (K := K) rfl) (pv 4) pe_int (fun _ _ => rfl)) (pe_callB (call_lenK (K := K) rfl) (by rfl) B.len b_len (pa_cons (pe_ix (ix_seqK (K := K) rfl) (pv 4) pe_int (fun _ _ => rfl)) pa_nil))) (nomark _)) (pw_and1 (pt_cmpR op_le (pe_ix (ix_seqK (K := K) rfl) (pv 4) pe_int (fun _ _ => rfl)) (pe_op (op_addK (K := K) rfl) (pe_ix (ix_seqK (K := K) rfl) (pv 3) pe_int (fun _ _ => rfl)) (pe_callB (call_lenK (K := K) rfl) (by rfl) B.len b_len (pa_cons (pe_ix (ix_seqK (K := K) rfl) (pv 3) pe_int (fun _ _ => rfl)) pa_nil))) (nomark _)))))
            (pss_one (ps_ret pe_bl))
            pss_nil)))))
      (pss_one (ps_ret pe_bl))))), fun x hp H R q => ?_⟩
    obtain ⟨b, o, p⟩ := x
    dsimp only at hp q ⊢
    obtain ⟨hb, ho, hp⟩ := hp
    have db := hb.dep
    have dob := ho.dep
    have dp := hp.dep
    have dwb := where_dep hb.w
    have dwo := where_dep ho.w
    have dwp := where_dep hp.w
    have lb := hb.i.2
    have lo := ho.i.2
    have lp := hp.i.2
    have tt : ∀ {X : Rp}, Gives H X R → Gives H X R := id
    refine s_seq (s_if (b := decide (o = b) || decide (p = b)) (t_or (t_cB (x_eq (x_vd rfl) (x_vd rfl) (by omega)) (Rw.dec _ _)) fun _ => t_cB (x_eq (x_vd rfl) (x_vd rfl) (by omega)) (Rw.dec _ _)) (fun hd => ?_) (fun hd => s_next ?_))
    · simp only [Bool.or_eq_true, decide_eq_true_eq] at hd
      exact r_B q x_cb (by unfold touchR; rw [if_pos hd])
    simp only [Bool.or_eq_false_iff, decide_eq_false_iff_not] at hd
    have hn : ¬ (o = b ∨ p = b) := fun z => z.elim hd.1 hd.2
    refine s_seq (s_if (b := decide ((b.w = .non ∨ o.w = .non ∨ p.w = .non) ∨ (o.w ≠ b.w ∧ p.w ≠ b.w))) (t_is (t_or (a := decide (b.w = .non ∨ o.w = .non ∨ p.w = .non)) (b := !decide (o.w = b.w) && !decide (p.w = b.w)) (t_cB (x_inT x_cn (x_tup (d_cons (x_ixT (x_vd rfl) x_ci (k := 0) rfl rfl) (d_cons (x_ixT (x_vd rfl) x_ci (k := 0) rfl rfl) (d_cons (x_ixT (x_vd rfl) x_ci (k := 0) rfl rfl) d_nil))) (sz 3 rfl)) (by simp [D.dep, D.deps])) ?_) fun _ => t_and (t_cmp (x_ne (x_ixT (x_vd rfl) x_ci (k := 0) rfl rfl) (x_ixT (x_vd rfl) x_ci (k := 0) rfl rfl) (by omega))) fun _ => t_cmp (x_ne (x_ixT (x_vd rfl) x_ci (k := 0) rfl rfl) (x_ixT (x_vd rfl) x_ci (k := 0) rfl rfl) (by omega))) ?_) (fun hd2 => ?_) (fun hd2 => s_next ?_))
    · simp only [List.mem_cons, List.not_mem_nil, or_false]
      exact decide_eq_decide.mpr ⟨fun h => h.imp Eq.symm (Or.imp Eq.symm Eq.symm), fun h => h.imp Eq.symm (Or.imp Eq.symm Eq.symm)⟩
    · exact bool_mix _ _ _
    · have hd2 := of_decide_eq_true hd2
      exact r_B q x_cb (by unfold touchR; rw [if_neg hn, if_pos hd2])
    have hd2 := of_decide_eq_false hd2
    have hval : touchR b o p = (chg b.i o.i).any fun c => (chg b.i p.i).any fun d => tch c d := by
      unfold touchR
      rw [if_neg hn, if_neg hd2]
    refine s_seq (s_forN (xs := cutsD (chg b.i o.i)) (js := [3]) (n_callN (b.i, o.i) (a_cons (x_ixT (x_vd rfl) x_ci (k := 1) rfl rfl) (a_cons (x_ixT (x_vd rfl) x_ci (k := 1) rfl rfl) a_nil)) ⟨hb.i.low, ho.i.low, Nat.le_trans lb (by decide), Nat.le_trans lo (by decide)⟩ rfl) (fun i S' => ∃ u v, S' = [.dat b.d, .dat o.d, .dat p.d, u, v] ∧ (((chg b.i o.i).take i).any fun c => (chg b.i p.i).any fun d => tch c d) = false) ⟨_, _, rfl, rfl⟩ ?_ ?_)
    · rintro H1 e1 i c' S' hc ⟨u, v, rfl, h1⟩
      rw [List.getElem?_map] at hc
      obtain ⟨c, hc2, rfl⟩ := Option.map_eq_some_iff.mp hc
      refine ⟨_, g_name, ?_⟩
      refine s_forN (xs := cutsD (chg b.i p.i)) (js := [4]) (n_callN (b.i, p.i) (a_cons (x_ixT (x_vd rfl) x_ci (k := 1) rfl rfl) (a_cons (x_ixT (x_vd rfl) x_ci (k := 1) rfl rfl) a_nil)) ⟨hb.i.low, hp.i.low, Nat.le_trans lb (by decide), Nat.le_trans lp (by decide)⟩ rfl) (fun j S' => ∃ v, S' = [.dat b.d, .dat o.d, .dat p.d, .dat c.d, v] ∧ (((chg b.i p.i).take j).any fun d => tch c d) = false) ⟨_, rfl, rfl⟩ ?_ ?_
      · rintro H2 e2 j d' S' hd' ⟨v, rfl, h2⟩
        rw [List.getElem?_map] at hd'
        obtain ⟨d, hd3, rfl⟩ := Option.map_eq_some_iff.mp hd'
        refine ⟨_, g_name, s_if (b := tch c d) (t_is (t_and (a := decide (c.a ≤ d.e)) (b := decide (d.a ≤ c.e)) (t_cB (x_le (x_ixT (x_vd rfl) x_ci (k := 0) rfl rfl) (x_addI (x_ixT (x_vd rfl) x_ci (k := 0) rfl rfl) (x_lenT (x_ixT (x_vd rfl) x_ci (k := 1) rfl rfl)))) ?_) fun _ => t_cB (x_le (x_ixT (x_vd rfl) x_ci (k := 0) rfl rfl) (x_addI (x_ixT (x_vd rfl) x_ci (k := 0) rfl rfl) (x_lenT (x_ixT (x_vd rfl) x_ci (k := 1) rfl rfl)))) ?_) rfl) (fun ht => ?_) (fun ht => s_next ?_)⟩
        · simp only [Cut.e, ← Int.natCast_add, Int.ofNat_le]
        · simp only [Cut.e, ← Int.natCast_add, Int.ofNat_le]
        · refine r_B (q.upV (e1.trans e2)) x_cb ?_
          rw [hval]
          exact (List.any_eq_true.mpr ⟨c, List.mem_of_getElem? hc2, List.any_eq_true.mpr ⟨d, List.mem_of_getElem? hd3, ht⟩⟩).symm
        · refine ⟨_, rfl, ?_⟩
          rw [List.take_add_one, hd3, List.any_append, h2]
          simp [ht]
      · rintro H2 e2 S' ⟨v, rfl, h2⟩
        refine ⟨_, _, rfl, ?_⟩
        rw [List.length_map, List.take_length] at h2
        rw [List.take_add_one, hc2, List.any_append, h1]
        simpa using h2
    · rintro H1 e1 S' ⟨u, v, rfl, h1⟩
      rw [List.length_map, List.take_length] at h1
      exact r_B (q.upV e1) x_cb (by rw [hval, h1])
end Mw
-- part MwR6
set_option maxHeartbeats 4000000
namespace Mw
open PySem PySem.Spec PyProof.Rows L2
theorem decS (a b : Str) : decide (D.str a = D.str b) = decide (a = b) := by
  by_cases h : a = b
  · rw [h, decide_eq_true rfl, decide_eq_true rfl]
  · rw [decide_eq_false h, decide_eq_false (fun z => h (D.str.inj z))]
theorem depS (a : Str) (e : D) : min (D.str a).dep e.dep ≤ 60 := by simp [D.dep]
theorem dep_nilT (n : Nat) : min n (D.tup []).dep ≤ 60 := by
  have : (D.tup []).dep = 1 := by simp [D.dep, D.deps]
  omega
/-! row_of: slots 0 stand  1 root  2 one  3 where  4 items   -/
abbrev st_row_of : Stmt := topS 24
abbrev N_row_of : List Str := ["stand", "root", "one", "where", "items"]
theorem sc_row_of : FnScope N_row_of ["stand", "root"] (defScope st_row_of) := ⟨rfl, rfl, rfl, by decide +kernel, rfl, by decide +kernel, by decide +kernel⟩
abbrev sp_row_of : Sp := SpG (α := Stand × Str) (fun x => [.dat (.tup (standD x.1)), .dat (.str x.2)]) (fun _ => True) (fun x => RD (rowOf x.1 x.2).d)
abbrev H_row_of (P : Program) (w : World) (K : PySem.W.Frag) (mg : Str → Option Value) (base : Heap) : Prop := Has P w K mg base 1 "row_of" ["stand", "root"] (sp_row_of)
theorem has_row_of {P : Program} {w : World} {K : PySem.W.Frag} {mg : Str → Option Value} {base : Heap} (B : Gs mg) (F : DefAt K mg "row_of" st_row_of)   : H_row_of P w K mg base :=
  F.hasG sc_row_of (fun _ _ _ _ _ _ us hl => match us, hl with | [_, _], _ => rfl) (fun _ => rfl) fun f cdv A outer s H E hr => by
    have hu := room64 hr
    have hu1 := hu_of hr
    refine ⟨_, (pss_cons (ps_for PassesOwn.never rfl (pi_tup (pv 0)) (pg_tup (by rfl) (pgs_cons (pg_name (i := 2) sc_row_of.nd rfl (Or.inl rfl)) (pgs_cons (pg_name (i := 3) sc_row_of.nd rfl (Or.inl rfl)) (pgs_cons (pg_name (i := 4) sc_row_of.nd rfl (Or.inl rfl)) pgs_nil))))
        (pss_one (ps_if (pt_cmpR (op_eqK (K := K) rfl hu) (pv 2) (pv 1) (nomark _))
          (pss_one (ps_ret (pe_tup (pa_cons (pv 3) (pa_cons (pv 4) pa_nil)))))
          pss_nil)))
      (pss_one (ps_ret (pe_tup (pa_cons pe_non (pa_cons (pe_tup pa_nil) pa_nil)))))), fun x hp H R q => ?_⟩
    obtain ⟨s, k⟩ := x
    dsimp only at q ⊢
    refine s_seq (s_forT (xs := standD s) (js := [2, 3, 4]) (x_vd rfl) (fun i S' => ∃ u v w, S' = [.dat (.tup (standD s)), .dat (.str k), u, v, w] ∧ rowOf s k = rowOf (s.drop i) k) ⟨_, _, _, rfl, rfl⟩ ?_ ?_)
    · rintro H1 e1 i d S' hd ⟨u, v, w, rfl, h1⟩
      unfold standD at hd
      rw [List.getElem?_map] at hd
      obtain ⟨p, hp2, rfl⟩ := Option.map_eq_some_iff.mp hd
      rw [drop_get hp2, rowOf] at h1
      refine ⟨_, g_tup (ds := [.str p.1, p.2.w, .tup p.2.i]) rfl rfl, ?_⟩
      refine s_if (b := decide (p.1 = k)) (t_cB (x_eq (x_vd rfl) (x_vd rfl) (depS _ _)) (decS _ _)) (fun h => ?_) (fun h => s_next ⟨_, _, _, rfl, ?_⟩)
      · have h := of_decide_eq_true h
        rw [if_pos h] at h1
        exact r_De (q.up e1) (x_tup (d_cons (x_vd rfl) (d_cons (x_vd rfl) d_nil)) (sz 2 rfl)) (by rw [h1])
      · have h := of_decide_eq_false h
        rw [if_neg h] at h1
        exact h1
    · rintro H1 e1 S' ⟨u, v, w, rfl, h1⟩
      unfold standD at h1
      rw [List.length_map, List.drop_length, rowOf] at h1
      exact r_De (q.up e1) (x_tup (d_cons x_cn (d_cons (x_tup d_nil (sz 0 rfl)) d_nil)) (sz 2 rfl)) (by rw [h1]; rfl)
/-! with_row: slots 0 stand  1 root*  2 where  3 items  4 row  5 rows   -/
abbrev st_with_row : Stmt := topS 25
abbrev N_with_row : List Str := ["stand", "root", "where", "items", "row", "rows"]
theorem sc_with_row : FnScope N_with_row ["stand", "root", "where", "items"] (defScope st_with_row) := ⟨rfl, rfl, rfl, by decide +kernel, rfl, by decide +kernel, by decide +kernel⟩
abbrev sp_with_row : Sp := SpG (α := Stand × Str × Rw) (fun x => [.dat (.tup (standD x.1)), .dat (.str x.2.1), .dat x.2.2.w, .dat (.tup x.2.2.i)]) (fun x => Ris (keys x.1) ∧ x.1.length ≤ 1000) (fun x => RD (.tup (standD (withRow x.1 x.2.1 x.2.2))))
abbrev H_with_row (P : Program) (w : World) (K : PySem.W.Frag) (mg : Str → Option Value) (base : Heap) : Prop := Has P w K mg base 3 "with_row" ["stand", "root", "where", "items"] (sp_with_row)
theorem has_with_row {P : Program} {w : World} {K : PySem.W.Frag} {mg : Str → Option Value} {base : Heap} (B : Gs mg) (F : DefAt K mg "with_row" st_with_row)  (D_root : DefAt K mg "root_of" st_root_of) : H_with_row P w K mg base :=
  F.hasG sc_with_row (fun _ _ _ _ _ _ us hl => match us, hl with | [_, _, _, _], _ => rfl) (fun _ => rfl) fun f cdv A outer s H E hr => by
    have hu := room64 hr
    have hu1 := hu_of hr
    obtain ⟨f_root, fd_root, m_root, F_root⟩ := D_root
    refine ⟨_, (pss_cons (ps_setLc (i := 5) (own := [("row", 4)]) (g := gName 4) rfl sc_with_row.nd rfl rfl (sw_true rfl rfl rfl (by decide +kernel)) (pi_tup (pv 0)) (blkOk_by (own := [("row", 4)]) (N := N_with_row) (sc := defScope st_with_row) (by decide +kernel)) (fun _ _ _ _ _ => (pg_name (i := 4) sc_with_row.nd rfl (Or.inl rfl))) (fun _ _ _ _ _ => (pts_one (pt_cmpR (op_neK (K := K) rfl hu) (pe_ix (ix_seqK (K := K) rfl) (pv 4) pe_int (fun _ _ => rfl)) (pv 1) (nomark _)))) (fun _ _ _ _ _ => (pv 4)))
      (pss_cons (ps_if (pt_cmpR op_notNA (pv 2) pe_non (nomark _))
        (pss_one (ps_expr (pe_bm PySem.F.plainAttrs_list PySem.F.slot_list_append PySem.F.type_list_append mt_append (pv 5) (pa_cons (pe_tup (pa_cons (pv 1) (pa_cons (pv 2) (pa_cons (pv 3) pa_nil)))) pa_nil))))
        pss_nil)
      (pss_one (ps_ret (pe_callTy (call_tupK (K := K) rfl) (by rfl) B.tuple b_tuple (pa_cons (pe_callBK (cr_sortedRow (K := K) rfl rfl hr F_root) (by rfl) B.sorted b_sorted (pa_cons (pv 5) pa_nil) (pk_cons (pe_glob (v := .ref f_root) (by rfl) m_root rfl) pk_nil)) pa_nil)))))), fun x hp H R q => ?_⟩
    obtain ⟨s, k, r⟩ := x
    dsimp only at hp q ⊢
    obtain ⟨hris, hz⟩ := hp
    have hz : s.length ≤ 1000 := hz
    have hfl : (s.filter fun p => !decide (p.1 = k)).length ≤ 1000 := Nat.le_trans (List.length_filter_le _ _) hz
    have hkd : ∀ s : Stand, ∀ d ∈ standD s, IsKeyed d := fun s d hd => by
      obtain ⟨p, _, rfl⟩ := List.mem_map.mp hd
      exact ⟨_, _, rfl⟩
    have hpw : ∀ s : Stand, Ris (keys s) → (standD s).Pairwise fun x y => ltS (ksD x) (ksD y) = true := fun s h => by
      unfold standD
      rw [List.pairwise_map]
      exact List.pairwise_map.mp h
    refine s_seq (s_asgN (EvN.is (n_lcT (xs := standD s) (fun d => match d with | .tup (.str a :: _) => !decide (a = k) | _ => false) id (x_vd rfl) (by unfold standD; rw [List.length_map]; omega) ?_) (?_ : _ = standD (s.filter fun p => !decide (p.1 = k)))) ?_)
    · intro i d hd
      unfold standD at hd
      rw [List.getElem?_map] at hd
      obtain ⟨p, hp2, rfl⟩ := Option.map_eq_some_iff.mp hd
      exact ⟨_, _, g_name, by simp, t_cB (x_ne (x_ixT (x_vd rfl) x_ci (k := 0) rfl rfl) (x_vd rfl) (depS _ _)) (by rw [decS]; rfl), fun _ => x_vd rfl⟩
    · unfold standD
      rw [List.map_id, List.filter_map]
      rfl
    refine s_seq (s_if (b := !decide (r.w = .non)) (t_cmp (x_notN (x_vd rfl) x_cn)) (fun h => ?_) (fun h => s_next ?_))
    · have h : r.w ≠ .non := by simpa using h
      refine s_app rfl (x_tup (d_cons (x_vd rfl) (d_cons (x_vd rfl) (d_cons (x_vd rfl) d_nil))) (sz 3 rfl)) (by unfold standD; rw [List.length_map, sizeLine_eq]; omega) ?_
      have e0 : withRow s k r = insS (k, r) (s.filter fun p => !decide (p.1 = k)) := by unfold withRow; rw [if_neg h]
      have hperm := (insS_perm (k, r) (s.filter fun p => !decide (p.1 = k))).map rowSD
      refine r_De q (x_tupL (EvN.x (n_sortedRow (es := standD (withRow s k r)) (x_vo rfl) ?_ ?_ (hpw _ (withRow_ris hris k r))))) rfl
      · intro d hd
        rcases List.mem_append.mp hd with z | z
        · exact hkd _ d z
        · rw [List.mem_singleton.mp z]
          exact ⟨_, _, rfl⟩
      · rw [e0]
        refine hperm.trans ?_
        rw [List.map_cons]
        exact (List.perm_append_singleton _ _).symm
    · have h : r.w = .non := by simpa using h
      have e0 : withRow s k r = s.filter fun p => !decide (p.1 = k) := by unfold withRow; rw [if_pos h]
      exact r_De q (x_tupL (EvN.x (n_sortedRow (es := standD (withRow s k r)) (x_vo rfl) (hkd _) (by rw [e0]) (hpw _ (withRow_ris hris k r))))) rfl
/-! joined_stand: slots 0 base  1 one  2 other  3 row  4 roots  5 found  6 root  7 where  8 items   -/
abbrev st_joined_stand : Stmt := topS 35
abbrev N_joined_stand : List Str := ["base", "one", "other", "row", "roots", "found", "root", "where", "items"]
theorem sc_joined_stand : FnScope N_joined_stand ["base", "one", "other"] (defScope st_joined_stand) := ⟨rfl, rfl, rfl, by decide +kernel, rfl, by decide +kernel, by decide +kernel⟩
abbrev sp_joined_stand : Sp := SpG (α := Stand × Stand × Stand) (fun x => [.dat (.tup (standD x.1)), .dat (.tup (standD x.2.1)), .dat (.tup (standD x.2.2))]) (fun x => (x.1.length ≤ 12 ∧ x.2.1.length ≤ 12 ∧ x.2.2.length ≤ 12) ∧ ∀ r, RowV (rowOf x.1 r) ∧ RowV (rowOf x.2.1 r) ∧ RowV (rowOf x.2.2 r)) (fun x => RD (.tup (standD (mkS (sortU (keys (x.1 ++ x.2.1 ++ x.2.2))) fun r => joinR (rowOf x.1 r) (rowOf x.2.1 r) (rowOf x.2.2 r)))))
abbrev H_joined_stand (P : Program) (w : World) (K : PySem.W.Frag) (mg : Str → Option Value) (base : Heap) : Prop := Has P w K mg base 10 "joined_stand" ["base", "one", "other"] (sp_joined_stand)
theorem has_joined_stand {P : Program} {w : World} {K : PySem.W.Frag} {mg : Str → Option Value} {base : Heap} (B : Gs mg) (F : DefAt K mg "joined_stand" st_joined_stand) (G_joined_row : H_joined_row P w K mg base) (G_row_of : H_row_of P w K mg base)  : H_joined_stand P w K mg base :=
  F.hasG sc_joined_stand (fun _ _ _ _ _ _ us hl => match us, hl with | [_, _, _], _ => rfl) (fun _ => rfl) fun f cdv A outer s H E hr => by
    have hu := room64 hr
    have hu1 := hu_of hr
    refine ⟨_, (pss_cons (ps_set (i := 4) sc_joined_stand.nd rfl (Or.inl rfl) (pe_sortedSet rfl (by rfl) B.sorted (by rfl) B.set b_sorted (pe_lc (own := [("row", 3)]) (g := gName 3) (tt := tYes) rfl sc_joined_stand.nd (pi_tup (pe_op (op_addK (K := K) rfl) (pe_op (op_addK (K := K) rfl) (pv 0) (pv 1)) (pv 2))) (blkOk_by (own := [("row", 3)]) (N := N_joined_stand) (sc := defScope st_joined_stand) (by decide +kernel)) (fun _ _ _ _ _ => (pg_name (i := 3) sc_joined_stand.nd rfl (Or.inl rfl))) (fun _ _ _ _ _ => pts_nil) (fun _ _ _ _ _ => (pe_ix (ix_seqK (K := K) rfl) (pv 3) pe_int (fun _ _ => rfl))))))
      (pss_cons (ps_set (i := 5) sc_joined_stand.nd rfl (Or.inl rfl) (pe_lst pa_nil))
      (pss_cons (ps_for PassesOwn.never rfl (pi_list (pv 4)) (pg_name (i := 6) sc_joined_stand.nd rfl (Or.inl rfl))
        (pss_cons (ps_asg (pe_has G_joined_row hr (by decide) (by rfl) (pa_cons (pe_has G_row_of hr (by decide) (by rfl) (pa_cons (pv 0) (pa_cons (pv 6) pa_nil))) (pa_cons (pe_has G_row_of hr (by decide) (by rfl) (pa_cons (pv 1) (pa_cons (pv 6) pa_nil))) (pa_cons (pe_has G_row_of hr (by decide) (by rfl) (pa_cons (pv 2) (pa_cons (pv 6) pa_nil))) pa_nil)))) (pg_tup (by rfl) (pgs_cons (pg_name (i := 7) sc_joined_stand.nd rfl (Or.inl rfl)) (pgs_cons (pg_name (i := 8) sc_joined_stand.nd rfl (Or.inl rfl)) pgs_nil))))
        (pss_one (ps_if (pt_cmpR op_notNA (pv 7) pe_non (nomark _))
          (pss_one (ps_expr (pe_bm PySem.F.plainAttrs_list PySem.F.slot_list_append PySem.F.type_list_append mt_append (pv 5) (pa_cons (pe_tup (pa_cons (pv 6) (pa_cons (pv 7) (pa_cons (pv 8) pa_nil)))) pa_nil))))
          pss_nil))))
      (pss_one (ps_ret (pe_callTy (call_tupK (K := K) rfl) (by rfl) B.tuple b_tuple (pa_cons (pv 5) pa_nil))))))), fun x hp H R q => ?_⟩
    obtain ⟨b, o, p⟩ := x
    dsimp only at hp q ⊢
    obtain ⟨⟨z1, z2, z3⟩, hv⟩ := hp
    have hkl : (keys (b ++ o ++ p)).length = b.length + o.length + p.length := by unfold keys; simp; omega
    have hsl : (sortU (keys (b ++ o ++ p))).length ≤ 36 := by
      have := sortU_len (keys (b ++ o ++ p))
      omega
    refine s_seq (s_asgN (n_sortedSet (ss := keys (b ++ o ++ p)) (EvN.x (EvN.is (n_lcTY (xs := standD b ++ standD o ++ standD p) (fun d => match d with | .tup (a :: _) => a | _ => .non) (x_addT (x_addT (x_vd rfl) (x_vd rfl) (sizeL (by unfold standD; simp; omega))) (x_vd rfl) (sizeL (by unfold standD; simp; omega))) (by unfold standD; simp; omega) ?_) ?_)) (by omega)) ?_)
    · intro i d hd
      have hm := List.mem_of_getElem? hd
      have : ∃ r : Str × Rw, d = rowSD r := by
        rw [List.mem_append, List.mem_append] at hm
        rcases hm with (hm | hm) | hm
        all_goals
          obtain ⟨r, _, rfl⟩ := List.mem_map.mp hm
          exact ⟨r, rfl⟩
      obtain ⟨r, rfl⟩ := this
      exact ⟨_, _, g_name, by simp, x_ixT (x_vd rfl) x_ci (k := 0) rfl rfl⟩
    · unfold standD keys
      rw [← List.map_append, ← List.map_append, List.map_map, List.map_map]
      rfl
    generalize hR : sortU (keys (b ++ o ++ p)) = Rs at hsl q ⊢
    refine s_seq (s_asgN (n_lst d_nil (sz 0 rfl)) ?_)
    refine s_seq (s_free (j := 4) rfl fun H1 e1 => ?_)
    refine s_forH (xs := Rs.map D.str) (js := [6]) rfl (fun i S' => ∃ u v w, S' = [.dat (.tup (standD b)), .dat (.tup (standD o)), .dat (.tup (standD p)), .no, .lst (Rs.map D.str), .own (standD (mkS (Rs.take i) fun r => joinR (rowOf b r) (rowOf o r) (rowOf p r))), u, v, w]) ⟨_, _, _, rfl⟩ ?_ ?_
    · rintro H2 e2 i d S' hd ⟨u, v, w, rfl⟩
      rw [List.getElem?_map] at hd
      obtain ⟨r, hr2, rfl⟩ := Option.map_eq_some_iff.mp hd
      obtain ⟨v1, v2, v3⟩ := hv r
      refine ⟨_, g_name, ?_⟩
      refine s_seq (s_asgG (x_callD (rowOf b r, rowOf o r, rowOf p r) (a_cons (x_callD (b, r) (a_cons (x_vd rfl) (a_cons (x_vd rfl) a_nil)) trivial rfl) (a_cons (x_callD (o, r) (a_cons (x_vd rfl) (a_cons (x_vd rfl) a_nil)) trivial rfl) (a_cons (x_callD (p, r) (a_cons (x_vd rfl) (a_cons (x_vd rfl) a_nil)) trivial rfl) a_nil))) ⟨v1, v2, v3⟩ rfl) (g_tup (js := [7, 8]) rfl rfl) ?_)
      have hml : (mkS (Rs.take i) fun r => joinR (rowOf b r) (rowOf o r) (rowOf p r)).length ≤ 36 := by
        unfold mkS
        rw [List.length_map]
        refine Nat.le_trans (List.length_filter_le _ _) ?_
        rw [List.length_take]
        omega
      refine s_if (b := !decide ((joinR (rowOf b r) (rowOf o r) (rowOf p r)).w = .non)) (t_cmp (x_notN (x_vd rfl) x_cn)) (fun h => ?_) (fun h => ?_)
      · have h : (joinR (rowOf b r) (rowOf o r) (rowOf p r)).w ≠ .non := by simpa using h
        refine s_app rfl (x_tup (d_cons (x_vd rfl) (d_cons (x_vd rfl) (d_cons (x_vd rfl) d_nil))) (sz 3 rfl)) (by unfold standD; rw [List.length_map, sizeLine_eq]; omega) ?_
        exact ⟨_, _, _, by rw [mkS_step _ hr2, if_neg h]; unfold standD; rw [List.map_append]; rfl⟩
      · have h : (joinR (rowOf b r) (rowOf o r) (rowOf p r)).w = .non := by simpa using h
        refine s_next ?_
        exact ⟨_, _, _, by rw [mkS_step _ hr2, if_pos h, List.append_nil]; rfl⟩
    · rintro H2 e2 S' ⟨u, v, w, rfl⟩
      rw [List.length_map, List.take_length]
      exact r_D (q.up (e1.trans e2)) (x_tupL (x_vo rfl))
/-! stand_change: slots 0 stand  1 other  2 deeds  3 row  4 root  5 old  6 items  7 new  8 others   -/
abbrev st_stand_change : Stmt := topS 37
abbrev N_stand_change : List Str := ["stand", "other", "deeds", "row", "root", "old", "items", "new", "others"]
theorem sc_stand_change : FnScope N_stand_change ["stand", "other"] (defScope st_stand_change) := ⟨rfl, rfl, rfl, by decide +kernel, rfl, by decide +kernel, by decide +kernel⟩
abbrev sp_stand_change : Sp := SpG (α := Stand × Stand) (fun x => [.dat (.tup (standD x.1)), .dat (.tup (standD x.2))]) (fun x => (x.1.length ≤ 12 ∧ x.2.length ≤ 12) ∧ ∀ r, RowV (rowOf x.1 r) ∧ RowV (rowOf x.2 r)) (fun x => RD (.tup ((deeds (sortU (keys (x.1 ++ x.2))) (rowOf x.1) (rowOf x.2)).map Deed.d)))
abbrev H_stand_change (P : Program) (w : World) (K : PySem.W.Frag) (mg : Str → Option Value) (base : Heap) : Prop := Has P w K mg base 4 "stand_change" ["stand", "other"] (sp_stand_change)
theorem has_stand_change {P : Program} {w : World} {K : PySem.W.Frag} {mg : Str → Option Value} {base : Heap} (B : Gs mg) (F : DefAt K mg "stand_change" st_stand_change) (G_change_of : H_change_of P w K mg base) (G_row_of : H_row_of P w K mg base)  : H_stand_change P w K mg base :=
  F.hasG sc_stand_change (fun _ _ _ _ _ _ us hl => match us, hl with | [_, _], _ => rfl) (fun _ => rfl) fun f cdv A outer s H E hr => by
    have hu := room64 hr
    have hu1 := hu_of hr
    refine ⟨_, (pss_cons (ps_set (i := 2) sc_stand_change.nd rfl (Or.inl rfl) (pe_lst pa_nil))
      (pss_cons (ps_for PassesOwn.never rfl (pi_list (pe_sortedSet rfl (by rfl) B.sorted (by rfl) B.set b_sorted (pe_lc (own := [("row", 3)]) (g := gName 3) (tt := tYes) rfl sc_stand_change.nd (pi_tup (pe_op (op_addK (K := K) rfl) (pv 0) (pv 1))) (blkOk_by (own := [("row", 3)]) (N := N_stand_change) (sc := defScope st_stand_change) (by decide +kernel)) (fun _ _ _ _ _ => (pg_name (i := 3) sc_stand_change.nd rfl (Or.inl rfl))) (fun _ _ _ _ _ => pts_nil) (fun _ _ _ _ _ => (pe_ix (ix_seqK (K := K) rfl) (pv 3) pe_int (fun _ _ => rfl)))))) (pg_name (i := 4) sc_stand_change.nd rfl (Or.inl rfl))
        (pss_cons (ps_asg (pe_has G_row_of hr (by decide) (by rfl) (pa_cons (pv 0) (pa_cons (pv 4) pa_nil))) (pg_tup (by rfl) (pgs_cons (pg_name (i := 5) sc_stand_change.nd rfl (Or.inl rfl)) (pgs_cons (pg_name (i := 6) sc_stand_change.nd rfl (Or.inl rfl)) pgs_nil))))
        (pss_cons (ps_asg (pe_has G_row_of hr (by decide) (by rfl) (pa_cons (pv 1) (pa_cons (pv 4) pa_nil))) (pg_tup (by rfl) (pgs_cons (pg_name (i := 7) sc_stand_change.nd rfl (Or.inl rfl)) (pgs_cons (pg_name (i := 8) sc_stand_change.nd rfl (Or.inl rfl)) pgs_nil))))
        (pss_one (ps_if (PW.pt (pw_or (pt_cmpR (op_neK (K := K) rfl hu) (pv 5) (pv 7) (nomark _)) (pw_or1 (pt_cmpR (op_neK (K := K) rfl hu) (pv 6) (pv 8) (nomark _)))))
          (pss_one (ps_expr (pe_bm PySem.F.plainAttrs_list PySem.F.slot_list_append PySem.F.type_list_append mt_append (pv 2) (pa_cons (pe_tup (pa_cons (pv 4) (pa_cons (pv 5) (pa_cons (pv 7) (pa_cons (pe_has G_change_of hr (by decide) (by rfl) (pa_cons (pv 6) (pa_cons (pv 8) pa_nil))) pa_nil))))) pa_nil))))
          pss_nil)))))
      (pss_one (ps_ret (pe_callTy (call_tupK (K := K) rfl) (by rfl) B.tuple b_tuple (pa_cons (pv 2) pa_nil)))))), fun x hp H R q => ?_⟩
    obtain ⟨b, o⟩ := x
    dsimp only at hp q ⊢
    obtain ⟨⟨z1, z2⟩, hv⟩ := hp
    have hkl : (keys (b ++ o)).length = b.length + o.length := by unfold keys; simp
    have hsl : (sortU (keys (b ++ o))).length ≤ 24 := by
      have := sortU_len (keys (b ++ o))
      omega
    refine s_seq (s_asgN (n_lst d_nil (sz 0 rfl)) ?_)
    refine s_seq (s_forN (xs := (sortU (keys (b ++ o))).map D.str) (js := [4]) (n_sortedSet (ss := keys (b ++ o)) (EvN.x (EvN.is (n_lcTY (xs := standD b ++ standD o) (fun d => match d with | .tup (a :: _) => a | _ => .non) (x_addT (x_vd rfl) (x_vd rfl) (sizeL (by unfold standD; simp; omega))) (by unfold standD; simp; omega) ?_) ?_)) (by omega)) (fun i S' => ∃ u1 u2 u3 u4 u5, S' = [.dat (.tup (standD b)), .dat (.tup (standD o)), .own ((deeds ((sortU (keys (b ++ o))).take i) (rowOf b) (rowOf o)).map Deed.d), .no, u1, u2, u3, u4, u5]) ⟨_, _, _, _, _, rfl⟩ ?_ ?_)
    · intro i d hd
      have hm := List.mem_of_getElem? hd
      have : ∃ r : Str × Rw, d = rowSD r := by
        rw [List.mem_append] at hm
        rcases hm with hm | hm
        all_goals
          obtain ⟨r, _, rfl⟩ := List.mem_map.mp hm
          exact ⟨r, rfl⟩
      obtain ⟨r, rfl⟩ := this
      exact ⟨_, _, g_name, by simp, x_ixT (x_vd rfl) x_ci (k := 0) rfl rfl⟩
    · unfold standD keys
      rw [← List.map_append, List.map_map, List.map_map]
      rfl
    · rintro H2 e2 i d S' hd ⟨u1, u2, u3, u4, u5, rfl⟩
      rw [List.getElem?_map] at hd
      obtain ⟨r, hr2, rfl⟩ := Option.map_eq_some_iff.mp hd
      obtain ⟨v1, v2⟩ := hv r
      have d1 := where_dep v1.w
      have d2 := where_dep v2.w
      have hml : (deeds ((sortU (keys (b ++ o))).take i) (rowOf b) (rowOf o)).length ≤ 24 := by
        unfold deeds
        rw [List.length_map]
        refine Nat.le_trans (List.length_filter_le _ _) ?_
        rw [List.length_take]
        omega
      refine ⟨_, g_name, ?_⟩
      refine s_seq (s_asgG (x_callD (b, r) (a_cons (x_vd rfl) (a_cons (x_vd rfl) a_nil)) trivial rfl) (g_tup (js := [5, 6]) rfl rfl) ?_)
      refine s_seq (s_asgG (x_callD (o, r) (a_cons (x_vd rfl) (a_cons (x_vd rfl) a_nil)) trivial rfl) (g_tup (js := [7, 8]) rfl rfl) ?_)
      refine s_if (b := !decide (rowOf b r = rowOf o r)) (t_is (t_or (a := !decide ((rowOf b r).w = (rowOf o r).w)) (b := !decide ((rowOf b r).i = (rowOf o r).i)) (t_cmp (x_ne (x_vd rfl) (x_vd rfl) (by omega))) fun _ => t_cB (x_ne (x_vd rfl) (x_vd rfl) (low_min v1.i.low _)) (by simp only [D.tup.injEq])) ?_) (fun h => ?_) (fun h => ?_)
      · rw [← Bool.not_and, ← Bool.decide_and]
        congr 1
        exact decide_eq_decide.mpr ⟨fun h => Rw.ext h.1 h.2, fun h => by rw [h]; exact ⟨rfl, rfl⟩⟩
      · have h : rowOf b r ≠ rowOf o r := by simpa using h
        refine s_app rfl (x_tup (d_cons (x_vd rfl) (d_cons (x_vd rfl) (d_cons (x_vd rfl) (d_cons (x_callD ((rowOf b r).i, (rowOf o r).i) (a_cons (x_vd rfl) (a_cons (x_vd rfl) a_nil)) ⟨v1.i.low, v2.i.low, Nat.le_trans v1.i.2 (by decide), Nat.le_trans v2.i.2 (by decide)⟩ rfl) d_nil)))) (sz 4 rfl)) (by rw [List.length_map, sizeLine_eq]; omega) ?_
        exact ⟨_, _, _, _, _, by rw [deeds_step _ _ hr2, if_neg h, List.map_append]; rfl⟩
      · have h : rowOf b r = rowOf o r := by simpa using h
        refine s_next ?_
        exact ⟨_, _, _, _, _, by rw [deeds_step _ _ hr2, if_pos h, List.append_nil]; rfl⟩
    · rintro H2 e2 S' ⟨u1, u2, u3, u4, u5, rfl⟩
      rw [List.length_map, List.take_length]
      exact r_D (q.up e2) (x_tupL (x_vo rfl))
/-! laid_at: slots 0 cuts  1 items  2 root   -/
abbrev st_laid_at : Stmt := topS 38
abbrev N_laid_at : List Str := ["cuts", "items", "root"]
theorem sc_laid_at : FnScope N_laid_at ["cuts", "items", "root"] (defScope st_laid_at) := ⟨rfl, rfl, rfl, by decide +kernel, rfl, by decide +kernel, by decide +kernel⟩
abbrev sp_laid_at : Sp := SpG (α := List Cut × List D × Str) (fun x => [.dat (.tup (cutsD x.1)), .dat (.tup x.2.1), .dat (.str x.2.2)]) (fun x => Low x.2.1 ∧ Fits x.2.1 0 x.1 ∧ (lay x.2.1 x.1 0).length ≤ 10000) (fun x => RD (.tup (lay x.2.1 x.1 0)))
abbrev H_laid_at (P : Program) (w : World) (K : PySem.W.Frag) (mg : Str → Option Value) (base : Heap) : Prop := Has P w K mg base 3 "laid_at" ["cuts", "items", "root"] (sp_laid_at)
theorem has_laid_at {P : Program} {w : World} {K : PySem.W.Frag} {mg : Str → Option Value} {base : Heap} (B : Gs mg) (F : DefAt K mg "laid_at" st_laid_at) (G_laid_cuts : H_laid_cuts P w K mg base)  : H_laid_at P w K mg base :=
  F.hasG sc_laid_at (fun _ _ _ _ _ _ us hl => match us, hl with | [_, _, _], _ => rfl) (fun _ => rfl) fun f cdv A outer s H E hr => by
    have hu := room64 hr
    have hu1 := hu_of hr
    refine ⟨_, (pss_one (ps_try_thru0 (pss_one (ps_ret (pe_has G_laid_cuts hr (by decide) (by rfl) (pa_cons (pv 0) (pa_cons (pv 1) pa_nil))))))), fun x hp H R q => ?_⟩
    exact r_D q (x_callD (x.1, x.2.1) (a_cons (x_vd rfl) (a_cons (x_vd rfl) a_nil)) hp rfl)
/-! laid_change: slots 0 change  1 stand  2 root  3 old  4 new  5 cuts  6 where  7 items   -/
abbrev st_laid_change : Stmt := topS 39
abbrev N_laid_change : List Str := ["change", "stand", "root", "old", "new", "cuts", "where", "items"]
theorem sc_laid_change : FnScope N_laid_change ["change", "stand"] (defScope st_laid_change) := ⟨rfl, rfl, rfl, by decide +kernel, rfl, by decide +kernel, by decide +kernel⟩
abbrev sp_laid_change : Sp := SpG (α := List Deed × Stand) (fun x => [.dat (.tup (x.1.map Deed.d)), .dat (.tup (standD x.2))]) (fun x => LayOk x.1 x.2) (fun x => RD (.tup (standD (layC x.1 x.2))))
abbrev H_laid_change (P : Program) (w : World) (K : PySem.W.Frag) (mg : Str → Option Value) (base : Heap) : Prop := Has P w K mg base 4 "laid_change" ["change", "stand"] (sp_laid_change)
theorem has_laid_change {P : Program} {w : World} {K : PySem.W.Frag} {mg : Str → Option Value} {base : Heap} (B : Gs mg) (F : DefAt K mg "laid_change" st_laid_change) (G_laid_at : H_laid_at P w K mg base) (G_row_of : H_row_of P w K mg base) (G_with_row : H_with_row P w K mg base)  : H_laid_change P w K mg base :=
  F.hasG sc_laid_change (fun _ _ _ _ _ _ us hl => match us, hl with | [_, _], _ => rfl) (fun _ => rfl) fun f cdv A outer s H E hr => by
    have hu := room64 hr
    have hu1 := hu_of hr
    refine ⟨_, (pss_cons (ps_for PassesOwn.never rfl (pi_tup (pv 0)) (pg_tup (by rfl) (pgs_cons (pg_name (i := 2) sc_laid_change.nd rfl (Or.inl rfl)) (pgs_cons (pg_name (i := 3) sc_laid_change.nd rfl (Or.inl rfl)) (pgs_cons (pg_name (i := 4) sc_laid_change.nd rfl (Or.inl rfl)) (pgs_cons (pg_name (i := 5) sc_laid_change.nd rfl (Or.inl rfl)) pgs_nil)))))
        (pss_cons (ps_asg (pe_has G_row_of hr (by decide) (by rfl) (pa_cons (pv 1) (pa_cons (pv 2) pa_nil))) (pg_tup (by rfl) (pgs_cons (pg_name (i := 6) sc_laid_change.nd rfl (Or.inl rfl)) (pgs_cons (pg_name (i := 7) sc_laid_change.nd rfl (Or.inl rfl)) pgs_nil))))
        (pss_cons (ps_if (pt_cmpR (op_neK (K := K) rfl hu) (pv 6) (pv 3) (nomark _))
          (pss_one ps_never)
          pss_nil)
        (pss_cons (ps_set (i := 7) sc_laid_change.nd rfl (Or.inl rfl) (pe_has G_laid_at hr (by decide) (by rfl) (pa_cons (pv 5) (pa_cons (pv 7) (pa_cons (pv 2) pa_nil)))))
        (pss_cons (ps_if (PW.pt (pw_and (pt_cmpR op_isNA (pv 4) pe_non (nomark _)) (pw_and1 (pt_cmpR (op_neK (K := K) rfl hu) (pv 7) (pe_tup pa_nil) (nomark _)))))
          (pss_one ps_never)
          pss_nil)
        (pss_one (ps_set (i := 1) sc_laid_change.nd rfl (Or.inl rfl) (pe_has G_with_row hr (by decide) (by rfl) (pa_cons (pv 1) (pa_cons (pv 2) (pa_cons (pv 4) (pa_cons (pv 7) pa_nil))))))))))))
      (pss_one (ps_ret (pv 1)))), fun x hp H R q => ?_⟩
    obtain ⟨ds, s⟩ := x
    dsimp only at hp q ⊢
    refine s_seq (s_forT (xs := ds.map Deed.d) (js := [2, 3, 4, 5]) (x_vd rfl) (fun i S' => ∃ t u1 u2 u3 u4 u5 u6, S' = [.dat (.tup (ds.map Deed.d)), .dat (.tup (standD t)), u1, u2, u3, u4, u5, u6] ∧ LayOk (ds.drop i) t ∧ layC (ds.drop i) t = layC ds s) ⟨s, _, _, _, _, _, _, rfl, hp, rfl⟩ ?_ ?_)
    · rintro H1 e1 i d' S' hd ⟨t, u1, u2, u3, u4, u5, u6, rfl, hok, hl⟩
      rw [List.getElem?_map] at hd
      obtain ⟨d, hd2, rfl⟩ := Option.map_eq_some_iff.mp hd
      rw [drop_get hd2] at hok hl
      obtain ⟨⟨k1, k2, k3, k4, k5, k6, k7, k8⟩, k9⟩ := hok
      rw [layC] at hl
      refine ⟨_, g_tup (ds := [.str d.r, d.o, d.n, .tup (cutsD d.c)]) rfl rfl, ?_⟩
      refine s_seq (s_asgG (x_callD (t, d.r) (a_cons (x_vd rfl) (a_cons (x_vd rfl) a_nil)) trivial rfl) (g_tup (js := [6, 7]) rfl rfl) ?_)
      refine s_seq (s_if (b := false) (t_cB (x_ne (x_vd rfl) (x_vd rfl) (by omega)) (by rw [decide_eq_true k1]; rfl)) (fun z => nomatch z) (fun _ => s_next ?_))
      refine s_seq (s_asg (x_callD (d.c, (rowOf t d.r).i, d.r) (a_cons (x_vd rfl) (a_cons (x_vd rfl) (a_cons (x_vd rfl) a_nil))) ⟨k3, k2, k4⟩ rfl) ?_)
      refine s_seq (s_if (b := false) (t_is (t_and (a := decide (d.n = .non)) (b := !decide (lay (rowOf t d.r).i d.c 0 = [])) (t_cmp (x_isN (x_vd rfl) x_cn)) fun _ => t_cB (x_ne (x_vd rfl) (x_tup d_nil (sz 0 rfl)) (dep_nilT _)) (by simp only [D.tup.injEq])) ?_) (fun z => nomatch z) (fun _ => s_next ?_))
      · by_cases h : d.n = .non
        · rw [decide_eq_true h, decide_eq_true (k6 h)]; rfl
        · rw [decide_eq_false h]; rfl
      refine s_asg (x_callD (t, d.r, ⟨d.n, lay (rowOf t d.r).i d.c 0⟩) (a_cons (x_vd rfl) (a_cons (x_vd rfl) (a_cons (x_vd rfl) (a_cons (x_vd rfl) a_nil)))) ⟨k8, k7⟩ rfl) ⟨_, _, _, _, _, _, _, rfl, k9, hl⟩
    · rintro H1 e1 S' ⟨t, u1, u2, u3, u4, u5, u6, rfl, hok, hl⟩
      rw [List.length_map, List.drop_length, layC] at hl
      subst hl
      exact r_D (q.up e1) (x_vd rfl)
end Mw
-- part MwX6
set_option maxHeartbeats 4000000
/-! past_deeds. -/
namespace Mw
open PySem PySem.Spec PyProof.Rows L2
section
variable {H0 : Hp} {S : List SV} {R : V → Hp → Prop} {N : Hp → List SV → Prop} {K : PySem.W.Frag}
theorem s_tryT {α : Type} {av : α → List AV} {pre : α → Prop} {rp : α → Rp} {xp : α → Xp} {E : XK} {ta ta2 : TA} {C : Addr} {Px P2 : D → D → Prop} {Pq : Prop} {g : TG} {js : List Nat} {d d1 d2 : D} {S2 : List SV} (x : α) (h : EvA H0 S ta (av x)) (hp : pre x) (e : rp x = RDi Pq d) (ex : xp x = TouchX C Px)
    (hex : PySem.W.exmOne K (.ref C) (.ref C) = some true) (hg : EvG H0 g js d S S2) (k : Pq → N H0 S2) (h2 : EvA H0 S ta2 [.dat d1, .dat d2]) (hx : ∀ a b, Px a b → P2 d1 d2) (q : GivesX H0 (TouchX C P2) E) :
    ExS H0 R (fun D σ H => tAsg (tCallS (SpX av pre rp xp) (fun σ cls d H => wOnly K (.ref C) (fun _ _ _ => fun _ σ H => tMkO C (spTI C) [] ta2 σ H fun cls d H' => E cls d H') (fun cls d _ H => E cls d H) D cls d σ H) ta) g D σ H) S N := fun D σ H hs hn hr =>
  h σ H hs _ fun vs H1 e1 hv => by
    refine ⟨x, hv, hp, fun v H' r => ?_, fun c dd H' r => ?_⟩
    · rw [e] at r
      exact hg σ H' v ((hs.grow e1).grow r.2.1) r.2.2 _ fun σ' hs' _ => hn H0 S2 σ' H' (Same.refl H0) (k r.1) hs'
    · rw [ex] at r
      obtain ⟨rfl, dd', v1, v2, a1, a2, hd, hsame, _, _, _, hpx⟩ := r
      exact ⟨true, hex, fun _ a ha => mk_T (hs.grow (e1.trans hsame)) h2 (hx _ _ hpx) q, fun z => nomatch z⟩
end
theorem shD_eq {cs ds : List Cut} (h : ∀ c ∈ cs, ((c.a : Int) + moreI ds c.a) = (((shC ds c).a : Nat) : Int)) : shD cs ds = .tup (cutsD (cs.map (shC ds))) := by
  unfold shD cutsD
  rw [List.map_map]
  congr 1
  exact List.map_congr_left fun c hc => by
    show D.tup [.int ((c.a : Int) + moreI ds c.a), .tup c.o, .tup c.p] = (shC ds c).d
    rw [h c hc]
    rfl
theorem touchR_yes {b o p : Rw} (h1 : o ≠ b) (h2 : p ≠ b) (h : ((b.w = .non ∨ o.w = .non ∨ p.w = .non) ∨ (o.w ≠ b.w ∧ p.w ≠ b.w)) ∨ ¬ Apart (chg b.i o.i) (chg b.i p.i)) : touchR b o p = true := by
  cases e : touchR b o p with
  | true => rfl
  | false =>
    obtain ⟨a1, a2, a3, a4, a5⟩ := touchR_no e h1 h2
    rcases h with ((h | h | h) | h) | h
    · exact absurd h a1
    · exact absurd h a2
    · exact absurd h a3
    · rcases a4 with z | z
      · exact absurd z h.1
      · exact absurd z h.2
    · exact absurd a5 h
theorem touchR_not {b o p : Rw} (h : ¬ ((b.w = .non ∨ o.w = .non ∨ p.w = .non) ∨ (o.w ≠ b.w ∧ p.w ≠ b.w))) (ha : Apart (chg b.i o.i) (chg b.i p.i)) : touchR b o p = false := by
  unfold touchR
  split
  · rfl
  · try rw [if_neg h]
    rw [List.any_eq_false]
    intro c hc
    rw [Bool.not_eq_true, List.any_eq_false]
    intro d hd
    rw [ha c hc d hd]
    simp
/-- a deed from a row to another -/
noncomputable abbrev deedOf (r : Str) (b o : Rw) : Deed := ⟨r, b.w, o.w, chg b.i o.i⟩
/-! past_deeds: slots 0 one  1 other  2 root  3 first  4 second   -/
abbrev st_past_deeds : Stmt := topS 41
abbrev N_past_deeds : List Str := ["one", "other", "root", "first", "second"]
theorem sc_past_deeds : FnScope N_past_deeds ["one", "other"] (defScope st_past_deeds) := ⟨rfl, rfl, rfl, by decide +kernel, rfl, by decide +kernel, by decide +kernel⟩
abbrev sp_past_deeds (C : Addr) : Sp := SpX (α := Str × Rw × Rw × Rw) (fun x => [.dat (deedOf x.1 x.2.1 x.2.2.1).d, .dat (deedOf x.1 x.2.1 x.2.2.2).d]) (fun x => RowV x.2.1 ∧ RowV x.2.2.1 ∧ RowV x.2.2.2 ∧ x.2.2.1 ≠ x.2.1 ∧ x.2.2.2 ≠ x.2.1)
  (fun x => RDi (touchR x.2.1 x.2.2.1 x.2.2.2 = false) (.tup [(past1 x.1 x.2.1 x.2.2.1 x.2.2.2).d, (past1 x.1 x.2.1 x.2.2.2 x.2.2.1).d])) (fun x => TouchX C fun d1 d2 => d1 = .str x.1 ∧ d2 = .str x.1 ∧ touchR x.2.1 x.2.2.1 x.2.2.2 = true)
abbrev H_past_deeds (P : Program) (w : World) (K : PySem.W.Frag) (mg : Str → Option Value) (base : Heap) (C : Addr) : Prop := HasX P w K mg base (L2.CX P w) 5 "past_deeds" ["one", "other"] (sp_past_deeds C)
theorem has_past_deeds {P : Program} {w : World} {K : PySem.W.Frag} {mg : Str → Option Value} {base : Heap} {C : Addr} (B : Gs mg) (F : DefAt K mg "past_deeds" st_past_deeds) (T : Tch K mg C st_Touch_init) (G_past_cuts : H_past_cuts P w K mg base C) : H_past_deeds P w K mg base C := by
  obtain ⟨fT, fdT, TF⟩ := T.fn (P := P) (w := w) (base := base)
  exact F.hasX sc_past_deeds (fun _ _ _ _ _ _ us hl => match us, hl with | [_, _], _ => rfl) (fun _ => rfl) fun f cdv A outer s H E hr => by
    have hu := room64 hr
    refine ⟨_, (pss_cons (ps_set (i := 2) sc_past_deeds.nd rfl (Or.inl rfl) (pe_ix (ix_seqK (K := K) rfl) (pv 0) pe_int (fun _ _ => rfl)))
      (pss_cons (ps_if (PW.pt (pw_or (pt_cmpR (op_inK (K := K) rfl hu) pe_non (pe_tup (pa_cons (pe_ix (ix_seqK (K := K) rfl) (pv 0) pe_int (fun _ _ => rfl)) (pa_cons (pe_ix (ix_seqK (K := K) rfl) (pv 0) pe_int (fun _ _ => rfl)) (pa_cons (pe_ix (ix_seqK (K := K) rfl) (pv 1) pe_int (fun _ _ => rfl)) (pa_cons (pe_ix (ix_seqK (K := K) rfl) (pv 1) pe_int (fun _ _ => rfl)) pa_nil))))) rfl) (pw_or1 (PW.pt (pw_and (pt_cmpR (op_neK (K := K) rfl hu) (pe_ix (ix_seqK (K := K) rfl) (pv 0) pe_int (fun _ _ => rfl)) (pe_ix (ix_seqK (K := K) rfl) (pv 0) pe_int (fun _ _ => rfl)) (nomark _)) (pw_and1 (pt_cmpR (op_neK (K := K) rfl hu) (pe_ix (ix_seqK (K := K) rfl) (pv 1) pe_int (fun _ _ => rfl)) (pe_ix (ix_seqK (K := K) rfl) (pv 1) pe_int (fun _ _ => rfl)) (nomark _))))))))
        (pss_one (L2.ps_raise rfl (L2.takes_of rfl rfl rfl rfl) (pmk_oex T.T TF.iC TF.tI TF.ok (hr.mono (by decide)) TF.bd .nil pass0 (by rfl) T.mgT (pa_cons (pv 2) (pa_cons (pv 2) pa_nil)))))
        pss_nil)
      (pss_cons (L2H.ps_try_onlyX (X := cxOf (L2.CX P w) P w K mg base N_past_deeds "past_deeds" (defScope st_past_deeds) f cdv A outer s H E) (c := .ref C) (tb := fun W => tAsg (tCallS (sp_past_cuts C) (fun σ cls d H => W cls d σ H) (tCons (tOp (rIx K) (tVar 0) (tC (V.int 3))) (tCons (tOp (rIx K) (tVar 1) (tC (V.int 3))) tNil))) (gTup K 2 (gCons (gName 3) (gCons (gName 4) gNil)))) (ts := fun _ _ _ => fun _ σ H => tMkO C (spTI C) [] (tCons (tVar 2) (tCons (tVar 2) tNil)) σ H fun cls d H' => E cls d H') rfl rfl ⟨by rfl, by decide, .inl T.mgT⟩ (L2H.passesAt_of rfl) (L2.takes_of rfl rfl rfl rfl)
        (fun W pn xe tk1 tk2 ps => pss_one (X := Cx.tr (cxOf (L2.CX P w) P w K mg base N_past_deeds "past_deeds" (defScope st_past_deeds) f cdv A outer s H E) pn xe) (ps_asg (X := Cx.tr (cxOf (L2.CX P w) P w K mg base N_past_deeds "past_deeds" (defScope st_past_deeds) f cdv A outer s H E) pn xe) (pe_hasNS G_past_cuts hr (by decide) (by rfl) tk1 (pa_cons (pe_ix (ix_seqK (K := K) rfl) (pv 0) pe_int (fun _ _ => rfl)) (pa_cons (pe_ix (ix_seqK (K := K) rfl) (pv 1) pe_int (fun _ _ => rfl)) pa_nil))) (pg_tup (X := Cx.tr (cxOf (L2.CX P w) P w K mg base N_past_deeds "past_deeds" (defScope st_past_deeds) f cdv A outer s H E) pn xe) rfl (pgs_cons (pg_name (X := Cx.tr (cxOf (L2.CX P w) P w K mg base N_past_deeds "past_deeds" (defScope st_past_deeds) f cdv A outer s H E) pn xe) (i := 3) sc_past_deeds.nd rfl (Or.inl rfl)) (pgs_cons (pg_name (X := Cx.tr (cxOf (L2.CX P w) P w K mg base N_past_deeds "past_deeds" (defScope st_past_deeds) f cdv A outer s H E) pn xe) (i := 4) sc_past_deeds.nd rfl (Or.inl rfl)) pgs_nil)))))
        (fun a oe cls d pn hz hd tk2 hot => pss_one (L2H.ps_raiseHN hot tk2 (L2H.pmk5_oexH (CX := CX0) T.T TF.iC TF.tI TF.hot (L2H.roomH_mark (hr.mono (by decide)) _) hot TF.bd pass0 (by rfl) T.mgT (pa_cons (pv 2) (pa_cons (pv 2) pa_nil))))))
      (pss_cons (ps_if (pt_cmpR (op_neK (K := K) rfl hu) (pe_ix (ix_seqK (K := K) rfl) (pv 0) pe_int (fun _ _ => rfl)) (pe_ix (ix_seqK (K := K) rfl) (pv 0) pe_int (fun _ _ => rfl)) (nomark _))
        (pss_one (ps_ret (pe_tup (pa_cons (pe_tup (pa_cons (pv 2) (pa_cons (pe_ix (ix_seqK (K := K) rfl) (pv 0) pe_int (fun _ _ => rfl)) (pa_cons (pe_ix (ix_seqK (K := K) rfl) (pv 0) pe_int (fun _ _ => rfl)) (pa_cons (pv 3) pa_nil))))) (pa_cons (pe_tup (pa_cons (pv 2) (pa_cons (pe_ix (ix_seqK (K := K) rfl) (pv 0) pe_int (fun _ _ => rfl)) (pa_cons (pe_ix (ix_seqK (K := K) rfl) (pv 0) pe_int (fun _ _ => rfl)) (pa_cons (pv 4) pa_nil))))) pa_nil)))))
        pss_nil)
      (pss_one (ps_ret (pe_tup (pa_cons (pe_tup (pa_cons (pv 2) (pa_cons (pe_ix (ix_seqK (K := K) rfl) (pv 1) pe_int (fun _ _ => rfl)) (pa_cons (pe_ix (ix_seqK (K := K) rfl) (pv 1) pe_int (fun _ _ => rfl)) (pa_cons (pv 3) pa_nil))))) (pa_cons (pe_tup (pa_cons (pv 2) (pa_cons (pe_ix (ix_seqK (K := K) rfl) (pv 1) pe_int (fun _ _ => rfl)) (pa_cons (pe_ix (ix_seqK (K := K) rfl) (pv 1) pe_int (fun _ _ => rfl)) (pa_cons (pv 4) pa_nil))))) pa_nil))))))))), fun x hp H R q qx => ?_⟩
    obtain ⟨r, b, o, p⟩ := x
    dsimp only at q qx hp ⊢
    obtain ⟨vb, vo, vp, h1, h2⟩ := hp
    have db := where_dep vb.w
    have do_ := where_dep vo.w
    have dp := where_dep vp.w
    refine s_seq (s_asg (x_ixT (x_vd rfl) x_ci (k := 0) rfl rfl) ?_)
    refine s_seq (s_if (b := decide ((b.w = .non ∨ o.w = .non ∨ p.w = .non) ∨ (b.w ≠ o.w ∧ b.w ≠ p.w))) (t_is (t_or (a := decide (b.w = .non ∨ o.w = .non ∨ p.w = .non)) (b := !decide (b.w = o.w) && !decide (b.w = p.w)) (t_cB (x_inT x_cn (x_tup (d_cons (x_ixT (x_vd rfl) x_ci (k := 1) rfl rfl) (d_cons (x_ixT (x_vd rfl) x_ci (k := 2) rfl rfl) (d_cons (x_ixT (x_vd rfl) x_ci (k := 1) rfl rfl) (d_cons (x_ixT (x_vd rfl) x_ci (k := 2) rfl rfl) d_nil)))) (sz 4 rfl)) (by simp [D.dep, D.deps])) ?_) fun _ => t_and (t_cmp (x_ne (x_ixT (x_vd rfl) x_ci (k := 1) rfl rfl) (x_ixT (x_vd rfl) x_ci (k := 2) rfl rfl) (by omega))) fun _ => t_cmp (x_ne (x_ixT (x_vd rfl) x_ci (k := 1) rfl rfl) (x_ixT (x_vd rfl) x_ci (k := 2) rfl rfl) (by omega))) ?_) (fun hd2 => ?_) (fun hd2 => s_next ?_))
    · simp only [List.mem_cons, List.not_mem_nil, or_false]
      refine decide_eq_decide.mpr ⟨fun h => ?_, fun h => ?_⟩
      · rcases h with h | h | h | h
        · exact .inl h.symm
        · exact .inr (.inl h.symm)
        · exact .inl h.symm
        · exact .inr (.inr h.symm)
      · rcases h with h | h | h
        · exact .inl h.symm
        · exact .inr (.inl h.symm)
        · exact .inr (.inr (.inr h.symm))
    · exact bool_mix _ _ _
    · have hd2 := of_decide_eq_true hd2
      refine s_raiseT (P := fun d1 d2 => d1 = .str r ∧ d2 = .str r ∧ touchR b o p = true) (a_cons (x_vd rfl) (a_cons (x_vd rfl) a_nil)) ⟨rfl, rfl, touchR_yes h1 h2 (.inl (hd2.imp id fun z => ⟨fun y => z.1 y.symm, fun y => z.2 y.symm⟩))⟩ qx
    have hd2 := of_decide_eq_false hd2
    have hd3 : ¬ ((b.w = .non ∨ o.w = .non ∨ p.w = .non) ∨ (o.w ≠ b.w ∧ p.w ≠ b.w)) := fun z => hd2 (z.imp id fun z => ⟨fun y => z.1 y.symm, fun y => z.2 y.symm⟩)
    have lo := chg_len b.i o.i
    have lp := chg_len b.i p.i
    have lb := vb.i.2
    have zo : (chg b.i o.i).length ≤ 100 := by omega
    have zp : (chg b.i p.i).length ≤ 100 := by omega
    refine s_seq (s_tryT (js := [3, 4]) (chg b.i o.i, chg b.i p.i) (a_cons (x_ixT (x_vd rfl) x_ci (k := 3) rfl rfl) (a_cons (x_ixT (x_vd rfl) x_ci (k := 3) rfl rfl) a_nil)) ⟨zo, zp⟩ rfl rfl T.ex (g_tup rfl rfl) (fun ha => ?_) (a_cons (x_vd rfl) (a_cons (x_vd rfl) a_nil)) (fun _ _ hA => ⟨rfl, rfl, touchR_yes h1 h2 (.inr hA)⟩) qx)
    have hno := touchR_not hd3 ha
    obtain ⟨_, _, s1⟩ := past_one (chg_fits b.i o.i) (chg_fits b.i p.i) ha
    obtain ⟨_, _, s2⟩ := past_two (chg_fits b.i o.i) (chg_fits b.i p.i) ha
    have s1 := shD_eq s1
    have s2 := shD_eq s2
    refine s_seq (s_if (b := !decide (b.w = o.w)) (t_cmp (x_ne (x_ixT (x_vd rfl) x_ci (k := 1) rfl rfl) (x_ixT (x_vd rfl) x_ci (k := 2) rfl rfl) (by omega))) (fun hd4 => ?_) (fun hd4 => s_next ?_))
    · have hd4 : b.w ≠ o.w := by simpa using hd4
      have hpw : b.w = p.w := Classical.byContradiction fun z => hd2 (.inr ⟨hd4, z⟩)
      refine r_Di q hno (x_tup (d_cons (x_tup (d_cons (x_vd rfl) (d_cons (x_ixT (x_vd rfl) x_ci (k := 1) rfl rfl) (d_cons (x_ixT (x_vd rfl) x_ci (k := 2) rfl rfl) (d_cons (x_vd rfl) d_nil)))) (sz 4 rfl)) (d_cons (x_tup (d_cons (x_vd rfl) (d_cons (x_ixT (x_vd rfl) x_ci (k := 2) rfl rfl) (d_cons (x_ixT (x_vd rfl) x_ci (k := 2) rfl rfl) (d_cons (x_vd rfl) d_nil)))) (sz 4 rfl)) d_nil)) (sz 2 rfl)) ?_
      unfold past1
      rw [if_neg h2, if_neg h1, if_pos hd4, if_neg (fun z => z hpw), s1, s2]
    · have hd4 : b.w = o.w := by simpa using hd4
      refine r_Di q hno (x_tup (d_cons (x_tup (d_cons (x_vd rfl) (d_cons (x_ixT (x_vd rfl) x_ci (k := 2) rfl rfl) (d_cons (x_ixT (x_vd rfl) x_ci (k := 2) rfl rfl) (d_cons (x_vd rfl) d_nil)))) (sz 4 rfl)) (d_cons (x_tup (d_cons (x_vd rfl) (d_cons (x_ixT (x_vd rfl) x_ci (k := 1) rfl rfl) (d_cons (x_ixT (x_vd rfl) x_ci (k := 2) rfl rfl) (d_cons (x_vd rfl) d_nil)))) (sz 4 rfl)) d_nil)) (sz 2 rfl)) ?_
      unfold past1
      rw [if_neg h2, if_neg h1, if_neg (fun z => z hd4), s1, s2]
      by_cases e : b.w = p.w
      · rw [if_neg (fun z => z e)]
        dsimp only [Deed.d]
        rw [← hd4, ← e]
      · rw [if_pos e]
end Mw
-- part MwR7
set_option maxHeartbeats 4000000
namespace Mw
open PySem PySem.Spec PyProof.Rows L2
/-- deeds by their roots -/
def byR (ds : List Deed) : Dct := ds.foldl (fun m x => putS m x.r x.d) []
theorem byR_step {ds : List Deed} {i : Nat} {x : Deed} (h : ds[i]? = some x) : byR (ds.take (i + 1)) = putS (byR (ds.take i)) x.r x.d := by
  unfold byR
  rw [List.take_add_one, h, List.foldl_append]
  rfl
theorem byR_len : ∀ (ds : List Deed) (n : Nat), n ≤ ds.length → (byR (ds.take n)).length ≤ n
  | ds, 0, _ => by rw [List.take_zero]; exact Nat.le_refl _
  | ds, n + 1, h => by
    have hx : ds[n]? = some ds[n] := by simp [h]
    rw [byR_step hx]
    have := putS_len (byR (ds.take n)) ds[n].r ds[n].d
    have := byR_len ds n (by omega)
    omega
/-! by_roots: slots 0 change  1 found  2 deed   -/
abbrev st_by_roots : Stmt := topS 40
abbrev N_by_roots : List Str := ["change", "found", "deed"]
theorem sc_by_roots : FnScope N_by_roots ["change"] (defScope st_by_roots) := ⟨rfl, rfl, rfl, by decide +kernel, rfl, by decide +kernel, by decide +kernel⟩
abbrev sp_by_roots : Sp := SpG (α := List Deed) (fun x => [.dat (.tup (x.map Deed.d))]) (fun x => x.length ≤ 100) (fun x => RG (DctR (byR x)))
abbrev H_by_roots (P : Program) (w : World) (K : PySem.W.Frag) (mg : Str → Option Value) (base : Heap) : Prop := Has P w K mg base 1 "by_roots" ["change"] (sp_by_roots)
theorem has_by_roots {P : Program} {w : World} {K : PySem.W.Frag} {mg : Str → Option Value} {base : Heap} (B : Gs mg) (F : DefAt K mg "by_roots" st_by_roots)   : H_by_roots P w K mg base :=
  F.hasG sc_by_roots (fun _ _ _ _ _ _ us hl => match us, hl with | [_], _ => rfl) (fun _ => rfl) fun f cdv A outer s H E hr => by
    have hu := room64 hr
    have hu1 := hu_of hr
    refine ⟨_, (pss_cons (ps_set (i := 1) sc_by_roots.nd rfl (Or.inl rfl) pe_dnewK)
      (pss_cons (ps_for PassesOwn.never rfl (pi_tup (pv 0)) (pg_name (i := 2) sc_by_roots.nd rfl (Or.inl rfl))
        (pss_one (ps_dput hu1 (pv 1) (pe_ix (ix_seqK (K := K) rfl) (pv 2) pe_int (fun _ _ => rfl)) (pv 2) rfl)))
      (pss_one (ps_ret (pv 1))))), fun x hp H R q => ?_⟩
    have hz : x.length ≤ 100 := hp
    dsimp only at q ⊢
    refine s_seq (s_dnew ?_)
    refine s_seq (s_forT (xs := x.map Deed.d) (js := [2]) (x_vd rfl) (fun i S' => ∃ u, S' = [.dat (.tup (x.map Deed.d)), .gen (DctR (byR (x.take i))), u]) ⟨_, rfl⟩ ?_ ?_)
    · rintro H1 e1 i d' S' hd ⟨u, rfl⟩
      rw [List.getElem?_map] at hd
      obtain ⟨d, hd2, rfl⟩ := Option.map_eq_some_iff.mp hd
      have hi := (List.getElem?_eq_some_iff.mp hd2).1
      have hl := byR_len x i (by omega)
      refine ⟨_, g_name, ?_⟩
      exact s_dput rfl (x_ixT (x_vd rfl) x_ci (k := 0) rfl rfl) (x_vd rfl) (by rw [sizeLine_eq]; omega) ⟨_, by rw [byR_step hd2]; rfl⟩
    · rintro H1 e1 S' ⟨u, rfl⟩
      rw [List.length_map, List.take_length]
      exact r_G (q.upG e1) rfl
end Mw
-- part MwR8
set_option maxHeartbeats 4000000
/-! a[k], b[k] = f(..): two dicts at once. -/
namespace Mw
open PySem PySem.Spec PyProof.Rows L2
theorem s_put2X {K : PySem.W.Frag} {H0 : Hp} {S : List SV} {R : V → Hp → Prop} {N : Hp → List SV → Prop} {α : Type} {av : α → List AV} {pre : α → Prop} {rp : α → Rp} {xp : α → Xp} {E : XK} {ta : TA} {C : Addr} {P : D → D → Prop} {Pq : Prop} {i j c : Nat} {m1 m2 : Dct} {k : Str} {d1 d2 : D}
    (x : α) (h : EvA H0 S ta (av x)) (hp : pre x) (e : rp x = RDi Pq (.tup [d1, d2])) (ex : xp x = TouchX C P) (q : GivesX H0 (TouchX C P) E) (hi : S[i]? = some (.gen (DctR m1))) (hj : S[j]? = some (.gen (DctR m2))) (hc : S[c]? = some (.dat (.str k))) (hij : i ≠ j) (hic : i ≠ c)
    (z1 : m1.length < sizeLine) (z2 : m2.length < sizeLine) (kk : Pq → N H0 ((S.set i (.gen (DctR (putS m1 k d1)))).set j (.gen (DctR (putS m2 k d2))))) :
    ExS H0 R (tAsg (tCall (SpX av pre rp xp) [] E ta) (gTup K 2 (gCons (gSub (tVar i) (tVar c) rSetD) (gCons (gSub (tVar j) (tVar c) rSetD) gNil)))) S N := fun D σ H hs hn hr =>
  h σ H hs _ fun vs H1 e1 hv => by
    rw [List.append_nil]
    refine ⟨x, hv, hp, fun v H' r => ?_, fun c dd H' r => ?_⟩
    · rw [e] at r
      obtain ⟨hPq, e2, a, us, rfl, g1, g2⟩ := r
      have hs2 := (hs.grow e1).grow e2
      obtain ⟨u1, _, rfl, w1, u2, _, rfl, w2, w3⟩ : ∃ u1 r1, us = u1 :: r1 ∧ DV H' u1 d1 ∧ ∃ u2 r2, r1 = u2 :: r2 ∧ DV H' u2 d2 ∧ r2 = [] := g2
      subst w3
      obtain ⟨p0, _, k0, _⟩ := dct_put (k := k) hs2 hi w1 z1
      have hj2 : (S.set i (.gen (DctR (putS m1 k d1))))[j]? = some (.gen (DctR m2)) := by rw [List.getElem?_set_ne hij]; exact hj
      have hc2 : (S.set i (.gen (DctR (putS m1 k d1))))[c]? = some (.dat (.str k)) := by rw [List.getElem?_set_ne hic]; exact hc
      refine ⟨a, [u1, u2], rfl, .inl (.inl g1), rfl, u1, [u2], rfl, .ref p0, k0, x_vd hc σ H' hs2 _ fun u Hx ex2 hu => ?_⟩
      have hu : u = .str k := hu
      subst hu
      have hs3 := hs2.grow ex2
      obtain ⟨p, H2, k1, k2, k3, k4⟩ := dct_put (k := k) hs3 hi (DV.mono ex2 w1) z1
      rw [k0] at k1
      cases k1
      refine ⟨p0, H2, rfl, k2, ?_⟩
      have w2 := DV.ts k4 _ _ (DV.mono ex2 w2)
      obtain ⟨p1, _, l0, _⟩ := dct_put (k := k) k3 hj2 w2 z2
      refine ⟨u2, [], rfl, .ref p1, l0, x_vd hc2 σ H2 k3 _ fun u Hy ey hu => ?_⟩
      have hu : u = .str k := hu
      subst hu
      obtain ⟨p, H3, l1, l2, l3, l4⟩ := dct_put (k := k) (k3.grow ey) hj2 (DV.mono ey w2) z2
      rw [l0] at l1
      cases l1
      exact ⟨p1, H3, rfl, l2, rfl, hn H0 _ σ H3 (Same.refl H0) (kk hPq) l3⟩
    · rw [ex] at r
      exact (q.up (hs.ex.trans e1)) c dd H' r
end Mw
-- part MwM9
set_option maxHeartbeats 4000000
/-! Deeds by roots, in plain Lean. -/
namespace Mw
open PySem
theorem ris_nodup {l : List Str} (h : Ris l) : l.Nodup := h.imp fun {x y} z e => by rw [e, ltS_irr] at z; cases z
/-- the roots at which two stands differ -/
noncomputable def difR (R : List Str) (f g : Str → Rw) : List Str := R.filter fun r => !decide (f r = g r)
theorem difR_mem {R : List Str} {f g : Str → Rw} {r : Str} : r ∈ difR R f g ↔ r ∈ R ∧ f r ≠ g r := by
  unfold difR
  rw [List.mem_filter]
  simp
theorem difR_ris {R : List Str} (h : Ris R) (f g : Str → Rw) : Ris (difR R f g) := h.sublist List.filter_sublist
theorem deeds_dif (R : List Str) (f g : Str → Rw) : deeds R f g = (difR R f g).map fun r => deedOf r (f r) (g r) := rfl
theorem pastD_dif (R : List Str) (f g h : Str → Rw) : pastD R f g h = (difR R f g).map fun r => past1 r (f r) (g r) (h r) := rfl
theorem putS_new {m : Dct} {k : Str} {d : D} (h : k ∉ m.map (·.1)) : putS m k d = m ++ [(k, d)] := by
  unfold putS
  rw [if_neg (fun z => h (lookS_mem.mp z))]
theorem putS_keys {m : Dct} {k : Str} {d : D} (h : k ∈ m.map (·.1)) : (putS m k d).map (·.1) = m.map (·.1) := by
  unfold putS
  rw [if_pos (lookS_mem.mpr h), List.map_map]
  refine List.map_congr_left fun p _ => ?_
  show (if p.1 = k then (p.1, d) else p).1 = p.1
  split <;> rfl
theorem byR_all {T : List Str} {e : Str → Deed} (hn : T.Nodup) (hr : ∀ r, (e r).r = r) : ∀ n, n ≤ T.length → (byR ((T.map e).take n)).map (·.1) = T.take n ∧ ∀ k, lookS (byR ((T.map e).take n)) k = if k ∈ T.take n then some (e k).d else none
  | 0, _ => by
    rw [List.take_zero, List.take_zero]
    exact ⟨rfl, fun k => by rw [if_neg (fun z => nomem z)]; rfl⟩
  | n + 1, h => by
    obtain ⟨i1, i2⟩ := byR_all hn hr n (by omega)
    have hx : T[n]? = some T[n] := by simp
    have hx2 : (T.map e)[n]? = some (e T[n]) := by rw [List.getElem?_map, hx]; rfl
    have hni : T[n] ∉ T.take n := fun hm => by
      have := hn
      rw [← List.take_append_drop n T, List.nodup_append] at this
      exact this.2.2 _ hm _ (by rw [drop_get hx]; exact List.mem_cons_self) rfl
    rw [byR_step hx2, hr]
    constructor
    · rw [putS_new (by rw [i1]; exact hni), List.map_append, i1, List.take_add_one, hx]
      rfl
    · intro k
      rw [lookS_put, i2, List.take_add_one, hx]
      by_cases ek : T[n] = k
      · rw [if_pos ek, if_pos (List.mem_append.mpr (.inr (by rw [ek]; exact List.mem_singleton.mpr rfl))), ek]
      · rw [if_neg ek]
        by_cases em : k ∈ T.take n
        · rw [if_pos em, if_pos (List.mem_append.mpr (.inl em))]
        · rw [if_neg em, if_neg]
          intro z
          rcases List.mem_append.mp z with z | z
          · exact em z
          · exact ek (List.mem_singleton.mp z).symm
theorem byR_ok {T : List Str} {e : Str → Deed} (hn : T.Nodup) (hr : ∀ r, (e r).r = r) : (byR (T.map e)).map (·.1) = T ∧ ∀ k, lookS (byR (T.map e)) k = if k ∈ T then some (e k).d else none := by
  have := byR_all hn hr T.length (Nat.le_refl _)
  rw [← List.length_map (f := e), List.take_length, List.length_map, List.take_length] at this
  exact this
/-- a deed that the other side has not is as it was -/
theorem past1_same {r : Str} {b o p : Rw} (h : b = p) : past1 r b o p = deedOf r b o := by
  unfold past1
  rw [if_pos h.symm]
/-- the first root that touches -/
theorem first_touch {R T : List Str} {t : Str → Bool} (hR : Ris R) (hT : Ris T) (hs : ∀ r ∈ R, t r = true → r ∈ T) (hTR : ∀ r ∈ T, r ∈ R) {i : Nat} {r : Str} (hi : T[i]? = some r) (hb : ∀ k ∈ T.take i, t k = false) (hr : t r = true) : ∃ rs, R.filter t = r :: rs := by
  have hrT : r ∈ T := List.mem_of_getElem? hi
  have hm : r ∈ R.filter t := List.mem_filter.mpr ⟨hTR r hrT, hr⟩
  cases e : R.filter t with
  | nil => rw [e] at hm; exact nomem hm
  | cons q rs =>
    have hq : q ∈ R.filter t := by rw [e]; exact List.mem_cons_self
    obtain ⟨q1, q2⟩ := List.mem_filter.mp hq
    have hqT := hs q q1 q2
    by_cases eq : q = r
    · exact ⟨rs, by rw [eq]⟩
    · exfalso
      have hris : Ris (q :: rs) := by rw [← e]; exact hR.sublist List.filter_sublist
      rw [e] at hm
      rcases List.mem_cons.mp hm with z | z
      · exact eq z.symm
      · have hlt : ltS q r = true := (List.pairwise_cons.mp hris).1 r z
        have hTT := hT
        rw [← List.take_append_drop i T, drop_get hi] at hTT hqT
        rcases List.mem_append.mp hqT with z2 | z2
        · rw [hb q z2] at q2; cases q2
        · rcases List.mem_cons.mp z2 with z3 | z3
          · exact eq z3
          · have := (List.pairwise_cons.mp ((List.pairwise_append.mp hTT).2.1)).1 q z3
            have := ltS_trans hlt this
            rw [ltS_irr] at this
            cases this
end Mw
-- part MwR9
set_option maxHeartbeats 4000000
/-! past_changes: slots 0 one  1 other  2 firsts*  3 seconds*  4 root  5 deed   -/
namespace Mw
open PySem PySem.Spec PyProof.Rows L2
abbrev st_past_changes : Stmt := topS 42
abbrev N_past_changes : List Str := ["one", "other", "firsts", "seconds", "root", "deed"]
theorem sc_past_changes : FnScope N_past_changes ["one", "other"] (defScope st_past_changes) := ⟨rfl, rfl, rfl, by decide +kernel, rfl, by decide +kernel, by decide +kernel⟩
/-- rows of three stands at roots -/
structure Three where
  R : List Str
  f : Str → Rw
  g : Str → Rw
  h : Str → Rw
structure Three.Ok (x : Three) : Prop where
  ris : Ris x.R
  len : x.R.length ≤ 12
  vf : ∀ r, RowV (x.f r)
  vg : ∀ r, RowV (x.g r)
  vh : ∀ r, RowV (x.h r)
  rf : Rows x.R x.f
  rg : Rows x.R x.g
  rh : Rows x.R x.h
noncomputable def Three.t (x : Three) (r : Str) : Bool := touchR (x.f r) (x.g r) (x.h r)
abbrev sp_past_changes (C : Addr) : Sp := SpX (α := Three) (fun x => [.dat (.tup ((deeds x.R x.f x.g).map Deed.d)), .dat (.tup ((deeds x.R x.f x.h).map Deed.d))]) Three.Ok
  (fun x => RDi (∀ r ∈ x.R, x.t r = false) (.tup [.tup ((pastD x.R x.f x.g x.h).map Deed.d), .tup ((pastD x.R x.f x.h x.g).map Deed.d)])) (fun x => TouchX C fun d1 d2 => ∃ r rs, x.R.filter x.t = r :: rs ∧ d1 = .str r ∧ d2 = .str r)
abbrev H_past_changes (P : Program) (w : World) (K : PySem.W.Frag) (mg : Str → Option Value) (base : Heap) (C : Addr) : Prop := HasX P w K mg base (L2.CX P w) 6 "past_changes" ["one", "other"] (sp_past_changes C)
theorem has_past_changes {P : Program} {w : World} {K : PySem.W.Frag} {mg : Str → Option Value} {base : Heap} {C : Addr} (B : Gs mg) (F : DefAt K mg "past_changes" st_past_changes) (G_by_roots : H_by_roots P w K mg base) (G_past_deeds : H_past_deeds P w K mg base C) : H_past_changes P w K mg base C := by
  exact F.hasX sc_past_changes (fun _ _ _ _ _ _ us hl => match us, hl with | [_, _], _ => rfl) (fun _ => rfl) fun f cdv A outer s H E hr => by
    have hu := room64 hr
    have hu1 := hu_of hr
    refine ⟨_, (pss_cons (ps_set (i := 2) sc_past_changes.nd rfl (Or.inr rfl) (pe_has G_by_roots hr (by decide) (by rfl) (pa_cons (pv 0) pa_nil)))
      (pss_cons (ps_set (i := 3) sc_past_changes.nd rfl (Or.inr rfl) (pe_has G_by_roots hr (by decide) (by rfl) (pa_cons (pv 1) pa_nil)))
      (pss_cons (ps_for PassesOwn.leaving rfl (pi_list (pe_callB (call_sortedD rfl) (by rfl) B.sorted b_sorted (pa_cons (pv 2) pa_nil))) (pg_name (i := 4) sc_past_changes.nd rfl (Or.inl rfl))
        (pss_one (ps_if (pt_cmp (pc_din hu1 (pv 4) (pv 3)))
          (pss_one (ps_asg (pe_hasE G_past_deeds hr (by decide) (by rfl) (L2.takes_of rfl rfl rfl rfl) (pa_cons (pe_dget hu1 (pv 2) (pv 4) (fun _ _ => rfl)) (pa_cons (pe_dget hu1 (pv 3) (pv 4) (fun _ _ => rfl)) pa_nil))) (pg_tup (by rfl) (pgs_cons (pg_sub (pv 2) (pv 4) (set_dict hu1)) (pgs_cons (pg_sub (pv 3) (pv 4) (set_dict hu1)) pgs_nil)))))
          pss_nil)))
      (pss_one (ps_ret (pe_tup (pa_cons (pe_callTy (call_tupK (K := K) rfl) (by rfl) B.tuple b_tuple (pa_cons (pe_lc (own := [("deed", 5)]) (g := gName 5) (tt := tYes) rfl sc_past_changes.nd (pi_tup (pv 0)) (blkOk_by (own := [("deed", 5)]) (N := N_past_changes) (sc := defScope st_past_changes) (by decide +kernel)) (fun _ _ _ _ _ => (pg_name (i := 5) sc_past_changes.nd rfl (Or.inl rfl))) (fun _ _ _ _ _ => pts_nil) (fun _ _ _ _ _ => (pe_dget hu1 (pv 2) (pe_ix (ix_seqK (K := K) rfl) (pv 5) pe_int (fun _ _ => rfl)) (fun _ _ => rfl)))) pa_nil)) (pa_cons (pe_callTy (call_tupK (K := K) rfl) (by rfl) B.tuple b_tuple (pa_cons (pe_lc (own := [("deed", 5)]) (g := gName 5) (tt := tYes) rfl sc_past_changes.nd (pi_tup (pv 1)) (blkOk_by (own := [("deed", 5)]) (N := N_past_changes) (sc := defScope st_past_changes) (by decide +kernel)) (fun _ _ _ _ _ => (pg_name (i := 5) sc_past_changes.nd rfl (Or.inl rfl))) (fun _ _ _ _ _ => pts_nil) (fun _ _ _ _ _ => (pe_dget hu1 (pv 3) (pe_ix (ix_seqK (K := K) rfl) (pv 5) pe_int (fun _ _ => rfl)) (fun _ _ => rfl)))) pa_nil)) pa_nil)))))))), fun x hp H R q qx => ?_⟩
    obtain ⟨Rs, f, g, h⟩ := x
    obtain ⟨ris, len, vf, vg, vh, rf, rg, rh⟩ := hp
    dsimp only at q qx ris len vf vg vh rf rg rh ⊢
    have n1 := ris_nodup (difR_ris ris f g)
    have n2 := ris_nodup (difR_ris ris f h)
    have l1 : (difR Rs f g).length ≤ 12 := Nat.le_trans (List.length_filter_le _ _) len
    have l2 : (difR Rs f h).length ≤ 12 := Nat.le_trans (List.length_filter_le _ _) len
    obtain ⟨k1, m1⟩ := byR_ok (e := fun r => deedOf r (f r) (g r)) n1 fun _ => rfl
    obtain ⟨k2, m2⟩ := byR_ok (e := fun r => deedOf r (f r) (h r)) n2 fun _ => rfl
    refine s_seq (s_asgG2 (g_callG (deeds Rs f g) (a_cons (x_vd rfl) a_nil) (by rw [deeds_dif, List.length_map]; omega) rfl) ?_)
    refine s_seq (s_asgG2 (g_callG (deeds Rs f h) (a_cons (x_vd rfl) a_nil) (by rw [deeds_dif, List.length_map]; omega) rfl) ?_)
    rw [deeds_dif, deeds_dif]
    have hs : (sortU ((byR ((difR Rs f g).map fun r => deedOf r (f r) (g r))).map (·.1))) = difR Rs f g := by rw [k1, sortU_ris (difR_ris ris f g)]
    refine s_seq (s_forN (xs := (difR Rs f g).map D.str) (js := [4]) (EvN.is (n_sortedDct (x_vD rfl) ?_ ?_) (by rw [hs])) (fun i S' => ∃ (a b : Dct) (u v : SV), S' = [.dat (.tup (((difR Rs f g).map fun r => deedOf r (f r) (g r)).map Deed.d)), .dat (.tup (((difR Rs f h).map fun r => deedOf r (f r) (h r)).map Deed.d)), .gen (DctR a), .gen (DctR b), u, v] ∧
      a.map (·.1) = difR Rs f g ∧ b.map (·.1) = difR Rs f h ∧ (∀ k ∈ difR Rs f g, lookS a k = some (if k ∈ (difR Rs f g).take i then past1 k (f k) (g k) (h k) else deedOf k (f k) (g k)).d) ∧
      (∀ k ∈ difR Rs f h, lookS b k = some (if k ∈ (difR Rs f g).take i then past1 k (f k) (h k) (g k) else deedOf k (f k) (h k)).d) ∧ ∀ k ∈ (difR Rs f g).take i, touchR (f k) (g k) (h k) = false) ⟨_, _, _, _, rfl, k1, k2, ?_, ?_, ?_⟩ ?_ ?_)
    · have := congrArg List.length k1
      rw [List.length_map] at this
      omega
    · rw [k1]; exact n1
    · intro k hk
      rw [m1, if_pos hk, List.take_zero, if_neg (fun z => nomem z)]
    · intro k hk
      rw [m2, if_pos hk, List.take_zero, if_neg (fun z => nomem z)]
    · intro k hk
      exact nomem hk
    · rintro H1 e1 i d' S' hd ⟨a, b, u, v, rfl, ka, kb, ha, hb, ht⟩
      rw [List.getElem?_map] at hd
      obtain ⟨k, hk, rfl⟩ := Option.map_eq_some_iff.mp hd
      have hkT := List.mem_of_getElem? hk
      obtain ⟨hkR, hkne⟩ := difR_mem.mp hkT
      have hkn : k ∉ (difR Rs f g).take i := fun hm => by
        have := n1
        rw [← List.take_append_drop i (difR Rs f g), List.nodup_append] at this
        exact this.2.2 _ hm _ (by rw [drop_get hk]; exact List.mem_cons_self) rfl
      have hk1 : ∀ q, q ∈ (difR Rs f g).take (i + 1) ↔ q ∈ (difR Rs f g).take i ∨ q = k := fun q => by
        rw [List.take_add_one, hk, List.mem_append]
        simp
      have la : a.length ≤ 12 := by
        have := congrArg List.length ka
        rw [List.length_map] at this
        omega
      have lb : b.length ≤ 12 := by
        have := congrArg List.length kb
        rw [List.length_map] at this
        omega
      refine ⟨_, g_name, ?_⟩
      refine s_if (b := (lookS b k).isSome) (t_cmp (x_din (x_vd rfl) (x_vD rfl))) (fun h3 => ?_) (fun h3 => s_next ?_)
      · have hk2 : k ∈ difR Rs f h := by
          rw [← kb]
          exact lookS_mem.mp h3
        obtain ⟨_, hkne2⟩ := difR_mem.mp hk2
        have da := ha k hkT
        have db := hb k hk2
        rw [if_neg hkn] at da db
        refine s_put2X (P := fun d1 d2 => d1 = .str k ∧ d2 = .str k ∧ touchR (f k) (g k) (h k) = true) (k := k) (k, f k, g k, h k) (a_cons (x_dget (x_vD rfl) (x_vd rfl) da) (a_cons (x_dget (x_vD rfl) (x_vd rfl) db) a_nil)) ⟨vf k, vg k, vh k, fun z => hkne z.symm, fun z => hkne2 z.symm⟩ rfl rfl ?_ rfl rfl rfl (by decide) (by decide) (by rw [sizeLine_eq]; omega) (by rw [sizeLine_eq]; omega) (fun hno => ?_)
        · refine (qx.up e1).imp fun d1 d2 hh => ?_
          obtain ⟨rfl, rfl, htt⟩ := hh
          obtain ⟨rs, hrs⟩ := first_touch (t := fun r => touchR (f r) (g r) (h r)) ris (difR_ris ris f g) (fun r hr htr => difR_mem.mpr ⟨hr, fun z => by
            have : touchR (f r) (g r) (h r) = false := by unfold touchR; rw [if_pos (.inl z.symm)]
            rw [this] at htr; cases htr⟩) (fun r hr => (difR_mem.mp hr).1) hk ht htt
          exact ⟨k, rs, hrs, rfl, rfl⟩
        · refine ⟨_, _, _, _, rfl, ?_, ?_, fun q hq => ?_, fun q hq => ?_, fun q hq => ?_⟩
          · rw [putS_keys (by rw [ka]; exact hkT), ka]
          · rw [putS_keys (by rw [kb]; exact hk2), kb]
          · rw [lookS_put]
            by_cases e : k = q
            · rw [if_pos e, ← e, if_pos ((hk1 k).mpr (.inr rfl))]
            · rw [if_neg e, ha q hq]
              by_cases em : q ∈ (difR Rs f g).take i
              · rw [if_pos em, if_pos ((hk1 q).mpr (.inl em))]
              · rw [if_neg em, if_neg (fun z => ((hk1 q).mp z).elim em fun y => e y.symm)]
          · rw [lookS_put]
            by_cases e : k = q
            · rw [if_pos e, ← e, if_pos ((hk1 k).mpr (.inr rfl))]
            · rw [if_neg e, hb q hq]
              by_cases em : q ∈ (difR Rs f g).take i
              · rw [if_pos em, if_pos ((hk1 q).mpr (.inl em))]
              · rw [if_neg em, if_neg (fun z => ((hk1 q).mp z).elim em fun y => e y.symm)]
          · rcases (hk1 q).mp hq with z | z
            · exact ht q z
            · rw [z]; exact hno
      · have hk2 : k ∉ difR Rs f h := fun z => by
          rw [← kb] at z
          rw [lookS_mem.mpr z] at h3
          cases h3
        have hkh : f k = h k := Classical.byContradiction fun z => hk2 (difR_mem.mpr ⟨hkR, z⟩)
        refine ⟨_, _, _, _, rfl, ka, kb, fun q hq => ?_, fun q hq => ?_, fun q hq => ?_⟩
        · rw [ha q hq]
          by_cases em : q ∈ (difR Rs f g).take i
          · rw [if_pos em, if_pos ((hk1 q).mpr (.inl em))]
          · rw [if_neg em]
            by_cases e : q = k
            · rw [if_pos ((hk1 q).mpr (.inr e)), e, past1_same hkh]
            · rw [if_neg (fun z => ((hk1 q).mp z).elim em e)]
        · rw [hb q hq]
          have e : q ≠ k := fun z => hk2 (by rw [← z]; exact hq)
          by_cases em : q ∈ (difR Rs f g).take i
          · rw [if_pos em, if_pos ((hk1 q).mpr (.inl em))]
          · rw [if_neg em, if_neg (fun z => ((hk1 q).mp z).elim em e)]
        · rcases (hk1 q).mp hq with z | z
          · exact ht q z
          · rw [z]
            unfold touchR
            rw [if_pos (.inr hkh.symm)]
    · rintro H1 e1 S' ⟨a, b, u, v, rfl, ka, kb, ha, hb, ht⟩
      rw [List.length_map, List.take_length] at ha hb ht
      have hall : ∀ r ∈ Rs, touchR (f r) (g r) (h r) = false := fun r hr => by
        by_cases e : r ∈ difR Rs f g
        · exact ht r e
        · have : f r = g r := Classical.byContradiction fun z => e (difR_mem.mpr ⟨hr, z⟩)
          unfold touchR
          rw [if_pos (.inl this.symm)]
      refine r_Di (q.upDi e1) hall (x_tup (d_cons (x_tupL (EvN.x (n_lcTY (fun d => match d with | .tup (.str k :: _) => (past1 k (f k) (g k) (h k)).d | _ => .non) (x_vd rfl) (by rw [List.length_map, List.length_map]; omega) ?_))) (d_cons (x_tupL (EvN.x (n_lcTY (fun d => match d with | .tup (.str k :: _) => (past1 k (f k) (h k) (g k)).d | _ => .non) (x_vd rfl) (by rw [List.length_map, List.length_map]; omega) ?_))) d_nil)) (sz 2 rfl)) ?_
      · intro i d hd
        rw [List.getElem?_map, List.getElem?_map] at hd
        obtain ⟨x, hx, rfl⟩ := Option.map_eq_some_iff.mp hd
        obtain ⟨k, hk, rfl⟩ := Option.map_eq_some_iff.mp hx
        have hkT := List.mem_of_getElem? hk
        have := ha k hkT
        rw [if_pos hkT] at this
        exact ⟨_, _, g_name, by simp, x_dget (x_vD rfl) (x_ixT (x_vd rfl) x_ci (k := 0) rfl rfl) this⟩
      · intro i d hd
        rw [List.getElem?_map, List.getElem?_map] at hd
        obtain ⟨x, hx, rfl⟩ := Option.map_eq_some_iff.mp hd
        obtain ⟨k, hk, rfl⟩ := Option.map_eq_some_iff.mp hx
        have hkT := List.mem_of_getElem? hk
        have := hb k hkT
        refine ⟨_, _, g_name, by simp, x_dget (d := (past1 k (f k) (h k) (g k)).d) (x_vD rfl) (x_ixT (x_vd rfl) x_ci (k := 0) rfl rfl) ?_⟩
        rw [this]
        by_cases e : k ∈ difR Rs f g
        · rw [if_pos e]
        · have : f k = g k := Classical.byContradiction fun z => e (difR_mem.mpr ⟨(difR_mem.mp hkT).1, z⟩)
          rw [if_neg e, past1_same this]
      · rw [pastD_dif, pastD_dif, List.map_map, List.map_map, List.map_map, List.map_map, List.map_map, List.map_map]
        rfl
end Mw
-- part MwX7
set_option maxHeartbeats 4000000
/-! A def that may let a Touch out, called where it does not. -/
namespace Mw
open PySem PySem.Spec PyProof.Rows L2
theorem pe_hasE0 {X : Cx} {k j : Nat} {x : Str} {ps : List Str} {sp : Sp} {e : Expr} {es : List Expr} {t : TA} {p pos : Pos} (G : HasX X.prog X.w X.K X.mg X.base (L2.CX X.prog X.w) k x ps sp) (hr : Room j X.A) (hk : k ≤ j) (hg : Gl X x) (ha : PA X (e :: es) t)
    (hdb : (x == ("__debug__" : Str)) = false := by decide) (he : starEach (e :: es) X.env = (false, eval e X.env) :: starEach es X.env := by rfl) (hpl : (backTo pos (starEach es X.env)).any (·.1) = false := by rfl) : PE X (.Call (.Name x p) (e :: es) [] pos) (tCall sp [] E0 t) := by
  obtain ⟨f, fd, h1, h2, h3, h4⟩ := G
  refine pe_call h2 (hr.mono hk) hg h1 h3 h4 .nil (fun pins σ H s e s' I c => ?_) ha hdb he hpl
  obtain ⟨a, B, H', cls, d, _, _, _, _, _, _, _, hE⟩ := c
  exact hE.elim
section
variable {H0 : Hp} {S : List SV}
theorem x_callDX0 {α : Type} {av : α → List AV} {pre : α → Prop} {rp : α → Rp} {xp : α → Xp} {ta : TA} {Pq : Prop} (x : α) {d : D} (h : EvA H0 S ta (av x)) (hp : pre x) (e : rp x = RDi Pq d) (hno : ∀ H c d H', ¬ xp x H c d H') : EvX H0 S (tCall (SpX av pre rp xp) [] E0 ta) (.dat d) := fun σ H hs Q k =>
  h σ H hs _ fun vs H1 e1 hv => by
    rw [List.append_nil]
    refine ⟨x, hv, hp, fun v H' r => ?_, fun c dd H' r => (hno _ _ _ _ r).elim⟩
    rw [e] at r
    exact k v H' (e1.trans r.2.1) r.2.2
end
end Mw
-- part MwR10
set_option maxHeartbeats 4000000
/-! _law_refused: slots 0 _law_base  1 _law_one  2 _law_other  3 _law_found  4 _law_fields  5 e   -/
namespace Mw
open PySem PySem.Spec PyProof.Rows L2
abbrev st_l_refused : Stmt := topS 68
abbrev N_l_refused : List Str := ["_law_base", "_law_one", "_law_other", "_law_found", "_law_fields", "e"]
theorem sc_l_refused : FnScope N_l_refused ["_law_base", "_law_one", "_law_other"] (defScope st_l_refused) := ⟨rfl, rfl, rfl, by decide +kernel, rfl, by decide +kernel, by decide +kernel⟩
noncomputable def refD (x : Three) : D := match x.R.filter x.t with
  | [] => .tup [.tup [.tup ((pastD x.R x.f x.g x.h).map Deed.d), .tup ((pastD x.R x.f x.h x.g).map Deed.d)], .non]
  | r :: _ => .tup [.non, .tup [.str r, .str r]]
abbrev sp_l_refused : Sp := SpG (α := Three) (fun x => [.dat (.tup (standD (mkS x.R x.f))), .dat (.tup (standD (mkS x.R x.g))), .dat (.tup (standD (mkS x.R x.h)))]) Three.Ok (fun x => RD (refD x))
abbrev H_l_refused (P : Program) (w : World) (K : PySem.W.Frag) (mg : Str → Option Value) (base : Heap) : Prop := Has P w K mg base 7 "_law_refused" ["_law_base", "_law_one", "_law_other"] sp_l_refused
theorem takes_no {X : Cx} : L2.Takes X (fun _ _ _ _ => False) := fun u s' ⟨_, _, _, _, _, _, _, _, _, _, _, _, _, _, _, _, w⟩ => w.elim
abbrev tbR (C : Addr) (W : WX) : TS := tAsg (tCallS (sp_past_changes C) (fun σ cls d H => W cls d σ H) (tCons (tCall sp_stand_change [] E0 (tCons (tVar 0) (tCons (tVar 1) tNil))) (tCons (tCall sp_stand_change [] E0 (tCons (tVar 0) (tCons (tVar 2) tNil))) tNil))) (gName 3)
abbrev tsR (C : Addr) (a : Addr) (cls : Value) (d : Option Addr) : TS := tAsg (tTup (tCons (tXf a cls d C "one" (tVar 5)) (tCons (tXf a cls d C "other" (tVar 5)) tNil))) (gName 4)
theorem s_refT {K : PySem.W.Frag} {H0 : Hp} {S : List SV} {R : V → Hp → Prop} {N : Hp → List SV → Prop} {C : Addr} {ta : TA} {x : Three} (hx : x.Ok) (h : EvA H0 S ta [.dat (.tup ((deeds x.R x.f x.g).map Deed.d)), .dat (.tup ((deeds x.R x.f x.h).map Deed.d))]) (hex : PySem.W.exmOne K (.ref C) (.ref C) = some true) (h5 : 5 < S.length)
    (k1 : (∀ r ∈ x.R, x.t r = false) → N H0 (S.set 3 (.dat (.tup [.tup ((pastD x.R x.f x.g x.h).map Deed.d), .tup ((pastD x.R x.f x.h x.g).map Deed.d)])))) (k2 : ∀ r rs, x.R.filter x.t = r :: rs → N H0 ((S.set 4 (.dat (.tup [.str r, .str r]))).set 5 .no)) :
    ExS H0 R (fun D σ H => tAsg (tCallS (sp_past_changes C) (fun σ cls d H => wAs K (.ref C) 5 (tsR C) (fun _ _ _ _ => False) D cls d σ H) ta) (gName 3) D σ H) S N := fun D σ H hs hn hr =>
  h σ H hs _ fun vs H1 e1 hv => by
    refine ⟨x, hv, hx, fun v H' r => ?_, fun c dd H' r => ?_⟩
    · exact hn H0 _ _ H' (Same.refl H0) (k1 r.1) (StD.put 3 ((hs.grow e1).grow r.2.1) ⟨rfl, v, rfl, r.2.2⟩)
    · obtain ⟨rfl, dd, v1, v2, d1, d2, rfl, e2, hget, w1, w2, r, rs, hr2, rfl, rfl⟩ := r
      have hl : 5 < σ.length := by
        obtain ⟨_, Fs, hh, _⟩ := hs
        rw [hh.length.1]
        exact h5
      have g5 : ∀ a : Addr, (σ.set 5 (some (V.ref a)))[5]? = some (some (V.ref a)) := fun a => by simp [hl]
      refine ⟨true, hex, fun _ a ha => ?_, fun z => nomatch z⟩
      refine ⟨_, g5 a, rfl, rfl, dd, _, v1, rfl, hget, rfl, _, g5 a, rfl, rfl, dd, _, v2, rfl, hget, rfl, (by rw [sizeLine_eq]; simp), fun p hp => ?_⟩
      have hs2 : StD H0 (upd H' p (.tup [v1, v2])) σ S := ((hs.grow e1).grow e2).grow (same_new hp)
      have hs3 := StD.put (o := none) (x := .no) 5 (StD.put (x := .dat (.tup [.str r, .str r])) 4 hs2 ⟨rfl, .ref p, rfl, p, [v1, v2], rfl, upd_same, DVs.mono (same_new hp) ⟨v1, _, rfl, w1, v2, _, rfl, w2, rfl⟩⟩) (by first | exact rfl | exact ⟨rfl, rfl⟩ | trivial)
      have el : ((σ.set 5 (some (V.ref a))).set 4 (some (V.ref p))).set 5 none = (σ.set 4 (some (V.ref p))).set 5 none := by
        rw [List.set_comm (l := σ) _ _ (by decide : (5 : Nat) ≠ 4), List.set_set]
      show D.nx (((σ.set 5 (some (V.ref a))).set 4 (some (V.ref p))).set 5 none) _
      rw [el]
      exact hn H0 _ _ _ (Same.refl H0) (k2 r rs hr2) hs3
theorem has_l_refused {P : Program} {w : World} {K : PySem.W.Frag} {mg : Str → Option Value} {base : Heap} {C : Addr} (B : Gs mg) (F : DefAt K mg "_law_refused" st_l_refused) (T : Tch K mg C st_Touch_init) (G_stand_change : H_stand_change P w K mg base) (G_past_changes : H_past_changes P w K mg base C) : H_l_refused P w K mg base :=
  F.hasG sc_l_refused (fun _ _ _ _ _ _ us hl => match us, hl with | [_, _, _], _ => rfl) (fun _ => rfl) fun f cdv A outer s H E hr => by
    have hu := room64 hr
    refine ⟨_, (pss_cons (ps_asg (pe_tup (pa_cons pe_non (pa_cons pe_non pa_nil))) (pg_tup (by rfl) (pgs_cons (pg_name (i := 3) sc_l_refused.nd rfl (Or.inl rfl)) (pgs_cons (pg_name (i := 4) sc_l_refused.nd rfl (Or.inl rfl)) pgs_nil))))
      (pss_cons (L2.ps_try_as (X := (cxOf CX0 P w K mg base N_l_refused "_law_refused" (defScope st_l_refused) f cdv A outer s H E).nox) (i := 5) (c := .ref C) (tb := tbR C) (ts := tsR C) (Wout := fun _ _ _ _ => False) rfl rfl sc_l_refused.nd rfl rfl ⟨by rfl, by decide, .inl T.mgT⟩ takes_no
        (fun W pn xe tk ps => pss_one (X := Cx.tr (cxOf CX0 P w K mg base N_l_refused "_law_refused" (defScope st_l_refused) f cdv A outer s H E).nox pn xe) (ps_asg (X := Cx.tr (cxOf CX0 P w K mg base N_l_refused "_law_refused" (defScope st_l_refused) f cdv A outer s H E).nox pn xe) (pe_hasES G_past_changes hr (by decide) (by rfl) tk (pa_cons (pe_has G_stand_change hr (by decide) (by rfl) (pa_cons (pv 0) (pa_cons (pv 1) pa_nil))) (pa_cons (pe_has G_stand_change hr (by decide) (by rfl) (pa_cons (pv 0) (pa_cons (pv 2) pa_nil))) pa_nil))) (pg_name (i := 3) sc_l_refused.nd rfl (Or.inl rfl))))
        (fun a oe cls d pn hz hd => pss_one (ps_asg (pe_tup (pa_cons (pe_xf T.xf T.n1 hz hd (pv 5)) (pa_cons (pe_xf T.xf T.n2 hz hd (pv 5)) pa_nil))) (pg_name (i := 4) sc_l_refused.nd rfl (Or.inl rfl)))))
      (pss_one (ps_ret (pe_tup (pa_cons (pv 3) (pa_cons (pv 4) pa_nil))))))), fun x hp H R q => ?_⟩
    obtain ⟨ris, len, vf, vg, vh, rf, rg, rh⟩ := hp
    dsimp only at q ⊢
    have lf := Nat.le_trans (mkS_len x.R x.f) len
    have lg := Nat.le_trans (mkS_len x.R x.g) len
    have lh := Nat.le_trans (mkS_len x.R x.h) len
    obtain ⟨Rs, f, g, h⟩ := x
    dsimp only at q ris len vf vg vh rf rg rh lf lg lh ⊢
    have rof := rowOf_mkS ris rf
    have rog := rowOf_mkS ris rg
    have roh := rowOf_mkS ris rh
    refine s_seq (s_asgG (js := [3, 4]) (x_tup (d_cons x_cn (d_cons x_cn d_nil)) (sz 2 rfl)) (g_tup rfl rfl) ?_)
    refine s_seq (s_refT (x := ⟨Rs, f, g, h⟩) ⟨ris, len, vf, vg, vh, rf, rg, rh⟩ (a_cons (x_callD (d := .tup ((deeds Rs f g).map Deed.d)) (mkS Rs f, mkS Rs g) (a_cons (x_vd rfl) (a_cons (x_vd rfl) a_nil)) ⟨⟨lf, lg⟩, fun r => by rw [rof, rog]; exact ⟨vf r, vg r⟩⟩ (by dsimp only; rw [deeds_stand ris rf rg])) (a_cons (x_callD (d := .tup ((deeds Rs f h).map Deed.d)) (mkS Rs f, mkS Rs h) (a_cons (x_vd rfl) (a_cons (x_vd rfl) a_nil)) ⟨⟨lf, lh⟩, fun r => by rw [rof, roh]; exact ⟨vf r, vh r⟩⟩ (by dsimp only; rw [deeds_stand ris rf rh])) a_nil)) T.ex (Nat.le_refl 6) (fun hno => ?_) (fun r rs hr2 => ?_))
    · refine r_De q (x_tup (d_cons (x_vd rfl) (d_cons (x_vd rfl) d_nil)) (sz 2 rfl)) ?_
      unfold refD
      rw [List.filter_eq_nil_iff.mpr (fun r hr => by rw [hno r hr]; simp)]
    · refine r_De q (x_tup (d_cons (x_vd rfl) (d_cons (x_vd rfl) d_nil)) (sz 2 rfl)) ?_
      unfold refD
      rw [hr2]
end Mw
-- part MwR11
set_option maxHeartbeats 4000000
namespace Mw
open PySem PySem.Spec PyProof.Rows L2
/-- rows by their roots, as a dict -/
def rowsD (s : Stand) : Dct := s.map fun p => (p.1, p.2.d)
theorem rowsD_keys (s : Stand) : (rowsD s).map (·.1) = keys s := by
  unfold rowsD keys
  rw [List.map_map]
  rfl
theorem rowsD_look {s : Stand} {k : Str} (h : k ∈ keys s) : lookS (rowsD s) k = some (rowOf s k).d := by
  induction s with
  | nil => exact nomem h
  | cons p s ih =>
    show lookS ((p.1, p.2.d) :: rowsD s) k = _
    unfold lookS rowOf
    by_cases e : p.1 = k
    · rw [if_pos e, if_pos e]
    · rw [if_neg e, if_neg e]
      exact ih ((List.mem_cons.mp h).elim (fun z => absurd z.symm e) id)
/-! _law_stand: slots 0 _law_rows*  1 _law_root   -/
abbrev st_l_stand : Stmt := topS 64
abbrev N_l_stand : List Str := ["_law_rows", "_law_root"]
theorem sc_l_stand : FnScope N_l_stand ["_law_rows"] (defScope st_l_stand) := ⟨rfl, rfl, rfl, by decide +kernel, rfl, by decide +kernel, by decide +kernel⟩
abbrev sp_l_stand : Sp := SpG (α := Stand) (fun x => [.hand (DctHd (rowsD x))]) (fun x => (keys x).Nodup ∧ x.length < 64) (fun x => RD (.tup (standD (mkS (sortU (keys x)) (rowOf x)))))
abbrev H_l_stand (P : Program) (w : World) (K : PySem.W.Frag) (mg : Str → Option Value) (base : Heap) : Prop := Has P w K mg base 1 "_law_stand" ["_law_rows"] (sp_l_stand)
theorem has_l_stand {P : Program} {w : World} {K : PySem.W.Frag} {mg : Str → Option Value} {base : Heap} (B : Gs mg) (F : DefAt K mg "_law_stand" st_l_stand)   : H_l_stand P w K mg base :=
  F.hasG sc_l_stand (fun _ _ _ _ _ _ us hl => match us, hl with | [_], _ => rfl) (fun _ => rfl) fun f cdv A outer s H E hr => by
    have hu := room64 hr
    have hu1 := hu_of hr
    refine ⟨_, (pss_one (ps_ret (pe_callTy (call_tupK (K := K) rfl) (by rfl) B.tuple b_tuple (pa_cons (pe_lc (own := [("_law_root", 1)]) (g := gName 1) rfl sc_l_stand.nd (pi_list (pe_callB (call_sortedD rfl) (by rfl) B.sorted b_sorted (pa_cons (pv 0) pa_nil))) (blkOk_by (own := [("_law_root", 1)]) (N := N_l_stand) (sc := defScope st_l_stand) (by decide +kernel)) (fun _ _ _ _ _ => (pg_name (i := 1) sc_l_stand.nd rfl (Or.inl rfl))) (fun _ _ _ _ _ => (pts_one (pt_cmpR op_notNA (pe_ix (ix_seqK (K := K) rfl) (pe_dget hu1 (pv 0) (pv 1) (fun _ _ => rfl)) pe_int (fun _ _ => rfl)) pe_non (nomark _)))) (fun _ _ _ _ _ => (pe_tup (pa_cons (pv 1) (pa_cons (pe_ix (ix_seqK (K := K) rfl) (pe_dget hu1 (pv 0) (pv 1) (fun _ _ => rfl)) pe_int (fun _ _ => rfl)) (pa_cons (pe_ix (ix_seqK (K := K) rfl) (pe_dget hu1 (pv 0) (pv 1) (fun _ _ => rfl)) pe_int (fun _ _ => rfl)) pa_nil)))))) pa_nil)))), fun x hp H R q => ?_⟩
    obtain ⟨hn, hz⟩ := hp
    dsimp only at q ⊢
    have hs : sortU ((rowsD x).map (·.1)) = sortU (keys x) := by rw [rowsD_keys]
    have hl : (sortU (keys x)).length ≤ 64 := by
      have := sortU_len (keys x)
      unfold keys at this ⊢
      rw [List.length_map] at this
      omega
    refine r_De q (x_tupL (EvN.x (n_lcL (xs := (sortU (keys x)).map D.str) (fun d => match d with | .str k => !decide ((rowOf x k).w = .non) | _ => false) (fun d => match d with | .str k => .tup [.str k, (rowOf x k).w, .tup (rowOf x k).i] | _ => .non) (EvN.x (EvN.is (n_sortedDct (x_vh rfl) (by unfold rowsD; rw [List.length_map]; exact hz) (by rw [rowsD_keys]; exact hn)) (by rw [hs]))) (by rw [List.length_map]; omega) ?_))) ?_
    · intro i d hd
      rw [List.getElem?_map] at hd
      obtain ⟨k, hk, rfl⟩ := Option.map_eq_some_iff.mp hd
      have hk2 := rowsD_look (mem_sortU.mp (List.mem_of_getElem? hk))
      exact ⟨_, _, g_name, by simp, t_cB (x_notN (x_ixT (x_dget (x_vh rfl) (x_vd rfl) hk2) x_ci (k := 0) rfl rfl) x_cn) rfl, fun _ => x_tup (d_cons (x_vd rfl) (d_cons (x_ixT (x_dget (x_vh rfl) (x_vd rfl) hk2) x_ci (k := 0) rfl rfl) (d_cons (x_ixT (x_dget (x_vh rfl) (x_vd rfl) hk2) x_ci (k := 1) rfl rfl) d_nil))) (sz 3 rfl)⟩
    · unfold mkS standD
      rw [List.filter_map, List.map_map, List.map_map]
      rfl
end Mw
-- part MwR12
set_option maxHeartbeats 4000000
namespace Mw
open PySem PySem.Spec PyProof.Rows L2
/-- the clashes of a row, of a stand -/
def clR (p : Str × Rw) : List D := ((p.2.w :: p.2.i).filter D.isTup).map fun d => .tup [.str p.1, d]
def clS (s : Stand) : List D := s.flatMap clR
theorem clR_len (p : Str × Rw) : (clR p).length ≤ p.2.i.length + 1 := by
  unfold clR
  rw [List.length_map]
  exact Nat.le_trans (List.length_filter_le _ _) (Nat.le_refl _)
theorem clS_step {s : Stand} {i : Nat} {p : Str × Rw} (h : s[i]? = some p) : clS (s.take (i + 1)) = clS (s.take i) ++ clR p := by
  unfold clS
  rw [List.take_add_one, h, List.flatMap_append]
  simp
theorem clS_len {s : Stand} (h : ∀ p ∈ s, p.2.i.length ≤ 4000) : ∀ n, n ≤ s.length → (clS (s.take n)).length ≤ n * 4001
  | 0, _ => by rw [List.take_zero]; exact Nat.zero_le _
  | n + 1, hn => by
    have hx : s[n]? = some s[n] := by simp
    rw [clS_step hx, List.length_append]
    have h1 := clS_len h n (by omega)
    have h2 := clR_len s[n]
    have h3 := h s[n] (List.mem_of_getElem? hx)
    omega
/-! _law_many_clashes: slots 0 _law_stand_here  1 _law_found  2 _law_root*  3 _law_where_here  4 _law_items_here  5 _law_thing   -/
abbrev st_l_many_clashes : Stmt := topS 67
abbrev N_l_many_clashes : List Str := ["_law_stand_here", "_law_found", "_law_root", "_law_where_here", "_law_items_here", "_law_thing"]
theorem sc_l_many_clashes : FnScope N_l_many_clashes ["_law_stand_here"] (defScope st_l_many_clashes) := ⟨rfl, rfl, rfl, by decide +kernel, rfl, by decide +kernel, by decide +kernel⟩
abbrev sp_l_many_clashes : Sp := SpG (α := Stand) (fun x => [.dat (.tup (standD x))]) (fun x => (∀ p ∈ x, p.2.i.length ≤ 4000) ∧ x.length ≤ 100) (fun x => RN (clS x))
abbrev H_l_many_clashes (P : Program) (w : World) (K : PySem.W.Frag) (mg : Str → Option Value) (base : Heap) : Prop := Has P w K mg base 1 "_law_many_clashes" ["_law_stand_here"] (sp_l_many_clashes)
theorem has_l_many_clashes {P : Program} {w : World} {K : PySem.W.Frag} {mg : Str → Option Value} {base : Heap} (B : Gs mg) (F : DefAt K mg "_law_many_clashes" st_l_many_clashes)   : H_l_many_clashes P w K mg base :=
  F.hasG sc_l_many_clashes (fun _ _ _ _ _ _ us hl => match us, hl with | [_], _ => rfl) (fun _ => rfl) fun f cdv A outer s H E hr => by
    have hu := room64 hr
    have hu1 := hu_of hr
    refine ⟨_, (pss_cons (ps_set (i := 1) sc_l_many_clashes.nd rfl (Or.inl rfl) (pe_lst pa_nil))
      (pss_cons (ps_for PassesOwn.never rfl (pi_tup (pv 0)) (pg_tup (by rfl) (pgs_cons (pg_name (i := 2) sc_l_many_clashes.nd rfl (Or.inr rfl)) (pgs_cons (pg_name (i := 3) sc_l_many_clashes.nd rfl (Or.inl rfl)) (pgs_cons (pg_name (i := 4) sc_l_many_clashes.nd rfl (Or.inl rfl)) pgs_nil))))
        (pss_one (ps_expr (pe_bm PySem.F.plainAttrs_list PySem.F.slot_list_extend PySem.F.type_list_extend mt_extend (pv 1) (pa_cons (pe_lc (own := [("_law_thing", 5)]) (g := gName 5) rfl sc_l_many_clashes.nd (pi_tup (pe_op (op_addK (K := K) rfl) (pe_tup (pa_cons (pv 3) pa_nil)) (pv 4))) (blkOk_by (own := [("_law_thing", 5)]) (N := N_l_many_clashes) (sc := defScope st_l_many_clashes) (by decide +kernel)) (fun _ _ _ _ _ => (pg_name (i := 5) sc_l_many_clashes.nd rfl (Or.inl rfl))) (fun _ _ _ _ _ => (pts_one (pt_val (pe_callB (call_isiK (K := K) rfl) (by rfl) B.isin b_isin (pa_cons (pv 5) (pa_cons (pe_bltn (v := .ty "tuple") (by rfl) B.tuple b_tuple rfl) pa_nil)))))) (fun _ _ _ _ _ => (pe_tup (pa_cons (pv 2) (pa_cons (pv 5) pa_nil))))) pa_nil)))))
      (pss_one (ps_ret (pv 1))))), fun x hp H R q => ?_⟩
    obtain ⟨hl, hz⟩ := hp
    dsimp only at q ⊢
    refine s_seq (s_asgN (n_lst d_nil (sz 0 rfl)) ?_)
    refine s_seq (s_forT (xs := standD x) (js := [2, 3, 4]) (x_vd rfl) (fun i S' => ∃ a b c d, S' = [.dat (.tup (standD x)), .own (clS (x.take i)), a, b, c, d]) ⟨_, _, _, _, rfl⟩ ?_ ?_)
    · rintro H1 e1 i d' S' hd ⟨a, b, c, d, rfl⟩
      unfold standD at hd
      rw [List.getElem?_map] at hd
      obtain ⟨p, hp2, rfl⟩ := Option.map_eq_some_iff.mp hd
      have hi := (List.getElem?_eq_some_iff.mp hp2).1
      have h1 := clS_len hl i (by omega)
      have h2 := clR_len p
      have h3 := hl p (List.mem_of_getElem? hp2)
      refine ⟨_, g_tup (ds := [.str p.1, p.2.w, .tup p.2.i]) rfl rfl, ?_⟩
      refine s_ext (es := clR p) rfl (EvN.x (n_lcT (xs := [p.2.w] ++ p.2.i) D.isTup (fun d => .tup [.str p.1, d]) (x_addT (x_tup (d_cons (x_vd rfl) d_nil) (sz 1 rfl)) (x_vd rfl) (sizeL (by simp; omega))) (by simp; omega) ?_)) (by rw [sizeLine_eq]; omega) ⟨_, _, _, _, by rw [clS_step hp2]; rfl⟩
      intro j x hx
      exact ⟨_, _, g_name, by simp, t_vB (x_isTup (x_vd rfl)) rfl, fun _ => x_tup (d_cons (x_vd rfl) (d_cons (x_vd rfl) d_nil)) (sz 2 rfl)⟩
    · rintro H1 e1 S' ⟨a, b, c, d, rfl⟩
      unfold standD
      rw [List.length_map, List.take_length]
      exact r_O (q.upN e1) rfl
end Mw
-- part MwR13
set_option maxHeartbeats 4000000
namespace Mw
open PySem PySem.Spec PyProof.Rows L2
theorem x_ofG {H0 : Hp} {S : List SV} {te : TE} {m : Dct} (h : EvG2 H0 S te (DctR m)) : EvX H0 S te (.hand (DctHd m)) := fun σ H hs Q q => h σ H hs Q fun v F H' e ok _ _ => q v H' e ((DctR m).toHd ok)
theorem mergeS_go : ∀ (m a : Dct), ((a ++ m).map (·.1)).Nodup → mergeS a m = a ++ m
  | [], a, _ => (List.append_nil a).symm
  | p :: m, a, h => by
    show mergeS (putS a p.1 p.2) m = _
    have hn : p.1 ∉ a.map (·.1) := fun z => by
      rw [List.map_append, List.nodup_append] at h
      exact h.2.2 _ z _ (by rw [List.map_cons]; exact List.mem_cons_self) rfl
    rw [putS_new hn, mergeS_go m (a ++ [(p.1, p.2)]) (by rw [List.append_assoc]; exact h), List.append_assoc]
    rfl
theorem mergeS_new {m : Dct} (h : (m.map (·.1)).Nodup) : mergeS [] m = m := mergeS_go m [] h
/-- rows at some roots alone -/
noncomputable def rsF (T : List Str) (s : Stand) : Str → Rw := fun r => if r ∈ T then rowOf s r else Rw.none
def atS (T : List Str) (s : Stand) : Stand := T.map fun r => (r, rowOf s r)
theorem atS_keys (T : List Str) (s : Stand) : keys (atS T s) = T := by
  unfold keys atS
  rw [List.map_map]
  exact List.map_id _
theorem atS_row (s : Stand) {r : Str} : ∀ {T : List Str}, r ∈ T → rowOf (atS T s) r = rowOf s r
  | t :: T, h => by
    show rowOf ((t, rowOf s t) :: atS T s) r = _
    show (if t = r then rowOf s t else rowOf (atS T s) r) = _
    by_cases e : t = r
    · rw [if_pos e, e]
    · rw [if_neg e]
      exact atS_row s ((List.mem_cons.mp h).elim (fun z => absurd z.symm e) id)
theorem rsF_rows {T : List Str} {s : Stand} (h : ∀ r, RowV (rowOf s r)) : (∀ r, RowV (rsF T s r)) ∧ Rows T (rsF T s) := by
  have h1 : ∀ r, RowV (rsF T s r) := fun r => by
    unfold rsF
    split
    · exact h r
    · exact rowV_none
  exact ⟨h1, RowV.rows h1 fun r hr => by unfold rsF; rw [if_neg hr]⟩
theorem atS_mk {T : List Str} {s : Stand} (hT : Ris T) : mkS (sortU (keys (atS T s))) (rowOf (atS T s)) = mkS T (rsF T s) := by
  rw [atS_keys, sortU_ris hT]
  exact mkS_congr fun r hr => by rw [atS_row s hr]; unfold rsF; rw [if_pos hr]
theorem standD_dep {s : Stand} (h : ∀ p ∈ s, RowL p.2) : (D.tup (standD s)).dep ≤ 11 := by
  have : D.deps (standD s) ≤ 10 := D.deps_le fun d hd => by
    obtain ⟨p, hp, rfl⟩ := List.mem_map.mp hd
    have h1 := D.deps_le (h p hp).i
    have h2 := (h p hp).w
    unfold rowSD
    simp only [D.dep, D.deps]
    omega
  simp only [D.dep]
  omega
theorem mkS_dep {R : List Str} {f : Str → Rw} (h : ∀ r, RowL (f r)) : (D.tup (standD (mkS R f))).dep ≤ 11 := standD_dep fun p hp => by
  rw [(mkS_mem.mp hp).2.1]
  exact h p.1
theorem standD_inj {s t : Stand} (h : standD s = standD t) : s = t := by
  unfold standD at h
  refine List.map_inj_right (fun p q e => ?_) |>.mp h
  unfold rowSD at e
  injection e with e
  injection e with e1 e
  injection e with e2 e
  injection e with e3 _
  injection e1 with e1
  injection e3 with e3
  exact Prod.ext e1 (Rw.ext e2 e3)
/-- three dicts of rows of the same roots -/
structure Trio where
  b : Stand
  o : Stand
  p : Stand
structure Trio.Ok (x : Trio) : Prop where
  nd : (keys x.b).Nodup
  ko : keys x.o = keys x.b
  kp : keys x.p = keys x.b
  len : x.b.length ≤ 12
  vb : ∀ r, RowV (rowOf x.b r)
  vo : ∀ r, RowV (rowOf x.o r)
  vp : ∀ r, RowV (rowOf x.p r)
noncomputable def Trio.J (x : Trio) (r : Str) : Rw := joinR (rowOf x.b r) (rowOf x.o r) (rowOf x.p r)
noncomputable def Trio.t (x : Trio) (r : Str) : Bool := touchR (rowOf x.b r) (rowOf x.o r) (rowOf x.p r)
end Mw
-- part MwS10
set_option maxHeartbeats 4000000
/-! Walks over a dict, which is locked meanwhile. -/
namespace Mw
open PySem PySem.Spec PyProof.Rows L2
/-- a dict that no walk locks -/
def DctHx (m : Dct) : Hd := ⟨fun H v => ∃ p kvs, v = .ref p ∧ H p = some (.dK kvs) ∧ KD H kvs m, fun e h => by
  obtain ⟨p, kvs, h1, h2, h3⟩ := h
  exact ⟨p, kvs, h1, e _ _ h2, h3.ts (TupS.of e)⟩⟩
section
variable {H0 : Hp} {S : List SV} {R : V → Hp → Prop} {N : Hp → List SV → Prop}
theorem x_hx {te : TE} {m : Dct} (h : EvX H0 S te (.hand (DctHx m))) : EvX H0 S te (.hand (DctHd m)) := fun σ H hs Q q => h σ H hs Q fun v H' e ok => q v H' e (by
  obtain ⟨p, kvs, h1, h2, h3⟩ := ok
  exact ⟨p, kvs, h1, .inl h2, h3⟩)
theorem x_vX {i : Nat} {m : Dct} (h : S[i]? = some (.gen (DctR m))) : EvX H0 S (tVar i) (.hand (DctHx m)) := fun σ H hs Q q => by
  obtain ⟨ex, Fs, h1, h2, h3⟩ := hs
  obtain ⟨o, F, h4, h5, v, h6, p, kvs, h7, h8, h9, h10⟩ := h1.get h
  exact ⟨v, by rw [h4, h6], q v H (Same.refl H) ⟨p, kvs, h7, h9, h10⟩⟩
end
abbrev lockH (H : Hp) (p : Addr) (od : Obj) (kvs : List (Key × V)) : Hp := upd H p (.frz od (.dK kvs))
theorem lockH_ne {H : Hp} {p a : Addr} {od : Obj} {kvs : List (Key × V)} (h : a ≠ p) : lockH H p od kvs a = H a := upd_ne h
theorem lockH_same {H : Hp} {p : Addr} {od : Obj} {kvs : List (Key × V)} : lockH H p od kvs p = some (.frz od (.dK kvs)) := upd_same
theorem lock_ts {H : Hp} {p : Addr} {od : Obj} {kvs : List (Key × V)} (h : H p = some (.dK kvs)) : TupS H (lockH H p od kvs) := fun a vs q => by
  rw [lockH_ne (fun z => by rw [z, h] at q; cases q)]
  exact q
theorem unlock_ts {H : Hp} {p : Addr} {od : Obj} {kvs : List (Key × V)} (h : H p = some (.frz od (.dK kvs))) : TupS H (upd H p (.dK kvs)) := fun a vs q => by
  rw [upd_ne (fun z => by rw [z, h] at q; cases q)]
  exact q
/-- what is told of a slot before, and while a dict is locked -/
def Wk (fr : Prop) (x y : SV) : Prop := ∀ (H0 H : Hp) (o : Option V) (F : List Addr) (p : Addr) (kvs : List (Key × V)) (od : Obj), (fr → ∀ a ∈ F, a ≠ p) → Same H0 H → H p = some (.dK kvs) → SVok H0 H o F x → SVok (lockH H p od kvs) (lockH H p od kvs) o [] y
/-- .. and behind it -/
def Ul (y : SV) : Prop := ∀ (H1 H : Hp) (o : Option V) (F : List Addr) (p : Addr) (kvs : List (Key × V)) (od : Obj), Same H1 H → H1 p = some (.frz od (.dK kvs)) → SVok H1 H o F y → SVok (upd H1 p (.dK kvs)) (upd H p (.dK kvs)) o F y
def WkS (fr : Prop) : List SV → List SV → Prop
  | [], [] => True
  | x :: S, y :: S' => Wk fr x y ∧ WkS fr S S'
  | _, _ => False
def UlS : List SV → Prop
  | [] => True
  | x :: S => Ul x ∧ UlS S
variable {fr : Prop}
theorem wk_no (x : SV) : Wk fr x .no := fun _ _ _ _ _ _ _ _ _ _ _ => rfl
theorem wk_dat (d : D) : Wk fr (.dat d) (.dat d) := fun H0 H o F p kvs od hF e hp h => by
  obtain ⟨_, v, h1, h2⟩ := h
  exact ⟨rfl, v, h1, DV.ts (lock_ts hp) _ _ h2⟩
theorem wk_hd (m : Dct) : Wk fr (.hand (DctHd m)) (.hand (DctHd m)) := fun H0 H o F p kvs od hF e hp h => by
  obtain ⟨_, v, h1, a, kv2, rfl, h3, h4⟩ := h
  refine ⟨rfl, _, h1, a, kv2, rfl, ?_, (h4.ts (TupS.of e)).ts (lock_ts hp)⟩
  by_cases z : a = p
  · subst z
    rcases h3 with h3 | ⟨o', h3⟩
    · have := e _ _ h3
      rw [hp] at this
      cases this
      exact .inr ⟨od, upd_same⟩
    · have := e _ _ h3
      rw [hp] at this
      cases this
  · rcases h3 with h3 | ⟨o', h3⟩
    · exact .inl (by rw [lockH_ne z]; exact e _ _ h3)
    · exact .inr ⟨o', by rw [lockH_ne z]; exact e _ _ h3⟩
theorem wk_hx (m : Dct) : Wk fr (.hand (DctHx m)) (.hand (DctHd m)) := fun H0 H o F p kvs od hF e hp h => by
  obtain ⟨h0, v, h1, a, kv2, h2, h3, h4⟩ := h
  exact wk_hd m H0 H o F p kvs od hF e hp ⟨h0, v, h1, a, kv2, h2, .inl h3, h4⟩
theorem wk_gen (m : Dct) : Wk fr (.gen (DctR m)) (.hand (DctHd m)) := fun H0 H o F p kvs od hF e hp h => by
  obtain ⟨v, h1, a, kv2, h2, h3, h4, h5⟩ := h
  exact wk_hd (fr := False) m H H o [] p kvs od (fun z => z.elim) (Same.refl H) hp ⟨rfl, v, h1, a, kv2, h2, .inl h4, h5⟩
theorem wk_genX (m : Dct) : Wk True (.gen (DctR m)) (.hand (DctHx m)) := fun H0 H o F p kvs od hF e hp h => by
  obtain ⟨v, h1, a, kv2, h2, h3, h4, h5⟩ := h
  exact ⟨rfl, v, h1, a, kv2, h2, by rw [lockH_ne (hF trivial a (by rw [h3]; exact List.mem_cons_self))]; exact h4, h5.ts (lock_ts hp)⟩
theorem ul_hx (m : Dct) : Ul (.hand (DctHx m)) := fun H1 H o F p kvs od e hp h => by
  obtain ⟨h0, v, h1, a, kv2, h2, h3, h4⟩ := h
  exact ⟨h0, v, h1, a, kv2, h2, by rw [upd_ne (fun z => by rw [z, hp] at h3; cases h3)]; exact h3, h4.ts (unlock_ts hp)⟩
theorem ul_no : Ul .no := fun _ _ _ _ _ _ _ _ _ h => h
theorem ul_dat (d : D) : Ul (.dat d) := fun H1 H o F p kvs od e hp h => by
  obtain ⟨h0, v, h1, h2⟩ := h
  exact ⟨h0, v, h1, DV.ts (unlock_ts (e _ _ hp)) _ _ h2⟩
theorem ul_hd (m : Dct) : Ul (.hand (DctHd m)) := fun H1 H o F p kvs od e hp h => by
  obtain ⟨h0, v, h1, a, kv2, rfl, h3, h4⟩ := h
  refine ⟨h0, _, h1, a, kv2, rfl, ?_, h4.ts (unlock_ts hp)⟩
  by_cases z : a = p
  · subst z
    rcases h3 with h3 | ⟨o', h3⟩
    · rw [hp] at h3; cases h3
    · rw [hp] at h3
      cases h3
      exact .inl upd_same
  · rcases h3 with h3 | ⟨o', h3⟩
    · exact .inl (by rw [upd_ne z]; exact h3)
    · exact .inr ⟨o', by rw [upd_ne z]; exact h3⟩
theorem SVs.lock {H0 H : Hp} {p : Addr} {kvs : List (Key × V)} {od : Obj} (e : Same H0 H) (hp : H p = some (.dK kvs)) : ∀ {σ : L2.St} {Fs : List (List Addr)} {S S' : List SV}, (fr → ∀ a ∈ Fs.flatten, a ≠ p) → WkS fr S S' → SVs H0 H σ Fs S → SVs (lockH H p od kvs) (lockH H p od kvs) σ (S'.map fun _ => []) S'
  | [], [], [], [], _, _, _ => trivial
  | o :: σ, F :: Fs, x :: S, y :: S', hF, w, h => ⟨w.1 _ _ _ _ _ _ _ (fun z a ha => hF z a (by rw [List.flatten_cons, List.mem_append]; exact .inl ha)) e hp h.1, SVs.lock e hp (fun z a ha => hF z a (by rw [List.flatten_cons, List.mem_append]; exact .inr ha)) w.2 h.2⟩
  | [], [], [], _ :: _, _, w, _ => w.elim
  | _ :: _, _ :: _, _ :: _, [], _, w, _ => w.elim
  | [], [], _ :: _, _, _, _, h => h.elim
  | [], _ :: _, _, _, _, _, h => h.elim
  | _ :: _, [], _, _, _, _, h => h.elim
  | _ :: _, _ :: _, [], _, _, _, h => h.elim
theorem StD.lock {H0 H : Hp} {σ : L2.St} {S S' : List SV} {p : Addr} {kvs : List (Key × V)} (od : Obj) (hs : StD H0 H σ S) (hp : H p = some (.dK kvs)) (hF : fr → ∃ o, H0 p = some o) (w : WkS fr S S') : StD (lockH H p od kvs) (lockH H p od kvs) σ S' := by
  obtain ⟨ex, Fs, h1, h2, h3⟩ := hs
  have hf : (S'.map fun _ => ([] : List Addr)).flatten = [] := by
    have := flat_nils (α := Addr) S' 0
    rw [List.replicate_zero, List.append_nil] at this
    exact this
  exact ⟨Same.refl _, _, SVs.lock ex hp (fun z a ha e => by obtain ⟨o, q⟩ := hF z; rw [← e, h3 a ha] at q; cases q) w h1, by rw [hf]; exact List.nodup_nil, by rw [hf]; intro a ha; cases ha⟩
theorem SVs.unlock {H1 H : Hp} {p : Addr} {kvs : List (Key × V)} {od : Obj} (e : Same H1 H) (hp : H1 p = some (.frz od (.dK kvs))) : ∀ {σ : L2.St} {Fs : List (List Addr)} {S : List SV}, UlS S → SVs H1 H σ Fs S → SVs (upd H1 p (.dK kvs)) (upd H p (.dK kvs)) σ Fs S
  | [], [], [], _, _ => trivial
  | o :: σ, F :: Fs, x :: S, w, h => ⟨w.1 _ _ _ _ _ _ _ e hp h.1, SVs.unlock e hp w.2 h.2⟩
  | [], [], _ :: _, _, h => h.elim
  | [], _ :: _, _, _, h => h.elim
  | _ :: _, [], _, _, h => h.elim
  | _ :: _, _ :: _, [], _, h => h.elim
theorem upd_mono {H H' : Hp} {p : Addr} {u : HO} (e : Same H H') : Same (upd H p u) (upd H' p u) := fun a o q => by
  by_cases z : a = p
  · subst z
    rw [upd_same] at q ⊢
    exact q
  · rw [upd_ne z] at q ⊢
    exact e _ _ q
theorem StD.unlock {H1 H : Hp} {σ : L2.St} {S : List SV} {p : Addr} {kvs : List (Key × V)} {od : Obj} (hs : StD H1 H σ S) (hp : H1 p = some (.frz od (.dK kvs))) (w : UlS S) : StD (upd H1 p (.dK kvs)) (upd H p (.dK kvs)) σ S := by
  obtain ⟨ex, Fs, h1, h2, h3⟩ := hs
  exact ⟨upd_mono ex, Fs, SVs.unlock ex hp w h1, h2, fun a ha => by
    rw [upd_ne (fun z => by rw [← z, h3 a ha] at hp; cases hp)]
    exact h3 a ha⟩
/-- behind the lock all is as it was -/
theorem lock_back {H H' : Hp} {p : Addr} {kvs : List (Key × V)} {od : Obj} (hp : H p = some (.dK kvs)) (e : Same (lockH H p od kvs) H') : Same H (upd H' p (.dK kvs)) := fun a o q => by
  by_cases z : a = p
  · subst z
    rw [hp] at q
    rw [upd_same]
    exact q
  · rw [upd_ne z]
    exact e _ _ (by rw [lockH_ne z]; exact q)
section
variable {H0 : Hp} {S : List SV} {R : V → Hp → Prop} {N : Hp → List SV → Prop}
abbrev dkeys (m : Dct) : List Str := m.map (·.1)
theorem KD.getK {H : Hp} {kvs : List (Key × V)} {m : Dct} (h : KD H kvs m) {i : Nat} {k : Key} {v : V} (hi : kvs[i]? = some (k, v)) : ∃ s, (dkeys m)[i]? = some s ∧ kV k = .str s := by
  obtain ⟨p, h1, h2, _⟩ := h.get hi
  exact ⟨p.1, by rw [List.getElem?_map, h1]; rfl, by rw [h2]; rfl⟩
/-- for k in d: nothing leaves the loop -/
theorem s_forD {j i0 : Nat} {tb : TS} {m : Dct} {S1 : List SV} (hx : S[j]? = some (.hand (DctHx m))) (hw : WkS True S S1) (I : Nat → List SV → Prop) (h0 : I 0 S1)
    (hs : ∀ H1 (i : Nat) k S', (dkeys m)[i]? = some k → I i S' → ExS H1 (fun _ _ => False) tb (S'.set i0 (.dat (.str k))) fun _ S3 => I (i + 1) S3) (hl : ∀ i S', I i S' → UlS S') (hd : ∀ H1, Same H0 H1 → ∀ S', I m.length S' → N H1 S') :
    ExS H0 R (tLock (tFor (iKeys (tVar j)) (gName i0) tb)) S N := fun D σ H hσ hn hr => by
  obtain ⟨v, hv, p, kvs, rfl, hp0, hk0⟩ : ∃ v, σ[j]? = some (some v) ∧ (DctHx m).ok H0 v := by
    obtain ⟨ex, Fs, h1, _⟩ := id hσ
    obtain ⟨o, F, h4, h5, _, v, h6, h7⟩ := h1.get hx
    exact ⟨v, by rw [h4, h6], h7⟩
  have hp := hσ.ex _ _ hp0
  have hk := hk0.ts (TupS.of hσ.ex)
  refine ⟨p, .dK kvs, hp, trivial, fun od => ⟨.ref p, hv, p, od, rfl, .inl ⟨kvs, upd_same, ?_⟩⟩⟩
  have hs1 := hσ.lock od hp (fun _ => ⟨_, hp0⟩) hw
  have hkl := hk.len
  refine ⟨fun i mm σ' H' => mm = kvs.length - i ∧ i ≤ kvs.length ∧ ∃ H2 S', Same (lockH H p od kvs) H2 ∧ I i S' ∧ StD H2 H' σ' S', ⟨kvs.length, rfl, Nat.zero_le _, _, S1, Same.refl _, h0, hs1⟩, ?_⟩
  rintro i mm σ' H' ⟨rfl, hi, H2, S', e2, hI, hs2⟩
  have hp2 : H2 p = some (.frz od (.dK kvs)) := e2 _ _ upd_same
  have hp' : H' p = some (.frz od (.dK kvs)) := hs2.ex _ _ hp2
  by_cases hlt : i < kvs.length
  · refine .inr ⟨⟨hp', hlt⟩, fun σ3 H3 => ∃ H4 S4, Same (lockH H p od kvs) H4 ∧ I (i + 1) S4 ∧ StD H4 H3 σ3 S4, fun σ3 H3 q => ⟨kvs.length - (i + 1), by omega, rfl, hlt, q⟩, fun x H3 hy => ?_⟩
    obtain ⟨rfl, k, w, hkv, rfl⟩ := hy
    obtain ⟨s, hsk, ek⟩ := hk.getK hkv
    rw [ek]
    refine g_name (H0 := H2) (d := .str s) σ' H3 (.str s) hs2 (rfl : DV H3 (.str s) (.str s)) _ fun σ4 hs4 _ => ?_
    exact hs H2 i s S' hsk hI _ σ4 H3 hs4 (fun H5 S5 σ5 H5' e5 n5 hs5 => ⟨H5, S5, e2.trans e5, n5, hs5⟩) (fun _ _ z => z.elim)
  · have e : i = kvs.length := by omega
    subst e
    refine .inl ⟨⟨hp', Nat.le_refl _⟩, hp', ?_⟩
    rw [hkl] at hI
    have e0 : Same H0 (upd H2 p (.dK kvs)) := hσ.ex.trans (lock_back hp e2)
    exact hn (upd H2 p (.dK kvs)) S' σ' _ e0 (hd _ e0 S' hI) (hs2.unlock hp2 (hl _ _ hI))
/-- [.. for k in d if ..] -/
theorem n_lcD {j : Nat} {g : TG} {tt : TT} {te : TE} {vs : List Nat} {m : Dct} {S1 : List SV} (p : D → Bool) (f : D → D) (hx : EvX H0 S (tVar j) (.hand (DctHx m))) (hw : WkS False S S1) (hz : m.length ≤ 16777216)
    (ht : ∀ L (i : Nat) k, (dkeys m)[i]? = some k → Turn1 L S1 vs g tt te (.str k) (p (.str k)) (f (.str k))) : EvN H0 S (tLockE (tLc (iKeys (tVar j)) g tt te vs)) ((((dkeys m).map D.str).filter p).map f) := fun σ H hσ Q q => by
  obtain ⟨v, hv, a, kvs, rfl, hp, hk⟩ : tVar j σ H fun v H' => (DctHx m).ok H' v := hx σ H hσ _ fun v H' _ ok => ok
  refine ⟨a, .dK kvs, hp, trivial, fun od => ⟨.ref a, hv, a, od, rfl, .inl ⟨kvs, upd_same, ?_⟩⟩⟩
  have hs1 := hσ.lock od hp (fun z => z.elim) hw
  have hkl := hk.len
  have hdv : DVs (lockH H a od kvs) (kvs.map fun kv => kV kv.1) ((dkeys m).map D.str) := by
    have e : kvs.map (fun kv => kV kv.1) = (dkeys m).map V.str := by
      have := congrArg (List.map kV) hk.keys
      rw [List.map_map, List.map_map] at this
      exact this
    rw [e]
    exact DVs.ofStrs
  refine lc_core1 (it := Itk a od kvs) (g := g) (tt := tt) (te := te) (vs := vs) (p := p) (f := f) (H0 := lockH H a od kvs) (H := lockH H a od kvs) (H1 := lockH H a od kvs) (by rw [List.length_map, List.length_map]; exact hz) hs1 (Same.refl _) hdv (fun H2 e2 i hi => ?_) (fun H2 e2 => ?_) (fun i x hi => ?_) (fun v H' => H' a = some (.frz od (.dK kvs)) ∧ Q v (upd H' a (.dK kvs))) fun b ws H' e n h1 h2 => ?_
  · rw [List.length_map] at hi
    refine ⟨⟨e2 _ _ upd_same, hi⟩, fun x H3 hy => ?_⟩
    obtain ⟨rfl, k, w, hkv, rfl⟩ := hy
    exact ⟨rfl, by rw [List.getElem?_map, hkv]; rfl⟩
  · rw [List.length_map]
    exact ⟨e2 _ _ upd_same, Nat.le_refl _⟩
  · rw [List.getElem?_map] at hi
    obtain ⟨k, hk2, rfl⟩ := Option.map_eq_some_iff.mp hi
    exact ht _ i k hk2
  · have hpa : H' a = some (.frz od (.dK kvs)) := e _ _ upd_same
    have hba : b ≠ a := fun z => by
      rw [z, lockH_same] at n
      cases n
    refine ⟨hpa, q b ws _ (lock_back hp e) ?_ ?_ (DVs.ts (unlock_ts hpa) _ _ h2)⟩
    · rw [lockH_ne hba] at n
      exact n
    · rw [upd_ne hba]
      exact h1
end
end Mw
-- part MwR14
set_option maxHeartbeats 4000000
namespace Mw
open PySem PySem.Spec PyProof.Rows L2
noncomputable def Three.J (x : Three) (r : Str) : Rw := joinR (x.f r) (x.g r) (x.h r)
theorem Three.Ok.join {x : Three} (hx : x.Ok) : mkS (sortU (keys (mkS x.R x.f ++ mkS x.R x.g ++ mkS x.R x.h))) (fun r => joinR (rowOf (mkS x.R x.f) r) (rowOf (mkS x.R x.g) r) (rowOf (mkS x.R x.h) r)) = mkS x.R x.J := by
  have e : (fun r => joinR (rowOf (mkS x.R x.f) r) (rowOf (mkS x.R x.g) r) (rowOf (mkS x.R x.h) r)) = x.J := by
    funext r
    rw [rowOf_mkS hx.ris hx.rf, rowOf_mkS hx.ris hx.rg, rowOf_mkS hx.ris hx.rh]
    rfl
  rw [e]
  refine join_stand hx.ris fun r h1 h2 h3 => ?_
  unfold Three.J
  rw [hx.rf.non r h1, hx.rg.non r h2, hx.rh.non r h3, joinR_none]
  rfl
theorem Three.Ok.lows {x : Three} (hx : x.Ok) (r : Str) : RowL (x.J r) := joinR_L (hx.vf r) (hx.vg r) (hx.vh r)
theorem Three.Ok.jdep {x : Three} (hx : x.Ok) (e : D) : min (D.tup (standD (mkS x.R x.J))).dep e.dep ≤ 60 := by
  have := mkS_dep (R := x.R) hx.lows
  omega
theorem Three.Ok.lens {x : Three} (hx : x.Ok) : (mkS x.R x.f).length ≤ 12 ∧ (mkS x.R x.g).length ≤ 12 ∧ (mkS x.R x.h).length ≤ 12 :=
  ⟨Nat.le_trans (mkS_len _ _) hx.len, Nat.le_trans (mkS_len _ _) hx.len, Nat.le_trans (mkS_len _ _) hx.len⟩
theorem Three.Ok.rows {x : Three} (hx : x.Ok) (r : Str) : RowV (rowOf (mkS x.R x.f) r) ∧ RowV (rowOf (mkS x.R x.g) r) ∧ RowV (rowOf (mkS x.R x.h) r) := by
  rw [rowOf_mkS hx.ris hx.rf, rowOf_mkS hx.ris hx.rg, rowOf_mkS hx.ris hx.rh]
  exact ⟨hx.vf r, hx.vg r, hx.vh r⟩
theorem Three.Ok.lay1 {x : Three} (hx : x.Ok) (ht : ∀ r ∈ x.R, x.t r = false) : LayOk (pastD x.R x.f x.g x.h) (mkS x.R x.h) ∧ layC (pastD x.R x.f x.g x.h) (mkS x.R x.h) = mkS x.R x.J :=
  past_lay hx.ris (Nat.le_trans hx.len (by decide)) hx.vf hx.vg hx.vh hx.rf hx.rg hx.rh ht
theorem Three.Ok.lay2 {x : Three} (hx : x.Ok) (ht : ∀ r ∈ x.R, x.t r = false) : LayOk (pastD x.R x.f x.h x.g) (mkS x.R x.g) ∧ layC (pastD x.R x.f x.h x.g) (mkS x.R x.g) = mkS x.R x.J :=
  past_lay2 hx.ris (Nat.le_trans hx.len (by decide)) hx.vf hx.vg hx.vh hx.rf hx.rg hx.rh ht
/-- the rows of three dicts at some roots -/
noncomputable def Trio.at_ (x : Trio) (T : List Str) : Three := ⟨T, rsF T x.b, rsF T x.o, rsF T x.p⟩
theorem Trio.Ok.at_ {x : Trio} (hx : x.Ok) {T : List Str} (hT : Ris T) (hl : T.length ≤ 12) : (x.at_ T).Ok := by
  obtain ⟨a1, a2⟩ := rsF_rows (T := T) hx.vb
  obtain ⟨b1, b2⟩ := rsF_rows (T := T) hx.vo
  obtain ⟨c1, c2⟩ := rsF_rows (T := T) hx.vp
  exact ⟨hT, hl, a1, b1, c1, a2, b2, c2⟩
theorem Trio.at_J (x : Trio) {T : List Str} {r : Str} (h : r ∈ T) : (x.at_ T).J r = x.J r := by
  unfold Three.J Trio.J Trio.at_ rsF
  simp only [if_pos h]
theorem Trio.at_t (x : Trio) {T : List Str} {r : Str} (h : r ∈ T) : (x.at_ T).t r = x.t r := by
  unfold Three.t Trio.t Trio.at_ rsF
  simp only [if_pos h]
abbrev rDP (K : PySem.W.Frag) : List V → Hp → VK → Prop := fun xs H Q => ∃ (a : Addr) (ps : List Addr) (kvs : List (Key × V)), xs = [.ref a] ∧ SqL K H a (ps.map V.ref) ∧ Paired (fun p kv => SqT K H p [kV kv.1, kv.2]) ps kvs ∧ ∀ p, H p = none → Q (.ref p) (upd H p (.dK (mergeK [] kvs)))
theorem x_atD {K : PySem.W.Frag} {H0 : Hp} {S : List SV} {jr j r : Nat} {T : List Str} {s : Stand} (hT : S[jr]? = some (.lst (T.map D.str))) (hj : S[j]? = some (.hand (DctHd (rowsD s)))) (hsub : ∀ k ∈ T, k ∈ keys s) (hlen : T.length ≤ 12) (hn : T.Nodup) (hjr : r ≠ j) (hr0 : ∃ y, S[r]? = some y) :
    EvX H0 S (tCB (rDP K) (tCons (tLc (iList K (tVar jr)) (gName r) tYes (tTup (tCons (tVar r) (tCons (tDGet (tVar j) (tVar r)) tNil))) [r]) tNil)) (.hand (DctHd (rowsD (atS T s)))) := by
  have hr : r < S.length := by
    obtain ⟨y, h⟩ := hr0
    exact (List.getElem?_eq_some_iff.mp h).1
  have e1 : ((T.map D.str).map fun d => match d with | .str k => D.tup [.str k, (rowOf s k).d] | _ => .non) = (rowsD (atS T s)).map pairSD := by
    unfold rowsD atS
    rw [List.map_map, List.map_map, List.map_map]
    rfl
  have e2 : mergeS [] (rowsD (atS T s)) = rowsD (atS T s) := mergeS_new (by rw [rowsD_keys, atS_keys]; exact hn)
  refine (x_ofG (g_dictP (EvN.x (EvN.is (n_lcLY (fun d => match d with | .str k => .tup [.str k, (rowOf s k).d] | _ => .non) (x_vl hT) (by rw [List.length_map]; omega) ?_) e1)))).is (by rw [e2])
  intro i d hd
  rw [List.getElem?_map] at hd
  obtain ⟨k, hk, rfl⟩ := Option.map_eq_some_iff.mp hd
  have h1 : ((wipeS S [r]).set r (.dat (.str k)))[r]? = some (.dat (.str k)) := by simp [wipeS, hr]
  have h2 : ((wipeS S [r]).set r (.dat (.str k)))[j]? = some (.hand (DctHd (rowsD s))) := by
    simp only [wipeS, List.set_set]
    rw [List.getElem?_set_ne hjr]
    exact hj
  exact ⟨_, _, g_name, by simp, x_tup (d_cons (x_vd h1) (d_cons (x_dget (x_vh h2) (x_vd h1) (rowsD_look (hsub k (List.mem_of_getElem? hk)))) d_nil)) (sz 2 rfl)⟩
theorem ne_same (d : D) : (!decide (d = d)) = false := by rw [decide_eq_true rfl]; rfl
/-! _law_at_roots: slots 0 _law_bases*  1 _law_ones*  2 _law_others*  3 _law_roots_here  4 _law_root  5 _law_base  6 _law_one  7 _law_other  8 _law_found  9 _law_first  10 _law_second   -/
abbrev st_l_at_roots : Stmt := topS 69
abbrev N_l_at_roots : List Str := ["_law_bases", "_law_ones", "_law_others", "_law_roots_here", "_law_root", "_law_base", "_law_one", "_law_other", "_law_found", "_law_first", "_law_second"]
theorem sc_l_at_roots : FnScope N_l_at_roots ["_law_bases", "_law_ones", "_law_others", "_law_roots_here"] (defScope st_l_at_roots) := ⟨rfl, rfl, rfl, by decide +kernel, rfl, by decide +kernel, by decide +kernel⟩
abbrev sp_l_at_roots : Sp := SpG (α := Trio × List Str) (fun x => [.hand (DctHd (rowsD x.1.b)), .hand (DctHd (rowsD x.1.o)), .hand (DctHd (rowsD x.1.p)), .lst (x.2.map D.str)]) (fun x => x.1.Ok ∧ Ris x.2 ∧ x.2.length ≤ 12 ∧ (∀ r ∈ x.2, r ∈ keys x.1.b) ∧ ∀ r ∈ x.2, x.1.t r = false) (fun x => RD (.tup (standD (mkS x.2 x.1.J))))
abbrev H_l_at_roots (P : Program) (w : World) (K : PySem.W.Frag) (mg : Str → Option Value) (base : Heap) : Prop := Has P w K mg base 11 "_law_at_roots" ["_law_bases", "_law_ones", "_law_others", "_law_roots_here"] sp_l_at_roots
theorem has_l_at_roots {P : Program} {w : World} {K : PySem.W.Frag} {mg : Str → Option Value} {base : Heap} {C : Addr} (B : Gs mg) (F : DefAt K mg "_law_at_roots" st_l_at_roots) (G_l_stand : H_l_stand P w K mg base) (G_joined_stand : H_joined_stand P w K mg base) (G_past_changes : H_past_changes P w K mg base C) (G_stand_change : H_stand_change P w K mg base) (G_laid_change : H_laid_change P w K mg base) : H_l_at_roots P w K mg base :=
  F.hasG sc_l_at_roots (fun _ _ _ _ _ _ us hl => match us, hl with | [_, _, _, _], _ => rfl) (fun _ => rfl) fun f cdv A outer s H E hr => by
    have hu := room64 hr
    have hu1 := hu_of hr
    refine ⟨_, (pss_cons (ps_set (i := 5) sc_l_at_roots.nd rfl (Or.inl rfl) (pe_has G_l_stand hr (by decide) (by rfl) (pa_cons (pe_callTy (call_dictP rfl) (by rfl) B.dict b_dict (pa_cons (pe_lc (own := [("_law_root", 4)]) (g := gName 4) (tt := tYes) rfl sc_l_at_roots.nd (pi_list (pv 3)) (blkOk_by (own := [("_law_root", 4)]) (N := N_l_at_roots) (sc := defScope st_l_at_roots) (by decide +kernel)) (fun _ _ _ _ _ => (pg_name (i := 4) sc_l_at_roots.nd rfl (Or.inl rfl))) (fun _ _ _ _ _ => pts_nil) (fun _ _ _ _ _ => (pe_tup (pa_cons (pv 4) (pa_cons (pe_dget hu1 (pv 0) (pv 4) (fun _ _ => rfl)) pa_nil))))) pa_nil)) pa_nil)))
      (pss_cons (ps_set (i := 6) sc_l_at_roots.nd rfl (Or.inl rfl) (pe_has G_l_stand hr (by decide) (by rfl) (pa_cons (pe_callTy (call_dictP rfl) (by rfl) B.dict b_dict (pa_cons (pe_lc (own := [("_law_root", 4)]) (g := gName 4) (tt := tYes) rfl sc_l_at_roots.nd (pi_list (pv 3)) (blkOk_by (own := [("_law_root", 4)]) (N := N_l_at_roots) (sc := defScope st_l_at_roots) (by decide +kernel)) (fun _ _ _ _ _ => (pg_name (i := 4) sc_l_at_roots.nd rfl (Or.inl rfl))) (fun _ _ _ _ _ => pts_nil) (fun _ _ _ _ _ => (pe_tup (pa_cons (pv 4) (pa_cons (pe_dget hu1 (pv 1) (pv 4) (fun _ _ => rfl)) pa_nil))))) pa_nil)) pa_nil)))
      (pss_cons (ps_set (i := 7) sc_l_at_roots.nd rfl (Or.inl rfl) (pe_has G_l_stand hr (by decide) (by rfl) (pa_cons (pe_callTy (call_dictP rfl) (by rfl) B.dict b_dict (pa_cons (pe_lc (own := [("_law_root", 4)]) (g := gName 4) (tt := tYes) rfl sc_l_at_roots.nd (pi_list (pv 3)) (blkOk_by (own := [("_law_root", 4)]) (N := N_l_at_roots) (sc := defScope st_l_at_roots) (by decide +kernel)) (fun _ _ _ _ _ => (pg_name (i := 4) sc_l_at_roots.nd rfl (Or.inl rfl))) (fun _ _ _ _ _ => pts_nil) (fun _ _ _ _ _ => (pe_tup (pa_cons (pv 4) (pa_cons (pe_dget hu1 (pv 2) (pv 4) (fun _ _ => rfl)) pa_nil))))) pa_nil)) pa_nil)))
      (pss_cons (ps_set (i := 8) sc_l_at_roots.nd rfl (Or.inl rfl) (pe_has G_joined_stand hr (by decide) (by rfl) (pa_cons (pv 5) (pa_cons (pv 6) (pa_cons (pv 7) pa_nil)))))
      (pss_cons (ps_asg (pe_hasE0 G_past_changes hr (by decide) (by rfl) (pa_cons (pe_has G_stand_change hr (by decide) (by rfl) (pa_cons (pv 5) (pa_cons (pv 6) pa_nil))) (pa_cons (pe_has G_stand_change hr (by decide) (by rfl) (pa_cons (pv 5) (pa_cons (pv 7) pa_nil))) pa_nil))) (pg_tup (by rfl) (pgs_cons (pg_name (i := 9) sc_l_at_roots.nd rfl (Or.inl rfl)) (pgs_cons (pg_name (i := 10) sc_l_at_roots.nd rfl (Or.inl rfl)) pgs_nil))))
      (pss_cons (ps_if (PW.pt (pw_or (pt_cmpR (op_neK (K := K) rfl hu) (pe_has G_laid_change hr (by decide) (by rfl) (pa_cons (pv 9) (pa_cons (pv 7) pa_nil))) (pv 8) (nomark _)) (pw_or1 (pt_cmpR (op_neK (K := K) rfl hu) (pe_has G_laid_change hr (by decide) (by rfl) (pa_cons (pv 10) (pa_cons (pv 6) pa_nil))) (pv 8) (nomark _)))))
        (pss_one (ps_ret pe_non))
        pss_nil)
      (pss_one (ps_ret (pv 8))))))))), fun x hp H R q => ?_⟩
    obtain ⟨x, T⟩ := x
    obtain ⟨hx, hT, hl, hsub, ht⟩ := hp
    dsimp only at q hx hT hl hsub ht ⊢
    have hok := hx.at_ hT hl
    have hn := ris_nodup hT
    have hno : ∀ r ∈ (x.at_ T).R, (x.at_ T).t r = false := fun r hr => (x.at_t hr).trans (ht r hr)
    have hko : ∀ r ∈ T, r ∈ keys x.o := fun r hr => by rw [hx.ko]; exact hsub r hr
    have hkp : ∀ r ∈ T, r ∈ keys x.p := fun r hr => by rw [hx.kp]; exact hsub r hr
    have hpre : ∀ s : Stand, (keys (atS T s)).Nodup ∧ (atS T s).length < 64 := fun s => ⟨by rw [atS_keys]; exact hn, by unfold atS; rw [List.length_map]; omega⟩
    obtain ⟨l1, l2, l3⟩ := hok.lens
    have hrows := hok.rows
    refine s_seq (s_asg (x_callD (d := .tup (standD (mkS T (rsF T x.b)))) (atS T x.b) (a_cons (x_atD rfl rfl hsub hl hn (by decide) ⟨_, rfl⟩) a_nil) (hpre _) (congrArg (fun z => RD (.tup (standD z))) (atS_mk hT))) ?_)
    refine s_seq (s_asg (x_callD (d := .tup (standD (mkS T (rsF T x.o)))) (atS T x.o) (a_cons (x_atD rfl rfl hko hl hn (by decide) ⟨_, rfl⟩) a_nil) (hpre _) (congrArg (fun z => RD (.tup (standD z))) (atS_mk hT))) ?_)
    refine s_seq (s_asg (x_callD (d := .tup (standD (mkS T (rsF T x.p)))) (atS T x.p) (a_cons (x_atD rfl rfl hkp hl hn (by decide) ⟨_, rfl⟩) a_nil) (hpre _) (congrArg (fun z => RD (.tup (standD z))) (atS_mk hT))) ?_)
    refine s_seq (s_asg (x_callD (d := .tup (standD (mkS T (x.at_ T).J))) (mkS T (rsF T x.b), mkS T (rsF T x.o), mkS T (rsF T x.p)) (a_cons (x_vd rfl) (a_cons (x_vd rfl) (a_cons (x_vd rfl) a_nil))) ⟨⟨l1, l2, l3⟩, hrows⟩ (congrArg (fun z => RD (.tup (standD z))) hok.join)) ?_)
    refine s_seq (s_asgG (js := [9, 10]) (x_callDX0 (x.at_ T) (a_cons (x_callD (d := .tup ((deeds T (rsF T x.b) (rsF T x.o)).map Deed.d)) (mkS T (rsF T x.b), mkS T (rsF T x.o)) (a_cons (x_vd rfl) (a_cons (x_vd rfl) a_nil)) ⟨⟨l1, l2⟩, fun r => ⟨(hrows r).1, (hrows r).2.1⟩⟩ (congrArg (fun z : List Deed => RD (.tup (z.map Deed.d))) (deeds_stand hT hok.rf hok.rg)))
      (a_cons (x_callD (d := .tup ((deeds T (rsF T x.b) (rsF T x.p)).map Deed.d)) (mkS T (rsF T x.b), mkS T (rsF T x.p)) (a_cons (x_vd rfl) (a_cons (x_vd rfl) a_nil)) ⟨⟨l1, l3⟩, fun r => ⟨(hrows r).1, (hrows r).2.2⟩⟩ (congrArg (fun z : List Deed => RD (.tup (z.map Deed.d))) (deeds_stand hT hok.rf hok.rh))) a_nil)) hok rfl ?_) (g_tup rfl rfl) ?_)
    · rintro H c d H' ⟨_, _, _, _, _, _, _, _, _, _, _, r, rs, hrs, _⟩
      have hm : r ∈ (x.at_ T).R.filter (x.at_ T).t := by rw [hrs]; exact List.mem_cons_self
      obtain ⟨m1, m2⟩ := List.mem_filter.mp hm
      rw [hno r m1] at m2
      cases m2
    refine s_seq (s_if (b := false) (t_is (t_or (a := false) (b := false) (t_cB (x_ne (x_callD (d := .tup (standD (mkS T (x.at_ T).J))) (pastD T (rsF T x.b) (rsF T x.o) (rsF T x.p), mkS T (rsF T x.p)) (a_cons (x_vd rfl) (a_cons (x_vd rfl) a_nil)) (hok.lay1 hno).1 (congrArg (fun z => RD (.tup (standD z))) (hok.lay1 hno).2)) (x_vd rfl) (hok.jdep _)) (ne_same _))
      fun _ => t_cB (x_ne (x_callD (d := .tup (standD (mkS T (x.at_ T).J))) (pastD T (rsF T x.b) (rsF T x.p) (rsF T x.o), mkS T (rsF T x.o)) (a_cons (x_vd rfl) (a_cons (x_vd rfl) a_nil)) (hok.lay2 hno).1 (congrArg (fun z => RD (.tup (standD z))) (hok.lay2 hno).2)) (x_vd rfl) (hok.jdep _)) (ne_same _)) rfl) (fun z => nomatch z) fun _ => s_next ?_)
    exact r_De q (x_vd rfl) (by rw [mkS_congr fun r hr => x.at_J hr])
end Mw
-- part MwR15
set_option maxHeartbeats 4000000
namespace Mw
open PySem PySem.Spec PyProof.Rows L2
theorem rowsD_getD (s : Stand) (k : Str) : (lookS (rowsD s) k).getD Rw.none.d = (rowOf s k).d := by
  induction s with
  | nil => rfl
  | cons p s ih =>
    show (lookS ((p.1, p.2.d) :: rowsD s) k).getD _ = _
    unfold lookS rowOf
    by_cases e : p.1 = k
    · rw [if_pos e, if_pos e]
      rfl
    · rw [if_neg e, if_neg e]
      exact ih
theorem g_dictN {K : PySem.W.Frag} {H0 : Hp} {S : List SV} {te : TE} {m : Dct} (h : EvX H0 S te (.lst (m.map pairSD))) (hn : (m.map (·.1)).Nodup) : EvG2 H0 S (tCB (rDP K) (tCons te tNil)) (DctR m) := by
  have := g_dictP (K := K) h
  rw [mergeS_new hn] at this
  exact this
/-- all the rows of three dicts -/
noncomputable def Trio.all (x : Trio) : Three := ⟨sortU (keys x.b), rowOf x.b, rowOf x.o, rowOf x.p⟩
theorem Trio.Ok.all {x : Trio} (hx : x.Ok) : x.all.Ok := by
  have hr : ∀ s : Stand, keys s = keys x.b → (∀ r, RowV (rowOf s r)) → Rows (sortU (keys x.b)) (rowOf s) := fun s h hv => RowV.rows hv fun r h2 => rowOf_none (by rw [h]; exact fun z => h2 (mem_sortU.mpr z))
  refine ⟨ris_sortU _, ?_, hx.vb, hx.vo, hx.vp, hr _ rfl hx.vb, hr _ hx.ko hx.vo, hr _ hx.kp hx.vp⟩
  have h1 := sortU_len (keys x.b)
  have h2 := hx.len
  unfold keys at h1
  rw [List.length_map] at h1
  show (sortU (keys x.b)).length ≤ 12
  unfold keys
  omega
theorem Three.Ok.rowsJ {x : Three} (hx : x.Ok) : Rows x.R x.J := joinR_rows hx.vf hx.vg hx.vh hx.rf hx.rg hx.rh
/-! _law_as_walked: slots 0 _law_bases*  1 _law_ones  2 _law_others  3 _law_joined_here  4 _law_row_here  5 _law_rows  6 _law_root   -/
abbrev st_l_as_walked : Stmt := topS 70
abbrev N_l_as_walked : List Str := ["_law_bases", "_law_ones", "_law_others", "_law_joined_here", "_law_row_here", "_law_rows", "_law_root"]
theorem sc_l_as_walked : FnScope N_l_as_walked ["_law_bases", "_law_ones", "_law_others", "_law_joined_here"] (defScope st_l_as_walked) := ⟨rfl, rfl, rfl, by decide +kernel, rfl, by decide +kernel, by decide +kernel⟩
abbrev sp_l_as_walked : Sp := SpG (α := Trio) (fun x => [.hand (DctHx (rowsD x.b)), .hand (DctHd (rowsD x.o)), .hand (DctHd (rowsD x.p)), .dat (.tup (standD (mkS x.all.R x.all.J)))]) Trio.Ok (fun _ => RV (.bl true))
abbrev H_l_as_walked (P : Program) (w : World) (K : PySem.W.Frag) (mg : Str → Option Value) (base : Heap) : Prop := Has P w K mg base 6 "_law_as_walked" ["_law_bases", "_law_ones", "_law_others", "_law_joined_here"] sp_l_as_walked
theorem has_l_as_walked {P : Program} {w : World} {K : PySem.W.Frag} {mg : Str → Option Value} {base : Heap} (B : Gs mg) (F : DefAt K mg "_law_as_walked" st_l_as_walked) (G_l_joined_row : H_l_joined_row P w K mg base) : H_l_as_walked P w K mg base :=
  F.hasG sc_l_as_walked (fun _ _ _ _ _ _ us hl => match us, hl with | [_, _, _, _], _ => rfl) (fun _ => rfl) fun f cdv A outer s H E hr => by
    have hu := room64 hr
    have hu1 := hu_of hr
    refine ⟨_, (pss_cons (ps_set (i := 5) sc_l_as_walked.nd rfl (Or.inl rfl) (pe_callTy (call_dictP rfl) (by rfl) B.dict b_dict (pa_cons (pe_lc (own := [("_law_row_here", 4)]) (g := gName 4) (tt := tYes) rfl sc_l_as_walked.nd (pi_tup (pv 3)) (blkOk_by (own := [("_law_row_here", 4)]) (N := N_l_as_walked) (sc := defScope st_l_as_walked) (by decide +kernel)) (fun _ _ _ _ _ => (pg_name (i := 4) sc_l_as_walked.nd rfl (Or.inl rfl))) (fun _ _ _ _ _ => pts_nil) (fun _ _ _ _ _ => (pe_tup (pa_cons (pe_ix (ix_seqK (K := K) rfl) (pv 4) pe_int (fun _ _ => rfl)) (pa_cons (pe_tup (pa_cons (pe_ix (ix_seqK (K := K) rfl) (pv 4) pe_int (fun _ _ => rfl)) (pa_cons (pe_ix (ix_seqK (K := K) rfl) (pv 4) pe_int (fun _ _ => rfl)) pa_nil))) pa_nil))))) pa_nil)))
      (pss_cons (ps_lock (ps_for PassesOwn.never rfl (pi_keys (pv 0)) (pg_name (i := 6) sc_l_as_walked.nd rfl (Or.inl rfl))
        (pss_one (ps_if (pt_cmpR (op_neK (K := K) rfl hu) (pe_dget2 hu1 (pv 5) (pv 6) (pe_tup (pa_cons pe_non (pa_cons (pe_tup pa_nil) pa_nil))) ⟨rfl, rfl, rfl, rfl⟩) (pe_has G_l_joined_row hr (by decide) (by rfl) (pa_cons (pe_dget hu1 (pv 0) (pv 6) (fun _ _ => rfl)) (pa_cons (pe_dget hu1 (pv 1) (pv 6) (fun _ _ => rfl)) (pa_cons (pe_dget hu1 (pv 2) (pv 6) (fun _ _ => rfl)) pa_nil)))) (nomark _))
          (pss_one (ps_ret pe_bl))
          pss_nil))))
      (pss_one (ps_ret (pe_cmpR (op_eqK (K := K) rfl hu) (pe_lock (pe_lc (own := [("_law_root", 6)]) (g := gName 6) rfl sc_l_as_walked.nd (pi_keys (pv 5)) (blkOk_by (own := [("_law_root", 6)]) (N := N_l_as_walked) (sc := defScope st_l_as_walked) (by decide +kernel)) (fun _ _ _ _ _ => (pg_name (i := 6) sc_l_as_walked.nd rfl (Or.inl rfl))) (fun _ _ _ _ _ => (pts_one (pt_cmp (pc_dnotin hu1 (pv 6) (pv 0))))) (fun _ _ _ _ _ => (pv 6)))) (pe_lst pa_nil) (nomark _)))))), fun x hp H R q => ?_⟩
    have hok := hp.all
    generalize hJ : mkS x.all.R x.all.J = Js
    have hkeys : ∀ k ∈ keys Js, k ∈ keys x.b := fun k hk => by
      rw [← hJ] at hk
      exact mem_sortU.mp (keys_mem.mp hk).1
    have hnd : (keys Js).Nodup := by
      rw [← hJ]
      exact ris_nodup (mkS_ris hok.ris _)
    have hlen : Js.length ≤ 12 := by
      rw [← hJ]
      exact Nat.le_trans (mkS_len _ _) hok.len
    have hrow : ∀ k, rowOf Js k = x.J k := fun k => by
      rw [← hJ]
      exact rowOf_mkS hok.ris hok.rowsJ k
    refine s_seq (s_asgG2 (g_dictN (m := rowsD Js) (EvN.x (EvN.is (n_lcTY (xs := standD Js) (fun d => match d with | .tup [a, b, c] => .tup [a, .tup [b, c]] | _ => .non) (x_vd rfl) (by unfold standD; rw [List.length_map]; omega) ?_) ?_)) (by rw [rowsD_keys]; exact hnd)) ?_)
    · intro i d hd
      unfold standD at hd
      rw [List.getElem?_map] at hd
      obtain ⟨p, hp2, rfl⟩ := Option.map_eq_some_iff.mp hd
      exact ⟨_, _, g_name, by simp, x_tup (d_cons (x_ixT (x_vd rfl) x_ci (k := 0) rfl rfl) (d_cons (x_tup (d_cons (x_ixT (x_vd rfl) x_ci (k := 1) rfl rfl) (d_cons (x_ixT (x_vd rfl) x_ci (k := 2) rfl rfl) d_nil)) (sz 2 rfl)) d_nil)) (sz 2 rfl)⟩
    · unfold standD rowsD
      rw [List.map_map, List.map_map]
      rfl
    refine s_seq (s_forD (m := rowsD x.b) (S1 := [.hand (DctHd (rowsD x.b)), .hand (DctHd (rowsD x.o)), .hand (DctHd (rowsD x.p)), .dat (.tup (standD Js)), .no, .hand (DctHx (rowsD Js)), .no]) rfl ⟨wk_hx _, wk_hd _, wk_hd _, wk_dat _, wk_no _, wk_genX _, wk_no _, trivial⟩
      (fun i S' => ∃ u, Ul u ∧ S' = [.hand (DctHd (rowsD x.b)), .hand (DctHd (rowsD x.o)), .hand (DctHd (rowsD x.p)), .dat (.tup (standD Js)), .no, .hand (DctHx (rowsD Js)), u]) ⟨_, ul_no, rfl⟩ ?_ ?_ ?_)
    · rintro H1 i k S' hk ⟨u, hu2, rfl⟩
      have hkb : k ∈ keys x.b := by
        have := List.mem_of_getElem? hk
        rw [dkeys, rowsD_keys] at this
        exact this
      have e1 := rowsD_look hkb
      have e2 := rowsD_look (s := x.o) (k := k) (by rw [hp.ko]; exact hkb)
      have e3 := rowsD_look (s := x.p) (k := k) (by rw [hp.kp]; exact hkb)
      have hdep := (joinR_L (hp.vb k) (hp.vo k) (hp.vp k)).dep
      refine s_if (b := false) (t_cB (x_ne (e := (joinR (rowOf x.b k) (rowOf x.o k) (rowOf x.p k)).d) (x_dget2 (d := Rw.none.d) (x_hx (x_vh rfl)) (x_vd rfl) (x_tup (d_cons x_cn (d_cons (x_tup d_nil (sz 0 rfl)) d_nil)) (sz 2 rfl))) (x_callD (rowOf x.b k, rowOf x.o k, rowOf x.p k) (a_cons (x_dget (x_vh rfl) (x_vd rfl) e1) (a_cons (x_dget (x_vh rfl) (x_vd rfl) e2) (a_cons (x_dget (x_vh rfl) (x_vd rfl) e3) a_nil))) ⟨⟨hp.vb k, hp.vo k, hp.vp k⟩, fun z1 z2 => ?_⟩ rfl) (by omega)) ?_) (fun z => nomatch z) (fun _ => s_next ⟨_, ul_dat _, rfl⟩)
      · exact (wCl_sym (.inl (.inl rfl)) (hp.vo k).w fun z => z2 z.symm)
      · rw [rowsD_getD, hrow]
        exact ne_same _
    · rintro i S' ⟨u, hu2, rfl⟩
      exact ⟨ul_hd _, ul_hd _, ul_hd _, ul_dat _, ul_no, ul_hx _, hu2, trivial⟩
    · rintro H1 e1 S' ⟨u, hu2, rfl⟩
      have hfil : (((dkeys (rowsD Js)).map D.str).filter fun d => match d with | .str k => !(lookS (rowsD x.b) k).isSome | _ => false) = [] := by
        refine List.filter_eq_nil_iff.mpr fun d hd => ?_
        obtain ⟨k, hk, rfl⟩ := List.mem_map.mp hd
        rw [dkeys, rowsD_keys] at hk
        have := rowsD_look (hkeys k hk)
        simp [this]
      refine r_B (q.upV e1) (x_eqL (d := []) (e := []) (EvN.x (EvN.is (n_lcD (m := rowsD Js) (S1 := [.hand (DctHd (rowsD x.b)), .no, .no, .no, .no, .no, .no]) (fun d => match d with | .str k => !(lookS (rowsD x.b) k).isSome | _ => false) id (x_vh rfl) ⟨wk_hd _, wk_no _, wk_no _, wk_no _, wk_no _, wk_no _, wk_no _, trivial⟩ (by unfold rowsD; rw [List.length_map]; omega) ?_) (by rw [hfil]; rfl))) (EvN.x (n_lst d_nil (sz 0 rfl))) (by simp [D.deps])) (decide_eq_true rfl)
      intro L i k hk
      exact ⟨_, _, g_name, by simp, t_cmp (x_dni (x_vd rfl) (x_vh rfl)), fun _ => x_vd rfl⟩
end Mw
-- part MwN4
set_option maxHeartbeats 4000000
namespace Mw
open PySem PySem.Spec PyProof.Rows L2
/-! ### a new list of which something is told -/
def RNP (P : List D → Prop) : Rp := fun H v H' => Same H H' ∧ ∃ ds p vs, P ds ∧ v = .ref p ∧ H p = none ∧ H' p = some (.lst vs) ∧ DVs H' vs ds
def EvNP (H0 : Hp) (S : List SV) (te : TE) (P : List D → Prop) : Prop := ∀ σ H, StD H0 H σ S → ∀ Q : VK, (∀ ds p vs H', P ds → Same H H' → H p = none → H' p = some (.lst vs) → DVs H' vs ds → Q (.ref p) H') → te σ H Q
section
variable {K : PySem.W.Frag} {H0 : Hp} {S : List SV} {R : V → Hp → Prop} {N : Hp → List SV → Prop}
theorem r_NP {te : TE} {P : List D → Prop} (q : Gives H0 (RNP P) R) (h : EvNP H0 S te P) : ExS H0 R (tRet te) S N := fun D σ H hs hn hr =>
  h σ H hs _ fun ds p vs H1 hp e1 n h1 h2 => hr _ H1 (q _ H1 ⟨hs.ex.trans e1, ds, p, vs, hp, rfl, hs.ex.free n, h1, h2⟩)
theorem np_call {α : Type} {av : α → List AV} {pre : α → Prop} {rp : α → Rp} {E : XK} {ta : TA} (x : α) {P : List D → Prop} (h : EvA H0 S ta (av x)) (hp : pre x) (e : rp x = RNP P) : EvNP H0 S (tCall (SpG av pre rp) [] E ta) P := fun σ H hs Q q =>
  h σ H hs _ fun vs H1 e1 h1 => by
    rw [List.append_nil]
    refine ⟨x, h1, hp, fun v H' r => ?_⟩
    rw [e] at r
    obtain ⟨e2, ds, p, us, hd, rfl, n, k1, k2⟩ := r
    exact q ds p us H' hd (e1.trans e2) (e1.free n) k1 k2
theorem s_asgNP {te : TE} {i : Nat} {P : List D → Prop} (h : EvNP H0 S te P) (k : ∀ ds, P ds → N H0 (S.set i (.own ds))) : ExS H0 R (tAsg te (gName i)) S N := fun D σ H hs hn hr =>
  h σ H hs _ fun ds p vs H1 hp e1 n h1 h2 => hn H0 _ _ H1 (Same.refl H0) (k ds hp) (StD.putF (x := .own ds) (F := [p]) i hs e1 (by simp) (fun a ha => by rw [List.mem_singleton.mp ha]; exact n) ⟨p, vs, rfl, rfl, h1, h2⟩)
theorem Gives.upNP {H1 : Hp} {P : List D → Prop} (e : Same H0 H1) (q : Gives H0 (RNP P) R) : Gives H1 (RNP P) R := fun v H' k => by
  obtain ⟨k1, ds, p, vs, k2, k3, k4, k5, k6⟩ := k
  exact q v H' ⟨e.trans k1, ds, p, vs, k2, k3, e.free k4, k5, k6⟩
def StrsP (n : Nat) (ds : List D) : Prop := ∃ ss : List Str, ds = ss.map D.str ∧ ss.length = n ∧ ss.Nodup
theorem np_sortedS {te : TE} {ss : List Str} {n : Nat} (h : EvX H0 S te (.lst (ss.map D.str))) (hl : ss.length = n) (hnd : ss.Nodup) (hz : n < 64) : EvNP H0 S (tCB (rSortedS K) (tCons te tNil)) (StrsP n) := fun σ H hs Q q =>
  h σ H hs _ fun v H1 e1 hv => by
    obtain ⟨a, vs, rfl, h1, h2⟩ := hv
    refine ⟨a, ss, rfl, .inl (.inl (by rw [← h2.strs]; exact h1)), by omega, fun ys p hp _ hn => ?_⟩
    exact q (ys.map D.str) p _ _ ⟨ys, rfl, hp.length_eq.trans hl, hp.nodup_iff.mpr hnd⟩ (e1.trans (same_new hn)) (e1.free hn) upd_same DVs.ofStrs
end
theorem len_num3 : ∀ n : Nat, n < 1100 → (Str.ofString (toString (n : Int))).length ≤ 4 := by
  have h : ∀ k : Fin 1100, (Str.ofString (toString ((k.val : Nat) : Int))).length ≤ 4 := by decide +kernel
  exact fun n hn => h ⟨n, hn⟩
theorem log_small {n : Nat} (h : n < 1100) : ((n : Nat) : Int).natAbs.log2 < 1920 := Nat.lt_of_le_of_lt (Nat.log2_le_self _) (by show n < 1920; omega)
def numL : Nat → Nat → Nat
  | 0, k => k
  | 1, k => 9 + k
  | 2, k => 98 + k
  | _, k => 988 + k
def numT (j k : Nat) : Str := Str.ofString (toString ((numL j k : Nat) : Int))
theorem pick4 (j : Nat) (hj : j < 4) (k : Nat) (hk : k < 12) : [D.int (k : Int), .int (9 + (k : Int)), .int (98 + (k : Int)), .int (988 + (k : Int))][j]? = some (.int (numL j k : Int)) ∧ numL j k < 1100 := by
  match j, hj with
  | 0, _ => exact ⟨rfl, by show k < 1100; omega⟩
  | 1, _ => exact ⟨by show _ = some (D.int ((9 + k : Nat) : Int)); rw [Int.natCast_add]; rfl, by show 9 + k < 1100; omega⟩
  | 2, _ => exact ⟨by show _ = some (D.int ((98 + k : Nat) : Int)); rw [Int.natCast_add]; rfl, by show 98 + k < 1100; omega⟩
  | 3, _ => exact ⟨by show _ = some (D.int ((988 + k : Nat) : Int)); rw [Int.natCast_add]; rfl, by show 988 + k < 1100; omega⟩
theorem cl_dot : cl "." = [46] := by decide +kernel
theorem cl_nil : cl "" = [] := by decide +kernel
theorem az_dot : ∀ c ∈ ("abcdefghijklmnopqrstuvwxyz" : Str).cps.toList, c ≠ 46 := by decide +kernel
theorem numT_nodup : ∀ j : Fin 4, ((List.range 12).map fun k => numT j.val k).Nodup := by decide +kernel
theorem roots_nodup {pres : Nat → Str} {j : Nat} (hj : j < 4) (hp : ∀ k, 46 ∉ cl (pres k)) : ((List.range 12).map fun k => pres k ++ "." ++ numT j k).Nodup := by
  have h := numT_nodup ⟨j, hj⟩
  unfold List.Nodup at h ⊢
  rw [List.pairwise_map] at h ⊢
  refine h.imp fun {a b} hne e => hne ?_
  have e2 := congrArg cl e
  rw [cl_app, cl_app, cl_app, cl_app, cl_dot, List.append_assoc, List.append_assoc] at e2
  exact cl_inj (split_at (hp a) (hp b) e2).2
theorem cl_cut {t : Str} {lo hi : Option Int} {c : Nat} (h : c ∈ cl (cutS t lo hi)) : c ∈ cl t := by
  have h : c ∈ (t.cps.toList.drop (HT.sIx t.length 0 lo)).take (HT.sIx t.length t.length hi - HT.sIx t.length 0 lo) := by
    unfold cl cutS at h
    exact h
  exact List.mem_of_mem_drop (List.mem_of_mem_take h)
theorem len_dot : ("." : Str).length = 1 := by decide +kernel
/-! _law_roots: slots 0 _law_cell  1 _law_own_here  2 _law_letters  3 _law_word  4 _law_k  5 _law_found  6 _law_number   -/
abbrev st_l_roots : Stmt := topS 63
abbrev N_l_roots : List Str := ["_law_cell", "_law_own_here", "_law_letters", "_law_word", "_law_k", "_law_found", "_law_number"]
theorem sc_l_roots : FnScope N_l_roots ["_law_cell"] (defScope st_l_roots) := ⟨rfl, rfl, rfl, by decide +kernel, rfl, by decide +kernel, by decide +kernel⟩
abbrev sp_l_roots : Sp := SpG (α := Int) (fun x => [.dat (.int x)]) (fun _ => True) (fun _ => RNP (StrsP 12))
abbrev H_l_roots (P : Program) (w : World) (K : PySem.W.Frag) (mg : Str → Option Value) (base : Heap) : Prop := Has P w K mg base 1 "_law_roots" ["_law_cell"] (sp_l_roots)
theorem has_l_roots {P : Program} {w : World} {K : PySem.W.Frag} {mg : Str → Option Value} {base : Heap} (B : Gs mg) (F : DefAt K mg "_law_roots" st_l_roots)   : H_l_roots P w K mg base :=
  F.hasG sc_l_roots (fun _ _ _ _ _ _ us hl => match us, hl with | [_], _ => rfl) (fun _ => rfl) fun f cdv A outer s H E hr => by
    have hu := room64 hr
    have hu1 := hu_of hr
    refine ⟨_, (pss_cons (ps_set (i := 1) sc_l_roots.nd rfl (Or.inl rfl) (pv 0))
      (pss_cons (ps_set (i := 2) sc_l_roots.nd rfl (Or.inl rfl) pe_str)
      (pss_cons (ps_set (i := 3) sc_l_roots.nd rfl (Or.inl rfl) pe_str)
      (pss_cons (ps_for PassesOwn.never rfl (pi_range1 (by rfl) B.range (pa_cons (pe_op (op_addK (K := K) rfl) pe_int (pe_op op_mod (pv 0) pe_int)) pa_nil)) (pg_name (i := 4) sc_l_roots.nd rfl (Or.inl rfl))
        (pss_cons (ps_set (i := 1) sc_l_roots.nd rfl (Or.inl rfl) (pe_op op_fdiv (pv 1) pe_int))
        (pss_one (ps_set (i := 3) sc_l_roots.nd rfl (Or.inl rfl) (pe_op (op_addK (K := K) rfl) (pv 3) (pe_ix (ix_seqK (K := K) rfl) (pv 2) (pe_op op_mod (pv 1) pe_int) (fun _ _ => rfl)))))))
      (pss_cons (ps_set (i := 5) sc_l_roots.nd rfl (Or.inl rfl) (pe_lst pa_nil))
      (pss_cons (ps_for PassesOwn.never rfl (pi_range1 (by rfl) B.range (pa_cons pe_int pa_nil)) (pg_name (i := 4) sc_l_roots.nd rfl (Or.inl rfl))
        (pss_cons (ps_set (i := 6) sc_l_roots.nd rfl (Or.inl rfl) (pe_ix (ix_seqK (K := K) rfl) (pe_lst (pa_cons (pv 4) (pa_cons (pe_op (op_addK (K := K) rfl) pe_int (pv 4)) (pa_cons (pe_op (op_addK (K := K) rfl) pe_int (pv 4)) (pa_cons (pe_op (op_addK (K := K) rfl) pe_int (pv 4)) pa_nil))))) (pe_op op_mod (pe_op op_fdiv (pv 0) pe_int) pe_int) (fun _ _ => rfl)))
        (pss_one (ps_expr (pe_bm PySem.F.plainAttrs_list PySem.F.slot_list_append PySem.F.type_list_append mt_append (pv 5) (pa_cons (pe_op (op_addK (K := K) rfl) (pe_op (op_addK (K := K) rfl) (pe_slice (sl_anyK (K := K) rfl) (pv 3) po_none (po_some (pe_op (op_addK (K := K) rfl) pe_int (pe_op op_mulA (pe_op op_sub (pe_callB (call_lenK (K := K) rfl) (by rfl) B.len b_len (pa_cons (pv 3) pa_nil)) pe_int) (pe_callTy call_intA (by rfl) B.int b_int (pa_cons (pe_cmpR op_gt (pe_op op_mod (pv 4) pe_int) pe_int (nomark _)) pa_nil)))))) pe_str) (pe_callTy call_strA (by rfl) B.str b_str (pa_cons (pv 6) pa_nil))) pa_nil))))))
      (pss_one (ps_ret (pe_callB cr_sortedS (by rfl) B.sorted b_sorted (pa_cons (pv 5) pa_nil)))))))))), fun x hp H R q => ?_⟩
    refine s_seq (s_asg (x_vd rfl) ?_)
    refine s_seq (s_asg x_cs ?_)
    refine s_seq (s_asg x_cs ?_)
    have hb := mod_bd x (m := 8) (by decide)
    refine s_seq (s_forR1 (n := 1 + x % 8) (x_addI x_ci (x_mod (x_vd rfl) x_ci (by decide))) (by omega) (fun i S' => ∃ (t : Str) (n : Int) (u v w : SV), S' = [.dat (.int x), .dat (.int n), .dat (.str "abcdefghijklmnopqrstuvwxyz"), .dat (.str t), u, v, w] ∧ t.length ≤ i ∧ 46 ∉ cl t) ⟨_, _, _, _, _, rfl, by rw [len_nil]; exact Nat.le_refl _, by rw [cl_nil]; exact List.not_mem_nil⟩ ?_ ?_)
    · rintro H1 e1 i S' hi ⟨t, n, u, v, w, rfl, ht, htd⟩
      refine s_seq (s_asg (x_div (x_vd rfl) x_ci ⟨by decide, by decide⟩) ?_)
      generalize n / 8 = n2
      have b0 := mod_bd n2 (m := 26) (by decide)
      obtain ⟨c, hc⟩ := cps_get (s := "abcdefghijklmnopqrstuvwxyz") (k := (n2 % 26).toNat) (by rw [len_az]; omega)
      exact s_asg (x_addS (x_vd rfl) (x_ixS (x_vd rfl) (x_mod (x_vd rfl) x_ci (by decide)) (mod_nat n2 (by decide)) (sizeL (by rw [len_az]; omega)) hc) (sizeL (by rw [len_one]; omega))) ⟨_, _, _, _, _, rfl, by rw [Str.length_append, len_one]; omega, fun z => by
        rw [cl_app] at z
        rcases List.mem_append.mp z with z | z
        · exact htd z
        · have z : 46 ∈ [c] := z
          exact az_dot c (List.mem_of_getElem? hc) (List.mem_singleton.mp z).symm⟩
    · rintro H1 e1 S' ⟨t, n, u, v, w, rfl, ht, htd⟩
      have ht2 : t.length ≤ 8 := by omega
      refine s_seq (s_asgN (n_lst d_nil (sz 0 rfl)) ?_)
      refine s_seq (s_forR1 (n := 12) x_ci (by decide) (fun i S' => ∃ (pres : Nat → Str) (u w : SV), S' = [.dat (.int x), .dat (.int n), .dat (.str "abcdefghijklmnopqrstuvwxyz"), .dat (.str t), u, .own (((List.range i).map fun k => pres k ++ "." ++ numT (x / 5 % 4).toNat k).map D.str), w] ∧ ∀ k, 46 ∉ cl (pres k)) ⟨fun _ => "", _, _, rfl, fun _ => by rw [cl_nil]; exact List.not_mem_nil⟩ ?_ ?_)
      · rintro H2 e2 i S' hi ⟨pres, u, w, rfl, hss⟩
        have hi : i < 12 := hi
        have b4 := mod_bd (x / 5) (m := 4) (by decide)
        obtain ⟨hz, hzb⟩ := pick4 (x / 5 % 4).toNat (by omega) i hi
        refine s_seq (s_asg (x_ixL (EvN.x (n_lst (d_cons (x_vd rfl) (d_cons (x_addI x_ci (x_vd rfl)) (d_cons (x_addI x_ci (x_vd rfl)) (d_cons (x_addI x_ci (x_vd rfl)) d_nil)))) (sz 4 rfl))) (x_mod (x_div (x_vd rfl) x_ci ⟨by decide, by decide⟩) x_ci (by decide)) (mod_nat _ (by decide)) hz) ?_)
        have hl := len_num3 _ hzb
        have hcut : ∀ hi, (cutS t none hi).length ≤ 8 := fun hi => Nat.le_trans (cutS_length t none hi) ht2
        refine s_app rfl (x_addS (x_addS (x_slS (x_vd rfl) o_no (o_some (x_addI x_ci (x_mulI (x_sub (x_lenS (x_vd rfl) (sizeL (by omega))) x_ci) (x_intB (x_gt (x_mod (x_vd rfl) x_ci (by decide)) x_ci)) (.inr ?_)))) (sizeL (by omega))) x_cs (sizeL ?_)) (x_strI (x_vd rfl) (log_small hzb)) (sizeL ?_)) (by rw [List.length_map, List.length_map, List.length_range, sizeLine_eq]; omega) ?_
        · generalize decide ((0 : Int) < (i : Int) % 3) = bb
          cases bb
          · exact ⟨by decide, by decide⟩
          · exact ⟨by decide, by decide⟩
        · exact Nat.le_trans (Nat.add_le_add_right (hcut _) _) (by rw [len_dot]; decide)
        · rw [Str.length_append, len_dot]
          exact Nat.le_trans (Nat.add_le_add (Nat.add_le_add_right (hcut _) 1) hl) (by decide)
        · refine ⟨fun k => if k = i then cutS t none (some (1 + ((t.length : Int) - 1) * (if decide ((0 : Int) < (i : Int) % 3) then 1 else 0))) else pres k, .dat (.int (i : Int)), .dat (.int (numL (x / 5 % 4).toNat i : Int)), ?_, fun k => ?_⟩
          · rw [List.range_succ, List.map_append, List.map_append]
            have e : ((List.range i).map fun k => (if k = i then cutS t none (some (1 + ((t.length : Int) - 1) * (if decide ((0 : Int) < (i : Int) % 3) then 1 else 0))) else pres k) ++ "." ++ numT (x / 5 % 4).toNat k) = (List.range i).map fun k => pres k ++ "." ++ numT (x / 5 % 4).toNat k := List.map_congr_left fun k hk => by
              have hk := List.mem_range.mp hk
              rw [if_neg (by omega)]
            rw [e, List.map_singleton, List.map_singleton]
            dsimp only
            rw [if_pos rfl]
            rfl
          · dsimp only
            by_cases e : k = i
            · rw [if_pos e]
              exact fun z => htd (cl_cut z)
            · rw [if_neg e]
              exact hss k
      · rintro H2 e2 S' ⟨pres, u, w, rfl, hss⟩
        have b4 := mod_bd (x / 5) (m := 4) (by decide)
        exact r_NP (q.upNP (e1.trans e2)) (np_sortedS (x_vo rfl) (by rw [List.length_map, List.length_range]; rfl) (roots_nodup (by omega) hss) (by decide))
end Mw
-- part MwN5
set_option maxHeartbeats 4000000
namespace Mw
open PySem PySem.Spec PyProof.Rows L2
/-! ### a row put into a dict of rows -/
def putR (s : Stand) (k : Str) (x : Rw) : Stand := if k ∈ keys s then s.map (fun p => if p.1 = k then (p.1, x) else p) else s ++ [(k, x)]
theorem putS_rowsD (s : Stand) (k : Str) (x : Rw) : putS (rowsD s) k x.d = rowsD (putR s k x) := by
  unfold putS putR
  by_cases h : k ∈ keys s
  · rw [if_pos h, if_pos (lookS_mem.mpr (by rw [rowsD_keys]; exact h))]
    unfold rowsD
    rw [List.map_map, List.map_map]
    refine List.map_congr_left fun p _ => ?_
    show (if p.1 = k then (p.1, x.d) else (p.1, p.2.d)) = ((if p.1 = k then (p.1, x) else p).1, (if p.1 = k then (p.1, x) else p).2.d)
    by_cases e : p.1 = k
    · rw [if_pos e, if_pos e]
    · rw [if_neg e, if_neg e]
  · rw [if_neg h, if_neg (fun z => h (by have := lookS_mem.mp z; rw [rowsD_keys] at this; exact this))]
    unfold rowsD
    rw [List.map_append]
    rfl
theorem keys_putR (s : Stand) (k : Str) (x : Rw) : keys (putR s k x) = if k ∈ keys s then keys s else keys s ++ [k] := by
  unfold putR
  by_cases h : k ∈ keys s
  · rw [if_pos h, if_pos h]
    unfold keys
    rw [List.map_map]
    refine List.map_congr_left fun p _ => ?_
    show (if p.1 = k then (p.1, x) else p).1 = p.1
    split <;> rfl
  · rw [if_neg h, if_neg h]
    unfold keys
    rw [List.map_append]
    rfl
theorem rowOf_putR (s : Stand) (k : Str) (x : Rw) (r : Str) : rowOf (putR s k x) r = if k = r then x else rowOf s r := by
  refine Rw.inj ?_
  rw [← rowsD_getD, ← putS_rowsD, lookS_put]
  by_cases h : k = r
  · rw [if_pos h, if_pos h]
    rfl
  · rw [if_neg h, if_neg h, rowsD_getD]
theorem putR_len (s : Stand) (k : Str) (x : Rw) : (putR s k x).length ≤ s.length + 1 := by
  unfold putR
  split
  · rw [List.length_map]; omega
  · rw [List.length_append]; exact Nat.le_refl _
/-- three dicts of rows, the first i roots met -/
structure TrioN (rs : List Str) (i n : Nat) (b o p : Stand) : Prop where
  nd : (keys b).Nodup
  ko : keys o = keys b
  kp : keys p = keys b
  len : b.length ≤ i
  vb : ∀ r, RowN 4 (rowOf b r)
  vo : ∀ r, RowN n (rowOf o r)
  vp : ∀ r, RowN n (rowOf p r)
  hit : ∀ k r, k < i → rs[k]? = some r → r ∈ keys b
theorem TrioN.none (rs : List Str) (n : Nat) : TrioN rs 0 n [] [] [] := ⟨List.nodup_nil, rfl, rfl, Nat.le_refl _, fun _ => rowN_none _, fun _ => rowN_none _, fun _ => rowN_none _, fun k r h => absurd h (Nat.not_lt_zero _)⟩
theorem rowN_put {n : Nat} {s : Stand} {k : Str} {x : Rw} (h : ∀ r, RowN n (rowOf s r)) (hx : RowN n x) (r : Str) : RowN n (rowOf (putR s k x) r) := by
  rw [rowOf_putR]
  split
  · exact hx
  · exact h r
theorem keys_same {s : Stand} {k : Str} {x : Rw} (h : k ∈ keys s) : keys (putR s k x) = keys s := by rw [keys_putR, if_pos h]
theorem TrioN.put_o {rs : List Str} {i n : Nat} {b o p : Stand} {r : Str} {z : Rw} (h : TrioN rs i n b o p) (hr : r ∈ keys b) (hz : RowN n z) : TrioN rs i n b (putR o r z) p :=
  ⟨h.nd, (keys_same (by rw [h.ko]; exact hr)).trans h.ko, h.kp, h.len, h.vb, rowN_put h.vo hz, h.vp, h.hit⟩
theorem TrioN.put_p {rs : List Str} {i n : Nat} {b o p : Stand} {r : Str} {z : Rw} (h : TrioN rs i n b o p) (hr : r ∈ keys b) (hz : RowN n z) : TrioN rs i n b o (putR p r z) :=
  ⟨h.nd, h.ko, (keys_same (by rw [h.kp]; exact hr)).trans h.kp, h.len, h.vb, h.vo, rowN_put h.vp hz, h.hit⟩
theorem mem_putR {s : Stand} {k r : Str} {x : Rw} : r ∈ keys (putR s k x) ↔ r ∈ keys s ∨ r = k := by
  rw [keys_putR]
  by_cases h : k ∈ keys s
  · rw [if_pos h]
    exact ⟨.inl, fun z => z.elim id fun e => by rw [e]; exact h⟩
  · rw [if_neg h, List.mem_append, List.mem_singleton]
theorem TrioN.step {rs : List Str} {i n : Nat} {b o p : Stand} {r : Str} {y : Rw} (h : TrioN rs i n b o p) (hr : rs[i]? = some r) (hy : RowN 4 y) (hn : 4 ≤ n) : TrioN rs (i + 1) n (putR b r y) (putR o r y) (putR p r y) := by
  refine ⟨?_, by rw [keys_putR, keys_putR, h.ko], by rw [keys_putR, keys_putR, h.kp], Nat.le_trans (putR_len _ _ _) (Nat.add_le_add_right h.len 1), rowN_put h.vb hy, rowN_put h.vo (hy.up hn), rowN_put h.vp (hy.up hn), fun k s hk hs => ?_⟩
  · rw [keys_putR]
    split
    · exact h.nd
    · rename_i hm
      exact List.nodup_append.mpr ⟨h.nd, by simp, fun a ha c hc e => hm (by rw [← List.mem_singleton.mp hc, ← e]; exact ha)⟩
  · by_cases e : k = i
    · rw [e, hr] at hs
      exact mem_putR.mpr (.inr (Option.some.inj hs).symm)
    · exact mem_putR.mpr (.inl (h.hit k s (by omega) hs))
theorem TrioN.len_o {rs : List Str} {i n : Nat} {b o p : Stand} (h : TrioN rs i n b o p) : o.length ≤ i ∧ p.length ≤ i := by
  have h1 := congrArg List.length h.ko
  have h2 := congrArg List.length h.kp
  have h3 := h.len
  unfold keys at h1 h2
  simp only [List.length_map] at h1 h2
  omega
/-! ### three new dicts handed back -/
def NewD (H H' : Hp) (v : V) (m : Dct) : Prop := ∃ a kvs, v = .ref a ∧ H a = none ∧ H' a = some (.dK kvs) ∧ KD H' kvs m
def RThree (P : Stand → Stand → Stand → Prop) : Rp := fun H v H' => Same H H' ∧ ∃ b o p t v1 v2 v3, P b o p ∧ v = .ref t ∧ H' t = some (.tup [v1, v2, v3]) ∧ NewD H H' v1 (rowsD b) ∧ NewD H H' v2 (rowsD o) ∧ NewD H H' v3 (rowsD p)
theorem NewD.grow {H H' H'' : Hp} {v : V} {m : Dct} (h : NewD H H' v m) (e : Same H' H'') : NewD H H'' v m := by
  obtain ⟨a, kvs, h1, h2, h3, h4⟩ := h
  exact ⟨a, kvs, h1, h2, e _ _ h3, h4.ts (TupS.of e)⟩
section
variable {K : PySem.W.Frag} {H0 : Hp} {S : List SV} {R : V → Hp → Prop} {N : Hp → List SV → Prop}
theorem gen_new {σ : L2.St} {H : Hp} {i : Nat} {m : Dct} (hs : StD H0 H σ S) (hi : S[i]? = some (.gen (DctR m))) : ∃ v, σ[i]? = some (some v) ∧ NewD H0 H v m := by
  obtain ⟨ex, Fs, h1, h2, h3⟩ := hs
  obtain ⟨o, F, h4, h5, v, h6, p, kvs, h7, h8, h9, h10⟩ := h1.get hi
  exact ⟨v, by rw [h4, h6], p, kvs, h7, h3 p (mem_flat h5 (by rw [h8]; exact List.mem_cons_self)), h9, h10⟩
theorem r_three {i j k : Nat} {b o p : Stand} {P : Stand → Stand → Stand → Prop} (q : Gives H0 (RThree P) R) (hi : S[i]? = some (.gen (DctR (rowsD b)))) (hj : S[j]? = some (.gen (DctR (rowsD o)))) (hk : S[k]? = some (.gen (DctR (rowsD p)))) (hp : P b o p) :
    ExS H0 R (tRet (tTup (tCons (tVar i) (tCons (tVar j) (tCons (tVar k) tNil))))) S N := fun D σ H hs hn hr => by
  obtain ⟨v1, g1, n1⟩ := gen_new hs hi
  obtain ⟨v2, g2, n2⟩ := gen_new hs hj
  obtain ⟨v3, g3, n3⟩ := gen_new hs hk
  refine ⟨v1, g1, v2, g2, v3, g3, sz 3 rfl, fun t ht => hr _ _ (q _ _ ⟨hs.ex.trans (same_new ht), b, o, p, t, v1, v2, v3, hp, rfl, upd_same, n1.grow (same_new ht), n2.grow (same_new ht), n3.grow (same_new ht)⟩)⟩
theorem Gives.upThree {H1 : Hp} {P : Stand → Stand → Stand → Prop} (e : Same H0 H1) (q : Gives H0 (RThree P) R) : Gives H1 (RThree P) R := fun v H' k => by
  obtain ⟨k1, b, o, p, t, v1, v2, v3, hp, k2, k3, k4, k5, k6⟩ := k
  have up : ∀ {v m}, NewD H1 H' v m → NewD H0 H' v m := fun {v m} h => by
    obtain ⟨a, kvs, h1, h2, h3⟩ := h
    exact ⟨a, kvs, h1, e.free h2, h3⟩
  exact q v H' ⟨e.trans k1, b, o, p, t, v1, v2, v3, hp, k2, k3, up k4, up k5, up k6⟩
/-- a, b, c = f(..): three new dicts, that are only read from now on -/
theorem s_callThree {α : Type} {av : α → List AV} {pre : α → Prop} {rp : α → Rp} {E : XK} {ta : TA} (x : α) {P : Stand → Stand → Stand → Prop} {i j k : Nat} (h : EvA H0 S ta (av x)) (hp : pre x) (e : rp x = RThree P)
    (kk : ∀ H1, Same H0 H1 → ∀ b o p, P b o p → N H1 (((S.set i (.hand (DctHx (rowsD b)))).set j (.hand (DctHx (rowsD o)))).set k (.hand (DctHx (rowsD p))))) : ExS H0 R (tAsg (tCall (SpG av pre rp) [] E ta) (gTup K 3 (gCons (gName i) (gCons (gName j) (gCons (gName k) gNil))))) S N := fun D σ H hs hn hr =>
  h σ H hs _ fun vs H1 e1 h1 => by
    rw [List.append_nil]
    refine ⟨x, h1, hp, fun v H' r => ?_⟩
    rw [e] at r
    obtain ⟨e2, b, o, p, t, v1, v2, v3, hP, rfl, ht, n1, n2, n3⟩ := r
    refine ⟨t, _, rfl, .inl (.inl ht), rfl, v1, _, rfl, v2, _, rfl, v3, _, rfl, rfl, ?_⟩
    obtain ⟨H2, f1, f2, f3, f4, f5⟩ := hs.rebase (e1.trans e2)
    have hd : ∀ {v m}, NewD H1 H' v m → (DctHx m).ok H2 v := fun {v m} h => by
      obtain ⟨a, kvs, q1, q2, q3, q4⟩ := h
      exact ⟨a, kvs, q1, f5 a _ (e1.free q2) q3, q4.ts f4⟩
    exact hn H2 _ _ H' f1 (kk H2 f1 b o p hP) (StD.put k (StD.put j (StD.put i f3 ⟨rfl, v1, rfl, hd n1⟩) ⟨rfl, v2, rfl, hd n2⟩) ⟨rfl, v3, rfl, hd n3⟩)
end
theorem sizeD {n : Nat} (h : n ≤ 100) : n < sizeLine := by rw [sizeLine_eq]; omega
theorem rowsD_len (s : Stand) : (rowsD s).length = s.length := by unfold rowsD; rw [List.length_map]
theorem b49 : (4 : Nat) ≤ 12 ∧ 4 ≤ 9 ∧ 2 * 4 + 1 ≤ 9 ∧ 9 ≤ 25 := by decide
theorem filt3 (f : D → D) : (((intsD 0 (3 : Int).toNat).filter fun _ => true).map f) = [f (.int (0 + ((0 : Nat) : Int))), f (.int (0 + ((1 : Nat) : Int))), f (.int (0 + ((2 : Nat) : Int)))] := rfl
/-! _law_three: slots 0 _law_script*  1 _law_start*  2 _law_many  3 _law_roots_here  4 _law_deep  5 _law_bases  6 _law_ones  7 _law_others  8 _law_k*  9 _law_j  10 _law_cells  11 _law_root   -/
abbrev st_l_three : Stmt := topS 65
abbrev N_l_three : List Str := ["_law_script", "_law_start", "_law_many", "_law_roots_here", "_law_deep", "_law_bases", "_law_ones", "_law_others", "_law_k", "_law_j", "_law_cells", "_law_root"]
theorem sc_l_three : FnScope N_l_three ["_law_script", "_law_start", "_law_many", "_law_roots_here", "_law_deep"] (defScope st_l_three) := ⟨rfl, rfl, rfl, by decide +kernel, rfl, by decide +kernel, by decide +kernel⟩
abbrev sp_l_three (K : PySem.W.Frag) : Sp := SpG (α := (List Int × Nat) × (Nat × List Str) × Bool) (fun x => [.hand (ScrHd K x.1.1), .dat (.int (x.1.2 : Int)), .dat (.int (x.2.1.1 : Int)), .lst (x.2.1.2.map D.str), .dat (.int (dI x.2.2))]) (fun x => x.2.1.1 ≤ 12 ∧ x.2.1.1 ≤ x.2.1.2.length) (fun x => RThree (TrioN x.2.1.2 x.2.1.1 9))
abbrev H_l_three (P : Program) (w : World) (K : PySem.W.Frag) (mg : Str → Option Value) (base : Heap) : Prop := Has P w K mg base 8 "_law_three" ["_law_script", "_law_start", "_law_many", "_law_roots_here", "_law_deep"] (sp_l_three K)
theorem has_l_three {P : Program} {w : World} {K : PySem.W.Frag} {mg : Str → Option Value} {base : Heap} (B : Gs mg) (F : DefAt K mg "_law_three" st_l_three) (G_l_cell_at : H_l_cell_at P w K mg base) (G_l_edited_row : H_l_edited_row P w K mg base) (G_l_own : H_l_own P w K mg base) (G_l_row : H_l_row P w K mg base)  : H_l_three P w K mg base :=
  F.hasG sc_l_three (fun _ _ _ _ _ _ us hl => match us, hl with | [_, _, _, _, _], _ => rfl) (fun _ => rfl) fun f cdv A outer s H E hr => by
    have hu := room64 hr
    have hu1 := hu_of hr
    refine ⟨_, (pss_cons (ps_set (i := 5) sc_l_three.nd rfl (Or.inl rfl) pe_dnewK)
      (pss_cons (ps_set (i := 6) sc_l_three.nd rfl (Or.inl rfl) pe_dnewK)
      (pss_cons (ps_set (i := 7) sc_l_three.nd rfl (Or.inl rfl) pe_dnewK)
      (pss_cons (ps_for PassesOwn.never rfl (pi_range1 (by rfl) B.range (pa_cons (pv 2) pa_nil)) (pg_name (i := 8) sc_l_three.nd rfl (Or.inr rfl))
        (pss_cons (ps_setLc (i := 10) (own := [("_law_j", 9)]) (g := gName 9) (tt := tYes) rfl sc_l_three.nd rfl rfl (sw_true rfl rfl rfl (by decide +kernel)) (pi_range1 (by rfl) B.range (pa_cons pe_int pa_nil)) (blkOk_by (own := [("_law_j", 9)]) (N := N_l_three) (sc := defScope st_l_three) (by decide +kernel)) (fun _ _ _ _ _ => (pg_name (i := 9) sc_l_three.nd rfl (Or.inl rfl))) (fun _ _ _ _ _ => pts_nil) (fun _ _ _ _ _ => (pe_has G_l_own hr (by decide) (by rfl) (pa_cons (pe_has G_l_cell_at hr (by decide) (by rfl) (pa_cons (pv 0) (pa_cons (pe_op (op_addK (K := K) rfl) (pe_op (op_addK (K := K) rfl) (pv 1) (pe_op op_mulA pe_int (pv 8))) (pv 9)) pa_nil))) pa_nil))))
        (pss_cons (ps_set (i := 11) sc_l_three.nd rfl (Or.inl rfl) (pe_ix (ix_seqK (K := K) rfl) (pv 3) (pv 8) (fun _ _ => rfl)))
        (pss_cons (ps_dput hu1 (pv 5) (pv 11) (pe_has G_l_row hr (by decide) (by rfl) (pa_cons (pe_ix (ix_seqK (K := K) rfl) (pv 10) pe_int (fun _ _ => rfl)) (pa_cons (pv 4) pa_nil))) rfl)
        (pss_cons (ps_dput hu1 (pv 6) (pv 11) (pe_dget hu1 (pv 5) (pv 11) (fun _ _ => rfl)) rfl)
        (pss_cons (ps_dput hu1 (pv 7) (pv 11) (pe_dget hu1 (pv 5) (pv 11) (fun _ _ => rfl)) rfl)
        (pss_cons (ps_if (pt_cmpR op_gt (pe_op op_mod (pe_ix (ix_seqK (K := K) rfl) (pv 10) pe_int (fun _ _ => rfl)) pe_int) pe_int (nomark _))
          (pss_one (ps_dput hu1 (pv 6) (pv 11) (pe_has G_l_edited_row hr (by decide) (by rfl) (pa_cons (pe_dget hu1 (pv 5) (pv 11) (fun _ _ => rfl)) (pa_cons (pe_op op_fdiv (pe_ix (ix_seqK (K := K) rfl) (pv 10) pe_int (fun _ _ => rfl)) pe_int) (pa_cons (pv 4) pa_nil)))) rfl))
          pss_nil)
        (pss_cons (ps_if (pt_cmpR op_gt (pe_op op_mod (pe_ix (ix_seqK (K := K) rfl) (pv 10) pe_int (fun _ _ => rfl)) pe_int) pe_int (nomark _))
          (pss_one (ps_dput hu1 (pv 7) (pv 11) (pe_has G_l_edited_row hr (by decide) (by rfl) (pa_cons (pe_dget hu1 (pv 5) (pv 11) (fun _ _ => rfl)) (pa_cons (pe_op op_fdiv (pe_ix (ix_seqK (K := K) rfl) (pv 10) pe_int (fun _ _ => rfl)) pe_int) (pa_cons (pv 4) pa_nil)))) rfl))
          pss_nil)
        (pss_one (ps_if (PW.pt (pw_and (pt_cmpR op_gt (pe_op op_mod (pe_ix (ix_seqK (K := K) rfl) (pv 10) pe_int (fun _ _ => rfl)) pe_int) pe_int (nomark _)) (pw_and1 (pt_cmpR (op_eqK (K := K) rfl hu) (pe_op op_mod (pe_ix (ix_seqK (K := K) rfl) (pv 10) pe_int (fun _ _ => rfl)) pe_int) pe_int (nomark _)))))
          (pss_one (ps_dput hu1 (pv 7) (pv 11) (pe_dget hu1 (pv 6) (pv 11) (fun _ _ => rfl)) rfl))
          pss_nil))))))))))
      (pss_one (ps_ret (pe_tup (pa_cons (pv 5) (pa_cons (pv 6) (pa_cons (pv 7) pa_nil)))))))))), fun x hp H R q => ?_⟩
    obtain ⟨⟨ns, st⟩, ⟨many, rs⟩, dp⟩ := x
    obtain ⟨hp1, hp2⟩ := hp
    dsimp only at q hp1 hp2 ⊢
    refine s_seq (s_dnew ?_)
    refine s_seq (s_dnew ?_)
    refine s_seq (s_dnew ?_)
    refine s_seq (s_forR1 (n := (many : Int)) (x_vd rfl) (by omega) (fun i S' => ∃ (b o p : Stand) (u v w z : SV), S' = [.hand (ScrHd K ns), .dat (.int (st : Int)), .dat (.int (many : Int)), .lst (rs.map D.str), .dat (.int (dI dp)), .gen (DctR (rowsD b)), .gen (DctR (rowsD o)), .gen (DctR (rowsD p)), u, v, w, z] ∧ TrioN rs i 9 b o p) ⟨[], [], [], _, _, _, _, rfl, TrioN.none rs 9⟩ ?_ ?_)
    · rintro H1 e1 i S' hi ⟨b, o, p, u, v, w, z, rfl, hT⟩
      have hi : i < many := by rw [Int.toNat_natCast] at hi; exact hi
      obtain ⟨r, hr0⟩ : ∃ r, rs[i]? = some r := ⟨rs[i]'(by omega), by simp⟩
      have hrD : (rs.map D.str)[i]? = some (.str r) := by rw [List.getElem?_map, hr0]; rfl
      have hbl := hT.len
      have hol := hT.len_o
      refine s_seq (s_asgN (EvN.is (n_lcR1 (fun _ => true) (fun d => match d with | .int j => .int (ownF (cellAt ns (st + 3 * i + j.toNat))) | _ => .non) x_ci (by decide) ?_) (filt3 _)) ?_)
      · intro j hj
        exact ⟨_, _, g_name, by simp, t_yes, fun _ => x_callD (cellAt ns (st + 3 * i + j)) (a_cons (x_callD (ns, st + 3 * i + j) (a_cons (x_vh rfl) (a_cons (EvX.is (x_addI (x_addI (x_vd rfl) (x_mulI x_ci (x_vd rfl) (.inl ⟨by decide, by decide⟩))) (x_vd rfl)) (by simp only [Int.natCast_add, Int.natCast_mul]; rfl)) a_nil)) trivial rfl) a_nil) trivial rfl⟩
      dsimp only
      generalize ownF (cellAt ns (st + 3 * i + Int.toNat (0 + ((0 : Nat) : Int)))) = c0
      generalize ownF (cellAt ns (st + 3 * i + Int.toNat (0 + ((1 : Nat) : Int)))) = c1
      generalize ownF (cellAt ns (st + 3 * i + Int.toNat (0 + ((2 : Nat) : Int)))) = c2
      refine s_seq (s_asg (x_ixL (x_vl rfl) (x_vd rfl) rfl hrD) ?_)
      refine s_seq (s_dputP (P := RowP 4) rfl (x_vd rfl) (p_callP (c0, dp) (a_cons (x_ixL (x_vo rfl) x_ci (k := 0) rfl rfl) (a_cons (x_vd rfl) a_nil)) trivial rfl) (by rw [rowsD_len]; exact sizeD (by omega)) fun d hd => ?_)
      obtain ⟨y, rfl, hy⟩ := hd
      have hT2 := hT.step hr0 hy (by decide)
      rw [putS_rowsD]
      have hb1 : r ∈ keys (putR b r y) := mem_putR.mpr (.inr rfl)
      have hlb : lookS (rowsD (putR b r y)) r = some y.d := by rw [rowsD_look hb1, rowOf_putR, if_pos rfl]
      refine s_seq (s_dput rfl (x_vd rfl) (x_dget (x_vD rfl) (x_vd rfl) hlb) (by rw [rowsD_len]; exact sizeD (by omega)) ?_)
      rw [putS_rowsD]
      refine s_seq (s_dput rfl (x_vd rfl) (x_dget (x_vD rfl) (x_vd rfl) hlb) (by rw [rowsD_len]; exact sizeD (by omega)) ?_)
      rw [putS_rowsD]
      refine s_cut (fun _ S' => ∃ o2, S' = [.hand (ScrHd K ns), .dat (.int (st : Int)), .dat (.int (many : Int)), .lst (rs.map D.str), .dat (.int (dI dp)), .gen (DctR (rowsD (putR b r y))), .gen (DctR (rowsD o2)), .gen (DctR (rowsD (putR p r y))), .dat (.int (i : Int)), v, .own [.int c0, .int c1, .int c2], .dat (.str r)] ∧ TrioN rs (i + 1) 9 (putR b r y) o2 (putR p r y)) ?_ ?_
      · refine s_if (t_cmp (x_gt (x_mod (x_ixL (x_vo rfl) x_ci (k := 1) rfl rfl) x_ci (by decide)) x_ci)) (fun _ => ?_) (fun _ => s_next ⟨_, rfl, hT2⟩)
        refine s_dputP (P := RowP 9) rfl (x_vd rfl) (p_callP (y, c1 / 3, dp, 4, 9) (a_cons (x_dget (x_vD rfl) (x_vd rfl) hlb) (a_cons (x_div (x_ixL (x_vo rfl) x_ci (k := 1) rfl rfl) x_ci ⟨by decide, by decide⟩) (a_cons (x_vd rfl) a_nil))) ⟨hy, b49⟩ rfl) (by have := hT2.len_o; rw [rowsD_len]; exact sizeD (by omega)) fun d hd => ?_
        obtain ⟨y2, rfl, hy2⟩ := hd
        exact ⟨_, by rw [putS_rowsD]; rfl, hT2.put_o hb1 hy2⟩
      rintro H2 S' e2 ⟨o2, rfl, hT3⟩
      refine s_cut (fun _ S' => ∃ p2, S' = [.hand (ScrHd K ns), .dat (.int (st : Int)), .dat (.int (many : Int)), .lst (rs.map D.str), .dat (.int (dI dp)), .gen (DctR (rowsD (putR b r y))), .gen (DctR (rowsD o2)), .gen (DctR (rowsD p2)), .dat (.int (i : Int)), v, .own [.int c0, .int c1, .int c2], .dat (.str r)] ∧ TrioN rs (i + 1) 9 (putR b r y) o2 p2) ?_ ?_
      · refine s_if (t_cmp (x_gt (x_mod (x_ixL (x_vo rfl) x_ci (k := 2) rfl rfl) x_ci (by decide)) x_ci)) (fun _ => ?_) (fun _ => s_next ⟨_, rfl, hT3⟩)
        refine s_dputP (P := RowP 9) rfl (x_vd rfl) (p_callP (y, c2 / 3, dp, 4, 9) (a_cons (x_dget (x_vD rfl) (x_vd rfl) hlb) (a_cons (x_div (x_ixL (x_vo rfl) x_ci (k := 2) rfl rfl) x_ci ⟨by decide, by decide⟩) (a_cons (x_vd rfl) a_nil))) ⟨hy, b49⟩ rfl) (by have := hT3.len_o; rw [rowsD_len]; exact sizeD (by omega)) fun d hd => ?_
        obtain ⟨y2, rfl, hy2⟩ := hd
        exact ⟨_, by rw [putS_rowsD]; rfl, hT3.put_p hb1 hy2⟩
      rintro H3 S' e3 ⟨p2, rfl, hT4⟩
      refine s_if (t_and (t_cmp (x_gt (x_mod (x_ixL (x_vo rfl) x_ci (k := 1) rfl rfl) x_ci (by decide)) x_ci)) fun _ => t_cmp (x_eq (x_mod (x_ixL (x_vo rfl) x_ci (k := 2) rfl rfl) x_ci (by decide)) x_ci (depI _ _))) (fun _ => ?_) (fun _ => s_next ⟨_, _, _, _, _, _, _, rfl, hT4⟩)
      have ho1 : r ∈ keys o2 := by rw [hT4.ko]; exact hb1
      refine s_dput rfl (x_vd rfl) (x_dget (x_vD rfl) (x_vd rfl) (rowsD_look ho1)) (by have := hT4.len_o; rw [rowsD_len]; exact sizeD (by omega)) ?_
      exact ⟨_, _, _, _, _, _, _, by rw [putS_rowsD]; rfl, hT4.put_p hb1 (hT4.vo r)⟩
    · rintro H1 e1 S' ⟨b, o, p, u, v, w, z, rfl, hT⟩
      rw [Int.toNat_natCast] at hT
      exact r_three (q.upThree e1) rfl rfl rfl hT
end Mw
-- part MwR16
set_option maxHeartbeats 4000000
namespace Mw
open PySem PySem.Spec PyProof.Rows L2
theorem mem_strs {k : Str} {T : List Str} : D.str k ∈ T.map D.str ↔ k ∈ T :=
  ⟨fun h => by
    obtain ⟨j, hj, e⟩ := List.mem_map.mp h
    rw [← D.str.inj e]
    exact hj, fun h => List.mem_map.mpr ⟨k, h, rfl⟩⟩
theorem clS_mem {s : Stand} {r : Str} {t : D} : D.tup [.str r, t] ∈ clS s ↔ ∃ x : Rw, (r, x) ∈ s ∧ t ∈ x.w :: x.i ∧ t.isTup = true := by
  unfold clS clR
  constructor
  · intro h
    obtain ⟨p, hp, hd⟩ := List.mem_flatMap.mp h
    obtain ⟨u, hu, e⟩ := List.mem_map.mp hd
    obtain ⟨h1, h2⟩ := List.mem_filter.mp hu
    injection e with e
    injection e with e1 e2
    injection e2 with e2 _
    injection e1 with e1
    subst e1 e2
    exact ⟨p.2, hp, h1, h2⟩
  · rintro ⟨x, h1, h2, h3⟩
    exact List.mem_flatMap.mpr ⟨_, h1, List.mem_map.mpr ⟨t, List.mem_filter.mpr ⟨h2, h3⟩, rfl⟩⟩
theorem clS_shape {s : Stand} {d : D} (h : d ∈ clS s) : ∃ r t, d = .tup [.str r, t] := by
  obtain ⟨p, hp, hd⟩ := List.mem_flatMap.mp h
  obtain ⟨u, hu, e⟩ := List.mem_map.mp hd
  exact ⟨_, _, e.symm⟩
theorem Three.Ok.flip {x : Three} (hx : x.Ok) : (Three.mk x.R x.f x.h x.g).Ok := ⟨hx.ris, hx.len, hx.vf, hx.vh, hx.vg, hx.rf, hx.rh, hx.rg⟩
/-- where nothing touches, no clash is new -/
theorem Three.Ok.fresh {x : Three} (hx : x.Ok) {r : Str} {t : D} (ht : x.t r = false) (h : D.tup [.str r, t] ∈ clS (mkS x.R x.J)) : D.tup [.str r, t] ∈ clS (mkS x.R x.g ++ mkS x.R x.h) := by
  obtain ⟨y, h1, h2, h3⟩ := clS_mem.mp h
  obtain ⟨m1, m2, m3⟩ := mkS_mem.mp h1
  have m2 : y = x.J r := m2
  subst m2
  obtain ⟨_, f2, f3⟩ := joinR_fresh (hx.vf r) (hx.vg r) (hx.vh r) ht
  have go : (t ∈ (x.g r).w :: (x.g r).i) ∨ (t ∈ (x.h r).w :: (x.h r).i) := by
    rcases List.mem_cons.mp h2 with e | e
    · rcases f2 with f | f
      · exact .inl (by rw [e]; exact List.mem_cons.mpr (.inl f))
      · exact .inr (by rw [e]; exact List.mem_cons.mpr (.inl f))
    · rcases f3 t e with f | f
      · exact .inl (List.mem_cons_of_mem _ f)
      · exact .inr (List.mem_cons_of_mem _ f)
  have nn : ∀ {f : Str → Rw}, Rows x.R f → t ∈ (f r).w :: (f r).i → (f r).w ≠ .non := fun {f} hr hm e => by
    rw [hr.non r e] at hm
    have hm : t ∈ [D.non] := hm
    rw [List.mem_singleton.mp hm] at h3
    cases h3
  rcases go with g | g
  · exact clS_mem.mpr ⟨x.g r, List.mem_append.mpr (.inl (mkS_mem.mpr ⟨m1, rfl, nn hx.rg g⟩)), g, h3⟩
  · exact clS_mem.mpr ⟨x.h r, List.mem_append.mpr (.inr (mkS_mem.mpr ⟨m1, rfl, nn hx.rh g⟩)), g, h3⟩
theorem refD_two (x : Three) : ∃ a c, refD x = .tup [a, c] ∧ (x.R.filter x.t = [] → a = .tup [.tup ((pastD x.R x.f x.g x.h).map Deed.d), .tup ((pastD x.R x.f x.h x.g).map Deed.d)]) ∧ ∀ r rs, x.R.filter x.t = r :: rs → a = .non ∧ c = .tup [.str r, .str r] := by
  unfold refD
  cases x.R.filter x.t with
  | nil => exact ⟨_, _, rfl, fun _ => rfl, fun r rs h => nomatch h⟩
  | cons r rs => exact ⟨_, _, rfl, fun h => (nomatch h), fun r' rs' h => by injection h with h1 h2; rw [h1]; exact ⟨rfl, rfl⟩⟩
theorem depL0 (n : Nat) : min n (D.deps []) ≤ 60 := by simp [D.deps]
theorem depL1 (n : Nat) : min (D.deps []) n ≤ 60 := by simp [D.deps]
theorem depS2 (a : Str) (n : Nat) : min n (D.str a).dep ≤ 60 := by simp [D.dep]
/-! _law_held: slots 0 _law_bases*  1 _law_ones*  2 _law_others*  3 _law_base  4 _law_one  5 _law_other  6 _law_joined_here  7 _law_root  8 _law_touched*  9 _law_found  10 _law_fields  11 _law_free*  12 _law_row_here  13 _law_known*  14 _law_key   -/
abbrev st_l_held : Stmt := topS 71
abbrev N_l_held : List Str := ["_law_bases", "_law_ones", "_law_others", "_law_base", "_law_one", "_law_other", "_law_joined_here", "_law_root", "_law_touched", "_law_found", "_law_fields", "_law_free", "_law_row_here", "_law_known", "_law_key"]
theorem sc_l_held : FnScope N_l_held ["_law_bases", "_law_ones", "_law_others"] (defScope st_l_held) := ⟨rfl, rfl, rfl, by decide +kernel, rfl, by decide +kernel, by decide +kernel⟩
abbrev sp_l_held : Sp := SpG (α := Trio) (fun x => [.hand (DctHx (rowsD x.b)), .hand (DctHx (rowsD x.o)), .hand (DctHx (rowsD x.p))]) Trio.Ok (fun _ => RV (.bl true))
abbrev H_l_held (P : Program) (w : World) (K : PySem.W.Frag) (mg : Str → Option Value) (base : Heap) : Prop := Has P w K mg base 12 "_law_held" ["_law_bases", "_law_ones", "_law_others"] sp_l_held
theorem has_l_held {P : Program} {w : World} {K : PySem.W.Frag} {mg : Str → Option Value} {base : Heap} (B : Gs mg) (F : DefAt K mg "_law_held" st_l_held) (G_l_stand : H_l_stand P w K mg base) (G_joined_stand : H_joined_stand P w K mg base) (G_l_touch : H_l_touch P w K mg base) (G_l_refused : H_l_refused P w K mg base) (G_laid_change : H_laid_change P w K mg base)
    (G_l_at_roots : H_l_at_roots P w K mg base) (G_l_many_clashes : H_l_many_clashes P w K mg base) (G_l_as_walked : H_l_as_walked P w K mg base) : H_l_held P w K mg base :=
  F.hasG sc_l_held (fun _ _ _ _ _ _ us hl => match us, hl with | [_, _, _], _ => rfl) (fun _ => rfl) fun f cdv A outer s H E hr => by
    have hu := room64 hr
    have hu1 := hu_of hr
    refine ⟨_, (pss_cons (ps_set (i := 3) sc_l_held.nd rfl (Or.inl rfl) (pe_has G_l_stand hr (by decide) (by rfl) (pa_cons (pv 0) pa_nil)))
      (pss_cons (ps_set (i := 4) sc_l_held.nd rfl (Or.inl rfl) (pe_has G_l_stand hr (by decide) (by rfl) (pa_cons (pv 1) pa_nil)))
      (pss_cons (ps_set (i := 5) sc_l_held.nd rfl (Or.inl rfl) (pe_has G_l_stand hr (by decide) (by rfl) (pa_cons (pv 2) pa_nil)))
      (pss_cons (ps_set (i := 6) sc_l_held.nd rfl (Or.inl rfl) (pe_has G_joined_stand hr (by decide) (by rfl) (pa_cons (pv 3) (pa_cons (pv 4) (pa_cons (pv 5) pa_nil)))))
      (pss_cons (ps_if (pt_cmpR (op_neK (K := K) rfl hu) (pe_has G_joined_stand hr (by decide) (by rfl) (pa_cons (pv 3) (pa_cons (pv 5) (pa_cons (pv 4) pa_nil)))) (pv 6) (nomark _))
        (pss_one (ps_ret pe_bl))
        pss_nil)
      (pss_cons (ps_set (i := 8) sc_l_held.nd rfl (Or.inr rfl) (pe_lc (own := [("_law_root", 7)]) (g := gName 7) rfl sc_l_held.nd (pi_list (pe_callB (call_sortedD rfl) (by rfl) B.sorted b_sorted (pa_cons (pv 0) pa_nil))) (blkOk_by (own := [("_law_root", 7)]) (N := N_l_held) (sc := defScope st_l_held) (by decide +kernel)) (fun _ _ _ _ _ => (pg_name (i := 7) sc_l_held.nd rfl (Or.inl rfl))) (fun _ _ _ _ _ => (pts_one (pt_val (pe_has G_l_touch hr (by decide) (by rfl) (pa_cons (pe_dget hu1 (pv 0) (pv 7) (fun _ _ => rfl)) (pa_cons (pe_dget hu1 (pv 1) (pv 7) (fun _ _ => rfl)) (pa_cons (pe_dget hu1 (pv 2) (pv 7) (fun _ _ => rfl)) pa_nil))))))) (fun _ _ _ _ _ => (pv 7))))
      (pss_cons (ps_asg (pe_has G_l_refused hr (by decide) (by rfl) (pa_cons (pv 3) (pa_cons (pv 4) (pa_cons (pv 5) pa_nil)))) (pg_tup (by rfl) (pgs_cons (pg_name (i := 9) sc_l_held.nd rfl (Or.inl rfl)) (pgs_cons (pg_name (i := 10) sc_l_held.nd rfl (Or.inl rfl)) pgs_nil))))
      (pss_cons (ps_if (pt_cmpR (op_neK (K := K) rfl hu) (pv 8) (pe_lst pa_nil) (nomark _))
        (pss_one (ps_if (PW.pt (pw_or (pt_cmpR op_notNA (pv 9) pe_non (nomark _)) (pw_or1 (pt_cmpR (op_neK (K := K) rfl hu) (pv 10) (pe_tup (pa_cons (pe_ix (ix_seqK (K := K) rfl) (pv 8) pe_int (fun _ _ => rfl)) (pa_cons (pe_ix (ix_seqK (K := K) rfl) (pv 8) pe_int (fun _ _ => rfl)) pa_nil))) (nomark _)))))
          (pss_one (ps_ret pe_bl))
          pss_nil))
        (pss_one (ps_if (PW.pt (pw_or (pt_cmpR op_isNA (pv 9) pe_non (nomark _)) (pw_or (pt_cmpR (op_neK (K := K) rfl hu) (pe_has G_laid_change hr (by decide) (by rfl) (pa_cons (pe_ix (ix_seqK (K := K) rfl) (pv 9) pe_int (fun _ _ => rfl)) (pa_cons (pv 5) pa_nil))) (pv 6) (nomark _)) (pw_or1 (pt_cmpR (op_neK (K := K) rfl hu) (pe_has G_laid_change hr (by decide) (by rfl) (pa_cons (pe_ix (ix_seqK (K := K) rfl) (pv 9) pe_int (fun _ _ => rfl)) (pa_cons (pv 4) pa_nil))) (pv 6) (nomark _))))))
          (pss_one (ps_ret pe_bl))
          pss_nil)))
      (pss_cons (ps_set (i := 11) sc_l_held.nd rfl (Or.inr rfl) (pe_lc (own := [("_law_root", 7)]) (g := gName 7) rfl sc_l_held.nd (pi_list (pe_callB (call_sortedD rfl) (by rfl) B.sorted b_sorted (pa_cons (pv 0) pa_nil))) (blkOk_by (own := [("_law_root", 7)]) (N := N_l_held) (sc := defScope st_l_held) (by decide +kernel)) (fun _ _ _ _ _ => (pg_name (i := 7) sc_l_held.nd rfl (Or.inl rfl))) (fun _ _ _ _ _ => (pts_one (pt_cmpR (op_niK (K := K) rfl hu) (pv 7) (pv 8) rfl))) (fun _ _ _ _ _ => (pv 7))))
      (pss_cons (ps_if (pt_cmpR (op_neK (K := K) rfl hu) (pe_has G_l_at_roots hr (by decide) (by rfl) (pa_cons (pv 0) (pa_cons (pv 1) (pa_cons (pv 2) (pa_cons (pv 11) pa_nil))))) (pe_callTy (call_tupK (K := K) rfl) (by rfl) B.tuple b_tuple (pa_cons (pe_lc (own := [("_law_row_here", 12)]) (g := gName 12) rfl sc_l_held.nd (pi_tup (pv 6)) (blkOk_by (own := [("_law_row_here", 12)]) (N := N_l_held) (sc := defScope st_l_held) (by decide +kernel)) (fun _ _ _ _ _ => (pg_name (i := 12) sc_l_held.nd rfl (Or.inl rfl))) (fun _ _ _ _ _ => (pts_one (pt_cmpR (op_inK (K := K) rfl hu) (pe_ix (ix_seqK (K := K) rfl) (pv 12) pe_int (fun _ _ => rfl)) (pv 11) rfl))) (fun _ _ _ _ _ => (pv 12))) pa_nil)) (nomark _))
        (pss_one (ps_ret pe_bl))
        pss_nil)
      (pss_cons (ps_set (i := 13) sc_l_held.nd rfl (Or.inr rfl) (pe_has G_l_many_clashes hr (by decide) (by rfl) (pa_cons (pe_op (op_addK (K := K) rfl) (pv 4) (pv 5)) pa_nil)))
      (pss_cons (ps_if (pt_cmpR (op_neK (K := K) rfl hu) (pe_lc (own := [("_law_key", 14)]) (g := gName 14) rfl sc_l_held.nd (pi_list (pe_has G_l_many_clashes hr (by decide) (by rfl) (pa_cons (pv 6) pa_nil))) (blkOk_by (own := [("_law_key", 14)]) (N := N_l_held) (sc := defScope st_l_held) (by decide +kernel)) (fun _ _ _ _ _ => (pg_name (i := 14) sc_l_held.nd rfl (Or.inl rfl))) (fun _ _ _ _ _ => (pts_one (PW.pt (pw_and (pt_cmpR (op_niK (K := K) rfl hu) (pv 14) (pv 13) rfl) (pw_and1 (pt_cmpR (op_inK (K := K) rfl hu) (pe_ix (ix_seqK (K := K) rfl) (pv 14) pe_int (fun _ _ => rfl)) (pv 11) rfl)))))) (fun _ _ _ _ _ => (pv 14))) (pe_lst pa_nil) (nomark _))
        (pss_one (ps_ret pe_bl))
        pss_nil)
      (pss_one (ps_ret (pe_has G_l_as_walked hr (by decide) (by rfl) (pa_cons (pv 0) (pa_cons (pv 1) (pa_cons (pv 2) (pa_cons (pv 6) pa_nil))))))))))))))))))), fun x hp H R q => ?_⟩
    have hok := hp.all
    obtain ⟨l1, l2, l3⟩ := hok.lens
    have hrows := hok.rows
    have hlb : x.b.length < 64 := Nat.lt_of_le_of_lt hp.len (by decide)
    have hkl : ∀ {s : Stand}, keys s = keys x.b → (keys s).Nodup ∧ s.length < 64 := fun {s} h => ⟨by rw [h]; exact hp.nd, by
      have h := congrArg List.length h
      unfold keys at h
      rw [List.length_map, List.length_map] at h
      omega⟩
    have hsd : ∀ k, k ∈ x.all.R → k ∈ keys x.b := fun k hk => mem_sortU.mp hk
    have hlook : ∀ k, k ∈ x.all.R → lookS (rowsD x.b) k = some (rowOf x.b k).d ∧ lookS (rowsD x.o) k = some (rowOf x.o k).d ∧ lookS (rowsD x.p) k = some (rowOf x.p k).d := fun k hk =>
      ⟨rowsD_look (hsd k hk), rowsD_look (by rw [hp.ko]; exact hsd k hk), rowsD_look (by rw [hp.kp]; exact hsd k hk)⟩
    have hRl : x.all.R.length ≤ 12 := hok.len
    dsimp only
    refine s_seq (s_asg (x_callD (d := .tup (standD (mkS x.all.R x.all.f))) x.b (a_cons (x_hx (x_vh rfl)) a_nil) (hkl rfl) rfl) ?_)
    refine s_seq (s_asg (x_callD (d := .tup (standD (mkS x.all.R x.all.g))) x.o (a_cons (x_hx (x_vh rfl)) a_nil) (hkl hp.ko) (congrArg (fun z => RD (.tup (standD (mkS (sortU z) (rowOf x.o))))) hp.ko)) ?_)
    refine s_seq (s_asg (x_callD (d := .tup (standD (mkS x.all.R x.all.h))) x.p (a_cons (x_hx (x_vh rfl)) a_nil) (hkl hp.kp) (congrArg (fun z => RD (.tup (standD (mkS (sortU z) (rowOf x.p))))) hp.kp)) ?_)
    refine s_seq (s_asg (x_callD (d := .tup (standD (mkS x.all.R x.all.J))) (mkS x.all.R x.all.f, mkS x.all.R x.all.g, mkS x.all.R x.all.h) (a_cons (x_vd rfl) (a_cons (x_vd rfl) (a_cons (x_vd rfl) a_nil))) ⟨⟨l1, l2, l3⟩, hrows⟩ (congrArg (fun z => RD (.tup (standD z))) hok.join)) ?_)
    refine s_seq (s_if (b := false) (t_cB (x_ne (x_callD (d := .tup (standD (mkS x.all.R x.all.J))) (mkS x.all.R x.all.f, mkS x.all.R x.all.h, mkS x.all.R x.all.g) (a_cons (x_vd rfl) (a_cons (x_vd rfl) (a_cons (x_vd rfl) a_nil))) ⟨⟨l1, l3, l2⟩, fun r => ⟨(hrows r).1, (hrows r).2.2, (hrows r).2.1⟩⟩
      (congrArg (fun z => RD (.tup (standD z))) (hok.flip.join.trans (mkS_congr fun r _ => joinR_sym (hok.vf r) (hok.vg r) (hok.vh r))))) (x_vd rfl) (hok.jdep _)) (ne_same _)) (fun z => nomatch z) fun _ => s_next ?_)
    have hsort : ∀ {H1 : Hp} {S : List SV}, S[0]? = some (.hand (DctHx (rowsD x.b))) → EvN H1 S (tCB _ (tCons (tVar 0) tNil)) (x.all.R.map D.str) := fun {H1 S} h => EvN.is (n_sortedDct (x_hx (x_vh h)) (by unfold rowsD; rw [List.length_map]; exact hlb) (by rw [rowsD_keys]; exact hp.nd)) (by rw [rowsD_keys]; rfl)
    refine s_seq (s_asgN (ds := (x.all.R.filter x.all.t).map D.str) (EvN.is (n_lcL (xs := x.all.R.map D.str) (fun d => match d with | .str k => x.all.t k | _ => false) id (EvN.x (hsort rfl)) (by rw [List.length_map]; omega) ?_) ?_) ?_)
    · intro i d hd
      rw [List.getElem?_map] at hd
      obtain ⟨k, hk, rfl⟩ := Option.map_eq_some_iff.mp hd
      obtain ⟨e1, e2, e3⟩ := hlook k (List.mem_of_getElem? hk)
      exact ⟨_, _, g_name, by simp, t_vB (x_callV (rowOf x.b k, rowOf x.o k, rowOf x.p k) (a_cons (x_dget (x_hx (x_vh rfl)) (x_vd rfl) e1) (a_cons (x_dget (x_hx (x_vh rfl)) (x_vd rfl) e2) (a_cons (x_dget (x_hx (x_vh rfl)) (x_vd rfl) e3) a_nil))) ⟨hp.vb k, hp.vo k, hp.vp k⟩ rfl) rfl, fun _ => x_vd rfl⟩
    · rw [List.map_id, List.filter_map]
      rfl
    obtain ⟨a, c, hac, hno, hyes⟩ := refD_two x.all
    refine s_seq (s_asgG (js := [9, 10]) (x_callD (d := .tup [a, c]) x.all (a_cons (x_vd rfl) (a_cons (x_vd rfl) (a_cons (x_vd rfl) a_nil))) hok (congrArg RD hac)) (g_tup rfl rfl) ?_)
    refine s_cut (fun _ S' => S' = [.hand (DctHx (rowsD x.b)), .hand (DctHx (rowsD x.o)), .hand (DctHx (rowsD x.p)), .dat (.tup (standD (mkS x.all.R x.all.f))), .dat (.tup (standD (mkS x.all.R x.all.g))), .dat (.tup (standD (mkS x.all.R x.all.h))), .dat (.tup (standD (mkS x.all.R x.all.J))), .no, .own ((x.all.R.filter x.all.t).map D.str), .dat a, .dat c, .no, .no, .no, .no]) ?_ ?_
    · refine s_if (b := !decide ((x.all.R.filter x.all.t).map D.str = [])) (t_cB (x_neL (x_vo rfl) (EvN.x (n_lst d_nil (sz 0 rfl))) (depL0 _)) rfl) (fun h => ?_) (fun h => ?_)
      · cases hT : x.all.R.filter x.all.t with
        | nil => rw [hT] at h; simp at h
        | cons r rs =>
          obtain ⟨rfl, rfl⟩ := hyes r rs hT
          refine s_if (b := false) (t_is (t_or (a := false) (b := false) (t_cB (x_notN (x_vd rfl) x_cn) (ne_same _)) fun _ => t_cB (x_ne (e := .tup [.str r, .str r]) (x_vd rfl) (x_tup (d_cons (x_ixL (x_vo rfl) x_ci (k := 0) rfl rfl) (d_cons (x_ixL (x_vo rfl) x_ci (k := 0) rfl rfl) d_nil)) (sz 2 rfl)) (by simp [D.dep, D.deps])) (ne_same _)) rfl) (fun z => nomatch z) (fun _ => s_next rfl)
      · have hT : x.all.R.filter x.all.t = [] := by simpa using h
        have ht : ∀ r ∈ x.all.R, x.all.t r = false := fun r hr => by
          have := List.filter_eq_nil_iff.mp hT r hr
          simpa using this
        rw [hno hT]
        refine s_if (b := false) (t_is (t_or (a := false) (b := false || false) (t_cB (x_isN (x_vd rfl) x_cn) (decide_eq_false (fun z => by cases z))) fun _ => t_or (a := false) (b := false) (t_cB (x_ne (x_callD (d := .tup (standD (mkS x.all.R x.all.J))) (pastD x.all.R x.all.f x.all.g x.all.h, mkS x.all.R x.all.h) (a_cons (x_ixT (x_vd rfl) x_ci (k := 0) rfl rfl) (a_cons (x_vd rfl) a_nil)) (hok.lay1 ht).1 (congrArg (fun z => RD (.tup (standD z))) (hok.lay1 ht).2)) (x_vd rfl) (hok.jdep _)) (ne_same _))
          fun _ => t_cB (x_ne (x_callD (d := .tup (standD (mkS x.all.R x.all.J))) (pastD x.all.R x.all.f x.all.h x.all.g, mkS x.all.R x.all.g) (a_cons (x_ixT (x_vd rfl) x_ci (k := 1) rfl rfl) (a_cons (x_vd rfl) a_nil)) (hok.lay2 ht).1 (congrArg (fun z => RD (.tup (standD z))) (hok.lay2 ht).2)) (x_vd rfl) (hok.jdep _)) (ne_same _)) rfl) (fun z => nomatch z) (fun _ => s_next rfl)
    rintro H1 S' e1 rfl
    have hfl : (x.all.R.filter fun r => !x.all.t r).length ≤ 12 := Nat.le_trans (List.length_filter_le _ _) hRl
    have hfm : ∀ k, k ∈ (x.all.R.filter fun r => !x.all.t r) ↔ k ∈ x.all.R ∧ x.all.t k = false := fun k => by
      rw [List.mem_filter]
      simp
    refine s_seq (s_asgN (ds := (x.all.R.filter fun r => !x.all.t r).map D.str) (EvN.is (n_lcL (xs := x.all.R.map D.str) (fun d => !decide (d ∈ (x.all.R.filter x.all.t).map D.str)) id (EvN.x (hsort rfl)) (by rw [List.length_map]; omega) ?_) ?_) ?_)
    · intro i d hd
      rw [List.getElem?_map] at hd
      obtain ⟨k, hk, rfl⟩ := Option.map_eq_some_iff.mp hd
      exact ⟨_, _, g_name, by simp, t_cB (x_niL (x_vd rfl) (x_vo rfl) (depS2 _ _)) rfl, fun _ => x_vd rfl⟩
    · rw [List.map_id, List.filter_map]
      refine congrArg _ (List.filter_congr fun k hk => ?_)
      show (!decide (D.str k ∈ (x.all.R.filter x.all.t).map D.str)) = !x.all.t k
      congr 1
      rw [decide_eq_decide.mpr mem_strs]
      cases h : x.all.t k with
      | true => exact decide_eq_true (List.mem_filter.mpr ⟨hk, h⟩)
      | false => exact decide_eq_false fun z => by rw [(List.mem_filter.mp z).2] at h; cases h
    have hjl : (mkS x.all.R x.all.J).length ≤ 12 := Nat.le_trans (mkS_len _ _) hRl
    refine s_seq (s_if (b := false) (t_cB (x_ne (e := .tup (standD (mkS (x.all.R.filter fun r => !x.all.t r) x.J))) (x_callD (d := .tup (standD (mkS (x.all.R.filter fun r => !x.all.t r) x.J))) (x, x.all.R.filter fun r => !x.all.t r) (a_cons (x_hx (x_vh rfl)) (a_cons (x_hx (x_vh rfl)) (a_cons (x_hx (x_vh rfl)) (a_cons (x_vo rfl) a_nil)))) ⟨hp, hok.ris.sublist List.filter_sublist, hfl, fun r hr => hsd r ((hfm r).mp hr).1, fun r hr => ((hfm r).mp hr).2⟩ rfl)
      (x_tupL (EvN.x (EvN.is (n_lcT (xs := standD (mkS x.all.R x.all.J)) (fun d => match d with | .tup (a :: _) => decide (a ∈ (x.all.R.filter fun r => !x.all.t r).map D.str) | _ => false) id (x_vd rfl) (by unfold standD; rw [List.length_map]; omega) ?_) ?_))) ?_) (ne_same _)) (fun z => nomatch z) fun _ => s_next ?_)
    · intro i d hd
      unfold standD at hd
      rw [List.getElem?_map] at hd
      obtain ⟨k, hk, rfl⟩ := Option.map_eq_some_iff.mp hd
      exact ⟨_, _, g_name, by simp, t_cB (x_inL (x_ixT (x_vd rfl) x_ci (k := 0) rfl rfl) (x_vo rfl) (depS2 _ _)) rfl, fun _ => x_vd rfl⟩
    · rw [List.map_id, mkS_filter]
      unfold standD
      rw [List.filter_map]
      refine congrArg _ (List.filter_congr fun p hp2 => ?_)
      show decide (D.str p.1 ∈ (x.all.R.filter fun r => !x.all.t r).map D.str) = !x.all.t p.1
      have hm := (mkS_mem.mp hp2).1
      by_cases h : x.all.t p.1 = true
      · rw [h]
        exact decide_eq_false fun z => by
          have := ((hfm p.1).mp (mem_strs.mp z)).2
          rw [h] at this
          cases this
      · have h' : x.all.t p.1 = false := by simpa using h
        rw [h']
        exact decide_eq_true (mem_strs.mpr ((hfm p.1).mpr ⟨hm, h'⟩))
    · have := mkS_dep (R := x.all.R.filter fun r => !x.all.t r) hok.lows
      have : (D.tup (standD (mkS (x.all.R.filter fun r => !x.all.t r) x.J))).dep ≤ 11 := this
      omega
    have hLo : ∀ {f : Str → Rw}, (∀ r, RowV (f r)) → ∀ p ∈ mkS x.all.R f, p.2.i.length ≤ 4000 := fun {f} hv p hp2 => by
      rw [(mkS_mem.mp hp2).2.1]
      exact (hv p.1).L.l
    have hLj : ∀ p ∈ mkS x.all.R x.all.J, p.2.i.length ≤ 4000 := fun p hp2 => by
      rw [(mkS_mem.mp hp2).2.1]
      exact (hok.lows p.1).l
    refine s_seq (s_asgN (n_callN (mkS x.all.R x.all.g ++ mkS x.all.R x.all.h) (a_cons (EvX.is (x_addT (x_vd rfl) (x_vd rfl) (sizeL (by unfold standD; rw [List.length_map, List.length_map]; omega))) (by unfold standD; rw [List.map_append])) a_nil) ⟨fun p hp2 => (List.mem_append.mp hp2).elim (hLo hok.vg p) (hLo hok.vh p), by rw [List.length_append]; omega⟩ rfl) ?_)
    refine s_seq (s_if (b := false) (t_cB (x_neL (d := []) (e := []) (EvN.x (EvN.is (n_lcL (xs := clS (mkS x.all.R x.all.J)) (fun d => !decide (d ∈ clS (mkS x.all.R x.all.g ++ mkS x.all.R x.all.h)) && match d with | .tup (a :: _) => decide (a ∈ (x.all.R.filter fun r => !x.all.t r).map D.str) | _ => false) id (EvN.x (n_callN (mkS x.all.R x.all.J) (a_cons (x_vd rfl) a_nil) ⟨hLj, Nat.le_trans hjl (by decide)⟩ rfl)) ?_ ?_) ?_)) (EvN.x (n_lst d_nil (sz 0 rfl))) (depL0 _)) (by rw [decide_eq_true rfl]; rfl)) (fun z => nomatch z) fun _ => s_next ?_)
    · have h := clS_len hLj _ (Nat.le_refl _)
      rw [List.take_length] at h
      omega
    · intro i d hd
      have hm := List.mem_of_getElem? hd
      obtain ⟨r, t, rfl⟩ := clS_shape hm
      obtain ⟨y, h1, h2, h3⟩ := clS_mem.mp hm
      have hdt : t.dep ≤ 6 := by
        have h4 : y = x.all.J r := (mkS_mem.mp h1).2.1
        rw [h4] at h2
        rcases List.mem_cons.mp h2 with e | e
        · rw [e]; exact (hok.lows r).w
        · exact (hok.lows r).i t e
      exact ⟨_, _, g_name, by simp, t_and (t_cmp (x_niL (x_vd rfl) (x_vo rfl) (by simp only [D.dep, D.deps]; omega))) fun _ => t_cmp (x_inL (x_ixT (x_vd rfl) x_ci (k := 0) rfl rfl) (x_vo rfl) (depS2 _ _)), fun _ => x_vd rfl⟩
    · rw [List.map_id]
      refine List.filter_eq_nil_iff.mpr fun d hd => ?_
      obtain ⟨r, t, rfl⟩ := clS_shape hd
      intro hq
      obtain ⟨q1, q2⟩ := Bool.and_eq_true_iff.mp hq
      have q2 := (hfm r).mp (mem_strs.mp (of_decide_eq_true q2))
      have := hok.fresh q2.2 hd
      rw [decide_eq_true this] at q1
      cases q1
    exact r_V (q.upV e1) (x_callV x (a_cons (x_vh rfl) (a_cons (x_hx (x_vh rfl)) (a_cons (x_hx (x_vh rfl)) (a_cons (x_vd rfl) a_nil)))) hp rfl)
end Mw
-- part MwN6
set_option maxHeartbeats 4000000
namespace Mw
open PySem PySem.Spec PyProof.Rows L2
/-! ### a list of two own dicts -/
def pk {α : Type} (b : Bool) (x y : α) : α := if b then y else x
structure PairAt (H : Hp) (l p1 p2 : Addr) (k1 k2 : List (Key × V)) (m1 m2 : Dct) : Prop where
  l : H l = some (.lst [.ref p1, .ref p2])
  a : H p1 = some (.dK k1)
  ka : KD H k1 m1
  b : H p2 = some (.dK k2)
  kb : KD H k2 m2
def PairHd (p1 p2 : Addr) (m1 m2 : Dct) : Hd := ⟨fun H v => ∃ l k1 k2, v = .ref l ∧ PairAt H l p1 p2 k1 k2 m1 m2, fun e h => by
  obtain ⟨l, k1, k2, h1, h2⟩ := h
  exact ⟨l, k1, k2, h1, e _ _ h2.l, e _ _ h2.a, h2.ka.ts (TupS.of e), e _ _ h2.b, h2.kb.ts (TupS.of e)⟩⟩
def PairR (p1 p2 : Addr) (m1 m2 : Dct) : Rgn where
  ok := fun H v F => ∃ l k1 k2, v = .ref l ∧ F = [l, p1, p2] ∧ PairAt H l p1 p2 k1 k2 m1 m2
  away := fun w h => by
    obtain ⟨l, k1, k2, h1, h2, h3⟩ := h
    subst h2
    exact ⟨l, k1, k2, h1, rfl, w.2 l (by simp) _ h3.l, w.2 p1 (by simp) _ h3.a, h3.ka.ts w.1, w.2 p2 (by simp) _ h3.b, h3.kb.ts w.1⟩
  inn := fun h b hb => by
    obtain ⟨l, k1, k2, h1, h2, h3⟩ := h
    subst h2
    rcases List.mem_cons.mp hb with z | hb
    · rw [z]; exact ⟨_, h3.l, fun _ k => by cases k⟩
    rcases List.mem_cons.mp hb with z | hb
    · rw [z]; exact ⟨_, h3.a, fun _ k => by cases k⟩
    · rw [List.mem_singleton.mp hb]; exact ⟨_, h3.b, fun _ k => by cases k⟩
  hd := PairHd p1 p2 m1 m2
  toHd := fun h => by
    obtain ⟨l, k1, k2, h1, h2, h3⟩ := h
    exact ⟨l, k1, k2, h1, h3⟩
section
variable {K : PySem.W.Frag} {H0 : Hp} {S : List SV} {R : V → Hp → Prop} {N : Hp → List SV → Prop}
abbrev rCopyD : List V → Hp → VK → Prop := fun xs H Q => ∃ (a : Addr) (kvs : List (Key × V)), xs = [.ref a] ∧ Rd H a (.dK kvs) ∧ ∀ p, H p = none → Q (.ref p) (upd H p (.dK kvs))
theorem s_pairD {ta tb : TE} {i : Nat} {m1 m2 : Dct} (ha : EvX H0 S ta (.hand (DctHd m1))) (hb : EvX H0 S tb (.hand (DctHd m2))) (k : ∀ p1 p2, N H0 (S.set i (.gen (PairR p1 p2 m1 m2)))) :
    ExS H0 R (tAsg (tLst (tCons (tCB rCopyD (tCons ta tNil)) (tCons (tCB rCopyD (tCons tb tNil)) tNil))) (gName i)) S N := fun D σ H hs hn hr => by
  show tCB rCopyD (tCons ta tNil) σ H fun x H1 => tCB rCopyD (tCons tb tNil) σ H1 fun y H2 => [x, y].length ≤ sizeLine ∧ ∀ l, H2 l = none → gName i (.ref l) σ (upd H2 l (.lst [x, y])) D.nx
  exact g_copyD ha σ H hs _ fun v1 F1 H1 e1 ok1 nd1 n1 => g_copyD hb σ H1 (hs.grow e1) _ fun v2 F2 H2 e2 ok2 nd2 n2 => ⟨sz 2 rfl, fun l hl => by
    obtain ⟨p1, k1, rfl, rfl, a1, a2⟩ := ok1
    obtain ⟨p2, k2, rfl, rfl, b1, b2⟩ := ok2
    have x2 : H1 p2 = none := n2 p2 (by simp)
    have h1 : H2 p1 = some (.dK k1) := e2 _ _ a1
    have d12 : p2 ≠ p1 := fun z => by rw [z, a1] at x2; cases x2
    have dl1 : l ≠ p1 := fun z => by rw [z, h1] at hl; cases hl
    have dl2 : l ≠ p2 := fun z => by rw [z, b1] at hl; cases hl
    have e3 := same_new (o := .lst [.ref p1, .ref p2]) hl
    refine hn H0 _ _ _ (Same.refl H0) (k p1 p2) (StD.putF (x := .gen (PairR p1 p2 m1 m2)) (F := [l, p1, p2]) i hs (e1.trans (e2.trans e3)) (by simp [dl1, dl2, d12.symm]) (fun a ha => ?_) ⟨.ref l, rfl, l, k1, k2, rfl, rfl, upd_same, e3 _ _ h1, (a2.ts (TupS.of e2)).ts (TupS.of e3), e3 _ _ b1, b2.ts (TupS.of e3)⟩)
    rcases List.mem_cons.mp ha with z | ha
    · rw [z]; exact e1.free (e2.free hl)
    rcases List.mem_cons.mp ha with z | ha
    · rw [z]; exact n1 p1 (by simp)
    · rw [List.mem_singleton.mp ha]; exact e1.free x2⟩
theorem x_pairIx {i : Nat} {tb : TE} {p1 p2 : Addr} {m1 m2 : Dct} {b : Bool} (h : S[i]? = some (.gen (PairR p1 p2 m1 m2))) (hb : EvX H0 S tb (.dat (.int (dI b)))) : EvX H0 S (tOp (rIx K) (tVar i) tb) (.val (.ref (pk b p1 p2))) :=
  x_op2 (x_vg h) hb fun v u H Q h1 h2 q => by
    obtain ⟨l, k1, k2, rfl, hp⟩ := h1
    refine .inl ⟨l, _, dI b, .ref (pk b p1 p2), rfl, h2, .inl (.inl hp.l), ?_, q _ H (Same.refl H) rfl⟩
    cases b
    · exact atI_nat (j := 0) rfl
    · exact atI_nat (j := 1) rfl
theorem x_pairHx {i : Nat} {tb : TE} {p1 p2 : Addr} {m1 m2 : Dct} {b : Bool} (h : S[i]? = some (.gen (PairR p1 p2 m1 m2))) (hb : EvX H0 S tb (.dat (.int (dI b)))) : EvX H0 S (tOp (rIx K) (tVar i) tb) (.hand (DctHx (pk b m1 m2))) :=
  x_op2 (x_vg h) hb fun v u H Q h1 h2 q => by
    obtain ⟨l, k1, k2, rfl, hp⟩ := h1
    refine .inl ⟨l, _, dI b, .ref (pk b p1 p2), rfl, h2, .inl (.inl hp.l), ?_, q _ H (Same.refl H) ?_⟩
    · cases b
      · exact atI_nat (j := 0) rfl
      · exact atI_nat (j := 1) rfl
    · cases b
      · exact ⟨p1, k1, rfl, hp.a, hp.ka⟩
      · exact ⟨p2, k2, rfl, hp.b, hp.kb⟩
theorem x_pairV {i c : Nat} {p1 p2 : Addr} {m1 m2 : Dct} {b : Bool} (h : S[i]? = some (.gen (PairR p1 p2 m1 m2))) (hc : S[c]? = some (.val (.ref (pk b p1 p2)))) : EvX H0 S (tVar c) (.hand (DctHd (pk b m1 m2))) := fun σ H hs Q q => by
  obtain ⟨ex, Fs, h1, h2, h3⟩ := hs
  obtain ⟨o, F, h4, h5, v, h6, l, k1, k2, h7, h8, hp⟩ := h1.get h
  obtain ⟨o', F', g4, g5, g6, g7⟩ := h1.get hc
  refine ⟨_, by rw [g4, g7], q _ H (Same.refl H) ?_⟩
  cases b
  · exact ⟨p1, k1, rfl, .inl hp.a, hp.ka⟩
  · exact ⟨p2, k2, rfl, .inl hp.b, hp.kb⟩
/-- one of the two dicts changes, by its own name -/
theorem pair_put {σ : L2.St} {H : Hp} {i : Nat} {p1 p2 : Addr} {m1 m2 : Dct} {b : Bool} {k : Str} {v : V} {d : D} (hs : StD H0 H σ S) (hi : S[i]? = some (.gen (PairR p1 p2 m1 m2))) (hv : DV H v d) (hz1 : m1.length < sizeLine) (hz2 : m2.length < sizeLine) :
    ∃ H', DPut H (pk b p1 p2) (.str k) v H' ∧ StD H0 H' σ (S.set i (.gen (PairR p1 p2 (pk b (putS m1 k d) m1) (pk b m2 (putS m2 k d))))) := by
  obtain ⟨w, F, h1, h2, h3, h4, h5⟩ := StD.mutG hs hi
  obtain ⟨l, k1, k2, rfl, rfl, hp⟩ := h2
  have nd : l ≠ p1 ∧ l ≠ p2 ∧ p1 ≠ p2 := by
    obtain ⟨n1, n2⟩ := List.nodup_cons.mp h3
    obtain ⟨n3, _⟩ := List.nodup_cons.mp n2
    exact ⟨fun z => n1 (by rw [z]; simp), fun z => n1 (by rw [z]; simp), fun z => n3 (by rw [z]; simp)⟩
  cases b with
  | false =>
    have ts : TupS H (upd H p1 (.dK (putK k1 (.inr k) v))) := fun a vs ha => by
      rw [upd_ne (ne_of ha hp.a (by intro z; cases z))]
      exact ha
    refine ⟨upd H p1 (.dK (putK k1 (.inr k) v)), .inl ⟨k1, .inr k, hp.a, rfl, by rw [hp.ka.len]; exact hz1, rfl⟩, h5 (F' := [l, p1, p2]) (G' := PairR p1 p2 (putS m1 k d) m2) ts (fun a o ha hF => ?_) h3 (fun a ha => .inl ha) ⟨l, _, k2, rfl, rfl, ?_, upd_same, (hp.ka.put hv).ts ts, ?_, hp.kb.ts ts⟩⟩
    · rw [upd_ne (fun z => hF (by rw [z]; simp))]
      exact ha
    · rw [upd_ne nd.1]; exact hp.l
    · rw [upd_ne nd.2.2.symm]; exact hp.b
  | true =>
    have ts : TupS H (upd H p2 (.dK (putK k2 (.inr k) v))) := fun a vs ha => by
      rw [upd_ne (ne_of ha hp.b (by intro z; cases z))]
      exact ha
    refine ⟨upd H p2 (.dK (putK k2 (.inr k) v)), .inl ⟨k2, .inr k, hp.b, rfl, by rw [hp.kb.len]; exact hz2, rfl⟩, h5 (F' := [l, p1, p2]) (G' := PairR p1 p2 m1 (putS m2 k d)) ts (fun a o ha hF => ?_) h3 (fun a ha => .inl ha) ⟨l, k1, _, rfl, rfl, ?_, ?_, hp.ka.ts ts, upd_same, (hp.kb.put hv).ts ts⟩⟩
    · rw [upd_ne (fun z => hF (by rw [z]; simp))]
      exact ha
    · rw [upd_ne nd.2.1]; exact hp.l
    · rw [upd_ne nd.2.2]; exact hp.a
theorem s_pairPut {i c : Nat} {te ti : TE} {p1 p2 : Addr} {m1 m2 : Dct} {b : Bool} {k : Str} {P : D → Prop} (hi : S[i]? = some (.gen (PairR p1 p2 m1 m2))) (hc : S[c]? = some (.val (.ref (pk b p1 p2)))) (hk : EvX H0 S ti (.dat (.str k))) (h : EvP H0 S te P) (hz1 : m1.length < sizeLine) (hz2 : m2.length < sizeLine)
    (kk : ∀ d, P d → N H0 (S.set i (.gen (PairR p1 p2 (pk b (putS m1 k d) m1) (pk b m2 (putS m2 k d)))))) : ExS H0 R (sDPut (tVar c) ti te) S N := fun D σ H hs hn hr =>
  h σ H hs _ fun d v H1 hP e1 hv => by
    have hs1 := hs.grow e1
    have hcv : σ[c]? = some (some (.ref (pk b p1 p2))) := by
      obtain ⟨ex, Fs, h1, _⟩ := hs
      obtain ⟨o', F', g4, g5, g6, g7⟩ := h1.get hc
      rw [g4, g7]
    refine ⟨_, hcv, hk σ H1 hs1 _ fun u H2 e2 hu => ?_⟩
    have hu : u = .str k := hu
    subst hu
    obtain ⟨H', g2, g3⟩ := pair_put (b := b) (k := k) (hs1.grow e2) hi (DV.mono e2 hv) hz1 hz2
    exact ⟨_, H', rfl, g2, hn H0 _ _ _ (Same.refl H0) (kk d hP) g3⟩
end
theorem TrioN.ok {rs : List Str} {i n : Nat} {b o p : Stand} (h : TrioN rs i n b o p) (hi : i ≤ 12) : (Trio.mk b o p).Ok := ⟨h.nd, h.ko, h.kp, Nat.le_trans h.len hi, fun r => (h.vb r).v, fun r => (h.vo r).v, fun r => (h.vp r).v⟩
/-- the further rows, i roots behind, of the next root j sides behind -/
structure FurN (rs : List Str) (many i j : Nat) (b o p : Stand) : Prop where
  t : TrioN rs many 19 b o p
  no : ∀ k r, rs[k]? = some r → (i < k ∨ (i = k ∧ j = 0)) → RowN 9 (rowOf o r)
  np : ∀ k r, rs[k]? = some r → (i < k ∨ (i = k ∧ j ≤ 1)) → RowN 9 (rowOf p r)
theorem TrioN.up {rs : List Str} {i n m : Nat} {b o p : Stand} (h : TrioN rs i n b o p) (k : n ≤ m) : TrioN rs i m b o p := ⟨h.nd, h.ko, h.kp, h.len, h.vb, fun r => (h.vo r).up k, fun r => (h.vp r).up k, h.hit⟩
theorem FurN.start {rs : List Str} {many : Nat} {b o p : Stand} (h : TrioN rs many 9 b o p) : FurN rs many 0 0 b o p := ⟨h.up (by decide), fun _ r _ _ => h.vo r, fun _ r _ _ => h.vp r⟩
theorem FurN.next {rs : List Str} {many i : Nat} {b o p : Stand} (h : FurN rs many i 2 b o p) : FurN rs many (i + 1) 0 b o p := ⟨h.t, fun k r hk e => h.no k r hk (.inl (by omega)), fun k r hk e => h.np k r hk (.inl (by omega))⟩
theorem FurN.skip {rs : List Str} {many i j : Nat} {b o p : Stand} (h : FurN rs many i j b o p) : FurN rs many i (j + 1) b o p := ⟨h.t, fun k r hk e => h.no k r hk (.inl (by omega)), fun k r hk e => h.np k r hk (e.elim .inl fun z => .inr (by omega))⟩
theorem idx_uniq {rs : List Str} (hn : rs.Nodup) {i k : Nat} {r : Str} (h1 : rs[i]? = some r) (h2 : rs[k]? = some r) : i = k := by
  obtain ⟨a1, a2⟩ := List.getElem?_eq_some_iff.mp h1
  obtain ⟨b1, b2⟩ := List.getElem?_eq_some_iff.mp h2
  have hp := List.pairwise_iff_getElem.mp hn
  rcases Nat.lt_trichotomy i k with h | h | h
  · exact absurd (a2.trans b2.symm) (hp i k a1 b1 h)
  · exact h
  · exact absurd (b2.trans a2.symm) (hp k i b1 a1 h)
theorem FurN.put0 {rs : List Str} {many i : Nat} {b o p : Stand} {r : Str} {z : Rw} (hn : rs.Nodup) (h : FurN rs many i 0 b o p) (hr : rs[i]? = some r) (hi : i < many) (hz : RowN 19 z) : FurN rs many i 1 b (putR o r z) p := by
  refine ⟨h.t.put_o (h.t.hit i r hi hr) hz, fun k s hk e => ?_, fun k s hk e => h.np k s hk (by omega)⟩
  rw [rowOf_putR, if_neg (fun q => by
    have := idx_uniq hn hr (by rw [q]; exact hk)
    omega)]
  exact h.no k s hk (.inl (by omega))
theorem FurN.put1 {rs : List Str} {many i : Nat} {b o p : Stand} {r : Str} {z : Rw} (hn : rs.Nodup) (h : FurN rs many i 1 b o p) (hr : rs[i]? = some r) (hi : i < many) (hz : RowN 19 z) : FurN rs many i 2 b o (putR p r z) := by
  refine ⟨h.t.put_p (h.t.hit i r hi hr) hz, fun k s hk e => h.no k s hk (.inl (by omega)), fun k s hk e => ?_⟩
  rw [rowOf_putR, if_neg (fun q => by
    have := idx_uniq hn hr (by rw [q]; exact hk)
    omega)]
  exact h.np k s hk (.inl (by omega))
theorem fund_okG {P : Program} {w : World} {K : PySem.W.Frag} {mg : Str → Option Value} {base : Heap} {x : Str} {st : Stmt} {N ps : List Str} {k : Nat} {α : Type} {av : α → List AV} {pre : α → Prop} {rp : α → Rp} {f : Addr} {fd : FuncData} (F : FunD K x x (defArgs st) (defBody st) (defScope st) [] [] f fd) (S : FnScope N ps (defScope st))
    (len : ∀ x, (av x).length = ps.length)
    (hbody : ∀ (cdv : Value) (A : Around) (outer : List Env) (s : Shared) (H : Hp) (E : XK), Room k (A.deeper (envOfC x (defScope st) s.heap.objs.size f cdv)) →
      ∃ t, PSs (cxOf CX0 P w K mg base N x (defScope st) f cdv A outer s H E).nox (defBody st) t ∧ ∀ y, pre y → ∀ H R, Gives H (rp y) R → ExS H R t ((av y).map AV.sv ++ List.replicate (N.length - (av y).length) .no) (fun _ _ => False)) : FnOk P w K mg base CX0 (k + 1) f fd ps (SpG av pre rp) :=
  F.ok S (fun vs H Q E h => by
    obtain ⟨y, h, _⟩ := h
    rw [h.length, len]) fun cdv A outer s H vs Q E hr h => by
    obtain ⟨t, h1, h2⟩ := hbody cdv A outer s H E hr
    obtain ⟨y, h3, h4, h5⟩ := h
    exact ⟨t, h1.nox, ExS.enter h3 rfl (h2 y h4 H Q h5)⟩
theorem b919 : (9 : Nat) ≤ 12 ∧ 4 ≤ 19 ∧ 2 * 9 + 1 ≤ 19 ∧ 19 ≤ 25 := by decide
theorem dI_if (b : Bool) : (if b then (1 : Int) else 0) = dI b := by cases b <;> rfl
/-! law: slots 0 _law_script  1 _law_many  2 _law_deep  3 _law_roots_here  4 _law_bases  5 _law_ones  6 _law_others  7 _law_further  8 _law_k  9 _law_j  10 _law_cell  11 _law_rows   -/
abbrev st_law : Stmt := topS 72
abbrev N_law : List Str := ["_law_script", "_law_many", "_law_deep", "_law_roots_here", "_law_bases", "_law_ones", "_law_others", "_law_further", "_law_k", "_law_j", "_law_cell", "_law_rows"]
theorem sc_law : FnScope N_law ["_law_script"] (defScope st_law) := ⟨rfl, rfl, rfl, by decide +kernel, rfl, by decide +kernel, by decide +kernel⟩
abbrev sp_law (K : PySem.W.Frag) : Sp := SpG (α := List Int) (fun x => [.hand (ScrHd K x)]) (fun _ => True) (fun _ => RV (.bl true))
abbrev H_law (P : Program) (w : World) (K : PySem.W.Frag) (mg : Str → Option Value) (base : Heap) : Prop := Has P w K mg base 13 "law" ["_law_script"] (sp_law K)
theorem has_law {P : Program} {w : World} {K : PySem.W.Frag} {mg : Str → Option Value} {base : Heap} (B : Gs mg) {f : Addr} {fd : FuncData} (F : FunD K "law" "law" (defArgs st_law) (defBody st_law) (defScope st_law) [] [] f fd) (G_l_cell_at : H_l_cell_at P w K mg base) (G_l_edited_row : H_l_edited_row P w K mg base) (G_l_held : H_l_held P w K mg base) (G_l_own : H_l_own P w K mg base) (G_l_roots : H_l_roots P w K mg base) (G_l_three : H_l_three P w K mg base)  : FnOk P w K mg base CX0 13 f fd ["_law_script"] (sp_law K) :=
  fund_okG F sc_law (fun _ => rfl) fun cdv A outer s H E hr => by
    have hu := room64 hr
    have hu1 := hu_of hr
    refine ⟨_, (pss_cons (ps_set (i := 1) sc_law.nd rfl (Or.inl rfl) (pe_op op_mod (pe_op op_fdiv (pe_has G_l_cell_at hr (by decide) (by rfl) (pa_cons (pv 0) (pa_cons pe_int pa_nil))) pe_int) pe_int))
      (pss_cons (ps_set (i := 2) sc_law.nd rfl (Or.inl rfl) (pe_callTy call_intA (by rfl) B.int b_int (pa_cons (pe_cmpR (op_eqK (K := K) rfl hu) (pe_op op_mod (pe_has G_l_cell_at hr (by decide) (by rfl) (pa_cons (pv 0) (pa_cons pe_int pa_nil))) pe_int) pe_int (nomark _)) pa_nil)))
      (pss_cons (ps_set (i := 3) sc_law.nd rfl (Or.inl rfl) (pe_has G_l_roots hr (by decide) (by rfl) (pa_cons (pe_has G_l_cell_at hr (by decide) (by rfl) (pa_cons (pv 0) (pa_cons pe_int pa_nil))) pa_nil)))
      (pss_cons (ps_asg (pe_has G_l_three hr (by decide) (by rfl) (pa_cons (pv 0) (pa_cons pe_int (pa_cons (pv 1) (pa_cons (pv 3) (pa_cons (pv 2) pa_nil)))))) (pg_tup (by rfl) (pgs_cons (pg_name (i := 4) sc_law.nd rfl (Or.inl rfl)) (pgs_cons (pg_name (i := 5) sc_law.nd rfl (Or.inl rfl)) (pgs_cons (pg_name (i := 6) sc_law.nd rfl (Or.inl rfl)) pgs_nil)))))
      (pss_cons (ps_set (i := 7) sc_law.nd rfl (Or.inl rfl) (pe_lst (pa_cons (pe_callTy call_dictD (by rfl) B.dict b_dict (pa_cons (pv 5) pa_nil)) (pa_cons (pe_callTy call_dictD (by rfl) B.dict b_dict (pa_cons (pv 6) pa_nil)) pa_nil))))
      (pss_cons (ps_for PassesOwn.never rfl (pi_range1 (by rfl) B.range (pa_cons (pv 1) pa_nil)) (pg_name (i := 8) sc_law.nd rfl (Or.inl rfl))
        (pss_one (ps_for PassesOwn.never rfl (pi_range1 (by rfl) B.range (pa_cons pe_int pa_nil)) (pg_name (i := 9) sc_law.nd rfl (Or.inl rfl))
          (pss_cons (ps_set (i := 10) sc_law.nd rfl (Or.inl rfl) (pe_has G_l_own hr (by decide) (by rfl) (pa_cons (pe_has G_l_cell_at hr (by decide) (by rfl) (pa_cons (pv 0) (pa_cons (pe_op (op_addK (K := K) rfl) (pe_op (op_addK (K := K) rfl) pe_int (pe_op op_mulA pe_int (pv 8))) (pv 9)) pa_nil))) pa_nil)))
          (pss_one (ps_if (pt_cmpR (op_eqK (K := K) rfl hu) (pe_op op_mod (pv 10) pe_int) pe_int (nomark _))
            (pss_cons (ps_set (i := 11) sc_law.nd rfl (Or.inl rfl) (pe_ix (ix_seqK (K := K) rfl) (pv 7) (pv 9) (fun _ _ => rfl)))
            (pss_one (ps_dput hu1 (pv 11) (pe_ix (ix_seqK (K := K) rfl) (pv 3) (pv 8) (fun _ _ => rfl)) (pe_has G_l_edited_row hr (by decide) (by rfl) (pa_cons (pe_dget hu1 (pv 11) (pe_ix (ix_seqK (K := K) rfl) (pv 3) (pv 8) (fun _ _ => rfl)) (fun _ _ => rfl)) (pa_cons (pe_op op_fdiv (pv 10) pe_int) (pa_cons (pv 2) pa_nil)))) rfl)))
            pss_nil))))))
      (pss_cons (ps_if (pt_not (pt_val (pe_has G_l_held hr (by decide) (by rfl) (pa_cons (pv 4) (pa_cons (pv 5) (pa_cons (pv 6) pa_nil))))))
        (pss_one (ps_ret pe_bl))
        pss_nil)
      (pss_one (ps_ret (pe_has G_l_held hr (by decide) (by rfl) (pa_cons (pv 4) (pa_cons (pe_ix (ix_seqK (K := K) rfl) (pv 7) pe_int (fun _ _ => rfl)) (pa_cons (pe_ix (ix_seqK (K := K) rfl) (pv 7) pe_int (fun _ _ => rfl)) pa_nil))))))))))))), fun x hp H R q => ?_⟩
    have hm := mod_bd (cellAt x 0 / 4) (m := 13) (by decide)
    refine s_seq (s_asg (x_mod (x_div (x_callD (x, 0) (a_cons (x_vh rfl) (a_cons x_ci a_nil)) trivial rfl) x_ci ⟨by decide, by decide⟩) x_ci (by decide)) ?_)
    obtain ⟨many, hmany⟩ : ∃ many : Nat, cellAt x 0 / 4 % 13 = (many : Int) := ⟨_, mod_nat _ (by decide)⟩
    have hm12 : many ≤ 12 := by omega
    refine s_seq (s_asg (EvX.is (x_intB (x_eq (x_mod (x_callD (x, 0) (a_cons (x_vh rfl) (a_cons x_ci a_nil)) trivial rfl) x_ci (by decide)) x_ci (depI _ _))) (congrArg (fun z => AV.dat (.int z)) (dI_if _))) ?_)
    rw [hmany]
    generalize decide (D.int (cellAt x 0 % 4) = D.int 1) = dp
    refine s_seq (s_asgNP (np_call (cellAt x 1) (a_cons (x_callD (x, 1) (a_cons (x_vh rfl) (a_cons x_ci a_nil)) trivial rfl) a_nil) trivial rfl) fun ds hds => ?_)
    obtain ⟨rs, rfl, hrl, hrn⟩ := hds
    refine s_seq (s_callThree ((x, 2), (many, rs), dp) (a_cons (x_vh rfl) (a_cons x_ci (a_cons (x_vd rfl) (a_cons (x_vo rfl) (a_cons (x_vd rfl) a_nil))))) ⟨hm12, by show many ≤ rs.length; omega⟩ rfl fun H1 e1 b o p hT => ?_)
    have hT : TrioN rs many 9 b o p := hT
    refine s_seq (s_pairD (x_hx (x_vh rfl)) (x_hx (x_vh rfl)) fun p1 p2 => ?_)
    refine s_seq (s_forR1 (n := (many : Int)) (x_vd rfl) (by omega) (fun i S' => ∃ (o2 p2' : Stand) (u v w z : SV), S' = [.hand (ScrHd K x), .dat (.int (many : Int)), .dat (.int (dI dp)), .own (rs.map D.str), .hand (DctHx (rowsD b)), .hand (DctHx (rowsD o)), .hand (DctHx (rowsD p)), .gen (PairR p1 p2 (rowsD o2) (rowsD p2')), u, v, w, z] ∧ FurN rs many i 0 b o2 p2') ⟨o, p, _, _, _, _, rfl, FurN.start hT⟩ ?_ ?_)
    · rintro H2 e2 i S' hi ⟨o2, p2', u, v, w, z, rfl, hF⟩
      have hi : i < many := by rw [Int.toNat_natCast] at hi; exact hi
      obtain ⟨r, hr0⟩ : ∃ r, rs[i]? = some r := ⟨rs[i]'(by omega), by simp⟩
      have hrD : (rs.map D.str)[i]? = some (.str r) := by rw [List.getElem?_map, hr0]; rfl
      refine s_forR1 (n := 2) x_ci (by decide) (fun j S' => ∃ (o2 p2' : Stand) (v w z : SV), S' = [.hand (ScrHd K x), .dat (.int (many : Int)), .dat (.int (dI dp)), .own (rs.map D.str), .hand (DctHx (rowsD b)), .hand (DctHx (rowsD o)), .hand (DctHx (rowsD p)), .gen (PairR p1 p2 (rowsD o2) (rowsD p2')), .dat (.int (i : Int)), v, w, z] ∧ FurN rs many i j b o2 p2') ⟨o2, p2', _, _, _, rfl, hF⟩ ?_ ?_
      · rintro H3 e3 j S' hj ⟨o3, p3, v2, w2, z2, rfl, hG⟩
        have hj : j < 2 := hj
        obtain ⟨jb, hjb⟩ : ∃ jb : Bool, (j : Int) = dI jb := by
          match j, hj with
          | 0, _ => exact ⟨false, rfl⟩
          | 1, _ => exact ⟨true, rfl⟩
        refine s_seq (s_asg (x_callD (cellAt x (38 + 2 * i + j)) (a_cons (x_callD (x, 38 + 2 * i + j) (a_cons (x_vh rfl) (a_cons (EvX.is (x_addI (x_addI x_ci (x_mulI x_ci (x_vd rfl) (.inl ⟨by decide, by decide⟩))) (x_vd rfl)) (by simp only [Int.natCast_add, Int.natCast_mul]; rfl)) a_nil)) trivial rfl) a_nil) trivial rfl) ?_)
        generalize ownF (cellAt x (38 + 2 * i + j)) = c
        refine s_if (t_cmp (x_eq (x_mod (x_vd rfl) x_ci (by decide)) x_ci (depI _ _))) (fun _ => ?_) (fun _ => s_next ⟨_, _, _, _, _, rfl, hG.skip⟩)
        rw [hjb]
        refine s_seq (s_asgV (x_pairIx (b := jb) rfl (x_vd rfl)) ?_)
        have hol := hG.t.len_o
        have hrb := hG.t.hit i r hi hr0
        have hro : r ∈ keys o3 := by rw [hG.t.ko]; exact hrb
        have hrp : r ∈ keys p3 := by rw [hG.t.kp]; exact hrb
        have hz1 : (rowsD o3).length < sizeLine := by rw [rowsD_len]; exact sizeD (by omega)
        have hz2 : (rowsD p3).length < sizeLine := by rw [rowsD_len]; exact sizeD (by omega)
        cases jb with
        | false =>
          have hj0 : j = 0 := by have : (j : Int) = 0 := hjb; omega
          subst hj0
          refine s_pairPut (b := false) (k := r) (P := RowP 19) (i := 7) rfl rfl (x_ixL (x_vo rfl) (x_vd rfl) rfl hrD) (p_callP (rowOf o3 r, c / 3, dp, 9, 19) (a_cons (x_dget (x_pairV (b := false) (i := 7) rfl rfl) (x_ixL (x_vo rfl) (x_vd rfl) rfl hrD) (rowsD_look hro)) (a_cons (x_div (x_vd rfl) x_ci ⟨by decide, by decide⟩) (a_cons (x_vd rfl) a_nil))) ⟨hG.no i r hr0 (.inr ⟨rfl, rfl⟩), b919⟩ rfl) hz1 hz2 fun d hd => ?_
          obtain ⟨y, rfl, hy⟩ := hd
          exact ⟨putR o3 r y, p3, _, _, _, by rw [← putS_rowsD]; rfl, hG.put0 hrn hr0 hi hy⟩
        | true =>
          have hj1 : j = 1 := by have : (j : Int) = 1 := hjb; omega
          subst hj1
          refine s_pairPut (b := true) (k := r) (P := RowP 19) (i := 7) rfl rfl (x_ixL (x_vo rfl) (x_vd rfl) rfl hrD) (p_callP (rowOf p3 r, c / 3, dp, 9, 19) (a_cons (x_dget (x_pairV (b := true) (i := 7) rfl rfl) (x_ixL (x_vo rfl) (x_vd rfl) rfl hrD) (rowsD_look hrp)) (a_cons (x_div (x_vd rfl) x_ci ⟨by decide, by decide⟩) (a_cons (x_vd rfl) a_nil))) ⟨hG.np i r hr0 (.inr ⟨rfl, Nat.le_refl _⟩), b919⟩ rfl) hz1 hz2 fun d hd => ?_
          obtain ⟨y, rfl, hy⟩ := hd
          exact ⟨o3, putR p3 r y, _, _, _, by rw [← putS_rowsD]; rfl, hG.put1 hrn hr0 hi hy⟩
      · rintro H3 e3 S' ⟨o3, p3, v2, w2, z2, rfl, hG⟩
        exact ⟨o3, p3, _, _, _, _, rfl, hG.next⟩
    · rintro H2 e2 S' ⟨o2, p2', u, v, w, z, rfl, hF⟩
      refine s_seq (s_if (b := false) (t_is (t_not (t_val (x_callV (Trio.mk b o p) (a_cons (x_vh rfl) (a_cons (x_vh rfl) (a_cons (x_vh rfl) a_nil))) (hT.ok hm12) rfl))) rfl) (fun z => nomatch z) fun _ => s_next ?_)
      exact r_V (q.upV (e1.trans e2)) (x_callV (Trio.mk b o2 p2') (a_cons (x_vh rfl) (a_cons (x_pairHx (b := false) rfl x_ci) (a_cons (x_pairHx (b := true) rfl x_ci) a_nil))) (hF.t.ok hm12) rfl)
end Mw
-- part MwY
set_option maxHeartbeats 0
/-! The head: the top's run, by the kernel; what it leaves.-/
namespace Mw
open PySem PySem.Spec PyProof.Rows L2
def d_NoFit_init : He.DefD := ⟨("NoFit", some "__init__"), "__init__", "NoFit.__init__", defArgs (inClass (topS 2) 0), defBody (inClass (topS 2) 0), defScope (inClass (topS 2) 0), [], []⟩
def d_Touch_init : He.DefD := ⟨("Touch", some "__init__"), "__init__", "Touch.__init__", defArgs (inClass (topS 3) 0), defBody (inClass (topS 3) 0), defScope (inClass (topS 3) 0), [], []⟩
def d_written_text : He.DefD := ⟨("written_text", none), "written_text", "written_text", defArgs (topS 5), defBody (topS 5), defScope (topS 5), [], []⟩
def d_written_clash : He.DefD := ⟨("written_clash", none), "written_clash", "written_clash", defArgs (topS 6), defBody (topS 6), defScope (topS 6), [], []⟩
def d_written_where : He.DefD := ⟨("written_where", none), "written_where", "written_where", defArgs (topS 7), defBody (topS 7), defScope (topS 7), [], []⟩
def d_written_item : He.DefD := ⟨("written_item", none), "written_item", "written_item", defArgs (topS 8), defBody (topS 8), defScope (topS 8), [], []⟩
def d_written_items : He.DefD := ⟨("written_items", none), "written_items", "written_items", defArgs (topS 9), defBody (topS 9), defScope (topS 9), [], []⟩
def d_cut_end : He.DefD := ⟨("cut_end", none), "cut_end", "cut_end", defArgs (topS 11), defBody (topS 11), defScope (topS 11), [], []⟩
def d_laid_cuts : He.DefD := ⟨("laid_cuts", none), "laid_cuts", "laid_cuts", defArgs (topS 12), defBody (topS 12), defScope (topS 12), [], []⟩
def d_grown : He.DefD := ⟨("grown", none), "grown", "grown", defArgs (topS 13), defBody (topS 13), defScope (topS 13), [], []⟩
def d_cuts_touch : He.DefD := ⟨("cuts_touch", none), "cuts_touch", "cuts_touch", defArgs (topS 14), defBody (topS 14), defScope (topS 14), [], []⟩
def d_check_apart : He.DefD := ⟨("check_apart", none), "check_apart", "check_apart", defArgs (topS 15), defBody (topS 15), defScope (topS 15), [], []⟩
def d_shifted : He.DefD := ⟨("shifted", none), "shifted", "shifted", defArgs (topS 16), defBody (topS 16), defScope (topS 16), [], []⟩
def d_past_cuts : He.DefD := ⟨("past_cuts", none), "past_cuts", "past_cuts", defArgs (topS 17), defBody (topS 17), defScope (topS 17), [], []⟩
def d_lengths_of : He.DefD := ⟨("lengths_of", none), "lengths_of", "lengths_of", defArgs (topS 19), defBody (topS 19), defScope (topS 19), [], []⟩
def d_next_pair : He.DefD := ⟨("next_pair", none), "next_pair", "next_pair", defArgs (topS 20), defBody (topS 20), defScope (topS 20), [], []⟩
def d_pairs_of : He.DefD := ⟨("pairs_of", none), "pairs_of", "pairs_of", defArgs (topS 21), defBody (topS 21), defScope (topS 21), [], []⟩
def d_change_of : He.DefD := ⟨("change_of", none), "change_of", "change_of", defArgs (topS 22), defBody (topS 22), defScope (topS 22), [], []⟩
def d_row_of : He.DefD := ⟨("row_of", none), "row_of", "row_of", defArgs (topS 24), defBody (topS 24), defScope (topS 24), [], []⟩
def d_with_row : He.DefD := ⟨("with_row", none), "with_row", "with_row", defArgs (topS 25), defBody (topS 25), defScope (topS 25), [], []⟩
def d_root_of : He.DefD := ⟨("root_of", none), "root_of", "root_of", defArgs (topS 26), defBody (topS 26), defScope (topS 26), [], []⟩
def d_Run_init : He.DefD := ⟨("Run", some "__init__"), "__init__", "Run.__init__", defArgs (inClass (topS 28) 0), defBody (inClass (topS 28) 0), defScope (inClass (topS 28) 0), [], []⟩
def d_Run_take : He.DefD := ⟨("Run", some "take"), "take", "Run.take", defArgs (inClass (topS 28) 1), defBody (inClass (topS 28) 1), defScope (inClass (topS 28) 1), [], []⟩
def d_Run_become : He.DefD := ⟨("Run", some "become"), "become", "Run.become", defArgs (inClass (topS 28) 2), defBody (inClass (topS 28) 2), defScope (inClass (topS 28) 2), [], []⟩
def d_Run_outcome : He.DefD := ⟨("Run", some "outcome"), "outcome", "Run.outcome", defArgs (inClass (topS 28) 3), defBody (inClass (topS 28) 3), defScope (inClass (topS 28) 3), [], []⟩
def d_items_clash : He.DefD := ⟨("items_clash", none), "items_clash", "items_clash", defArgs (topS 29), defBody (topS 29), defScope (topS 29), [], []⟩
def d_where_clash : He.DefD := ⟨("where_clash", none), "where_clash", "where_clash", defArgs (topS 30), defBody (topS 30), defScope (topS 30), [], []⟩
def d_joint_runs : He.DefD := ⟨("joint_runs", none), "joint_runs", "joint_runs", defArgs (topS 31), defBody (topS 31), defScope (topS 31), [], []⟩
def d_joined_items : He.DefD := ⟨("joined_items", none), "joined_items", "joined_items", defArgs (topS 32), defBody (topS 32), defScope (topS 32), [], []⟩
def d_joined_where : He.DefD := ⟨("joined_where", none), "joined_where", "joined_where", defArgs (topS 33), defBody (topS 33), defScope (topS 33), [], []⟩
def d_joined_row : He.DefD := ⟨("joined_row", none), "joined_row", "joined_row", defArgs (topS 34), defBody (topS 34), defScope (topS 34), [], []⟩
def d_joined_stand : He.DefD := ⟨("joined_stand", none), "joined_stand", "joined_stand", defArgs (topS 35), defBody (topS 35), defScope (topS 35), [], []⟩
def d_stand_change : He.DefD := ⟨("stand_change", none), "stand_change", "stand_change", defArgs (topS 37), defBody (topS 37), defScope (topS 37), [], []⟩
def d_laid_at : He.DefD := ⟨("laid_at", none), "laid_at", "laid_at", defArgs (topS 38), defBody (topS 38), defScope (topS 38), [], []⟩
def d_laid_change : He.DefD := ⟨("laid_change", none), "laid_change", "laid_change", defArgs (topS 39), defBody (topS 39), defScope (topS 39), [], []⟩
def d_by_roots : He.DefD := ⟨("by_roots", none), "by_roots", "by_roots", defArgs (topS 40), defBody (topS 40), defScope (topS 40), [], []⟩
def d_past_deeds : He.DefD := ⟨("past_deeds", none), "past_deeds", "past_deeds", defArgs (topS 41), defBody (topS 41), defScope (topS 41), [], []⟩
def d_past_changes : He.DefD := ⟨("past_changes", none), "past_changes", "past_changes", defArgs (topS 42), defBody (topS 42), defScope (topS 42), [], []⟩
def d_law_cell_at : He.DefD := ⟨("_law_cell_at", none), "_law_cell_at", "_law_cell_at", defArgs (topS 44), defBody (topS 44), defScope (topS 44), [], []⟩
def d_law_own : He.DefD := ⟨("_law_own", none), "_law_own", "_law_own", defArgs (topS 45), defBody (topS 45), defScope (topS 45), [], []⟩
def d_law_text : He.DefD := ⟨("_law_text", none), "_law_text", "_law_text", defArgs (topS 46), defBody (topS 46), defScope (topS 46), [], []⟩
def d_law_clash : He.DefD := ⟨("_law_clash", none), "_law_clash", "_law_clash", defArgs (topS 47), defBody (topS 47), defScope (topS 47), [], []⟩
def d_law_line : He.DefD := ⟨("_law_line", none), "_law_line", "_law_line", defArgs (topS 48), defBody (topS 48), defScope (topS 48), [], []⟩
def d_law_item : He.DefD := ⟨("_law_item", none), "_law_item", "_law_item", defArgs (topS 49), defBody (topS 49), defScope (topS 49), [], []⟩
def d_law_items : He.DefD := ⟨("_law_items", none), "_law_items", "_law_items", defArgs (topS 50), defBody (topS 50), defScope (topS 50), [], []⟩
def d_law_edited : He.DefD := ⟨("_law_edited", none), "_law_edited", "_law_edited", defArgs (topS 51), defBody (topS 51), defScope (topS 51), [], []⟩
def d_law_pairs : He.DefD := ⟨("_law_pairs", none), "_law_pairs", "_law_pairs", defArgs (topS 52), defBody (topS 52), defScope (topS 52), [], []⟩
def d_law_cuts : He.DefD := ⟨("_law_cuts", none), "_law_cuts", "_law_cuts", defArgs (topS 53), defBody (topS 53), defScope (topS 53), [], []⟩
def d_law_become : He.DefD := ⟨("_law_become", none), "_law_become", "_law_become", defArgs (topS 54), defBody (topS 54), defScope (topS 54), [], []⟩
def d_law_joined : He.DefD := ⟨("_law_joined", none), "_law_joined", "_law_joined", defArgs (topS 55), defBody (topS 55), defScope (topS 55), [], []⟩
def d_law_path : He.DefD := ⟨("_law_path", none), "_law_path", "_law_path", defArgs (topS 56), defBody (topS 56), defScope (topS 56), [], []⟩
def d_law_where_text : He.DefD := ⟨("_law_where_text", none), "_law_where_text", "_law_where_text", defArgs (topS 57), defBody (topS 57), defScope (topS 57), [], []⟩
def d_law_where_clash : He.DefD := ⟨("_law_where_clash", none), "_law_where_clash", "_law_where_clash", defArgs (topS 58), defBody (topS 58), defScope (topS 58), [], []⟩
def d_law_where : He.DefD := ⟨("_law_where", none), "_law_where", "_law_where", defArgs (topS 59), defBody (topS 59), defScope (topS 59), [], []⟩
def d_law_row : He.DefD := ⟨("_law_row", none), "_law_row", "_law_row", defArgs (topS 60), defBody (topS 60), defScope (topS 60), [], []⟩
def d_law_edited_row : He.DefD := ⟨("_law_edited_row", none), "_law_edited_row", "_law_edited_row", defArgs (topS 61), defBody (topS 61), defScope (topS 61), [], []⟩
def d_law_joined_row : He.DefD := ⟨("_law_joined_row", none), "_law_joined_row", "_law_joined_row", defArgs (topS 62), defBody (topS 62), defScope (topS 62), [], []⟩
def d_law_roots : He.DefD := ⟨("_law_roots", none), "_law_roots", "_law_roots", defArgs (topS 63), defBody (topS 63), defScope (topS 63), [], []⟩
def d_law_stand : He.DefD := ⟨("_law_stand", none), "_law_stand", "_law_stand", defArgs (topS 64), defBody (topS 64), defScope (topS 64), [], []⟩
def d_law_three : He.DefD := ⟨("_law_three", none), "_law_three", "_law_three", defArgs (topS 65), defBody (topS 65), defScope (topS 65), [], []⟩
def d_law_touch : He.DefD := ⟨("_law_touch", none), "_law_touch", "_law_touch", defArgs (topS 66), defBody (topS 66), defScope (topS 66), [], []⟩
def d_law_many_clashes : He.DefD := ⟨("_law_many_clashes", none), "_law_many_clashes", "_law_many_clashes", defArgs (topS 67), defBody (topS 67), defScope (topS 67), [], []⟩
def d_law_refused : He.DefD := ⟨("_law_refused", none), "_law_refused", "_law_refused", defArgs (topS 68), defBody (topS 68), defScope (topS 68), [], []⟩
def d_law_at_roots : He.DefD := ⟨("_law_at_roots", none), "_law_at_roots", "_law_at_roots", defArgs (topS 69), defBody (topS 69), defScope (topS 69), [], []⟩
def d_law_as_walked : He.DefD := ⟨("_law_as_walked", none), "_law_as_walked", "_law_as_walked", defArgs (topS 70), defBody (topS 70), defScope (topS 70), [], []⟩
def d_law_held : He.DefD := ⟨("_law_held", none), "_law_held", "_law_held", defArgs (topS 71), defBody (topS 71), defScope (topS 71), [], []⟩
def d_law : He.DefD := ⟨("law", none), "law", "law", defArgs (topS 72), defBody (topS 72), defScope (topS 72), [], []⟩
def fnL : List He.DefD := [d_NoFit_init, d_Touch_init, d_written_text, d_written_clash, d_written_where, d_written_item, d_written_items, d_cut_end, d_laid_cuts, d_grown, d_cuts_touch, d_check_apart, d_shifted, d_past_cuts, d_lengths_of, d_next_pair, d_pairs_of, d_change_of, d_row_of, d_with_row, d_root_of, d_Run_init, d_Run_take, d_Run_become, d_Run_outcome, d_items_clash, d_where_clash, d_joint_runs, d_joined_items, d_joined_where, d_joined_row, d_joined_stand, d_stand_change, d_laid_at, d_laid_change] ++ [d_by_roots, d_past_deeds, d_past_changes, d_law_cell_at, d_law_own, d_law_text, d_law_clash, d_law_line, d_law_item, d_law_items, d_law_edited, d_law_pairs, d_law_cuts, d_law_become, d_law_joined, d_law_path, d_law_where_text, d_law_where_clash, d_law_where, d_law_row, d_law_edited_row, d_law_joined_row, d_law_roots, d_law_stand, d_law_three, d_law_touch, d_law_many_clashes, d_law_refused, d_law_at_roots, d_law_as_walked, d_law_held, d_law]
def faL : List He.Fa := [.glo "written_text", .glo "written_clash", .glo "written_where", .glo "written_item", .glo "written_items", .glo "cut_end", .glo "laid_cuts", .glo "grown", .glo "cuts_touch", .glo "check_apart", .glo "shifted", .glo "past_cuts", .glo "lengths_of", .glo "next_pair", .glo "pairs_of", .glo "change_of", .glo "row_of", .glo "with_row", .glo "root_of", .glo "items_clash", .glo "where_clash", .glo "joint_runs", .glo "joined_items", .glo "joined_where", .glo "joined_row", .glo "joined_stand", .glo "stand_change", .glo "laid_at", .glo "laid_change", .glo "by_roots", .glo "past_deeds", .glo "past_changes", .glo "_law_cell_at", .glo "_law_own", .glo "_law_text"] ++ [.glo "_law_clash", .glo "_law_line", .glo "_law_item", .glo "_law_items", .glo "_law_edited", .glo "_law_pairs", .glo "_law_cuts", .glo "_law_become", .glo "_law_joined", .glo "_law_path", .glo "_law_where_text", .glo "_law_where_clash", .glo "_law_where", .glo "_law_row", .glo "_law_edited_row", .glo "_law_joined_row", .glo "_law_roots", .glo "_law_stand", .glo "_law_three", .glo "_law_touch", .glo "_law_many_clashes", .glo "_law_refused", .glo "_law_at_roots", .glo "_law_as_walked", .glo "_law_held", .glo "law", .glo "WoodError", .glo "Touch", .free "len", .free "str", .free "isinstance", .free "range", .free "reversed", .free "max", .free "sum", .free "sorted", .free "enumerate", .free "tuple", .free "set", .free "dict", .free "int", .cls "Run", .noat "Run" "beginning", .noat "Run" "end", .noat "Run" "sides", .meth "Run" "take", .meth "Run" "become", .meth "Run" "outcome", .mkr "Run", .glo "Run", .exm "Touch" "Touch" true, .noat "Touch" "one", .noat "Touch" "other"]
/-- Touch's class, as a Bool -/
def oexB (K : PySem.W.Frag) (C : Addr) : Bool := match K.lookup C with
  | some ⟨.type "type", _, .cls cd, sl⟩ => (match cd.mro, sl.toList with
    | .ref C2 :: bm, [_, _, _, _, some (.builtin n), _] => decide (C2 = C) && (n == "ValueError.__new__" && (!cd.hasDel && (cd.hasDict && PySem.HandSPX.refsVE bm)))
    | _, _ => false)
  | _ => false
theorem oexB_ok {K : PySem.W.Frag} {C : Addr} (q : oexB K C = true) : ∃ nm qn N bs bm sn sub ab col dd k0 k1 k2 k3 k5, K.lookup C = some (excClassObj nm qn C N bs bm true sn sub ab col dd k0 k1 k2 k3 k5 "ValueError.__new__") ∧ PySem.HandSPX.refsVE bm = true := by
  unfold oexB at q
  split at q
  · rename_i dd cd sl ho
    split at q
    · rename_i C2 bm k0 k1 k2 k3 n k5 hm hs
      obtain ⟨q1, q⟩ := He.ba q
      obtain ⟨q2, q⟩ := He.ba q
      obtain ⟨q3, q⟩ := He.ba q
      obtain ⟨q4, q5⟩ := He.ba q
      have r1 := of_decide_eq_true q1
      have r2 : n = "ValueError.__new__" := by simpa using q2
      have r3 : cd.hasDel = false := by simpa using q3
      clear q1 q2 q3
      subst r1 r2
      obtain ⟨nm, bs, mro, ns, qn, hd, sn, sub, ab, col, del⟩ := cd
      dsimp only at hm r3 q4
      subst hm r3 q4
      have hsl : sl = #[k0, k1, k2, k3, some (.builtin "ValueError.__new__"), k5] := by
        obtain ⟨l⟩ := sl
        exact congrArg Array.mk hs
      subst hsl
      exact ⟨nm, qn, ns, bs, bm, sn, sub, ab, col, dd, k0, k1, k2, k3, k5, ho, q5⟩
    · cases q
  · cases q
/-- WoodError's __init__, read from the class -/
def veB (K : PySem.W.Frag) (C : Addr) : Bool := PySem.W.readsIn K C (.type "type") && (decide (PySem.W.specialIn K (.ref C) "__getattribute__" = some (some (.builtin "type.__getattribute__"))) && (match PySem.W.findCls K (.ref C) (.type "type") "__init__" with
  | some (.val (.builtin n)) => n == "ValueError.__init__"
  | _ => false))
theorem veB_ok {K : PySem.W.Frag} {C : Addr} (h : veB K C = true) : ClsVe K C (.type "type") := by
  obtain ⟨h1, h⟩ := He.ba h
  obtain ⟨h2, h3⟩ := He.ba h
  refine ⟨⟨h1, of_decide_eq_true h2⟩, ?_⟩
  split at h3
  · rename_i n e
    have : n = "ValueError.__init__" := by simpa using h3
    rw [e, this]
  · cases h3
def tchB (K : PySem.W.Frag) (C : Addr) : Bool := oexB K C && (decide (PySem.W.findIn K (.ref C) "__setattr__" = some (some (.builtin "object.__setattr__"))) && (decide (PySem.W.typeIn K (.ref C) = some (.type "type")) && (PySem.W.keepIn K (.ref C) && (xfB K C && (decide (PySem.W.findIn K (.ref C) "__init__" = some (some (.ref (He.ma K C "__init__")))) && decide (PySem.W.typeIn K (.ref (He.ma K C "__init__")) = some (.type "function")))))))
theorem tchB_ok {K : PySem.W.Frag} {C : Addr} (h : tchB K C = true) : OexC K C ∧ XfC K C ∧ PySem.W.findIn K (.ref C) "__init__" = some (some (.ref (He.ma K C "__init__"))) ∧ PySem.W.typeIn K (.ref (He.ma K C "__init__")) = some (.type "function") := by
  obtain ⟨h1, h⟩ := He.ba h
  obtain ⟨h2, h⟩ := He.ba h
  obtain ⟨h3, h⟩ := He.ba h
  obtain ⟨h4, h⟩ := He.ba h
  obtain ⟨h5, h⟩ := He.ba h
  obtain ⟨h6, h7⟩ := He.ba h
  have x := xfB_ok h5
  exact ⟨⟨oexB_ok h1, of_decide_eq_true h2, x.exC, of_decide_eq_true h3, h4⟩, x, of_decide_eq_true h6, of_decide_eq_true h7⟩
def exB (K : PySem.W.Frag) : Bool := tchB K (He.ga K "Touch") && veB K (He.ga K "WoodError")
def obsM (K : PySem.W.Frag) : He.AlD × Bool := (He.obsD faL fnL K, exB K)
def valM : He.AlD × Bool := (He.valD fnL, true)
def asM (g : Addr → Option Obj) : List Addr := He.asD g 5 ++ [cStatics]
def hkM : PySem.W.Hook where
  α := He.AlD × Bool
  obs := fun s => obsM (He.frG s.heap.get? (asM s.heap.get?))
  val := fun _ => valM
  says := fun _ h => ∃ K : PySem.W.Frag, K.In h ∧ obsM K = valM
  of := fun _ _ e => ⟨_, He.frG_in, e⟩
  keeps := fun _ _ _ ⟨K, hK, c⟩ k => ⟨K, PySem.W.Frag.In.keeps hK k, c⟩
def obM (s : PySem.W.SharedT) : He.AlD × Bool := obsM (He.frG (HandSHeadRun.getT s) (asM (HandSHeadRun.getT s)))
theorem obM_eq (s : PySem.W.SharedT) : obM s = hkM.obs s.abs := by
  have e : HandSHeadRun.getT s = s.abs.heap.get? := funext (HandSHeadRun.getT_eq s)
  unfold obM
  rw [e] <;> rfl
def nmL1 : List String := ["WoodError", "NoFit", "Touch", "written_text", "written_clash", "written_where", "written_item", "written_items", "cut_end", "laid_cuts", "grown", "cuts_touch", "check_apart", "shifted", "past_cuts", "lengths_of", "next_pair", "pairs_of", "change_of", "row_of", "with_row", "root_of", "Run", "items_clash", "where_clash", "joint_runs", "joined_items", "joined_where", "joined_row", "joined_stand", "stand_change", "laid_at", "laid_change", "by_roots", "past_deeds"]
def nmL2 : List String := ["past_changes", "_law_cell_at", "_law_own", "_law_text", "_law_clash", "_law_line", "_law_item", "_law_items", "_law_edited", "_law_pairs", "_law_cuts", "_law_become", "_law_joined", "_law_path", "_law_where_text", "_law_where_clash", "_law_where", "_law_row", "_law_edited_row", "_law_joined_row", "_law_roots", "_law_stand", "_law_three", "_law_touch", "_law_many_clashes", "_law_refused", "_law_at_roots", "_law_as_walked", "_law_held"]
def nmL : List PySem.Str := (nmL1 ++ nmL2).map PySem.Str.ofString
theorem runM (w : World) : HandSHeadRun.RunEq (PySem.W.OpenLaw.row PySem.Challenge.rw_makeswood_k93_whole_joins_against_past) (PySem.W.view (PySem.W.OpenLaw.row PySem.Challenge.rw_makeswood_k93_whole_joins_against_past).prog [72]) hkM obM 4000 nmL w := by
  intro os
  kernel_rfl
end Mw
-- part MwZ
set_option maxHeartbeats 0
/-! All promises joined; the end.-/
namespace Mw
open PySem PySem.Spec PyProof.Rows L2
theorem obsM_d {K : PySem.W.Frag} (c : obsM K = valM) : He.SaysD faL fnL K := congrArg Prod.fst c
theorem defAt_i {K : PySem.W.Frag} {h : Heap} {mg : Str → Option Value} (X : K.In h) (G : h.Ns mainGlobals mg) (c : He.SaysD faL fnL K) {x : Str} {st : Stmt} (i j : Nat) (hd : fnL[i]? = some ⟨(x, none), x, x, defArgs st, defBody st, defScope st, [], []⟩) (hf : faL[j]? = some (.glo x)) : DefAt K mg x st := by
  obtain ⟨fd, F⟩ := c.def_ i hd
  exact ⟨_, fd, He.glo_ok X G (c.fact j hf), F⟩
theorem methAt_i {K : PySem.W.Frag} (c : He.SaysD faL fnL K) {m q : Str} {st : Stmt} (i j : Nat) (hd : fnL[i]? = some ⟨("Run", some m), m, q, defArgs st, defBody st, defScope st, [], []⟩) (hf : faL[j]? = some (.meth "Run" m)) : MethAt K (He.ga K "Run") m q st := by
  obtain ⟨fd, F⟩ := c.def_ i hd
  exact ⟨_, fd, He.meth_ok (c.fact j hf), F⟩
theorem gs_i {K : PySem.W.Frag} {h : Heap} {mg : Str → Option Value} (X : K.In h) (G : h.Ns mainGlobals mg) (c : He.SaysD faL fnL K) : Gs mg where
  len := He.free_ok X G (c.fact 63 (f := .free "len") rfl)
  str := He.free_ok X G (c.fact 64 (f := .free "str") rfl)
  isin := He.free_ok X G (c.fact 65 (f := .free "isinstance") rfl)
  range := He.free_ok X G (c.fact 66 (f := .free "range") rfl)
  rev := He.free_ok X G (c.fact 67 (f := .free "reversed") rfl)
  max := He.free_ok X G (c.fact 68 (f := .free "max") rfl)
  sum := He.free_ok X G (c.fact 69 (f := .free "sum") rfl)
  sorted := He.free_ok X G (c.fact 70 (f := .free "sorted") rfl)
  enum := He.free_ok X G (c.fact 71 (f := .free "enumerate") rfl)
  tuple := He.free_ok X G (c.fact 72 (f := .free "tuple") rfl)
  set := He.free_ok X G (c.fact 73 (f := .free "set") rfl)
  dict := He.free_ok X G (c.fact 74 (f := .free "dict") rfl)
  int := He.free_ok X G (c.fact 75 (f := .free "int") rfl)
theorem runC_i {K : PySem.W.Frag} (c : He.SaysD faL fnL K) : RunC K (He.ga K "Run") :=
  ⟨He.cls_ok (c.fact 76 (f := .cls "Run") rfl), He.noat_ok (c.fact 77 (f := .noat "Run" "beginning") rfl), He.noat_ok (c.fact 78 (f := .noat "Run" "end") rfl), He.noat_ok (c.fact 79 (f := .noat "Run" "sides") rfl)⟩
theorem initAt_i {K : PySem.W.Frag} {h : Heap} {mg : Str → Option Value} (X : K.In h) (G : h.Ns mainGlobals mg) (c : He.SaysD faL fnL K) : InitAt K mg (He.ga K "Run") "Run" "Run.__init__" st_Run_init := by
  obtain ⟨fd, F⟩ := c.def_ 21 (d := d_Run_init) rfl
  exact ⟨He.glo_ok X G (c.fact 84 (f := .glo "Run") rfl), _, fd, He.mkr_ok (c.fact 83 (f := .mkr "Run") rfl), F⟩
theorem tch_i {K : PySem.W.Frag} {h : Heap} {mg : Str → Option Value} (X : K.In h) (G : h.Ns mainGlobals mg) (c : obsM K = valM) : Tch K mg (He.ga K "Touch") st_Touch_init := by
  have c1 := obsM_d c
  obtain ⟨e1, e2⟩ := He.ba (show exB K = true from congrArg Prod.snd c)
  obtain ⟨t1, t2, t3, t4⟩ := tchB_ok e1
  obtain ⟨fd, F⟩ := c1.def_ 1 (d := d_Touch_init) rfl
  exact ⟨He.glo_ok X G (c1.fact 62 (f := .glo "Touch") rfl), ⟨_, fd, t3, t4, F⟩, t1, t2, He.noat_ok (c1.fact 86 (f := .noat "Touch" "one") rfl), He.noat_ok (c1.fact 87 (f := .noat "Touch" "other") rfl), ⟨_, _, He.glo_ok X G (c1.fact 61 (f := .glo "WoodError") rfl), veB_ok e2⟩, He.exm_ok (c1.fact 85 (f := .exm "Touch" "Touch" true) rfl)⟩
theorem law_ok {P : Program} {w : World} {K : PySem.W.Frag} {h : Heap} {mg : Str → Option Value} {base : Heap} {f : Addr} {fd : FuncData} (X : K.In h) (G : h.Ns mainGlobals mg) (c : obsM K = valM) (F : FunD K "law" "law" (defArgs st_law) (defBody st_law) (defScope st_law) [] [] f fd) : FnOk P w K mg base CX0 13 f fd ["_law_script"] (sp_law K) := by
  have c1 := obsM_d c
  have B := gs_i X G c1
  have RC := runC_i c1
  have T := tch_i X G c
  have G_cut_end : H_cut_end P w K mg base := has_cut_end (B := B) (F := defAt_i X G c1 (st := st_cut_end) 7 5 rfl rfl)
  have G_grown : H_grown P w K mg base := has_grown (B := B) (F := defAt_i X G c1 (st := st_grown) 9 7 rfl rfl)
  have G_cuts_touch : H_cuts_touch P w K mg base := has_cuts_touch (B := B) (F := defAt_i X G c1 (st := st_cuts_touch) 10 8 rfl rfl) (G_cut_end := G_cut_end)
  have G_laid_cuts : H_laid_cuts P w K mg base := has_laid_cuts (B := B) (F := defAt_i X G c1 (st := st_laid_cuts) 8 6 rfl rfl) (G_cut_end := G_cut_end)
  have G_shifted : H_shifted P w K mg base := has_shifted (B := B) (F := defAt_i X G c1 (st := st_shifted) 12 10 rfl rfl) (G_grown := G_grown)
  have G_lengths_of : H_lengths_of P w K mg base := has_lengths_of (B := B) (F := defAt_i X G c1 (st := st_lengths_of) 14 12 rfl rfl)
  have G_next_pair : H_next_pair P w K mg base := has_next_pair (B := B) (F := defAt_i X G c1 (st := st_next_pair) 15 13 rfl rfl)
  have G_pairs_of : H_pairs_of P w K mg base := has_pairs_of (B := B) (F := defAt_i X G c1 (st := st_pairs_of) 16 14 rfl rfl) (G_lengths_of := G_lengths_of) (G_next_pair := G_next_pair)
  have G_change_of : H_change_of P w K mg base := has_change_of (B := B) (F := defAt_i X G c1 (st := st_change_of) 17 15 rfl rfl) (G_pairs_of := G_pairs_of)
  have G_l_pairs : H_l_pairs P w K mg base := has_l_pairs (B := B) (F := defAt_i X G c1 (st := st_l_pairs) 46 40 rfl rfl)
  have G_l_cuts : H_l_cuts P w K mg base := has_l_cuts (B := B) (F := defAt_i X G c1 (st := st_l_cuts) 47 41 rfl rfl) (G_l_pairs := G_l_pairs)
  have G_l_become : H_l_become P w K mg base := has_l_become (B := B) (F := defAt_i X G c1 (st := st_l_become) 48 42 rfl rfl)
  have G_written_text : H_written_text P w K mg base := has_written_text (B := B) (F := defAt_i X G c1 (st := st_written_text) 2 0 rfl rfl)
  have G_written_clash : H_written_clash P w K mg base := has_written_clash (B := B) (F := defAt_i X G c1 (st := st_written_clash) 3 1 rfl rfl)
  have G_written_where0 : H_written_where0 P w K mg base := has_written_where0 (B := B) (F := defAt_i X G c1 (st := st_written_where0) 4 2 rfl rfl) (G_written_text := G_written_text)
  have G_written_where : H_written_where P w K mg base := has_written_where (B := B) (F := defAt_i X G c1 (st := st_written_where) 4 2 rfl rfl) (G_written_clash := G_written_clash) (G_written_text := G_written_text) (G_written_where0 := G_written_where0)
  have G_written_item0 : H_written_item0 P w K mg base := has_written_item0 (B := B) (F := defAt_i X G c1 (st := st_written_item0) 5 3 rfl rfl) (G_written_text := G_written_text)
  have G_written_items0 : H_written_items0 P w K mg base := has_written_items0 (B := B) (F := defAt_i X G c1 (st := st_written_items0) 6 4 rfl rfl) (G_written_item0 := G_written_item0)
  have G_written_item : H_written_item P w K mg base := has_written_item (B := B) (F := defAt_i X G c1 (st := st_written_item) 5 3 rfl rfl) (G_written_clash := G_written_clash) (G_written_items0 := G_written_items0) (G_written_text := G_written_text)
  have G_written_items : H_written_items P w K mg base := has_written_items (B := B) (F := defAt_i X G c1 (st := st_written_items) 6 4 rfl rfl) (G_written_item := G_written_item)
  have G_items_clash : H_items_clash P w K mg base := has_items_clash (B := B) (F := defAt_i X G c1 (st := st_items_clash) 25 19 rfl rfl) (G_written_items := G_written_items)
  have G_where_clash : H_where_clash P w K mg base := has_where_clash (B := B) (F := defAt_i X G c1 (st := st_where_clash) 26 20 rfl rfl) (G_written_where := G_written_where)
  have G_joined_where : H_joined_where P w K mg base := has_joined_where (B := B) (F := defAt_i X G c1 (st := st_joined_where) 29 23 rfl rfl) (G_where_clash := G_where_clash)
  have G_l_text0 : H_l_text0 P w K mg base := has_l_text0 (B := B) (F := defAt_i X G c1 (st := st_l_text0) 40 34 rfl rfl)
  have G_l_text : H_l_text P w K mg base := has_l_text (B := B) (F := defAt_i X G c1 (st := st_l_text) 40 34 rfl rfl) (G_l_text0 := G_l_text0)
  have G_l_clash : H_l_clash P w K mg base := has_l_clash (B := B) (F := defAt_i X G c1 (st := st_l_clash) 41 35 rfl rfl) (G_l_text := G_l_text)
  have G_l_where_text0 : H_l_where_text0 P w K mg base := has_l_where_text0 (B := B) (F := defAt_i X G c1 (st := st_l_where_text0) 51 45 rfl rfl)
  have G_l_where_text : H_l_where_text P w K mg base := has_l_where_text (B := B) (F := defAt_i X G c1 (st := st_l_where_text) 51 45 rfl rfl) (G_l_where_text0 := G_l_where_text0)
  have G_l_where_clash : H_l_where_clash P w K mg base := has_l_where_clash (B := B) (F := defAt_i X G c1 (st := st_l_where_clash) 52 46 rfl rfl) (G_l_where_text := G_l_where_text)
  have G_Run_init : H_Run_init P w K mg base (He.ga K "Run") := has_Run_init (RC := RC) (F := initAt_i X G c1)
  have G_Run_take : H_Run_take P w K mg base (He.ga K "Run") := has_Run_take (B := B) (RC := RC) (F := methAt_i c1 (st := st_Run_take) 22 80 rfl rfl)
  have G_Run_become : H_Run_become P w K mg base (He.ga K "Run") := has_Run_become (B := B) (RC := RC) (F := methAt_i c1 (st := st_Run_become) 23 81 rfl rfl) (G_laid_cuts := G_laid_cuts)
  have G_Run_outcome : H_Run_outcome P w K mg base (He.ga K "Run") := has_Run_outcome (B := B) (RC := RC) (F := methAt_i c1 (st := st_Run_outcome) 24 82 rfl rfl) (G_Run_become := G_Run_become) (G_items_clash := G_items_clash)
  have G_joint_runs : H_joint_runs P w K mg base (He.ga K "Run") := has_joint_runs (B := B) (RC := RC) (F := defAt_i X G c1 (st := st_joint_runs) 27 21 rfl rfl) (G_Run_init := G_Run_init) (G_Run_take := G_Run_take) (G_change_of := G_change_of)
  have G_joined_items : H_joined_items P w K mg base := has_joined_items (B := B) (RC := RC) (F := defAt_i X G c1 (st := st_joined_items) 28 22 rfl rfl) (G_Run_outcome := G_Run_outcome) (G_joint_runs := G_joint_runs)
  have G_l_joined : H_l_joined P w K mg base := has_l_joined (B := B) (F := defAt_i X G c1 (st := st_l_joined) 49 43 rfl rfl) (G_l_become := G_l_become) (G_l_clash := G_l_clash) (G_l_cuts := G_l_cuts)
  have G_joined_row : H_joined_row P w K mg base := has_joined_row (B := B) (F := defAt_i X G c1 (st := st_joined_row) 30 24 rfl rfl) (G_joined_items := G_joined_items) (G_joined_where := G_joined_where) (G_where_clash := G_where_clash)
  have G_l_joined_row : H_l_joined_row P w K mg base := has_l_joined_row (B := B) (F := defAt_i X G c1 (st := st_l_joined_row) 56 50 rfl rfl) (G_l_joined := G_l_joined) (G_l_where_clash := G_l_where_clash)
  have G_l_touch : H_l_touch P w K mg base := has_l_touch (B := B) (F := defAt_i X G c1 (st := st_l_touch) 60 54 rfl rfl) (G_l_cuts := G_l_cuts)
  have G_row_of : H_row_of P w K mg base := has_row_of (B := B) (F := defAt_i X G c1 (st := st_row_of) 18 16 rfl rfl)
  have G_with_row : H_with_row P w K mg base := has_with_row (B := B) (F := defAt_i X G c1 (st := st_with_row) 19 17 rfl rfl) (D_root := defAt_i X G c1 (st := st_root_of) 20 18 rfl rfl)
  have G_joined_stand : H_joined_stand P w K mg base := has_joined_stand (B := B) (F := defAt_i X G c1 (st := st_joined_stand) 31 25 rfl rfl) (G_joined_row := G_joined_row) (G_row_of := G_row_of)
  have G_stand_change : H_stand_change P w K mg base := has_stand_change (B := B) (F := defAt_i X G c1 (st := st_stand_change) 32 26 rfl rfl) (G_change_of := G_change_of) (G_row_of := G_row_of)
  have G_laid_at : H_laid_at P w K mg base := has_laid_at (B := B) (F := defAt_i X G c1 (st := st_laid_at) 33 27 rfl rfl) (G_laid_cuts := G_laid_cuts)
  have G_laid_change : H_laid_change P w K mg base := has_laid_change (B := B) (F := defAt_i X G c1 (st := st_laid_change) 34 28 rfl rfl) (G_laid_at := G_laid_at) (G_row_of := G_row_of) (G_with_row := G_with_row)
  have G_check_apart : H_check_apart P w K mg base (He.ga K "Touch") := has_check_apart (B := B) (T := T) (F := defAt_i X G c1 (st := st_check_apart) 11 9 rfl rfl) (G_cuts_touch := G_cuts_touch)
  have G_past_cuts : H_past_cuts P w K mg base (He.ga K "Touch") := has_past_cuts (B := B) (F := defAt_i X G c1 (st := st_past_cuts) 13 11 rfl rfl) (G_check_apart := G_check_apart) (G_shifted := G_shifted)
  have G_past_deeds : H_past_deeds P w K mg base (He.ga K "Touch") := has_past_deeds (B := B) (T := T) (F := defAt_i X G c1 (st := st_past_deeds) 36 30 rfl rfl) (G_past_cuts := G_past_cuts)
  have G_by_roots : H_by_roots P w K mg base := has_by_roots (B := B) (F := defAt_i X G c1 (st := st_by_roots) 35 29 rfl rfl)
  have G_past_changes : H_past_changes P w K mg base (He.ga K "Touch") := has_past_changes (B := B) (F := defAt_i X G c1 (st := st_past_changes) 37 31 rfl rfl) (G_by_roots := G_by_roots) (G_past_deeds := G_past_deeds)
  have G_l_refused : H_l_refused P w K mg base := has_l_refused (B := B) (T := T) (F := defAt_i X G c1 (st := st_l_refused) 62 56 rfl rfl) (G_stand_change := G_stand_change) (G_past_changes := G_past_changes)
  have G_l_stand : H_l_stand P w K mg base := has_l_stand (B := B) (F := defAt_i X G c1 (st := st_l_stand) 58 52 rfl rfl)
  have G_l_many_clashes : H_l_many_clashes P w K mg base := has_l_many_clashes (B := B) (F := defAt_i X G c1 (st := st_l_many_clashes) 61 55 rfl rfl)
  have G_l_at_roots : H_l_at_roots P w K mg base := has_l_at_roots (B := B) (F := defAt_i X G c1 (st := st_l_at_roots) 63 57 rfl rfl) (G_l_stand := G_l_stand) (G_joined_stand := G_joined_stand) (G_past_changes := G_past_changes) (G_stand_change := G_stand_change) (G_laid_change := G_laid_change)
  have G_l_as_walked : H_l_as_walked P w K mg base := has_l_as_walked (B := B) (F := defAt_i X G c1 (st := st_l_as_walked) 64 58 rfl rfl) (G_l_joined_row := G_l_joined_row)
  have G_l_held : H_l_held P w K mg base := has_l_held (B := B) (F := defAt_i X G c1 (st := st_l_held) 65 59 rfl rfl) (G_l_stand := G_l_stand) (G_joined_stand := G_joined_stand) (G_l_touch := G_l_touch) (G_l_refused := G_l_refused) (G_laid_change := G_laid_change) (G_l_at_roots := G_l_at_roots) (G_l_many_clashes := G_l_many_clashes) (G_l_as_walked := G_l_as_walked)
  have G_l_cell_at : H_l_cell_at P w K mg base := has_l_cell_at (B := B) (F := defAt_i X G c1 (st := st_l_cell_at) 38 32 rfl rfl)
  have G_l_own : H_l_own P w K mg base := has_l_own (B := B) (F := defAt_i X G c1 (st := st_l_own) 39 33 rfl rfl)
  have G_l_line : H_l_line P w K mg base := has_l_line (B := B) (F := defAt_i X G c1 (st := st_l_line) 42 36 rfl rfl)
  have G_l_path : H_l_path P w K mg base := has_l_path (B := B) (F := defAt_i X G c1 (st := st_l_path) 50 44 rfl rfl)
  have G_l_item0 : H_l_item0 P w K mg base := has_l_item0 (B := B) (F := defAt_i X G c1 (st := st_l_item0) 43 37 rfl rfl) (G_l_line := G_l_line)
  have G_l_items0 : H_l_items0 P w K mg base := has_l_items0 (B := B) (F := defAt_i X G c1 (st := st_l_items0) 44 38 rfl rfl) (G_l_item0 := G_l_item0)
  have G_l_item : H_l_item P w K mg base := has_l_item (B := B) (F := defAt_i X G c1 (st := st_l_item) 43 37 rfl rfl) (G_l_clash := G_l_clash) (G_l_items0 := G_l_items0) (G_l_line := G_l_line)
  have G_l_items : H_l_items P w K mg base := has_l_items (B := B) (F := defAt_i X G c1 (st := st_l_items) 44 38 rfl rfl) (G_l_item := G_l_item)
  have G_l_edited : H_l_edited P w K mg base := has_l_edited (B := B) (F := defAt_i X G c1 (st := st_l_edited) 45 39 rfl rfl) (G_l_item := G_l_item)
  have G_l_where0 : H_l_where0 P w K mg base := has_l_where0 (B := B) (F := defAt_i X G c1 (st := st_l_where0) 53 47 rfl rfl) (G_l_path := G_l_path)
  have G_l_where : H_l_where P w K mg base := has_l_where (B := B) (F := defAt_i X G c1 (st := st_l_where) 53 47 rfl rfl) (G_l_path := G_l_path) (G_l_where0 := G_l_where0) (G_l_where_clash := G_l_where_clash)
  have G_l_row : H_l_row P w K mg base := has_l_row (B := B) (F := defAt_i X G c1 (st := st_l_row) 54 48 rfl rfl) (G_l_items := G_l_items) (G_l_where := G_l_where)
  have G_l_edited_row : H_l_edited_row P w K mg base := has_l_edited_row (B := B) (F := defAt_i X G c1 (st := st_l_edited_row) 55 49 rfl rfl) (G_l_edited := G_l_edited) (G_l_row := G_l_row) (G_l_where := G_l_where)
  have G_l_roots : H_l_roots P w K mg base := has_l_roots (B := B) (F := defAt_i X G c1 (st := st_l_roots) 57 51 rfl rfl)
  have G_l_three : H_l_three P w K mg base := has_l_three (B := B) (F := defAt_i X G c1 (st := st_l_three) 59 53 rfl rfl) (G_l_cell_at := G_l_cell_at) (G_l_edited_row := G_l_edited_row) (G_l_own := G_l_own) (G_l_row := G_l_row)
  exact has_law (B := B) (F := F) (G_l_cell_at := G_l_cell_at) (G_l_edited_row := G_l_edited_row) (G_l_held := G_l_held) (G_l_own := G_l_own) (G_l_roots := G_l_roots) (G_l_three := G_l_three)
end Mw
open PySem PySem.W PySem.Calls PyProof.Rows
theorem PySem.Challenge.cw_makeswood_k93_whole_joins_against_past_holds : PySem.Challenge.rw_makeswood_k93_whole_joins_against_past.Holds := by
  w_on; o_law
  refine HandSHeadRun.head_any (r := OpenLaw.row PySem.Challenge.rw_makeswood_k93_whole_joins_against_past) (q := view (OpenLaw.row PySem.Challenge.rw_makeswood_k93_whole_joins_against_past).prog [72]) (H := Mw.hkM) (ob := Mw.obM) (M := 4000) (loose := Mw.nmL) (d := HandSHeadRun.topDef (OpenLaw.row PySem.Challenge.rw_makeswood_k93_whole_joins_against_past).prog 72) (kwd := []) Mw.obM_eq
    (by kernel_rfl) (fun s => by kernel_rfl) Mw.runM (by kernel_rfl) (by kernel_rfl) (by kernel_rfl) (by rfl) (by first | assumption | decide +kernel) (by decide +kernel) ⟨rfl, rfl, rfl, rfl, rfl, by decide +kernel⟩ ?hw ?hc
  case hw => w_witness2
  case hc =>
    refine L2.walk_ofE (l := PySem.Challenge.rw_makeswood_k93_whole_joins_against_past) (n := 63) (k := 13) (x := "_law_script") (CX := L2.CX0) rfl (by decide) (by kernel_rfl) ⟨rfl, by decide, by decide⟩ ?F (fun _ _ _ _ z => z)
    intro w mg fa h Y G hmg0
    obtain ⟨K, KX, c⟩ := Y
    have c1 := Mw.obsM_d c
    have hmg : mg ("law" : PySem.Str) = some (.ref fa) := by
      have e : (HandSHeadRun.topDef (OpenLaw.row PySem.Challenge.rw_makeswood_k93_whole_joins_against_past).prog 72).name = ("law" : PySem.Str) := by kernel_rfl
      rw [← e]
      exact hmg0
    obtain ⟨fd, F⟩ := c1.def_ 66 (d := Mw.d_law) rfl
    have e := hmg.symm.trans (He.glo_ok KX G (c1.fact 60 (f := .glo "law") rfl))
    cases e
    have b := L2.FunD.bindsA (ps := ["_law_script"]) F fun _ _ _ _ _ _ us hl => match us, hl with | [_], _ => rfl
    exact ⟨K, fd, Mw.sp_law K, KX, fun s v => b s [v] rfl, fun H a ns hl _ hS => ⟨ns, ⟨.ref a, [], rfl, ⟨a, rfl, hS⟩, rfl⟩, trivial, fun v H' r => r.2⟩, fun base _ _ => Mw.law_ok KX G c F⟩

