import PyProof.Rows.All
import Wide.All
import OpenK.AllK
import Wide.FinOn
import HandS.TupSets
import KE.KeyNested
import KE.KDictKeyed
import HandS.Base
import HandS.Call
import HandS.List
import HandS.Set
import HandS.Comp
import HandS.Exc
import HandS.Slots
import HandS.More
import HandS.ForMost
import HandS.Wide
import HandS.Strs
import HandS.Deep
import HandS.TupAny
import KE.DataEq
import KE.DataFind
import HandS.ExcOwn
import HandS.IsInst
import HandS.ClsMeth
import HandS.Defaults
import HandS.Star
import HandS.Iter
import HandS.RevRange
import HandS.MakeKwOnly
import HandS.HeadHook2
import HandS.HeadHook1
import HandS.HeadNt
import HandS.SlotsOwn
import HandS.Property
import HandS.Style
import HandS.TryOnly
import HandS.ExcIs
import HandS.Conv
import HandS.Text
import HandS.FStr
import HandS.Small
import HandS.Replace
import KE.KCallOwn
import HandS.HeadHook3
import KE.KExcSuper
import KE.KSuper
import KE.KFromBytes
import HandS.ExcInit
import HandS.ExcField
import KE.KExcIs
import KE.KxField
import HandS.StrMore
import HandS.Dict
import HandS.TryMany
import HandS.Zip
import KE.KEqDict
import HandS.IterNext
import OpenK.KOps
import HandS.IterVal
import KE.KOwnIter
import HandS.OwnIter
import HandS.GenList
import Open.Seg
import KE.KStateDown
import HandS.Ends
import HandS.Words
import HandS.WordsExc
import HandS.Head0
import HandS.Head1
import HandS.Head2
import HandS.HeadEnd
import Lean
import PySem.Challenge.RW_onehandparts_k54_islands
set_option Elab.async false
set_option linter.all false
set_option maxRecDepth 100000
set_option maxHeartbeats 0
namespace Mi
open PySem L2
/-- the iterates, unbounded -/
def itG : Nat → Nat → Nat
  | 0, x => x
  | n + 1, x => 5 * itG n x + 1
theorem itG_add (a : Nat) : ∀ (b x : Nat), itG (b + a) x = itG b (itG a x)
  | 0, x => by rw [Nat.zero_add]; rfl
  | b + 1, x => by
    rw [show b + 1 + a = b + a + 1 by omega]
    show 5 * itG (b + a) x + 1 = 5 * itG b (itG a x) + 1
    rw [itG_add a b x]
theorem itG_lin (x : Nat) : ∀ n, itG n x = itG n 0 * (4 * x + 1) + x
  | 0 => by show x = 0 * _ + x; omega
  | n + 1 => by
    show 5 * itG n x + 1 = (5 * itG n 0 + 1) * (4 * x + 1) + x
    rw [itG_lin x n, Nat.add_mul, Nat.mul_assoc 5 (itG n 0)]
    omega
theorem itG_pow : ∀ k, ∃ q, itG (2 ^ k) 0 = 2 ^ k * (2 * q + 1)
  | 0 => ⟨0, rfl⟩
  | k + 1 => by
    obtain ⟨q, e⟩ := itG_pow k
    generalize hs : itG (2 ^ k) 0 = s at e
    refine ⟨2 * q * s + s + q, ?_⟩
    rw [show 2 ^ (k + 1) = 2 ^ k + 2 ^ k by rw [Nat.pow_succ]; omega, itG_add, itG_lin, hs]
    have h1 : s * (4 * s + 1) + s = s * (2 * (2 * s + 1)) := by rw [← Nat.mul_add_one]; congr 1; omega
    rw [h1, ← Nat.two_mul (2 ^ k), Nat.mul_comm 2 (2 ^ k), Nat.mul_assoc, ← Nat.mul_assoc s]
    have h2 : s * 2 * (2 * s + 1) = 2 ^ k * (2 * q + 1) * 2 * (2 * s + 1) := by rw [← e]
    rw [h2, Nat.mul_assoc (2 ^ k), Nat.mul_assoc (2 ^ k)]
    congr 1
    rw [Nat.mul_comm (2 * q + 1) 2, Nat.mul_assoc]
    congr 1
    rw [Nat.add_mul, Nat.mul_add, Nat.one_mul, Nat.mul_add, Nat.mul_add, Nat.mul_one]
    have h3 : 2 * q * (2 * s) = 2 * (2 * q * s) := by rw [Nat.mul_left_comm]
    rw [h3]
    omega
theorem mod_two (M a c : Nat) (h : c < M) : (M * a + c) % (2 * M) = M * (a % 2) + c := by
  have e : M * a + c = 2 * M * (a / 2) + (M * (a % 2) + c) := by
    have : M * a = M * (2 * (a / 2) + a % 2) := by rw [Nat.div_add_mod]
    rw [this, Nat.mul_add, Nat.mul_comm 2 M, Nat.mul_assoc]
    omega
  rw [e, Nat.mul_add_mod]
  refine Nat.mod_eq_of_lt ?_
  have : M * (a % 2) ≤ M * 1 := Nat.mul_le_mul_left _ (by omega)
  omega
theorem itG_reach (x : Nat) : ∀ (k j : Nat), ∃ n, n < 2 ^ k ∧ itG n x % 2 ^ k = j % 2 ^ k
  | 0, j => ⟨0, by decide, by rw [Nat.pow_zero, Nat.mod_one, Nat.mod_one]⟩
  | k + 1, j => by
    obtain ⟨n, h1, h2⟩ := itG_reach x k j
    have hM : 2 ^ (k + 1) = 2 * 2 ^ k := by rw [Nat.pow_succ]; omega
    rw [hM]
    obtain ⟨q, e⟩ := itG_pow k
    have pos : 0 < 2 ^ k := Nat.pow_pos (by decide)
    generalize 2 ^ k = M at *
    by_cases c : itG n x % (2 * M) = j % (2 * M)
    · exact ⟨n, by omega, c⟩
    · refine ⟨M + n, by omega, ?_⟩
      rw [itG_add, itG_lin, e]
      generalize itG n x = y at *
      have hy := Nat.div_add_mod y M
      have hj := Nat.div_add_mod j M
      have lt := Nat.mod_lt j pos
      have e1 : M * (2 * q + 1) * (4 * y + 1) + y = M * ((2 * q + 1) * (4 * y + 1) + y / M) + j % M := by
        rw [← h2, Nat.mul_add M ((2 * q + 1) * (4 * y + 1)) (y / M), Nat.add_assoc, hy, Nat.mul_assoc]
      have my := mod_two M (y / M) (j % M) lt
      have mj := mod_two M (j / M) (j % M) lt
      rw [← h2, hy] at my
      rw [hj] at mj
      rw [e1, mod_two M _ _ lt, mj]
      congr 2
      have odd : ((2 * q + 1) * (4 * y + 1)) % 2 = 1 := by
        rw [Nat.mul_mod, show (2 * q + 1) % 2 = 1 by omega, show (4 * y + 1) % 2 = 1 by omega]
      have ne : y / M % 2 ≠ j / M % 2 := fun z => c (by rw [my, mj, z, h2])
      omega
theorem itG_lcg {m i : Nat} (hi : i ≤ m) : ∀ n, lcgI m i n = itG n i % (m + 1)
  | 0 => (Nat.mod_eq_of_lt (by show i < m + 1; omega)).symm
  | n + 1 => by
    show (lcgI m i n * 5 + 1) % (m + 1) = (5 * itG n i + 1) % (m + 1)
    rw [itG_lcg hi n, Nat.add_mod, Nat.mul_mod, Nat.mod_mod, ← Nat.mul_mod, ← Nat.add_mod, Nat.mul_comm]
/-- a mask: one less than a power of two -/
def MaskP (m : Nat) : Prop := 7 ≤ m ∧ ∃ k, m + 1 = 2 ^ k
theorem MaskP.all {m : Nat} (h : MaskP m) {i j : Nat} (hi : i ≤ m) (hj : j ≤ m) : ∃ n, n ≤ m ∧ lcgI m i n = j := by
  obtain ⟨_, k, e⟩ := h
  obtain ⟨n, h1, h2⟩ := itG_reach i k j
  refine ⟨n, by omega, ?_⟩
  rw [itG_lcg hi, e, h2, ← e, Nat.mod_eq_of_lt (by omega)]
theorem way_in (m : Nat) (h : Int) (k : Nat) : way m h k ≤ m := by
  have hi : SetTable.bits h % (m + 1) ≤ m := Nat.le_of_lt_succ (Nat.mod_lt _ (Nat.succ_pos _))
  have r := runEnd_bd hi
  have := nth_in (m := m) k (runAt m (SetTable.bits h % (m + 1)) (SetTable.bits h)) (by
    show SetTable.bits h % (m + 1) + (SetTable.runEnd m (SetTable.bits h % (m + 1)) - SetTable.bits h % (m + 1)) ≤ m
    omega)
  show (nth m _ k).j ≤ m
  omega
end Mi
namespace Mi
open PySem L2 PySem.Spec PyProof.Rows
/-- h's slot j is met on its way, with none but taken ones ahead -/
def Met (m : Nat) (P : List Nat) (h : Int) (j : Nat) : Prop := ∃ c, way m h c = j ∧ ∀ i, i < c → way m h i ∈ P
theorem Met.up {m : Nat} {P Q : List Nat} {h : Int} {j : Nat} (a : Met m P h j) (s : ∀ x ∈ P, x ∈ Q) : Met m Q h j :=
  let ⟨c, e, b⟩ := a
  ⟨c, e, fun i hi => s _ (b i hi)⟩
structure TabP (t : SetTable) (hs : List Int) : Prop where
  asc : Ris t.place.toList
  nod : t.dummies = #[]
  len : t.place.toList.length = hs.length
  msk : MaskP t.mask
  low : ∀ j, j ∈ t.place.toList → j ≤ t.mask
  met : ∀ (i : Nat) (u : Int) (j : Nat), hs[i]? = some u → t.place.toList[i]? = some j → Met t.mask t.place.toList u j
section
variable {t : SetTable} {hs : List Int}
/-- the first free slot of a hash's way is taken -/
theorem TabP.take (T : TabP t hs) {u : Int} {c : Nat} (g : way t.mask u c ∉ t.place.toList) (f : ∀ i, i < c → way t.mask u i ∈ t.place.toList) :
    ∃ p, (t.put (way t.mask u c)).2 = p ∧ p ≤ hs.length ∧ TabP (t.put (way t.mask u c)).1 (hs.take p ++ u :: hs.drop p) ∧ (t.put (way t.mask u c)).1.mask = t.mask ∧ (t.put (way t.mask u c)).1.fill = hs.length + 1 := by
  have lw := way_in t.mask u c
  generalize hj : way t.mask u c = j at *
  obtain ⟨p1, _, _⟩ := below_cut T.asc j
  have pp := put_place t j
  have pd := put_dm T.nod j
  have nn : t.place[SetTable.below t.place j]? ≠ some j := fun e => g (List.mem_of_getElem? (by rw [Array.getElem?_toList]; exact e))
  have asc := ris_insert T.asc nn
  have tl := T.len
  have p1 : SetTable.below t.place j ≤ t.place.toList.length := by rw [Array.length_toList]; exact p1
  refine ⟨_, rfl, by rw [← tl]; exact p1, ?_⟩
  have pl : (t.put j).1.place.toList.length = hs.length + 1 := by rw [pp, len_ins _ p1, tl]
  have up : ∀ x, x ∈ t.place.toList → x ∈ (t.put j).1.place.toList := fun x hx => by
    rw [pp]
    exact mem_ins.2 (.inr hx)
  refine ⟨⟨asc, pd, by rw [pl, len_ins _ (by rw [← tl]; exact p1)], T.msk, fun x hx => ?_, fun i v y a b => ?_⟩, rfl, ?_⟩
  · rw [pp] at hx
    rcases mem_ins.1 hx with e | e
    · rw [e]
      exact lw
    · exact T.low x e
  · show Met t.mask _ v y
    rw [pp] at b
    change (hs.take (SetTable.below t.place j) ++ u :: hs.drop (SetTable.below t.place j))[i]? = some v at a
    rw [tins_get hs (by rw [← tl]; exact p1)] at a
    rw [tins_get _ p1] at b
    generalize SetTable.below t.place j = p at *
    rcases Nat.lt_trichotomy i p with z | z | z
    · rw [if_pos z] at a b
      exact (T.met i v y a b).up up
    · rw [if_neg (by omega), if_pos z] at a b
      cases a
      cases b
      exact ⟨c, hj, fun k hk => up _ (f k hk)⟩
    · rw [if_neg (by omega), if_neg (by omega)] at a b
      exact (T.met (i - 1) v y a b).up up
  · show (t.put j).1.place.size + (t.put j).1.dummies.size = _
    rw [← Array.length_toList, pl, pd]
    rfl
end
def MaskQ (m : Nat) : Prop := m = 7 ∨ m = 31 ∨ m = 127 ∨ m = 511 ∨ m = 2047 ∨ m = 8191
theorem MaskQ.p {m : Nat} (h : MaskQ m) : MaskP m := by
  rcases h with rfl | rfl | rfl | rfl | rfl | rfl
  · exact ⟨by decide, 3, rfl⟩
  · exact ⟨by decide, 5, rfl⟩
  · exact ⟨by decide, 7, rfl⟩
  · exact ⟨by decide, 9, rfl⟩
  · exact ⟨by decide, 11, rfl⟩
  · exact ⟨by decide, 13, rfl⟩
theorem grow_all : ([(7, 5), (31, 19), (127, 77), (511, 307), (2047, 1229)].all fun p : Nat × Nat => decide (SetTable.sizeAbove (SetTable.grown p.2) = 4 * (p.1 + 1))) = true := by decide +kernel
/-- a table that is too full grows to four times its size -/
theorem MaskQ.grow {m n : Nat} (h : MaskQ m) (a : n * 5 < m * 3) (b : (n + 1) * 5 ≥ m * 3) (c : n < 4914) : SetTable.sizeAbove (SetTable.grown (n + 1)) ≤ 8192 ∧ MaskQ (SetTable.sizeAbove (SetTable.grown (n + 1)) - 1) ∧ (n + 1) * 5 < (SetTable.sizeAbove (SetTable.grown (n + 1)) - 1) * 3 := by
  have at_ : ∀ p : Nat × Nat, p ∈ [(7, 5), (31, 19), (127, 77), (511, 307), (2047, 1229)] → SetTable.sizeAbove (SetTable.grown p.2) = 4 * (p.1 + 1) := fun p hp => of_decide_eq_true (List.all_eq_true.mp grow_all p hp)
  rcases h with rfl | rfl | rfl | rfl | rfl | rfl
  · obtain rfl : n = 4 := by omega
    have e := at_ (7, 5) (by simp)
    simp only at e
    rw [e]
    exact ⟨by decide, .inr (.inl rfl), by decide⟩
  · obtain rfl : n = 18 := by omega
    have e := at_ (31, 19) (by simp)
    simp only at e
    rw [e]
    exact ⟨by decide, .inr (.inr (.inl rfl)), by decide⟩
  · obtain rfl : n = 76 := by omega
    have e := at_ (127, 77) (by simp)
    simp only at e
    rw [e]
    exact ⟨by decide, .inr (.inr (.inr (.inl rfl))), by decide⟩
  · obtain rfl : n = 306 := by omega
    have e := at_ (511, 307) (by simp)
    simp only at e
    rw [e]
    exact ⟨by decide, .inr (.inr (.inr (.inr (.inl rfl)))), by decide⟩
  · obtain rfl : n = 1228 := by omega
    have e := at_ (2047, 1229) (by simp)
    simp only at e
    rw [e]
    exact ⟨by decide, .inr (.inr (.inr (.inr (.inr rfl)))), by decide⟩
  · omega
end Mi
namespace Mi
open PySem L2 PySem.Spec PyProof.Rows
section
variable {P : Program} {w : World} {A : Around} {E : Value → Shared → Prop} {s : Shared}
abbrev NK (P : Program) (w : World) : HeapKind P w NestedKey := nestedKind P w
def rowsK (w : World) (L : List (Addr × NestedKey)) : List (Int × Value) := L.map fun p => (p.2.hash w, .ref p.1)
def hashK (w : World) (L : List (Addr × NestedKey)) : List Int := L.map fun p => p.2.hash w
structure SetK (P : Program) (w : World) (h : Heap) (a : Addr) (L : List (Addr × NestedKey)) (es : Array (Int × Value)) (ep : Nat) (t : SetTable) : Prop where
  ob : ∃ o, h.get? a = some o ∧ o.ExactSet ∧ o.data = .set es ep t
  row : es.toList = rowsK w L
  tab : TabP t (hashK w L)
  one : (L.map (·.2)).Nodup
  key : ∀ p ∈ L, (NK P w).is h p.2 p.1
  size : MaskQ t.mask
  room : L.length * 5 < t.mask * 3
variable {a : Addr} {L : List (Addr × NestedKey)} {es : Array (Int × Value)} {ep : Nat} {t : SetTable}
theorem SetK.len (R : SetK P w s.heap a L es ep t) : es.size = L.length := by
  have h := congrArg List.length R.row
  simpa [rowsK] using h
theorem SetK.at_ (R : SetK P w s.heap a L es ep t) {i : Nat} {p : Addr × NestedKey} (h : L[i]? = some p) : es[i]? = some (p.2.hash w, .ref p.1) := by
  rw [← Array.getElem?_toList, R.row]
  simp [rowsK, h]
end
end Mi
namespace Mi
open PySem L2 PySem.Spec PyProof.Rows
/-- the set without its keys -/
structure Set0 (w : World) (h : Heap) (a : Addr) (L : List (Addr × NestedKey)) (es : Array (Int × Value)) (ep : Nat) (t : SetTable) : Prop where
  ob : ∃ o, h.get? a = some o ∧ o.ExactSet ∧ o.data = .set es ep t
  row : es.toList = rowsK w L
  tab : TabP t (hashK w L)
  one : (L.map (·.2)).Nodup
  size : MaskQ t.mask
  room : L.length * 5 < t.mask * 3
theorem SetK.bare {P : Program} {w : World} {h : Heap} {a : Addr} {L : List (Addr × NestedKey)} {es : Array (Int × Value)} {ep : Nat} {t : SetTable} (R : SetK P w h a L es ep t) : Set0 w h a L es ep t := ⟨R.ob, R.row, R.tab, R.one, R.size, R.room⟩
/-- the dict without its keys; its values are True -/
def Dic0 (w : World) (h : Heap) (a : Addr) (L : List (Addr × NestedKey)) : Prop :=
  (a == sysModules) = false ∧ ∃ o es ep, h.get? a = some o ∧ o.ExactDict ∧ o.data = .dict es ep ∧ es.toList = L.map (fun p => ⟨p.2.hash w, .ref p.1, .bool true⟩) ∧ (L.map (·.2)).Nodup
/-- a set (or a dict with the values True) whose keys are L's, in any order -/
def SetN (w : World) (q : Bool) (a : Addr) (L : List (Addr × NestedKey)) : HO := .ext fun h => ∃ L2, L2.Perm L ∧ ((q = false ∧ ∃ es ep t, Set0 w h a L2 es ep t) ∨ (q = true ∧ Dic0 w h a L2))
theorem SetN.is {w : World} {q : Bool} {a : Addr} {L : List (Addr × NestedKey)} {h : Heap} (x : ∃ L2, L2.Perm L ∧ ((q = false ∧ ∃ es ep t, Set0 w h a L2 es ep t) ∨ (q = true ∧ Dic0 w h a L2))) : ∃ o, h.get? a = some o ∧ (o.cls = .type "set" ∨ o.cls = .type "dict") := by
  obtain ⟨L2, _, ⟨_, es, ep, t, R⟩ | ⟨_, _, o, es, ep, h1, h2, _⟩⟩ := x
  · obtain ⟨o, h1, h2, _⟩ := R.ob
    exact ⟨o, h1, .inl h2.1⟩
  · exact ⟨o, h1, .inr h2.1⟩
/-- the dict's entries -/
def entsN (L : List (Addr × NestedKey)) : List (NestedKey × Addr × Value) := L.map fun p => (p.2, p.1, .bool true)
theorem Dic0.of {P : Program} {w : World} {h : Heap} {a : Addr} {L : List (Addr × NestedKey)} (hs : (a == sysModules) = false) (R : h.DictOfH (NK P w) a (entsN L)) : Dic0 w h a L := by
  obtain ⟨o, es, ep, ho, hc, hd, he, hk, hn⟩ := R
  refine ⟨hs, o, es, ep, ho, hc, hd, ?_, ?_⟩
  · rw [he]
    unfold entsN
    rw [List.map_map]
    rfl
  · unfold entsN at hn
    rw [List.map_map] at hn
    exact hn
/-- the value v is the key k in the abstract heap -/
inductive KeyV (K : PySem.W.Frag) (H : Hp) : NestedKey → V → Prop
  | non : KeyV K H .none .non
  | bl (b : Bool) : KeyV K H (.num (if b = true then 1 else 0)) (.bl b)
  | int (i : Int) : KeyV K H (.num i) (.int i)
  | str (x : Str) : KeyV K H (.text x) (.str x)
  | tup {a : Addr} {xs : List V} {ks : List NestedKey} : SqT K H a xs → xs.length = ks.length → (∀ (i : Nat) (k : NestedKey) (x : V), ks[i]? = some k → xs[i]? = some x → KeyV K H k x) → KeyV K H (.tup ks) (.ref a)
theorem nested_all {h : Heap} : ∀ {ks : List NestedKey} {us : List Value}, us.length = ks.length → (∀ (i : Nat) k u, ks[i]? = some k → us[i]? = some u → NestedIs h k u) → NestedAll h ks us
  | [], [], _, _ => .nil
  | [], _ :: _, e, _ => by cases e
  | _ :: _, [], e, _ => by cases e
  | k :: ks, u :: us, e, f => .cons (f 0 k u rfl rfl) (nested_all (by simpa using e) fun i k u a b => f (i + 1) k u a b)
section
variable {X : Cx} {pins : List (Addr × Obj)} {σ : L2.St} {H : Hp} {s : Shared}
theorem KeyV.is (I : Inv X pins σ H s) {k : NestedKey} {v : V} (h : KeyV X.K H k v) : ∀ {u : Value}, RelV v u → NestedIs s.heap k u := by
  induction h with
  | non => rintro u rfl; exact .none
  | bl b => rintro u rfl; exact .bool rfl
  | int i => rintro u ⟨t, rfl⟩; exact .int i t
  | str x => rintro u ⟨t, rfl⟩; exact .text x t
  | @tup a xs ks q l _ ih =>
    rintro u rfl
    obtain ⟨its, r, ⟨o, ho, hc, n, hd⟩, _⟩ := I.tuple q
    have lr := r.length
    refine .tup ho hc hd (nested_all (by simpa [lr] using lr ▸ l) fun i k u e1 e2 => ?_)
    obtain ⟨x, e3⟩ : ∃ x, xs[i]? = some x := ⟨_, List.getElem?_eq_getElem (by have := (List.getElem?_eq_some_iff.mp e1).1; omega)⟩
    obtain ⟨u2, e4, e5⟩ := Vals.get r e3
    have e2 : its[i]? = some u := by simpa using e2
    rw [e2] at e4
    cases e4
    exact ih i k x e1 e3 e5
variable {o e : Expr} {es : List Expr} {to : TE} {t : TA} {apos cpos : Pos}
end
end Mi
namespace Mi
open L2 PySem PySem.Spec PyProof.Rows
def notStar : Expr → Bool
  | .Starred .. => false
  | _ => true
theorem starEach_plain {e : Expr} {es : List Expr} {env : Env} (h : notStar e = true) : starEach (e :: es) env = (false, eval e env) :: starEach es env := by
  cases e <;> first | rfl | cases h
theorem star_any {pos : Pos} {env : Env} : ∀ {es : List Expr}, es.all notStar = true → (backTo pos (starEach es env)).any (·.1) = false
  | [], _ => rfl
  | e :: es, h => by
    rw [List.all_cons, Bool.and_eq_true] at h
    rw [starEach_plain h.1]
    exact star_any h.2
theorem star_all {pos : Pos} {env : Env} : ∀ {es : List Expr}, es.all notStar = true → (backTo pos (starEach es env)).all (fun x => !x.1) = true
  | [], _ => rfl
  | e :: es, h => by
    rw [List.all_cons, Bool.and_eq_true] at h
    rw [starEach_plain h.1]
    exact star_all h.2
theorem star_few {pos : Pos} {env : Env} {es : List Expr} {b : Bool} (h : es.all notStar = true) (hb : b = true) : ((backTo pos (starEach es env)).all (fun x => !x.1) && (backToKw pos (keywordEach [] env)).all (fun x => x.1.isSome) && b) = true := by
  rw [star_all h, hb]
  rfl
def notSup : Expr → Bool
  | .Call (.Name _ _) [] [] _ => false
  | _ => true
theorem base_plain {e : Expr} {f : Str} {env : Env} {whole : Sem Value} (h : notSup e = true) : attributeBase e f env whole = whole := by
  unfold attributeBase
  split
  · cases h
  · rfl
theorem kw_isSome {pos : Pos} {env : Env} : ∀ {kws : List Keyword}, kws.all (·.arg.isSome) = true → (backToKw pos (keywordEach kws env)).all (·.1.isSome) = true
  | [], _ => rfl
  | ⟨n, v, p⟩ :: ks, h => by
    rw [List.all_cons, Bool.and_eq_true] at h
    show (n.isSome && (backToKw pos (keywordEach ks env)).all (·.1.isSome)) = true
    rw [kw_isSome h.2, show n.isSome = true from h.1]
    rfl
def notTest : Expr → Bool
  | .UnaryOp .. => false
  | .BoolOp .. => false
  | .IfExp .. => false
  | .Compare .. => false
  | _ => true
theorem isTrue_plain {e : Expr} {env : Env} (h : notTest e = true) : ∀ whole : Sem Value, isTrue e env whole = (do let v ← whole; standAt e.pos; holding [v] (truthy v)) := fun whole => by
  cases e <;> first | rfl | cases h
theorem ev_meth {o : Expr} {m : Str} {apos pos : Pos} {args : List Expr} {kws : List Keyword} {env : Env} (h1 : notSup o = true) (h2 : args.all notStar = true) (h3 : kws.all (·.arg.isSome) = true) (h4 : decide (args.length + kws.length + (if kws.isEmpty then 0 else 1) < 30) = true) (h5 : (apos.endLine == pos.line) = true) :
    eval (.Call (.Attribute o m apos) args kws pos) env = (do
      let ov ← eval o env
      standAt apos.atName
      let (f, first) ← holding [ov] (getMethod ov m (do return (← importBound o env).getD true))
      callWith pos f first (backTo pos (starEach args env)) (backToKw pos (keywordEach kws env))) := by
  have few : methodCallForm (args.length + kws.length) (backTo pos (starEach args env)) (backToKw pos (keywordEach kws env)) = true := by
    unfold methodCallForm
    have e : (backToKw pos (keywordEach kws env)).isEmpty = kws.isEmpty := by
      cases kws with
      | nil => rfl
      | cons k ks =>
        obtain ⟨n, v, p⟩ := k
        rfl
    rw [star_all h2, kw_isSome h3, e]
    exact h4
  show (do
    let ov ← attributeBase o m env (eval o env)
    standAt apos.atName
    methodCall o m apos pos env ov (args.length + kws.length) (backTo pos (starEach args env)) (backToKw pos (keywordEach kws env))) = _
  rw [base_plain h1]
  unfold methodCall
  rw [few]
  have ep : methodCallPos true o env apos pos = pure pos := by
    unfold methodCallPos
    rw [h5]
    rfl
  rw [ep]
  rfl
abbrev D := PyData
/-- what an evaluation comes to: a value, an exception of the program's own, or nothing is claimed -/
inductive Res (α : Type) where
  | ok (a : α) | ex (c : Str) (fs : List D) | no
def Res.bind {α β : Type} (r : Res α) (f : α → Res β) : Res β := match r with
  | .ok a => f a
  | .ex c fs => .ex c fs
  | .no => .no
/-- what a block comes to: falls through, returns, breaks, continues .. -/
inductive Fl (β τ : Type) where
  | nx (t : τ) | rt (d : D) | bk (b : β) | ct (b : β) | ex (c : Str) (fs : List D) | no
def Fl.bind {β τ υ : Type} (r : Fl β τ) (f : τ → Fl β υ) : Fl β υ := match r with
  | .nx t => f t
  | .rt d => .rt d
  | .bk b => .bk b
  | .ct b => .ct b
  | .ex c fs => .ex c fs
  | .no => .no
def Res.bindF {α β τ : Type} (r : Res α) (f : α → Fl β τ) : Fl β τ := match r with
  | .ok a => f a
  | .ex c fs => .ex c fs
  | .no => .no
def Fl.up {β τ : Type} (r : Fl β Empty) : Fl β τ := r.bind fun e => e.elim
/-- a def's whole body: falling off the end gives None -/
def Fl.res (r : Fl Empty Unit) : Res D := match r with
  | .nx _ => .ok .none
  | .rt d => .ok d
  | .bk b => b.elim
  | .ct b => b.elim
  | .ex c fs => .ex c fs
  | .no => .no
/-- a value or nothing claimed -/
def ofO {α : Type} : Option α → Res α
  | some a => .ok a
  | none => .no
@[simp] theorem ofO_some {α : Type} (a : α) : ofO (some a) = .ok a := rfl
@[simp] theorem ofO_none {α : Type} : ofO (none : Option α) = .no := rfl
@[simp] theorem Res.bind_ok {α β : Type} (a : α) (f : α → Res β) : (Res.ok a).bind f = f a := rfl
@[simp] theorem Res.bind_ex {α β : Type} (c : Str) (fs : List D) (f : α → Res β) : (Res.ex c fs : Res α).bind f = .ex c fs := rfl
@[simp] theorem Res.bind_no {α β : Type} (f : α → Res β) : (Res.no : Res α).bind f = .no := rfl
@[simp] theorem Res.bindF_ok {α β τ : Type} (a : α) (f : α → Fl β τ) : (Res.ok a).bindF f = f a := rfl
@[simp] theorem Res.bindF_ex {α β τ : Type} (c : Str) (fs : List D) (f : α → Fl β τ) : (Res.ex c fs : Res α).bindF f = .ex c fs := rfl
@[simp] theorem Res.bindF_no {α β τ : Type} (f : α → Fl β τ) : (Res.no : Res α).bindF f = .no := rfl
@[simp] theorem Fl.bind_nx {β τ υ : Type} (t : τ) (f : τ → Fl β υ) : (Fl.nx t : Fl β τ).bind f = f t := rfl
@[simp] theorem Fl.bind_rt {β τ υ : Type} (d : D) (f : τ → Fl β υ) : (Fl.rt d : Fl β τ).bind f = .rt d := rfl
@[simp] theorem Fl.bind_bk {β τ υ : Type} (b : β) (f : τ → Fl β υ) : (Fl.bk b : Fl β τ).bind f = .bk b := rfl
@[simp] theorem Fl.bind_ct {β τ υ : Type} (b : β) (f : τ → Fl β υ) : (Fl.ct b : Fl β τ).bind f = .ct b := rfl
@[simp] theorem Fl.bind_ex {β τ υ : Type} (c : Str) (fs : List D) (f : τ → Fl β υ) : (Fl.ex c fs : Fl β τ).bind f = .ex c fs := rfl
@[simp] theorem Fl.bind_no {β τ υ : Type} (f : τ → Fl β υ) : (Fl.no : Fl β τ).bind f = .no := rfl
@[simp] theorem Fl.up_rt {β τ : Type} (d : D) : (Fl.rt d : Fl β Empty).up = (Fl.rt d : Fl β τ) := rfl
@[simp] theorem Fl.res_rt (d : D) : (Fl.rt d : Fl Empty Unit).res = .ok d := rfl
@[simp] theorem Fl.res_nx (u : Unit) : (Fl.nx u : Fl Empty Unit).res = .ok .none := rfl
@[simp] theorem Fl.res_ex (c : Str) (fs : List D) : (Fl.ex c fs : Fl Empty Unit).res = .ex c fs := rfl
@[simp] theorem Fl.res_no : (Fl.no : Fl Empty Unit).res = .no := rfl
/-- a class of the program: where it stands, whether it has slots, its instances. fields in order -/
inductive Kd where
  | slots | dict | exc
structure CI where
  C : Addr
  k : Kd
  fs : List Str
  /-- the slots' places, in the order of fs -/
  pl : List Nat
/-- the values stored so far, at their places -/
def PutOk (pl : List Nat) (vs : List V) (ss : List (Option V)) : Prop := ∀ (j : Nat) (v : V) (p : Nat), vs[j]? = some v → pl[j]? = some p → ss[p]? = some (some v)
/-- an instance at a, its own dict at dx, the fields stored so far -/
def ObjAt (i : CI) (H : Hp) (a dx : Addr) (ns : List Str) (vs : List V) : Prop :=
  (i.k = .slots ∧ ns = i.fs.take ns.length ∧ ns.length = vs.length ∧ ((vs = [] ∧ H a = some (.ins i.C dx []) ∧ H dx = some (.own a)) ∨ (∃ ss, PutOk i.pl vs ss ∧ H a = some (SlX.SlO a i.C dx ss) ∧ H dx = some (.xd [])))) ∨
    (i.k = .dict ∧ ns.length = vs.length ∧ H a = some (.ins i.C dx (ns.zip vs)) ∧ H dx = some (.own a) ∧ ∀ f ∈ ns, f ∈ i.fs)
structure Gm where
  K : PySem.W.Frag
  ci : Str → Option CI
  w : World
mutual
/-- a datum as a key of a set -/
def nkD : D → Option NestedKey
  | .none => some .none
  | .bool b => some (.num (if b = true then 1 else 0))
  | .int i => some (.num i)
  | .str x => some (.text x)
  | .tuple ds => (nkL ds).map .tup
  | _ => none
def nkL : List D → Option (List NestedKey)
  | [] => some []
  | d :: ds => (nkD d).bind fun k => (nkL ds).map fun ks => k :: ks
end
/-- a tuple that may be put into a set -/
def nkT (d : D) : Option NestedKey := match nkD d with
  | some (.tup ks) => if (NestedKey.tup ks).depth ≤ 8 then some (.tup ks) else none
  | _ => none
/-- an exact tuple's object -/
def obT (its : List Value) : Obj := { cls := .type "tuple", data := .seq its.toArray }
/-- at a an exact tuple of xs is to be read -/
def TupX (K : PySem.W.Frag) (F : Hp) (a : Addr) (xs : List V) : Prop :=
  (∃ its, F a = some (.frz (obT its) (.tup xs))) ∨
    ∃ (o : Obj) (its : Array Value) (n : Nat), K.lookup a = some o ∧ o.cls = .type "tuple" ∧ o.dict = none ∧ o.data = .seq its n ∧ its.size ≤ sizeLine ∧ Vals xs its.toList
theorem TupX.sqT {K : PySem.W.Frag} {F : Hp} {a : Addr} {xs : List V} (h : TupX K F a xs) : SqT K F a xs := by
  rcases h with ⟨its, h⟩ | ⟨o, its, n, h1, h2, h3, h4, h5, h6⟩
  · exact .inl (.inr ⟨_, h⟩)
  · exact .inr ⟨o, its, n, h1, h2, h4, h5, h6⟩
mutual
/-- the value v stands for the datum d in the view F -/
inductive Enc (g : Gm) (F : Hp) : V → D → Prop
  | non : Enc g F .non .none
  | bl (b : Bool) : Enc g F (.bl b) (.bool b)
  | int (i : Int) : Enc g F (.int i) (.int i)
  | str (x : Str) : Enc g F (.str x) (.str x)
  | lst {a : Addr} {xs : List V} {ds : List D} : F a = some (.lst xs) → EncL g F xs ds → Enc g F (.ref a) (.list ds)
  | tup {a : Addr} {xs : List V} {ds : List D} : TupX g.K F a xs → EncL g F xs ds → Enc g F (.ref a) (.tuple ds)
  | dct {a : Addr} {kvs : List (D × D)} : EncK g F a kvs → Enc g F (.ref a) (.dict kvs)
inductive EncL (g : Gm) (F : Hp) : List V → List D → Prop
  | nil : EncL g F [] []
  | cons {v : V} {vs : List V} {d : D} {ds : List D} : Enc g F v d → EncL g F vs ds → EncL g F (v :: vs) (d :: ds)
/-- a dict, or an instance (its first pair is None and the class's name) -/
inductive EncK (g : Gm) (F : Hp) : Addr → List (D × D) → Prop
  /-- the script: a list that is only read -/
  | scr {a : Addr} {xs : List V} {ds : List D} : SqL g.K F a xs → EncL g F xs ds → EncK g F a [(.none, .list ds)]
  | dk {a : Addr} {ps : List (Key × V)} {kvs : List (D × D)} : F a = some (.dK ps) → EncP g F ps kvs → EncK g F a kvs
  /-- a set of tuples -/
  | st {q : Bool} {a : Addr} {L : List (Addr × NestedKey)} {ds : List D} : F a = some (SetN g.w q a L) → EncL g F (L.map fun p => V.ref p.1) ds → ds.map nkT = L.map (fun p => some p.2) → EncK g F a [(.bool q, .tuple ds)]
  | obj {a dx : Addr} {c : Str} {i : CI} {ns : List Str} {vs : List V} {kvs : List (D × D)} : g.ci c = some i → EncF g F ns vs kvs → ObjAt i F a dx ns vs → EncK g F a ((.none, .str c) :: kvs)
inductive EncF (g : Gm) (F : Hp) : List Str → List V → List (D × D) → Prop
  | nil : EncF g F [] [] []
  | cons {f : Str} {v : V} {d : D} {fs : List Str} {vs : List V} {kvs : List (D × D)} : Enc g F v d → EncF g F fs vs kvs → EncF g F (f :: fs) (v :: vs) ((.str f, d) :: kvs)
inductive EncP (g : Gm) (F : Hp) : List (Key × V) → List (D × D) → Prop
  | nil : EncP g F [] []
  | consI {i : Int} {v : V} {d : D} {ps : List (Key × V)} {kvs : List (D × D)} : Enc g F v d → EncP g F ps kvs → EncP g F ((.inl i, v) :: ps) ((.int i, d) :: kvs)
  | consS {x : Str} {v : V} {d : D} {ps : List (Key × V)} {kvs : List (D × D)} : Enc g F v d → EncP g F ps kvs → EncP g F ((.inr x, v) :: ps) ((.str x, d) :: kvs)
end
def Sub (F H : Hp) : Prop := ∀ b o, F b = some o → H b = some o
theorem Sub.refl (H : Hp) : Sub H H := fun _ _ h => h
theorem Sub.trans {H H1 H2 : Hp} (a : Sub H H1) (b : Sub H1 H2) : Sub H H2 := fun c o h => b c o (a c o h)
theorem Sub.new {H : Hp} {p : Addr} {o : HO} (h : H p = none) : Sub H (upd H p o) := fun a u e => by
  rw [upd_ne (ne_of_none e h)]
  exact e
theorem Sub.mut {H H' : Hp} {p : Addr} {o : HO} (e : Sub H H') (h : H p = none) : Sub H (upd H' p o) := fun a u ha => by
  rw [upd_ne (ne_of_none ha h)]
  exact e a u ha
theorem Sub.free {H H' : Hp} (e : Sub H H') {l : Addr} (h : H' l = Option.none) : H l = Option.none := by
  cases q : H l with
  | none => rfl
  | some o =>
    rw [e l o q] at h
    cases h
theorem Sub.rd {H H' : Hp} {a : Addr} {u : HO} (e : Sub H H') (h : Rd H a u) : Rd H' a u := by
  rcases h with h | ⟨o, h⟩
  · exact .inl (e _ _ h)
  · exact .inr ⟨o, e _ _ h⟩
theorem Sub.sqL {K : PySem.W.Frag} {H H' : Hp} {a : Addr} {xs : List V} (e : Sub H H') (h : SqL K H a xs) : SqL K H' a xs := by
  rcases h with h | h
  · exact .inl (e.rd h)
  · exact .inr h
theorem Sub.sqT {K : PySem.W.Frag} {H H' : Hp} {a : Addr} {xs : List V} (e : Sub H H') (h : SqT K H a xs) : SqT K H' a xs := by
  rcases h with h | h
  · exact .inl (e.rd h)
  · exact .inr h
theorem Sub.tupX {K : PySem.W.Frag} {H H' : Hp} {a : Addr} {xs : List V} (e : Sub H H') (h : TupX K H a xs) : TupX K H' a xs := by
  rcases h with ⟨its, h⟩ | h
  · exact .inl ⟨its, e _ _ h⟩
  · exact .inr h
theorem Sub.objAt {i : CI} {H H' : Hp} {a dx : Addr} {ns : List Str} {vs : List V} (e : Sub H H') (h : ObjAt i H a dx ns vs) : ObjAt i H' a dx ns vs := by
  rcases h with ⟨h1, h2, h3, ⟨h4, h5, h6⟩ | ⟨ss, h0, h5, h6⟩⟩ | ⟨h1, h2, h3, h4, h7⟩
  · exact .inl ⟨h1, h2, h3, .inl ⟨h4, e _ _ h5, e _ _ h6⟩⟩
  · exact .inl ⟨h1, h2, h3, .inr ⟨ss, h0, e _ _ h5, e _ _ h6⟩⟩
  · exact .inr ⟨h1, h2, e _ _ h3, e _ _ h4, h7⟩
mutual
theorem Enc.mono {g : Gm} {F F' : Hp} (e : Sub F F') : ∀ {v : V} {d : D}, Enc g F v d → Enc g F' v d
  | _, _, .non => .non
  | _, _, .bl b => .bl b
  | _, _, .int i => .int i
  | _, _, .str x => .str x
  | _, _, .lst h k => .lst (e _ _ h) (EncL.mono e k)
  | _, _, .tup h k => .tup (e.tupX h) (EncL.mono e k)
  | _, _, .dct k => .dct (EncK.mono e k)
theorem EncL.mono {g : Gm} {F F' : Hp} (e : Sub F F') : ∀ {vs : List V} {ds : List D}, EncL g F vs ds → EncL g F' vs ds
  | _, _, .nil => .nil
  | _, _, .cons h k => .cons (Enc.mono e h) (EncL.mono e k)
theorem EncK.mono {g : Gm} {F F' : Hp} (e : Sub F F') : ∀ {a : Addr} {kvs : List (D × D)}, EncK g F a kvs → EncK g F' a kvs
  | _, _, .scr h k => .scr (e.sqL h) (EncL.mono e k)
  | _, _, .dk h k => .dk (e _ _ h) (EncP.mono e k)
  | _, _, .st h k q => .st (e _ _ h) (EncL.mono e k) q
  | _, _, .obj h k q => .obj h (EncF.mono e k) (e.objAt q)
theorem EncF.mono {g : Gm} {F F' : Hp} (e : Sub F F') : ∀ {fs : List Str} {vs : List V} {kvs : List (D × D)}, EncF g F fs vs kvs → EncF g F' fs vs kvs
  | _, _, _, .nil => .nil
  | _, _, _, .cons h k => .cons (Enc.mono e h) (EncF.mono e k)
theorem EncP.mono {g : Gm} {F F' : Hp} (e : Sub F F') : ∀ {ps : List (Key × V)} {kvs : List (D × D)}, EncP g F ps kvs → EncP g F' ps kvs
  | _, _, .nil => .nil
  | _, _, .consI h k => .consI (Enc.mono e h) (EncP.mono e k)
  | _, _, .consS h k => .consS (Enc.mono e h) (EncP.mono e k)
end
theorem EncL.len {g : Gm} {F : Hp} : ∀ {vs : List V} {ds : List D}, EncL g F vs ds → vs.length = ds.length
  | _, _, .nil => rfl
  | _, _, .cons _ k => congrArg (· + 1) (EncL.len k)
theorem EncL.get {g : Gm} {F : Hp} : ∀ {vs : List V} {ds : List D} {i : Nat} {d : D}, EncL g F vs ds → ds[i]? = some d → ∃ v, vs[i]? = some v ∧ Enc g F v d
  | _, _, i, _, .nil, e => by simp at e
  | _, _, 0, _, .cons h _, e => by
    simp at e
    subst e
    exact ⟨_, rfl, h⟩
  | _, _, i + 1, d, .cons _ k, e => by
    obtain ⟨v, h1, h2⟩ := EncL.get (i := i) (d := d) k (by simpa using e)
    exact ⟨v, by simpa using h1, h2⟩
theorem EncL.app {g : Gm} {F : Hp} : ∀ {vs ws : List V} {ds es : List D}, EncL g F vs ds → EncL g F ws es → EncL g F (vs ++ ws) (ds ++ es)
  | _, _, _, _, .nil, q => q
  | _, _, _, _, .cons h k, q => .cons h (EncL.app k q)
theorem EncL.drop {g : Gm} {F : Hp} : ∀ (n : Nat) {vs : List V} {ds : List D}, EncL g F vs ds → EncL g F (vs.drop n) (ds.drop n)
  | 0, _, _, q => q
  | _ + 1, _, _, .nil => .nil
  | n + 1, _, _, .cons _ k => EncL.drop n k
theorem EncL.take {g : Gm} {F : Hp} : ∀ (n : Nat) {vs : List V} {ds : List D}, EncL g F vs ds → EncL g F (vs.take n) (ds.take n)
  | 0, _, _, _ => .nil
  | _ + 1, _, _, .nil => .nil
  | n + 1, _, _, .cons h k => .cons h (EncL.take n k)
theorem EncL.set {g : Gm} {F : Hp} {v : V} {d : D} (h : Enc g F v d) : ∀ (n : Nat) {vs : List V} {ds : List D}, EncL g F vs ds → EncL g F (vs.set n v) (ds.set n d)
  | _, _, _, .nil => .nil
  | 0, _, _, .cons _ k => .cons h k
  | n + 1, _, _, .cons q k => .cons q (EncL.set h n k)
theorem EncL.reverse {g : Gm} {F : Hp} : ∀ {vs : List V} {ds : List D}, EncL g F vs ds → EncL g F vs.reverse ds.reverse
  | _, _, .nil => .nil
  | _, _, .cons h k => by
    rw [List.reverse_cons, List.reverse_cons]
    exact (EncL.reverse k).app (.cons h .nil)
/-- a scalar: it stands in any view -/
def sc : D → Bool
  | .none | .bool _ | .int _ | .str _ => true
  | _ => false
theorem Enc.scal {g : Gm} {F F' : Hp} {v : V} {d : D} (h : Enc g F v d) (s : sc d = true) : Enc g F' v d := by
  cases h with
  | non => exact .non
  | bl b => exact .bl b
  | int i => exact .int i
  | str x => exact .str x
  | lst _ _ => cases s
  | tup _ _ => cases s
  | dct _ => cases s
theorem EncL.scal {g : Gm} {F F' : Hp} : ∀ {vs : List V} {ds : List D}, EncL g F vs ds → ds.all sc = true → EncL g F' vs ds
  | _, _, .nil, _ => .nil
  | _, _, .cons h k, q => by
    rw [List.all_cons] at q
    have q2 := Bool.and_eq_true_iff.mp q
    exact .cons (h.scal q2.1) (EncL.scal k q2.2)
/-- the shape: a datum, or a list of one's own of things of a shape -/
inductive Sh where
  | d
  | l (s : Sh)
  /-- a dict of one's own with whole numbers and texts for keys -/
  | k
  /-- a set of one's own of tuples -/
  | s
  /-- an instance of one's own, of a class without slots; its fields -/
  | o (c : Str) (s : Sh)
  /-- one of them, and the others -/
  | f (n : Str) (s r : Sh)
  /-- a list of one's own whose j-th item stands at a -/
  | p (j : Nat) (a : Addr) (s : Sh)
/-- what may be changed: a list, a dict, another thing -/
inductive MO where
  | l (vs : List V)
  | k (ps : List (Key × V))
  | e (w : World) (q : Bool) (a : Addr) (L : List (Addr × NestedKey))
  | i (C dx : Addr) (fs : List (Str × V))
def mo : MO → HO
  | .l vs => .lst vs
  | .k ps => .dK ps
  | .e w q a L => SetN w q a L
  | .i C dx fs => .ins C dx fs
/-- a datum of a shape, perhaps at a known address -/
structure OD where
  s : Sh
  x : D
  o : Option Addr := none
mutual
inductive Own (g : Gm) (F H : Hp) : V → OD → List Addr → Prop
  | d {v : V} {x : D} {o : Option Addr} : Enc g F v x → Own g F H v ⟨.d, x, o⟩ []
  /-- no list, but a scalar -/
  | z {v : V} {s : Sh} {x : D} : sc x = true → Enc g F v x → Own g F H v ⟨.l s, x, none⟩ []
  | l {a : Addr} {vs : List V} {s : Sh} {xs : List D} {o : Option Addr} {fp : List Addr} : (∀ c, o = some c → c = a) → H a = some (.lst vs) → OwnL g F H s vs xs fp → Own g F H (.ref a) ⟨.l s, .list xs, o⟩ (a :: fp)
  | zk {v : V} {x : D} : sc x = true → Enc g F v x → Own g F H v ⟨.k, x, none⟩ []
  | k {a : Addr} {ps : List (Key × V)} {kvs : List (D × D)} {o : Option Addr} : (∀ c, o = some c → c = a) → H a = some (.dK ps) → EncP g F ps kvs → Own g F H (.ref a) ⟨.k, .dict kvs, o⟩ [a]
  | zs {v : V} {x : D} : sc x = true → Enc g F v x → Own g F H v ⟨.s, x, none⟩ []
  | s {q : Bool} {a : Addr} {L : List (Addr × NestedKey)} {ds : List D} {o : Option Addr} : (∀ c, o = some c → c = a) → H a = some (SetN g.w q a L) → EncL g F (L.map fun p => V.ref p.1) ds → ds.map nkT = L.map (fun p => some p.2) → Own g F H (.ref a) ⟨.s, .dict [(.bool q, .tuple ds)], o⟩ [a]
  | zo {v : V} {c : Str} {s : Sh} {x : D} : sc x = true → Enc g F v x → Own g F H v ⟨.o c s, x, none⟩ []
  | zf {v : V} {n : Str} {s r : Sh} {x : D} : sc x = true → Enc g F v x → Own g F H v ⟨.f n s r, x, none⟩ []
  | zp {v : V} {j : Nat} {a : Addr} {s : Sh} {x : D} : sc x = true → Enc g F v x → Own g F H v ⟨.p j a s, x, none⟩ []
  | p {a b : Addr} {vs : List V} {j : Nat} {s : Sh} {xs : List D} {o : Option Addr} {fp : List Addr} : (∀ c, o = some c → c = a) → H a = some (.lst vs) → vs[j]? = some (.ref b) → OwnL g F H s vs xs fp → Own g F H (.ref a) ⟨.p j b s, .list xs, o⟩ (a :: fp)
  | o {a dx : Addr} {c : Str} {i : CI} {ns : List Str} {vs : List V} {s : Sh} {kvs : List (D × D)} {o : Option Addr} {fp : List Addr} : (∀ q, o = some q → q = a) → g.ci c = some i → i.k = .dict → H a = some (.ins i.C dx (ns.zip vs)) → F dx = some (.own a) → (∀ f ∈ ns, f ∈ i.fs) → OwnF g F H s ns vs kvs fp → Own g F H (.ref a) ⟨.o c s, .dict ((.none, .str c) :: kvs), o⟩ (a :: fp)
inductive OwnL (g : Gm) (F H : Hp) : Sh → List V → List D → List Addr → Prop
  | nil {s : Sh} : OwnL g F H s [] [] []
  | cons {s : Sh} {v : V} {vs : List V} {x : D} {xs : List D} {fp fq : List Addr} : Own g F H v ⟨s, x, none⟩ fp → OwnL g F H s vs xs fq → OwnL g F H s (v :: vs) (x :: xs) (fp ++ fq)
inductive OwnF (g : Gm) (F H : Hp) : Sh → List Str → List V → List (D × D) → List Addr → Prop
  | nil : OwnF g F H .d [] [] [] []
  | cons {s r : Sh} {n : Str} {ns : List Str} {v : V} {vs : List V} {x : D} {kvs : List (D × D)} {fp fq : List Addr} : Own g F H v ⟨s, x, none⟩ fp → OwnF g F H r ns vs kvs fq → OwnF g F H (.f n s r) (n :: ns) (v :: vs) ((.str n, x) :: kvs) (fp ++ fq)
end
mutual
theorem Own.keep {g : Gm} {F F' H H' : Hp} (s : Sub F F') : ∀ {v : V} {x : OD} {fp : List Addr}, Own g F H v x fp → (∀ c ∈ fp, H' c = H c) → Own g F' H' v x fp
  | _, _, _, .d e, _ => .d (e.mono s)
  | _, _, _, .z q e, _ => .z q (e.mono s)
  | _, _, _, .l o h k, e => .l o (by rw [e _ List.mem_cons_self]; exact h) (OwnL.keep s k fun c hc => e c (List.mem_cons_of_mem _ hc))
  | _, _, _, .zk q e, _ => .zk q (e.mono s)
  | _, _, _, .k o h k, e => .k o (by rw [e _ List.mem_cons_self]; exact h) (k.mono s)
  | _, _, _, .zs q e, _ => .zs q (e.mono s)
  | _, _, _, .s o h k q, e => .s o (by rw [e _ List.mem_cons_self]; exact h) (k.mono s) q
  | _, _, _, .zo q e, _ => .zo q (e.mono s)
  | _, _, _, .zf q e, _ => .zf q (e.mono s)
  | _, _, _, .zp q e, _ => .zp q (e.mono s)
  | _, _, _, .p o h hj k, e => .p o (by rw [e _ List.mem_cons_self]; exact h) hj (OwnL.keep s k fun c hc => e c (List.mem_cons_of_mem _ hc))
  | _, _, _, .o o hi hk h hd hn k, e => .o o hi hk (by rw [e _ List.mem_cons_self]; exact h) (s _ _ hd) hn (OwnF.keep s k fun c hc => e c (List.mem_cons_of_mem _ hc))
theorem OwnL.keep {g : Gm} {F F' H H' : Hp} (s : Sub F F') : ∀ {t : Sh} {vs : List V} {xs : List D} {fp : List Addr}, OwnL g F H t vs xs fp → (∀ c ∈ fp, H' c = H c) → OwnL g F' H' t vs xs fp
  | _, _, _, _, .nil, _ => .nil
  | _, _, _, _, .cons h k, e => .cons (Own.keep s h fun c hc => e c (List.mem_append_left _ hc)) (OwnL.keep s k fun c hc => e c (List.mem_append_right _ hc))
theorem OwnF.keep {g : Gm} {F F' H H' : Hp} (s : Sub F F') : ∀ {t : Sh} {ns : List Str} {vs : List V} {xs : List (D × D)} {fp : List Addr}, OwnF g F H t ns vs xs fp → (∀ c ∈ fp, H' c = H c) → OwnF g F' H' t ns vs xs fp
  | _, _, _, _, _, .nil, _ => .nil
  | _, _, _, _, _, .cons h k, e => .cons (Own.keep s h fun c hc => e c (List.mem_append_left _ hc)) (OwnF.keep s k fun c hc => e c (List.mem_append_right _ hc))
end
mutual
/-- what stands at the addresses may be changed; an instance's own dict stands in the view -/
theorem Own.lst2 {g : Gm} {F H : Hp} : ∀ {v : V} {x : OD} {fp : List Addr}, Own g F H v x fp → ∀ c ∈ fp, ∃ vs, H c = some (mo vs) ∧ ∀ C d fs, vs = .i C d fs → F d ≠ none
  | _, _, _, .d _, c, hc => nomatch hc
  | _, _, _, .z _ _, c, hc => nomatch hc
  | _, _, _, .l _ h k, c, hc => by
    rcases List.mem_cons.mp hc with e | e
    · rw [e]
      exact ⟨.l _, h, fun _ _ _ z => nomatch z⟩
    · exact OwnL.lst2 k c e
  | _, _, _, .zk _ _, c, hc => nomatch hc
  | _, _, _, .k _ h _, c, hc => by
    rw [List.mem_singleton.mp hc]
    exact ⟨.k _, h, fun _ _ _ z => nomatch z⟩
  | _, _, _, .zs _ _, c, hc => nomatch hc
  | _, _, _, .s _ h _ _, c, hc => by
    rw [List.mem_singleton.mp hc]
    exact ⟨.e _ _ _ _, h, fun _ _ _ z => nomatch z⟩
  | _, _, _, .zo _ _, c, hc => nomatch hc
  | _, _, _, .zf _ _, c, hc => nomatch hc
  | _, _, _, .zp _ _, c, hc => nomatch hc
  | _, _, _, .p _ h _ k, c, hc => by
    rcases List.mem_cons.mp hc with e | e
    · rw [e]
      exact ⟨.l _, h, fun _ _ _ z => nomatch z⟩
    · exact OwnL.lst2 k c e
  | _, _, _, .o _ _ _ h hd _ k, c, hc => by
    rcases List.mem_cons.mp hc with e | e
    · rw [e]
      refine ⟨.i _ _ _, h, fun C d fs z => ?_⟩
      cases z
      rw [hd]
      exact fun z => nomatch z
    · exact OwnF.lst2 k c e
theorem OwnL.lst2 {g : Gm} {F H : Hp} : ∀ {t : Sh} {vs : List V} {xs : List D} {fp : List Addr}, OwnL g F H t vs xs fp → ∀ c ∈ fp, ∃ vs, H c = some (mo vs) ∧ ∀ C d fs, vs = .i C d fs → F d ≠ none
  | _, _, _, _, .nil, c, hc => nomatch hc
  | _, _, _, _, .cons h k, c, hc => by
    rcases List.mem_append.mp hc with e | e
    · exact Own.lst2 h c e
    · exact OwnL.lst2 k c e
theorem OwnF.lst2 {g : Gm} {F H : Hp} : ∀ {t : Sh} {ns : List Str} {vs : List V} {xs : List (D × D)} {fp : List Addr}, OwnF g F H t ns vs xs fp → ∀ c ∈ fp, ∃ vs, H c = some (mo vs) ∧ ∀ C d fs, vs = .i C d fs → F d ≠ none
  | _, _, _, _, _, .nil, c, hc => nomatch hc
  | _, _, _, _, _, .cons h k, c, hc => by
    rcases List.mem_append.mp hc with e | e
    · exact Own.lst2 h c e
    · exact OwnF.lst2 k c e
end
theorem Own.lst {g : Gm} {F H : Hp} {v : V} {x : OD} {fp : List Addr} (h : Own g F H v x fp) (c : Addr) (hc : c ∈ fp) : ∃ vs, H c = some (mo vs) := let ⟨vs, e, _⟩ := h.lst2 c hc; ⟨vs, e⟩
theorem OwnL.lst {g : Gm} {F H : Hp} {t : Sh} {vs : List V} {xs : List D} {fp : List Addr} (h : OwnL g F H t vs xs fp) (c : Addr) (hc : c ∈ fp) : ∃ vs, H c = some (mo vs) := let ⟨vs, e, _⟩ := h.lst2 c hc; ⟨vs, e⟩
/-- the fields' names, by the shape -/
def fnSh : Sh → List Str
  | .f n _ r => n :: fnSh r
  | _ => []
theorem OwnF.ns {g : Gm} {F H : Hp} : ∀ {t : Sh} {ns : List Str} {vs : List V} {xs : List (D × D)} {fp : List Addr}, OwnF g F H t ns vs xs fp → ns = fnSh t ∧ ns.length = vs.length
  | _, _, _, _, _, .nil => ⟨rfl, rfl⟩
  | _, _, _, _, _, .cons _ k => ⟨by rw [(OwnF.ns k).1]; rfl, congrArg (· + 1) (OwnF.ns k).2⟩
mutual
/-- the addresses are those that the heap tells -/
theorem Own.uniq {g : Gm} {F F' H H' : Hp} : ∀ {v : V} {x : OD} {fp fq : List Addr}, Own g F H v x fp → Own g F' H' v x fq → (∀ c ∈ fp, H' c = H c) → fp = fq
  | _, _, _, _, .d _, .d _, _ => rfl
  | _, _, _, _, .z _ _, .z _ _, _ => rfl
  | _, _, _, _, .z q _, .l _ _ _, _ => by cases q
  | _, _, _, _, .l _ _ _, .z q _, _ => by cases q
  | _, _, _, _, .l _ h k, .l _ h2 k2, e => by
    have e0 := e _ List.mem_cons_self
    rw [h2, h] at e0
    cases e0
    rw [OwnL.uniq k k2 fun c hc => e c (List.mem_cons_of_mem _ hc)]
  | _, _, _, _, .k _ _ _, .k _ _ _, _ => rfl
  | _, _, _, _, .zk _ _, .zk _ _, _ => rfl
  | _, _, _, _, .zk q _, .k _ _ _, _ => by cases q
  | _, _, _, _, .k _ _ _, .zk q _, _ => by cases q
  | _, _, _, _, .s _ _ _ _, .s _ _ _ _, _ => rfl
  | _, _, _, _, .zs _ _, .zs _ _, _ => rfl
  | _, _, _, _, .zs q _, .s _ _ _ _, _ => by cases q
  | _, _, _, _, .s _ _ _ _, .zs q _, _ => by cases q
  | _, _, _, _, .zo _ _, .zo _ _, _ => rfl
  | _, _, _, _, .zf _ _, .zf _ _, _ => rfl
  | _, _, _, _, .zp _ _, .zp _ _, _ => rfl
  | _, _, _, _, .zp q _, .p _ _ _ _, _ => by cases q
  | _, _, _, _, .p _ _ _ _, .zp q _, _ => by cases q
  | _, _, _, _, .p _ h _ k, .p _ h2 _ k2, e => by
    have e0 := e _ List.mem_cons_self
    rw [h2, h] at e0
    cases e0
    rw [OwnL.uniq k k2 fun c hc => e c (List.mem_cons_of_mem _ hc)]
  | _, _, _, _, .zo q _, .o _ _ _ _ _ _ _, _ => by cases q
  | _, _, _, _, .o _ _ _ _ _ _ _, .zo q _, _ => by cases q
  | _, _, _, _, .o _ _ _ h _ _ k, .o _ _ _ h2 _ _ k2, e => by
    have e0 := e _ List.mem_cons_self
    rw [h2, h] at e0
    injection e0 with e0
    injection e0 with _ _ e0
    obtain ⟨e1, l1⟩ := k.ns
    obtain ⟨e2, l2⟩ := k2.ns
    have e3 := e1.trans e2.symm
    rw [← e3] at e0 k2
    have e4 : _ = _ := (congrArg (List.map Prod.snd) e0)
    rw [List.map_snd_zip (by rw [e3]; omega), List.map_snd_zip (by omega)] at e4
    rw [e4] at k2
    rw [OwnF.uniq k k2 fun c hc => e c (List.mem_cons_of_mem _ hc)]
theorem OwnL.uniq {g : Gm} {F F' H H' : Hp} : ∀ {t : Sh} {vs : List V} {xs : List D} {fp fq : List Addr}, OwnL g F H t vs xs fp → OwnL g F' H' t vs xs fq → (∀ c ∈ fp, H' c = H c) → fp = fq
  | _, _, _, _, _, .nil, .nil, _ => rfl
  | _, _, _, _, _, .cons h k, .cons h2 k2, e => by
    rw [Own.uniq h h2 fun c hc => e c (List.mem_append_left _ hc), OwnL.uniq k k2 fun c hc => e c (List.mem_append_right _ hc)]
theorem OwnF.uniq {g : Gm} {F F' H H' : Hp} : ∀ {t : Sh} {ns : List Str} {vs : List V} {xs : List (D × D)} {fp fq : List Addr}, OwnF g F H t ns vs xs fp → OwnF g F' H' t ns vs xs fq → (∀ c ∈ fp, H' c = H c) → fp = fq
  | _, _, _, _, _, _, .nil, .nil, _ => rfl
  | _, _, _, _, _, _, .cons h k, .cons h2 k2, e => by
    rw [Own.uniq h h2 fun c hc => e c (List.mem_append_left _ hc), OwnF.uniq k k2 fun c hc => e c (List.mem_append_right _ hc)]
end
structure Grow (F H F' H' : Hp) : Prop where
  ff : Sub F F'
  fh : Sub F' H'
  hh : Sub H H'
  new : ∀ a, H a ≠ none → F a = none → F' a = none
theorem Grow.refl {F H : Hp} (h : Sub F H) : Grow F H F H := ⟨Sub.refl _, h, Sub.refl _, fun _ _ z => z⟩
theorem Grow.trans {F H F1 H1 F2 H2 : Hp} (a : Grow F H F1 H1) (b : Grow F1 H1 F2 H2) : Grow F H F2 H2 :=
  ⟨a.ff.trans b.ff, b.fh, a.hh.trans b.hh, fun c h1 h2 => b.new c (fun z => h1 (a.hh.free z)) (a.new c h1 h2)⟩
theorem Grow.same {g : Gm} {F H F' H' : Hp} (gr : Grow F H F' H') {v : V} {x : OD} {fp : List Addr} (h : Own g F H v x fp) : ∀ c ∈ fp, H' c = H c := fun c hc => by
  obtain ⟨vs, e⟩ := h.lst c hc
  rw [e]
  exact gr.hh _ _ e
theorem Grow.alloc {F H : Hp} {p : Addr} {o : HO} (h : Sub F H) (hp : H p = none) : Grow F H (upd F p o) (upd H p o) :=
  ⟨Sub.new (h.free hp), fun b u e => by
    by_cases q : b = p
    · subst q
      rw [upd_same] at e ⊢
      exact e
    · rw [upd_ne q] at e ⊢
      exact h _ _ e, Sub.new hp, fun a h1 h2 => by
    have q : a ≠ p := fun z => h1 (by rw [z]; exact hp)
    rw [upd_ne q]
    exact h2⟩
/-- what a slot holds: a datum of the view, or a list of one's own that is still changed -/
inductive Bnd where
  | v (d : D)
  | l (xs : List D)
  /-- an instance that is being made -/
  | o (a : Addr) (c : Str) (kvs : List (D × D))
  /-- the exception that a suite holds -/
  | x (a : Addr)
  /-- lists of one's own within lists of one's own -/
  | m (x : OD)
abbrev Ctx := List (Option Bnd)
inductive Le : Ctx → Ctx → Prop
  | nil {Γ : Ctx} : Le [] Γ
  | none {o : Option Bnd} {Γ Δ : Ctx} : Le Γ Δ → Le (Option.none :: Γ) (o :: Δ)
  | same {b : Bnd} {Γ Δ : Ctx} : Le Γ Δ → Le (some b :: Γ) (some b :: Δ)
theorem Le.refl : ∀ (Γ : Ctx), Le Γ Γ
  | [] => .nil
  | Option.none :: Γ => .none (Le.refl Γ)
  | some _ :: Γ => .same (Le.refl Γ)
theorem Le.at_ : ∀ {Γ Δ : Ctx} {i : Nat} {b : Bnd}, Le Γ Δ → Γ[i]? = some (some b) → Δ[i]? = some (some b)
  | _, _, i, b, .nil, e => by simp at e
  | _, _, 0, b, .none _, e => by simp at e
  | _, _, i + 1, b, .none h, e => by simpa using Le.at_ (i := i) h (by simpa using e)
  | _, _, 0, b, .same _, e => by simpa using e
  | _, _, i + 1, b, .same h, e => by simpa using Le.at_ (i := i) h (by simpa using e)
theorem Le.trans {Γ Δ Θ : Ctx} (a : Le Γ Δ) : Le Δ Θ → Le Γ Θ := by
  intro b
  induction a generalizing Θ with
  | nil => exact .nil
  | none _ ih =>
    cases b with
    | none q => exact .none (ih q)
    | same q => exact .none (ih q)
  | same _ ih =>
    cases b with
    | same q => exact .same (ih q)
theorem Le.setr : ∀ {Γ Δ : Ctx} {i : Nat} {b : Option Bnd}, Le Γ Δ → (Γ[i]?).join = Option.none → Le Γ (Δ.set i b)
  | _, _, _, _, .nil, _ => .nil
  | _, _, 0, _, .none h, _ => .none h
  | _, _, i + 1, _, .none h, e => .none (Le.setr h (by simpa using e))
  | _, _, 0, _, .same h, e => by simp at e
  | _, _, i + 1, _, .same h, e => .same (Le.setr h (by simpa using e))
/-- what stays the same through a block: the view and the heap at its beginning, what a raised exception keeps, and what is wanted of it -/
structure Bs where
  F0 : Hp
  H0 : Hp
  cx : Ctx
  W : WX
  /-- what is wanted of a returned value, in its view and heap -/
  rk : Hp → Hp → V → D → Prop
theorem ObjAt.there {i : CI} {H : Hp} {a dx : Addr} {ns : List Str} {vs : List V} (h : ObjAt i H a dx ns vs) : H a ≠ none ∧ H dx ≠ none := by
  rcases h with ⟨_, _, _, ⟨_, h5, h6⟩ | ⟨_, _, h5, h6⟩⟩ | ⟨_, _, h5, h6, _⟩ <;> exact ⟨by rw [h5]; simp, by rw [h6]; simp⟩
/-- what stands there is no list -/
theorem ObjAt.noL {i : CI} {H : Hp} {a dx c : Addr} {ns : List Str} {vs xs : List V} (h : ObjAt i H a dx ns vs) (hc : H c = some (.lst xs)) : c ≠ a ∧ c ≠ dx := by
  rcases h with ⟨_, _, _, ⟨_, h5, h6⟩ | ⟨_, _, h5, h6⟩⟩ | ⟨_, _, h5, h6, _⟩ <;> refine ⟨fun z => ?_, fun z => ?_⟩ <;> rw [z] at hc
  all_goals first | (rw [h5] at hc; unfold SlX.SlO at hc; cases hc) | (rw [h5] at hc; cases hc) | (rw [h6] at hc; cases hc)
theorem relV_some (v : V) : ∃ u, RelV v u := by
  cases v with
  | non => exact ⟨_, rfl⟩
  | bl b => exact ⟨_, rfl⟩
  | int i => exact ⟨.int i default, _, rfl⟩
  | str x => exact ⟨.str x default, _, rfl⟩
  | byt x => exact ⟨.bytes x default, _, rfl⟩
  | flt x => exact ⟨.float x default, _, rfl⟩
  | ref a => exact ⟨_, rfl⟩
  | ty n => exact ⟨_, rfl⟩
/-- an instance with slots is no set -/
theorem slO_ne {a C dx b : Addr} {vs : List (Option V)} {w : World} {q : Bool} {L : List (Addr × NestedKey)} : SlX.SlO a C dx vs ≠ SetN w q b L := fun e => by
  unfold SlX.SlO SetN at e
  injection e with e
  obtain ⟨f, hf⟩ : ∃ f : V → Value, ∀ v, RelV v (f v) := ⟨fun v => Classical.choose (relV_some v), fun v => Classical.choose_spec (relV_some v)⟩
  obtain ⟨ob, hob⟩ : ∃ ob : Obj, ob = { PySem.W.instObj C dx with slots := (vs.map fun o => o.map f).toArray } := ⟨_, rfl⟩
  obtain ⟨h, hh⟩ : ∃ h : Heap, h = { objs := Array.replicate (a + 1) ob } := ⟨_, rfl⟩
  have at_ : ∀ c o, h.get? c = some o → o = ob := fun c o q => by
    rw [hh] at q
    unfold Heap.get? at q
    by_cases z : c < a + 1
    · rw [show (Array.replicate (a + 1) ob)[c]? = some ob by simp [z], hob] at q
      rw [hob]
      exact (Option.some.inj q).symm
    · rw [show (Array.replicate (a + 1) ob)[c]? = none by rw [Array.getElem?_replicate, if_neg z]] at q
      cases q
  have here : h.get? a = some ob := by
    rw [hh]
    unfold Heap.get?
    rw [show (Array.replicate (a + 1) ob)[a]? = some ob by simp, hob]
  have p1 : ∃ sl : Array (Option Value), h.get? a = some { PySem.W.instObj C dx with slots := sl } ∧ SlX.SlR vs sl := ⟨_, by rw [here, hob], fun i v q => ⟨f v, by simp [q], hf v⟩⟩
  have p2 := (congrFun e h).mp p1
  obtain ⟨o, q1, q2⟩ := SetN.is p2
  have := at_ _ o q1
  rw [this, hob] at q2
  exact q2.elim (fun z => nomatch z) fun z => nomatch z
theorem ObjAt.noM {i : CI} {H : Hp} {a dx c : Addr} {ns : List Str} {vs : List V} {xs : MO} (h : ObjAt i H a dx ns vs) (hc : H c = some (mo xs)) (hx : ∀ C d fs, xs = .i C d fs → d ≠ dx) : c ≠ a ∧ c ≠ dx := by
  cases xs with
  | l xs => exact h.noL hc
  | k xs =>
    have hc : H c = some (.dK xs) := hc
    rcases h with ⟨_, _, _, ⟨_, h5, h6⟩ | ⟨_, _, h5, h6⟩⟩ | ⟨_, _, h5, h6, _⟩ <;> refine ⟨fun z => ?_, fun z => ?_⟩ <;> rw [z] at hc
    all_goals first | (rw [h5] at hc; unfold SlX.SlO at hc; cases hc) | (rw [h5] at hc; cases hc) | (rw [h6] at hc; cases hc)
  | e w q b L =>
    have hc : H c = some (SetN w q b L) := hc
    rcases h with ⟨_, _, _, ⟨_, h5, h6⟩ | ⟨_, _, h5, h6⟩⟩ | ⟨_, _, h5, h6, _⟩ <;> refine ⟨fun z => ?_, fun z => ?_⟩ <;> rw [z] at hc
    all_goals first | (rw [h5] at hc; exact slO_ne (Option.some.inj hc)) | (rw [h5] at hc; unfold SetN at hc; cases hc) | (rw [h6] at hc; unfold SetN at hc; cases hc)
  | i C d fs =>
    have hc : H c = some (.ins C d fs) := hc
    have nd := hx C d fs rfl
    rcases h with ⟨_, _, _, ⟨_, h5, h6⟩ | ⟨_, _, h5, h6⟩⟩ | ⟨_, _, h5, h6, _⟩ <;> refine ⟨fun z => ?_, fun z => ?_⟩ <;> rw [z] at hc
    all_goals first | (rw [h6] at hc; cases hc; done) | (rw [h5] at hc; unfold SlX.SlO at hc; cases hc; done) | (rw [h5] at hc; cases hc; exact nd rfl)
/-- .. seen from a view that has not its own dict -/
theorem ObjAt.noO {i : CI} {g : Gm} {F H : Hp} {a dx : Addr} {ns : List Str} {vs : List V} (h : ObjAt i H a dx ns vs) (hd : F dx = none) {v : V} {x : OD} {fp : List Addr} (ho : Own g F H v x fp) (c : Addr) (hc : c ∈ fp) : c ≠ a ∧ c ≠ dx := by
  obtain ⟨us, e, q⟩ := ho.lst2 c hc
  exact h.noM e fun C d fs z w => q C d fs z (w ▸ hd)
theorem ObjAt.congr {i : CI} {H H' : Hp} {a dx : Addr} {ns : List Str} {vs : List V} (h : ObjAt i H a dx ns vs) (h1 : H' a = H a) (h2 : H' dx = H dx) : ObjAt i H' a dx ns vs := by
  unfold ObjAt
  rw [h1, h2]
  exact h
def BOk (g : Gm) (H0 F H : Hp) : Option V → Bnd → Prop
  | some v, .v d => Enc g F v d
  | some (.ref a), .l xs => F a = none ∧ H0 a = none ∧ ∃ vs, H a = some (.lst vs) ∧ EncL g F vs xs
  | some (.ref a), .o a0 c kvs => a = a0 ∧ ∃ (i : CI) (dx : Addr) (ns : List Str) (vs : List V), g.ci c = some i ∧ F a = none ∧ F dx = none ∧ H0 a = none ∧ H0 dx = none ∧ dx ≠ a ∧ EncF g F ns vs kvs ∧ ObjAt i H a dx ns vs
  | some (.ref a), .x a0 => a = a0
  | some v, .m x => ∃ fp, Own g F H v x fp ∧ fp.Nodup ∧ ∀ c ∈ fp, F c = none ∧ H0 c = none
  | _, _ => False
structure Rf (g : Gm) (b : Bs) (Γ : Ctx) (F : Hp) (σ : L2.St) (H : Hp) : Prop where
  gr : Grow b.F0 b.H0 F H
  le : Le b.cx Γ
  at_ : ∀ (i : Nat) (bd : Bnd), Γ[i]? = some (some bd) → ∃ ov, σ[i]? = some ov ∧ BOk g b.H0 F H ov bd
  sep : ∀ (i j : Nat) (a : Addr) (xs ys : List D), Γ[i]? = some (some (.l xs)) → Γ[j]? = some (some (.l ys)) → σ[i]? = some (some (.ref a)) → σ[j]? = some (some (.ref a)) → i = j
  sepm : ∀ (i j : Nat) (x : OD) (v : V) (fp : List Addr), i ≠ j → Γ[i]? = some (some (.m x)) → σ[i]? = some (some v) → Own g F H v x fp → ∀ c ∈ fp, (∀ xs, Γ[j]? = some (some (.l xs)) → σ[j]? ≠ some (some (.ref c))) ∧ ∀ y w fq, Γ[j]? = some (some (.m y)) → σ[j]? = some (some w) → Own g F H w y fq → c ∉ fq
section
variable {g : Gm} {b : Bs} {Γ Δ : Ctx} {F F' H H' : Hp} {σ : L2.St}
theorem BOk.grow {ov : Option V} {bd : Bnd} (h : BOk g b.H0 F H ov bd) (gr : Grow F H F' H') : BOk g b.H0 F' H' ov bd := by
  cases ov with
  | none => exact h
  | some v =>
    cases bd with
    | v d => exact Enc.mono gr.ff h
    | l xs =>
      cases v with
      | ref a =>
        obtain ⟨h1, h2, vs, h3, h4⟩ := h
        exact ⟨gr.new a (by rw [h3]; simp) h1, h2, vs, gr.hh _ _ h3, EncL.mono gr.ff h4⟩
      | _ => exact h
    | o a0 c kvs =>
      cases v with
      | ref a =>
        obtain ⟨h0, i, dx, ns, vs, h1, h2, h3, h4, h5, h6, h7, h8⟩ := h
        obtain ⟨n1, n2⟩ := h8.there
        exact ⟨h0, i, dx, ns, vs, h1, gr.new a n1 h2, gr.new dx n2 h3, h4, h5, h6, EncF.mono gr.ff h7, gr.hh.objAt h8⟩
      | _ => exact h
    | x a0 => cases v <;> exact h
    | m x =>
      obtain ⟨fp, h1, h2, h3⟩ := (show ∃ fp, Own g F H v x fp ∧ fp.Nodup ∧ ∀ c ∈ fp, F c = none ∧ b.H0 c = none by cases v <;> exact h)
      have r : ∃ fp, Own g F' H' v x fp ∧ fp.Nodup ∧ ∀ c ∈ fp, F' c = none ∧ b.H0 c = none := ⟨fp, h1.keep gr.ff fun c hc => (gr.same h1 c hc), h2, fun c hc => ⟨gr.new c (by obtain ⟨vs, e⟩ := h1.lst c hc; rw [e]; simp) (h3 c hc).1, (h3 c hc).2⟩⟩
      cases v <;> exact r
theorem BOk.mOf {v : V} {x : OD} (h : BOk g b.H0 F H (some v) (.m x)) : ∃ fp, Own g F H v x fp ∧ fp.Nodup ∧ ∀ c ∈ fp, F c = none ∧ b.H0 c = none := by cases v <;> exact h
theorem BOk.toM {v : V} {x : OD} (h : ∃ fp, Own g F H v x fp ∧ fp.Nodup ∧ ∀ c ∈ fp, F c = none ∧ b.H0 c = none) : BOk g b.H0 F H (some v) (.m x) := by cases v <;> exact h
/-- what a slot of one's own holds in a heap, seen from a heap that has it alike -/
theorem Rf.ownM (r : Rf g b Γ F σ H) {i : Nat} {x : OD} {v : V} (h : Γ[i]? = some (some (.m x))) (hs : σ[i]? = some (some v)) : ∃ fp, Own g F H v x fp ∧ fp.Nodup ∧ ∀ c ∈ fp, F c = none ∧ b.H0 c = none := by
  obtain ⟨ov, h1, h2⟩ := r.at_ i _ h
  rw [hs] at h1
  cases h1
  exact h2.mOf
/-- the separation in another view and heap, alike at what is one's own -/
theorem Rf.sepm' (r : Rf g b Γ F σ H) {F' H' : Hp} (e : ∀ (i : Nat) (x : OD) (v : V) (fp : List Addr), Γ[i]? = some (some (.m x)) → σ[i]? = some (some v) → Own g F H v x fp → ∀ c ∈ fp, H' c = H c) :
    ∀ (i j : Nat) (x : OD) (v : V) (fp : List Addr), i ≠ j → Γ[i]? = some (some (.m x)) → σ[i]? = some (some v) → Own g F' H' v x fp → ∀ c ∈ fp, (∀ xs, Γ[j]? = some (some (.l xs)) → σ[j]? ≠ some (some (.ref c))) ∧ ∀ y w fq, Γ[j]? = some (some (.m y)) → σ[j]? = some (some w) → Own g F' H' w y fq → c ∉ fq := fun i j x v fp ne h1 h2 h3 c hc => by
  obtain ⟨fp0, k1, _, _⟩ := r.ownM h1 h2
  have e1 := k1.uniq h3 (e i x v fp0 h1 h2 k1)
  subst e1
  obtain ⟨q1, q2⟩ := r.sepm i j x v _ ne h1 h2 k1 c hc
  refine ⟨q1, fun y w fq z1 z2 z3 => ?_⟩
  obtain ⟨fq0, k2, _, _⟩ := r.ownM z1 z2
  have e2 := k2.uniq z3 (e j y w fq0 z1 z2 k2)
  subst e2
  exact q2 y w _ z1 z2 k2
theorem Rf.sepm_sub (r : Rf g b Γ F σ H) {Γ' : Ctx} {σ' : L2.St} {F' H' : Hp} (hm : ∀ (j : Nat) (x : OD), Γ'[j]? = some (some (.m x)) → Γ[j]? = some (some (.m x)) ∧ σ'[j]? = σ[j]?) (hl : ∀ (j : Nat) (xs : List D), Γ'[j]? = some (some (.l xs)) → ∃ ys, Γ[j]? = some (some (.l ys)) ∧ σ'[j]? = σ[j]?)
    (e : ∀ (i : Nat) (x : OD) (v : V) (fp : List Addr), Γ[i]? = some (some (.m x)) → σ[i]? = some (some v) → Own g F H v x fp → ∀ c ∈ fp, H' c = H c) :
    ∀ (i j : Nat) (x : OD) (v : V) (fp : List Addr), i ≠ j → Γ'[i]? = some (some (.m x)) → σ'[i]? = some (some v) → Own g F' H' v x fp → ∀ c ∈ fp, (∀ xs, Γ'[j]? = some (some (.l xs)) → σ'[j]? ≠ some (some (.ref c))) ∧ ∀ y w fq, Γ'[j]? = some (some (.m y)) → σ'[j]? = some (some w) → Own g F' H' w y fq → c ∉ fq := fun i j x v fp ne h1 h2 h3 c hc => by
  obtain ⟨a1, a2⟩ := hm i x h1
  obtain ⟨q1, q2⟩ := r.sepm' e i j x v fp ne a1 (a2 ▸ h2) h3 c hc
  refine ⟨fun xs z => ?_, fun y w fq z1 z2 z3 => ?_⟩
  · obtain ⟨ys, b1, b2⟩ := hl j xs z
    rw [b2]
    exact q1 ys b1
  · obtain ⟨b1, b2⟩ := hm j y z1
    exact q2 y w fq b1 (b2 ▸ z2) z3
theorem Rf.grow (r : Rf g b Γ F σ H) (gr : Grow F H F' H') : Rf g b Γ F' σ H' :=
  ⟨r.gr.trans gr, r.le, fun i bd e => let ⟨ov, h1, h2⟩ := r.at_ i bd e; ⟨ov, h1, h2.grow gr⟩, r.sep, r.sepm' fun i x v fp _ _ h => gr.same h⟩
theorem Rf.weak (r : Rf g b Γ F σ H) (l : Le Δ Γ) (le : Le b.cx Δ) : Rf g b Δ F σ H :=
  ⟨r.gr, le, fun i bd e => r.at_ i bd (l.at_ e), fun i j a xs ys h1 h2 => r.sep i j a xs ys (l.at_ h1) (l.at_ h2), fun i j x v fp ne h1 h2 h3 c hc => let ⟨q1, q2⟩ := r.sepm i j x v fp ne (l.at_ h1) h2 h3 c hc; ⟨fun xs z => q1 xs (l.at_ z), fun y w fq z => q2 y w fq (l.at_ z)⟩⟩
theorem Rf.cx (r : Rf g b Γ F σ H) : Rf g b b.cx F σ H := r.weak r.le (Le.refl _)
theorem Rf.val (r : Rf g b Γ F σ H) {i : Nat} {d : D} (h : Γ[i]? = some (some (.v d))) : ∃ v, σ[i]? = some (some v) ∧ Enc g F v d := by
  obtain ⟨ov, h1, h2⟩ := r.at_ i _ h
  cases ov with
  | none => exact h2.elim
  | some v => exact ⟨v, h1, h2⟩
theorem Rf.own (r : Rf g b Γ F σ H) {i : Nat} {xs : List D} (h : Γ[i]? = some (some (.l xs))) : ∃ a vs, σ[i]? = some (some (.ref a)) ∧ F a = none ∧ b.H0 a = none ∧ H a = some (.lst vs) ∧ EncL g F vs xs := by
  obtain ⟨ov, h1, h2⟩ := r.at_ i _ h
  cases ov with
  | none => exact h2.elim
  | some v =>
    cases v with
    | ref a =>
      obtain ⟨k1, k2, vs, k3, k4⟩ := h2
      exact ⟨a, vs, h1, k1, k2, k3, k4⟩
    | _ => exact h2.elim
theorem set_get {α : Type} {l : List α} {i j : Nat} {x y : α} (h : (l.set i x)[j]? = some y) : (j = i ∧ y = x ∧ i < l.length) ∨ (j ≠ i ∧ l[j]? = some y) := by
  by_cases e : j = i
  · subst e
    by_cases q : j < l.length
    · rw [List.getElem?_set_self q] at h
      cases h
      exact .inl ⟨rfl, rfl, q⟩
    · rw [List.getElem?_eq_none (by simp; omega)] at h
      cases h
  · rw [List.getElem?_set_ne (Ne.symm e)] at h
    exact .inr ⟨e, h⟩
/-- a slot takes a value -/
theorem Rf.setv (r : Rf g b Γ F σ H) {i : Nat} {v : V} {d : D} (h : Enc g F v d) (hc : (b.cx[i]?).join = none) (hi : i < σ.length) : Rf g b (Γ.set i (some (.v d))) F (σ.set i (some v)) H := by
  have nn : ∀ {j : Nat} {bd : Bnd}, (Γ.set i (some (.v d)))[j]? = some (some bd) → (∀ d, bd ≠ .v d) → j ≠ i ∧ Γ[j]? = some (some bd) := fun {j} {bd} e n => by
    rcases set_get e with ⟨_, e2, _⟩ | q
    · cases e2
      exact absurd rfl (n d)
    · exact q
  refine ⟨r.gr, r.le.setr hc, fun j bd e => ?_, fun j k a xs ys h1 h2 h3 h4 => ?_, r.sepm_sub (fun j x e => let ⟨n, q⟩ := nn e (fun _ z => nomatch z); ⟨q, List.getElem?_set_ne (Ne.symm n)⟩) (fun j xs e => let ⟨n, q⟩ := nn e (fun _ z => nomatch z); ⟨xs, q, List.getElem?_set_ne (Ne.symm n)⟩) fun _ _ _ _ _ _ _ _ _ => rfl⟩
  · rcases set_get e with ⟨rfl, e2, _⟩ | ⟨ne, e2⟩
    · cases e2
      exact ⟨some v, List.getElem?_set_self hi, h⟩
    · obtain ⟨ov, k1, k2⟩ := r.at_ j bd e2
      exact ⟨ov, by rw [List.getElem?_set_ne (Ne.symm ne)]; exact k1, k2⟩
  · rcases set_get h1 with ⟨_, e2, _⟩ | ⟨n1, e1⟩
    · cases e2
    · rcases set_get h2 with ⟨_, e2, _⟩ | ⟨n2, e2⟩
      · cases e2
      · rw [List.getElem?_set_ne (Ne.symm n1)] at h3
        rw [List.getElem?_set_ne (Ne.symm n2)] at h4
        exact r.sep j k a xs ys e1 e2 h3 h4
/-- a slot takes a new list of one's own -/
theorem Rf.setl (r : Rf g b Γ F σ H) {i : Nat} {a : Addr} {vs : List V} {xs : List D} (h : EncL g F vs xs) (hf : F a = none) (h0 : b.H0 a = none) (hh : H a = some (.lst vs)) (hn : ∀ (j : Nat) (ys : List D), j ≠ i → Γ[j]? = some (some (.l ys)) → σ[j]? ≠ some (some (.ref a)))
    (hnm : ∀ (j : Nat) (x : OD) (v : V) (fp : List Addr), j ≠ i → Γ[j]? = some (some (.m x)) → σ[j]? = some (some v) → Own g F H v x fp → a ∉ fp)
    (hc : (b.cx[i]?).join = none) (hi : i < σ.length) : Rf g b (Γ.set i (some (.l xs))) F (σ.set i (some (.ref a))) H := by
  have back : ∀ {j : Nat} {x : OD}, (Γ.set i (some (.l xs)))[j]? = some (some (.m x)) → j ≠ i ∧ Γ[j]? = some (some (.m x)) := fun {j} {x} e => by
    rcases set_get e with ⟨_, e2, _⟩ | q
    · cases e2
    · exact q
  refine ⟨r.gr, r.le.setr hc, fun j bd e => ?_, fun j k c us ys h1 h2 h3 h4 => ?_, fun j k x v fp ne h1 h2 h3 c hcm => ?_⟩
  · rcases set_get e with ⟨rfl, e2, _⟩ | ⟨ne, e2⟩
    · cases e2
      exact ⟨some (.ref a), List.getElem?_set_self hi, hf, h0, vs, hh, h⟩
    · obtain ⟨ov, k1, k2⟩ := r.at_ j bd e2
      exact ⟨ov, by rw [List.getElem?_set_ne (Ne.symm ne)]; exact k1, k2⟩
  · rcases set_get h1 with ⟨rfl, _, _⟩ | ⟨n1, e1⟩
    · rcases set_get h2 with ⟨rfl, _, _⟩ | ⟨n2, e2⟩
      · rfl
      · rw [List.getElem?_set_self hi] at h3
        cases h3
        rw [List.getElem?_set_ne (Ne.symm n2)] at h4
        exact absurd h4 (hn k ys n2 e2)
    · rcases set_get h2 with ⟨rfl, _, _⟩ | ⟨n2, e2⟩
      · rw [List.getElem?_set_self hi] at h4
        cases h4
        rw [List.getElem?_set_ne (Ne.symm n1)] at h3
        exact absurd h3 (hn j us n1 e1)
      · rw [List.getElem?_set_ne (Ne.symm n1)] at h3
        rw [List.getElem?_set_ne (Ne.symm n2)] at h4
        exact r.sep j k c us ys e1 e2 h3 h4
  · obtain ⟨n1, m1⟩ := back h1
    rw [List.getElem?_set_ne (Ne.symm n1)] at h2
    by_cases ki : k = i
    · subst ki
      refine ⟨fun us e z => ?_, fun y w fq e => ?_⟩
      · rw [List.getElem?_set_self hi] at z
        cases z
        exact hnm j x v fp n1 m1 h2 h3 hcm
      · exact absurd rfl (back e).1
    · obtain ⟨q1, q2⟩ := r.sepm j k x v fp ne m1 h2 h3 c hcm
      refine ⟨fun us e => ?_, fun y w fq e z => ?_⟩
      · rw [List.getElem?_set_ne (Ne.symm ki)]
        rcases set_get e with ⟨e1, _, _⟩ | ⟨_, e2⟩
        · exact absurd e1 ki
        · exact q1 us e2
      · rw [List.getElem?_set_ne (Ne.symm ki)] at z
        exact q2 y w fq (back e).2 z
/-- a list of one's own is changed in place -/
theorem Rf.mutl (r : Rf g b Γ F σ H) {i : Nat} {a : Addr} {vs ws : List V} {xs ys : List D} (hx : Γ[i]? = some (some (.l xs))) (hs : σ[i]? = some (some (.ref a))) (hh : H a = some (.lst vs)) (hf : F a = none) (h0 : b.H0 a = none) (hw : EncL g F ws ys) (hc : (b.cx[i]?).join = none) :
    Rf g b (Γ.set i (some (.l ys))) F σ (upd H a (.lst ws)) := by
  have nm : ∀ (k : Nat) (x : OD) (v : V) (fp : List Addr), Γ[k]? = some (some (.m x)) → σ[k]? = some (some v) → Own g F H v x fp → ∀ c ∈ fp, c ≠ a := fun k x v fp h1 h2 h3 c hc z => by
    have ki : k ≠ i := fun z => by
      rw [z, hx] at h1
      cases h1
    exact (r.sepm k i x v fp ki h1 h2 h3 c hc).1 xs hx (by rw [z]; exact hs)
  refine ⟨⟨r.gr.ff, r.gr.fh.mut hf, r.gr.hh.mut h0, r.gr.new⟩, r.le.setr hc, fun j bd e => ?_, fun j k c us zs h1 h2 h3 h4 => ?_, r.sepm_sub (fun j x e => ?_) (fun j us e => ?_) fun k x v fp h1 h2 h3 c hc => upd_ne (nm k x v fp h1 h2 h3 c hc)⟩
  · rcases set_get e with ⟨rfl, e2, _⟩ | ⟨ne, e2⟩
    · cases e2
      exact ⟨some (.ref a), hs, hf, h0, ws, upd_same, hw⟩
    · obtain ⟨ov, k1, k2⟩ := r.at_ j bd e2
      refine ⟨ov, k1, ?_⟩
      cases ov with
      | none => exact k2
      | some v =>
        cases bd with
        | v d => exact k2
        | l us =>
          cases v with
          | ref c =>
            obtain ⟨q1, q2, vs', q3, q4⟩ := k2
            have nc : c ≠ a := fun z => by
              subst z
              exact ne (r.sep j i c us xs e2 hx k1 hs)
            exact ⟨q1, q2, vs', by rw [upd_ne nc]; exact q3, q4⟩
          | _ => exact k2
        | o a0 cn kvs =>
          cases v with
          | ref c =>
            obtain ⟨q0, ci, dx, ns, us, q1, q2, q3, q4, q5, q6, q7, q8⟩ := k2
            obtain ⟨n1, n2⟩ := q8.noL hh
            exact ⟨q0, ci, dx, ns, us, q1, q2, q3, q4, q5, q6, q7, q8.congr (upd_ne (Ne.symm n1)) (upd_ne (Ne.symm n2))⟩
          | _ => exact k2
        | x a0 => cases v <;> exact k2
        | m x =>
          obtain ⟨fp, q1, q2, q3⟩ := k2.mOf
          exact BOk.toM ⟨fp, q1.keep (Sub.refl _) fun c hc => upd_ne (nm j x v fp e2 k1 q1 c hc), q2, q3⟩
  · have l1 : ∃ us', Γ[j]? = some (some (.l us')) := by
      rcases set_get h1 with ⟨rfl, _, _⟩ | ⟨_, e1⟩
      · exact ⟨_, hx⟩
      · exact ⟨_, e1⟩
    have l2 : ∃ us', Γ[k]? = some (some (.l us')) := by
      rcases set_get h2 with ⟨rfl, _, _⟩ | ⟨_, e1⟩
      · exact ⟨_, hx⟩
      · exact ⟨_, e1⟩
    obtain ⟨u1, e1⟩ := l1
    obtain ⟨u2, e2⟩ := l2
    exact r.sep j k c u1 u2 e1 e2 h3 h4
  · rcases set_get e with ⟨_, e2, _⟩ | ⟨_, e2⟩
    · cases e2
    · exact ⟨e2, rfl⟩
  · rcases set_get e with ⟨rfl, _, _⟩ | ⟨_, e2⟩
    · exact ⟨_, hx, rfl⟩
    · exact ⟨_, e2, rfl⟩
/-- a list of one's own is changed no more: it goes into the view -/
theorem Rf.freeze (r : Rf g b Γ F σ H) {i : Nat} {xs : List D} (hx : Γ[i]? = some (some (.l xs))) (hc : (b.cx[i]?).join = none) : ∃ F', Rf g b (Γ.set i (some (.v (.list xs)))) F' σ H := by
  obtain ⟨a, vs, hs, hf, h0, hh, he⟩ := r.own hx
  have s1 : Sub F (upd F a (.lst vs)) := Sub.new hf
  have nm : ∀ (k : Nat) (x : OD) (v : V) (fp : List Addr), Γ[k]? = some (some (.m x)) → σ[k]? = some (some v) → Own g F H v x fp → ∀ c ∈ fp, c ≠ a := fun k x v fp h1 h2 h3 c hc z => by
    have ki : k ≠ i := fun z => by
      rw [z, hx] at h1
      cases h1
    exact (r.sepm k i x v fp ki h1 h2 h3 c hc).1 xs hx (by rw [z]; exact hs)
  refine ⟨upd F a (.lst vs), ⟨r.gr.ff.trans s1, fun c o e => ?_, r.gr.hh, fun c z1 z2 => ?_⟩, r.le.setr hc, fun j bd e => ?_, fun j k c us zs h1 h2 h3 h4 => ?_, r.sepm_sub (fun j x e => ?_) (fun j us e => ?_) fun _ _ _ _ _ _ _ _ _ => rfl⟩
  · by_cases q : c = a
    · subst q
      rw [upd_same] at e
      cases e
      exact hh
    · rw [upd_ne q] at e
      exact r.gr.fh _ _ e
  · by_cases q : c = a
    · subst q
      exact absurd h0 z1
    · rw [upd_ne q]
      exact r.gr.new c z1 z2
  · rcases set_get e with ⟨rfl, e2, _⟩ | ⟨ne, e2⟩
    · cases e2
      exact ⟨some (.ref a), hs, .lst upd_same (EncL.mono s1 he)⟩
    · obtain ⟨ov, k1, k2⟩ := r.at_ j bd e2
      refine ⟨ov, k1, ?_⟩
      cases ov with
      | none => exact k2
      | some v =>
        cases bd with
        | v d => exact Enc.mono s1 k2
        | l us =>
          cases v with
          | ref c =>
            obtain ⟨q1, q2, vs', q3, q4⟩ := k2
            have nc : c ≠ a := fun z => by
              subst z
              exact ne (r.sep j i c us xs e2 hx k1 hs)
            exact ⟨by rw [upd_ne nc]; exact q1, q2, vs', q3, EncL.mono s1 q4⟩
          | _ => exact k2
        | o a0 cn kvs =>
          cases v with
          | ref c =>
            obtain ⟨q0, ci, dx, ns, us, q1, q2, q3, q4, q5, q6, q7, q8⟩ := k2
            obtain ⟨n1, n2⟩ := q8.noL hh
            exact ⟨q0, ci, dx, ns, us, q1, by rw [upd_ne (Ne.symm n1)]; exact q2, by rw [upd_ne (Ne.symm n2)]; exact q3, q4, q5, q6, EncF.mono s1 q7, q8⟩
          | _ => exact k2
        | x a0 => cases v <;> exact k2
        | m x =>
          obtain ⟨fp, q1, q2, q3⟩ := k2.mOf
          exact BOk.toM ⟨fp, q1.keep s1 fun _ _ => rfl, q2, fun c hc => ⟨by rw [upd_ne (nm j x v fp e2 k1 q1 c hc)]; exact (q3 c hc).1, (q3 c hc).2⟩⟩
  · rcases set_get h1 with ⟨_, e2, _⟩ | ⟨n1, e1⟩
    · cases e2
    · rcases set_get h2 with ⟨_, e2, _⟩ | ⟨n2, e2⟩
      · cases e2
      · exact r.sep j k c us zs e1 e2 h3 h4
  · rcases set_get e with ⟨_, e2, _⟩ | ⟨_, e2⟩
    · cases e2
    · exact ⟨e2, rfl⟩
  · rcases set_get e with ⟨_, e2, _⟩ | ⟨_, e2⟩
    · cases e2
    · exact ⟨_, e2, rfl⟩
end
/-- an exception as it comes: its class, its own dict's address, what it carries -/
def ExOk (g : Gm) (c : Str) (fs : List D) (cls : Value) (od : Option Addr) (F : Hp) : Prop :=
  ∃ i, g.ci c = some i ∧ cls = .ref i.C ∧ (fs = [] → od = none) ∧ (fs ≠ [] → ∃ dd vs, od = some dd ∧ F dd = some (.xd (i.fs.zip vs)) ∧ EncL g F vs fs ∧ i.fs.length = fs.length ∧ fs.all sc = true)
def Post (g : Gm) (b : Bs) (Γ : Ctx) (F : Hp) (r : Res D) (σ : L2.St) (H : Hp) (Q : VK) : Prop :=
  Rf g b Γ F σ H ∧ match r with
  | .ok d => ∀ v F' H', Grow F H F' H' → Enc g F' v d → Q v H'
  | .ex c fs => ∀ cls od F' H', Grow F H F' H' → Rf g b b.cx F' σ H' → ExOk g c fs cls od F' → b.W cls od σ H'
  | .no => False
def tE (g : Gm) (b : Bs) (Γ : Ctx) (r : Res D) : TE := fun σ H Q => ∃ F, Post g b Γ F r σ H Q
/-- a test -/
def PostT (g : Gm) (b : Bs) (Γ : Ctx) (F : Hp) (r : Res Bool) (σ : L2.St) (H : Hp) (Q : Bool → Hp → Prop) : Prop :=
  Rf g b Γ F σ H ∧ match r with
  | .ok k => ∀ F' H', Grow F H F' H' → Q k H'
  | .ex c fs => ∀ cls od F' H', Grow F H F' H' → Rf g b b.cx F' σ H' → ExOk g c fs cls od F' → b.W cls od σ H'
  | .no => False
def tT (g : Gm) (b : Bs) (Γ : Ctx) (r : Res Bool) : TT := fun σ H Q => ∃ F, PostT g b Γ F r σ H Q
/-- an argument list -/
def PostA (g : Gm) (b : Bs) (Γ : Ctx) (F : Hp) (r : Res (List D)) (σ : L2.St) (H : Hp) (Q : List V → Hp → Prop) : Prop :=
  Rf g b Γ F σ H ∧ match r with
  | .ok ds => ∀ vs F' H', Grow F H F' H' → EncL g F' vs ds → Q vs H'
  | .ex c fs => ∀ cls od F' H', Grow F H F' H' → Rf g b b.cx F' σ H' → ExOk g c fs cls od F' → b.W cls od σ H'
  | .no => False
def tA (g : Gm) (b : Bs) (Γ : Ctx) (r : Res (List D)) : TA := fun σ H Q => ∃ F, PostA g b Γ F r σ H Q
/-- a value that is only looked at: its datum stands in the heap, not in the view -/
def PostR (g : Gm) (b : Bs) (Γ : Ctx) (F : Hp) (r : Res D) (σ : L2.St) (H : Hp) (Q : VK) : Prop :=
  Rf g b Γ F σ H ∧ match r with
  | .ok d => ∀ v F' H', Grow F H F' H' → Enc g H' v d → Q v H'
  | .ex c fs => ∀ cls od F' H', Grow F H F' H' → Rf g b b.cx F' σ H' → ExOk g c fs cls od F' → b.W cls od σ H'
  | .no => False
def tR (g : Gm) (b : Bs) (Γ : Ctx) (r : Res D) : TE := fun σ H Q => ∃ F, PostR g b Γ F r σ H Q
section
variable {g : Gm} {b : Bs} {Γ : Ctx} {F : Hp} {σ : L2.St} {H : Hp}
theorem ex_go {c : Str} {fs : List D} {Fn Hn : Hp} (gr : Grow F H Fn Hn) (h : ∀ cls od F' H', Grow F H F' H' → Rf g b b.cx F' σ H' → ExOk g c fs cls od F' → b.W cls od σ H') :
    ∀ cls od F' H', Grow Fn Hn F' H' → Rf g b b.cx F' σ H' → ExOk g c fs cls od F' → b.W cls od σ H' := fun cls od F' H' a => h cls od F' H' (gr.trans a)
theorem Post.grow {r : Res D} {Q : VK} {F' H' : Hp} (p : Post g b Γ F r σ H Q) (gr : Grow F H F' H') : Post g b Γ F' r σ H' Q := by
  obtain ⟨rf, p⟩ := p
  refine ⟨rf.grow gr, ?_⟩
  cases r with
  | ok d => exact fun v F2 H2 a => p v F2 H2 (gr.trans a)
  | ex c fs => exact ex_go gr p
  | no => exact p
theorem tE_bind {ra : Res D} {f : D → Res D} {Q K : VK} (h : Post g b Γ F (ra.bind f) σ H Q) (k : ∀ d v F' H', ra = .ok d → Grow F H F' H' → Enc g F' v d → Post g b Γ F' (f d) σ H' Q → K v H') : tE g b Γ ra σ H K := by
  refine ⟨F, h.1, ?_⟩
  cases ra with
  | ok d =>
    intro v F' H' gr en
    exact k d v F' H' rfl gr en (Post.grow h gr)
  | ex c fs => exact h.2
  | no => exact h.2
theorem tR_bind {ra : Res D} {f : D → Res D} {Q K : VK} (h : Post g b Γ F (ra.bind f) σ H Q) (k : ∀ d v F' H', ra = .ok d → Grow F H F' H' → Enc g H' v d → Post g b Γ F' (f d) σ H' Q → K v H') : tR g b Γ ra σ H K := by
  refine ⟨F, h.1, ?_⟩
  cases ra with
  | ok d =>
    intro v F' H' gr en
    exact k d v F' H' rfl gr en (Post.grow h gr)
  | ex c fs => exact h.2
  | no => exact h.2
theorem PostT.grow {r : Res Bool} {Q : Bool → Hp → Prop} {F' H' : Hp} (p : PostT g b Γ F r σ H Q) (gr : Grow F H F' H') : PostT g b Γ F' r σ H' Q := by
  obtain ⟨rf, p⟩ := p
  refine ⟨rf.grow gr, ?_⟩
  cases r with
  | ok d => exact fun F2 H2 a => p F2 H2 (gr.trans a)
  | ex c fs => exact ex_go gr p
  | no => exact p
theorem PostA.grow {r : Res (List D)} {Q : List V → Hp → Prop} {F' H' : Hp} (p : PostA g b Γ F r σ H Q) (gr : Grow F H F' H') : PostA g b Γ F' r σ H' Q := by
  obtain ⟨rf, p⟩ := p
  refine ⟨rf.grow gr, ?_⟩
  cases r with
  | ok d => exact fun v F2 H2 a => p v F2 H2 (gr.trans a)
  | ex c fs => exact ex_go gr p
  | no => exact p
/-- a value, then a test; a value, then arguments; a test, then a value, a test; arguments, then a value -/
theorem tE_bindT {ra : Res D} {f : D → Res Bool} {Q : Bool → Hp → Prop} {K : VK} (h : PostT g b Γ F (ra.bind f) σ H Q) (k : ∀ d v F' H', ra = .ok d → Grow F H F' H' → Enc g F' v d → PostT g b Γ F' (f d) σ H' Q → K v H') : tE g b Γ ra σ H K := by
  refine ⟨F, h.1, ?_⟩
  cases ra with
  | ok d => exact fun v F' H' gr en => k d v F' H' rfl gr en (PostT.grow h gr)
  | ex c fs => exact h.2
  | no => exact h.2
theorem tR_bindT {ra : Res D} {f : D → Res Bool} {Q : Bool → Hp → Prop} {K : VK} (h : PostT g b Γ F (ra.bind f) σ H Q) (k : ∀ d v F' H', ra = .ok d → Grow F H F' H' → Enc g H' v d → PostT g b Γ F' (f d) σ H' Q → K v H') : tR g b Γ ra σ H K := by
  refine ⟨F, h.1, ?_⟩
  cases ra with
  | ok d => exact fun v F' H' gr en => k d v F' H' rfl gr en (PostT.grow h gr)
  | ex c fs => exact h.2
  | no => exact h.2
theorem tE_bindA {ra : Res D} {f : D → Res (List D)} {Q : List V → Hp → Prop} {K : VK} (h : PostA g b Γ F (ra.bind f) σ H Q) (k : ∀ d v F' H', ra = .ok d → Grow F H F' H' → Enc g F' v d → PostA g b Γ F' (f d) σ H' Q → K v H') : tE g b Γ ra σ H K := by
  refine ⟨F, h.1, ?_⟩
  cases ra with
  | ok d => exact fun v F' H' gr en => k d v F' H' rfl gr en (PostA.grow h gr)
  | ex c fs => exact h.2
  | no => exact h.2
theorem tA_bind {ra : Res (List D)} {f : List D → Res D} {Q : VK} {K : List V → Hp → Prop} (h : Post g b Γ F (ra.bind f) σ H Q) (k : ∀ d v F' H', ra = .ok d → Grow F H F' H' → EncL g F' v d → Post g b Γ F' (f d) σ H' Q → K v H') : tA g b Γ ra σ H K := by
  refine ⟨F, h.1, ?_⟩
  cases ra with
  | ok d => exact fun v F' H' gr en => k d v F' H' rfl gr en (Post.grow h gr)
  | ex c fs => exact h.2
  | no => exact h.2
theorem tA_bindA {ra : Res (List D)} {f : List D → Res (List D)} {Q : List V → Hp → Prop} {K : List V → Hp → Prop} (h : PostA g b Γ F (ra.bind f) σ H Q) (k : ∀ d v F' H', ra = .ok d → Grow F H F' H' → EncL g F' v d → PostA g b Γ F' (f d) σ H' Q → K v H') : tA g b Γ ra σ H K := by
  refine ⟨F, h.1, ?_⟩
  cases ra with
  | ok d => exact fun v F' H' gr en => k d v F' H' rfl gr en (PostA.grow h gr)
  | ex c fs => exact h.2
  | no => exact h.2
theorem tT_bindT {ra : Res Bool} {f : Bool → Res Bool} {Q : Bool → Hp → Prop} {K : Bool → Hp → Prop} (h : PostT g b Γ F (ra.bind f) σ H Q) (k : ∀ d F' H', ra = .ok d → Grow F H F' H' → PostT g b Γ F' (f d) σ H' Q → K d H') : tT g b Γ ra σ H K := by
  refine ⟨F, h.1, ?_⟩
  cases ra with
  | ok d => exact fun F' H' gr => k d F' H' rfl gr (PostT.grow h gr)
  | ex c fs => exact h.2
  | no => exact h.2
end
/-- a stronger reading -/
theorem PE.imp {X : Cx} {e : Expr} {t t' : TE} (h : PE X e t) (k : ∀ σ H Q, t' σ H Q → t σ H Q) : PE X e t' := ⟨fun pins s σ H Q I q => h.run pins s σ H Q I (k σ H Q q)⟩
theorem PT.imp {X : Cx} {e : Expr} {t t' : TT} (h : PT X e t) (k : ∀ σ H Q, t' σ H Q → t σ H Q) : PT X e t' := ⟨fun pins s σ H Q I q => h.run pins s σ H Q I (k σ H Q q)⟩
theorem PW.imp {X : Cx} {e : Expr} {t t' : TT} (h : PW X e t) (k : ∀ σ H Q, t' σ H Q → t σ H Q) : PW X e t' := ⟨fun wh pins s σ H Q I q => h.run wh pins s σ H Q I (k σ H Q q)⟩
theorem PA.imp {X : Cx} {es : List Expr} {t t' : TA} (h : PA X es t) (k : ∀ σ H Q, t' σ H Q → t σ H Q) : PA X es t' := ⟨fun pos pins s σ H Q I q => h.run pos pins s σ H Q I (k σ H Q q)⟩
theorem PS.imp {X : Cx} {st : Stmt} {t t' : TS} (h : PS X st t) (k : ∀ D σ H, t' D σ H → t D σ H) : PS X st t' := ⟨fun pins s σ H D I q => h.run pins s σ H D I (k D σ H q)⟩
theorem PSs.imp {X : Cx} {st : List Stmt} {t t' : TS} (h : PSs X st t) (k : ∀ D σ H, t' D σ H → t D σ H) : PSs X st t' := ⟨fun pins s σ H D I q => h.run pins s σ H D I (k D σ H q)⟩
/-- .. where the slots' number is known -/
theorem PSs.impI {X : Cx} {st : List Stmt} {t t' : TS} (h : PSs X st t) (k : ∀ D σ H, σ.length = X.N.length → t' D σ H → t D σ H) : PSs X st t' := ⟨fun pins s σ H D I q => h.run pins s σ H D I (k D σ H I.len q)⟩
theorem PSs.ex {α : Sort _} {X : Cx} {st : List Stmt} {t : α → TS} (h : ∀ a, PSs X st (t a)) : PSs X st (fun D σ H => ∃ a, t a D σ H) := ⟨fun pins s σ H D I ⟨a, q⟩ => (h a).run pins s σ H D I q⟩
end Mi
namespace Mi
open L2 PySem PySem.Spec PyProof.Rows
def cap : Nat := 100000
theorem cap_line {n : Nat} (h : n ≤ cap) : n ≤ sizeLine := Nat.le_trans h (by decide)
theorem cap_lt {n : Nat} (h : n < cap) : n < sizeLine := Nat.lt_of_lt_of_le h (by decide)
section
variable {X : Cx} {g : Gm} {b : Bs} {Γ : Ctx} {F : Hp} {σ : L2.St} {H : Hp} {e e1 e2 : Expr} {pos : Pos} {r ra rb : Res D}
/-- a value that stands: handed on -/
theorem Post.done {Q : VK} {d : D} {v : V} (p : Post g b Γ F (.ok d) σ H Q) (h : Enc g F v d) : Q v H := p.2 v F H (Grow.refl p.1.gr.fh) h
/-- a new object -/
theorem Post.new {Q : VK} {d : D} {o : HO} {p : Addr} (h : Post g b Γ F (.ok d) σ H Q) (hp : H p = none) (he : Enc g (upd F p o) (.ref p) d) : Q (.ref p) (upd H p o) :=
  h.2 _ _ _ (Grow.alloc h.1.gr.fh hp) he
theorem toR (h : PE X e (tE g b Γ r)) : PE X e (tR g b Γ r) := PE.imp h fun σ H Q q => by
  obtain ⟨F, rf, q⟩ := q
  refine ⟨F, rf, ?_⟩
  cases r with
  | ok d => exact fun v F' H' gr en => q v F' H' gr (Enc.mono gr.fh en)
  | ex c fs => exact q
  | no => exact q
theorem e_var {i : Nat} {x : Str} {d : D} (hΓ : Γ[i]? = some (some (.v d)) := by rfl) (hN : X.N[i]? = some x := by rfl) (hv : Vis X.env.scope x := by first | exact Or.inl rfl | exact Or.inr (Or.inl rfl) | exact Or.inr (Or.inr rfl))
    (hd : (x == ("__debug__" : Str)) = false := by decide) (hcd : (x == ("__classdict__" : Str)) = false := by decide) : PE X (.Name x pos) (tE g b Γ (.ok d)) := PE.imp (pe_var hN hv hd hcd) fun σ H Q q => by
  obtain ⟨F, p⟩ := q
  obtain ⟨v, h1, h2⟩ := p.1.val hΓ
  exact ⟨v, h1, p.done h2⟩
/-- a list of one's own, looked at -/
theorem r_own {i : Nat} {x : Str} {xs : List D} (hΓ : Γ[i]? = some (some (.l xs)) := by rfl) (hN : X.N[i]? = some x := by rfl) (hv : Vis X.env.scope x := by first | exact Or.inl rfl | exact Or.inr (Or.inl rfl) | exact Or.inr (Or.inr rfl))
    (hd : (x == ("__debug__" : Str)) = false := by decide) (hcd : (x == ("__classdict__" : Str)) = false := by decide) : PE X (.Name x pos) (tR g b Γ (.ok (.list xs))) := PE.imp (pe_var hN hv hd hcd) fun σ H Q q => by
  obtain ⟨F, rf, p⟩ := q
  obtain ⟨a, vs, h1, h2, h3, h4, h5⟩ := rf.own hΓ
  exact ⟨_, h1, p _ F H (Grow.refl rf.gr.fh) (.lst h4 (EncL.mono rf.gr.fh h5))⟩
theorem e_c {v : V} {d : D} (h : PE X e (tC v)) (he : ∀ F, Enc g F v d) : PE X e (tE g b Γ (.ok d)) := PE.imp h fun σ H Q q => by
  obtain ⟨F, p⟩ := q
  exact p.done (he F)
theorem e_int {i : Int} {j : Nat} : PE X (.Constant (.int i) j pos) (tE g b Γ (.ok (.int i))) := e_c pe_int fun _ => .int i
theorem e_bl {k : Bool} {j : Nat} : PE X (.Constant (.bool k) j pos) (tE g b Γ (.ok (.bool k))) := e_c pe_bl fun _ => .bl k
/-- what is wanted behind an operation that gives d -/
abbrev Gives (g : Gm) (F H : Hp) (d : D) (Q : VK) : Prop := ∀ v F' H', Grow F H F' H' → Enc g F' v d → Q v H'
theorem Gives.here {F H : Hp} {d : D} {Q : VK} (k : Gives g F H d Q) (s : Sub F H) {v : V} (h : Enc g F v d) : Q v H := k v F H (Grow.refl s) h
theorem Gives.new {F H : Hp} {d : D} {Q : VK} (k : Gives g F H d Q) (s : Sub F H) {p : Addr} {o : HO} (hp : H p = none) (h : Enc g (upd F p o) (.ref p) d) : Q (.ref p) (upd H p o) := k _ _ _ (Grow.alloc s hp) h
theorem Post.gives {o : Option D} {Q : VK} (p : Post g b Γ F (ofO o) σ H Q) : ∃ d, o = some d ∧ Gives g F H d Q := by
  cases o with
  | none => exact p.2.elim
  | some d => exact ⟨d, rfl, p.2⟩
def OpD (X : Cx) (g : Gm) (f : Value → Value → Sem Value) (op : D → D → Option D) : Prop :=
  ∃ r : R2, OpR X f r ∧ ∀ (F H : Hp) (x y d : D) (v w : V) (Q : VK), Sub F H → Enc g F v x → Enc g F w y → op x y = some d → Gives g F H d Q → r v w H Q
theorem OpD.or {f : Value → Value → Sem Value} {o1 o2 : D → D → Option D} (h1 : OpD X g f o1) (h2 : OpD X g f o2) : OpD X g f (fun x y => (o1 x y).or (o2 x y)) := by
  obtain ⟨r1, a1, k1⟩ := h1
  obtain ⟨r2, a2, k2⟩ := h2
  refine ⟨_, a1.or a2, fun F H x y d v w Q s ex ey e q => ?_⟩
  cases e1 : o1 x y with
  | some d' =>
    have e : (o1 x y).or (o2 x y) = some d := e
    rw [e1] at e
    cases e
    exact .inl (k1 F H x y _ v w Q s ex ey e1 q)
  | none =>
    have e : (o1 x y).or (o2 x y) = some d := e
    rw [e1] at e
    exact .inr (k2 F H x y d v w Q s ex ey e q)
theorem OpD.is {f : Value → Value → Sem Value} {o1 o2 : D → D → Option D} (h1 : OpD X g f o1) (h : ∀ x y d, o2 x y = some d → o1 x y = some d) : OpD X g f o2 := by
  obtain ⟨r1, a1, k1⟩ := h1
  exact ⟨r1, a1, fun F H x y d v w Q s ex ey e => k1 F H x y d v w Q s ex ey (h _ _ _ e)⟩
theorem e_op {op : Operator} {o : D → D → Option D} (ho : OpD X g (binaryOp op) o) (ha : PE X e1 (tE g b Γ ra)) (hb : PE X e2 (tE g b Γ rb)) :
    PE X (.BinOp e1 op e2 pos) (tE g b Γ (ra.bind fun x => rb.bind fun y => ofO (o x y))) := by
  obtain ⟨r2, h1, h2⟩ := ho
  refine PE.imp (pe_op h1 ha hb) fun σ H Q q => ?_
  obtain ⟨F, p⟩ := q
  exact tE_bind p fun x v F1 H1 _ g1 ex p1 => tE_bind p1 fun y w F2 H2 _ g2 ey p2 => by
    obtain ⟨d, e, k⟩ := p2.gives
    exact h2 F2 H2 x y d v w Q p2.1.gr.fh (Enc.mono g2.ff ex) ey e k
/-- an operator of two ints, on a condition -/
def iiO (c : Int → Int → Bool) (f : Int → Int → Int) : D → D → Option D
  | .int i, .int j => if c i j = true then some (.int (f i j)) else none
  | _, _ => none
theorem iiO_some {c : Int → Int → Bool} {f : Int → Int → Int} {x y d : D} (h : iiO c f x y = some d) : ∃ i j, x = .int i ∧ y = .int j ∧ c i j = true ∧ d = .int (f i j) := by
  cases x <;> cases y <;> simp only [iiO] at h <;> try (cases h; done)
  rename_i i j
  by_cases q : c i j = true
  · rw [if_pos q] at h
    cases h
    exact ⟨i, j, rfl, rfl, q, rfl⟩
  · rw [if_neg q] at h
    cases h
theorem opI_D {f : Value → Value → Sem Value} {C : Int → Int → Prop} {h : Int → Int → Int} {c : Int → Int → Bool} (ho : OpR X f (rI C fun i j => .int (h i j))) (hc : ∀ i j, c i j = true → C i j) : OpD X g f (iiO c h) := by
  refine ⟨_, ho, fun F H x y d v w Q s ex ey e q => ?_⟩
  obtain ⟨i, j, rfl, rfl, k, rfl⟩ := iiO_some e
  cases ex
  cases ey
  exact ⟨i, j, rfl, rfl, hc i j k, q.here s (.int _)⟩
def subD : D → D → Option D := iiO (fun _ _ => true) fun i j => i - j
def fdivD : D → D → Option D := iiO (fun _ j => decide (0 < j ∧ j.natAbs < 2 ^ 200)) fun i j => i / j
def modD : D → D → Option D := iiO (fun _ j => decide (0 < j)) fun i j => i % j
def mulD : D → D → Option D := iiO (fun i j => decide (i.natAbs < 2 ^ 200 ∧ j.natAbs < 2 ^ 200)) fun i j => i * j
def powD : D → D → Option D := iiO (fun i j => decide (0 ≤ j ∧ j ≤ 1000 ∧ i.natAbs < 2 ^ 64)) fun i j => i ^ j.toNat
theorem rI0_rI {f : Value → Value → Sem Value} {h : Int → Int → V} (ho : OpR X f (rI0 h)) : OpR X f (rI (fun _ _ => True) h) := fun pins s σ H x y v u Q I rx ry ⟨i, j, e1, e2, _, q⟩ => ho pins s σ H x y v u Q I rx ry ⟨i, j, e1, e2, q⟩
theorem o_sub : OpD X g (binaryOp .Sub) subD := opI_D (rI0_rI op_sub) fun _ _ _ => trivial
theorem o_fdiv : OpD X g (binaryOp .FloorDiv) fdivD := opI_D op_fdivW fun i j h => by
  have h := of_decide_eq_true h
  exact wide_div h.1 h.2 (by decide) (by decide)
theorem o_mod : OpD X g (binaryOp .Mod) modD := opI_D op_mod fun i j h => of_decide_eq_true h
theorem o_mul : OpD X g (binaryOp .Mult) mulD := opI_D op_mulW fun i j h => by
  have h := of_decide_eq_true h
  exact wide_mul h.1 h.2 (by decide) (by decide) (by decide)
theorem o_pow : OpD X g (binaryOp .Pow) powD := opI_D op_pow fun i j h => by
  have h := of_decide_eq_true h
  exact ⟨h.1, by omega, h.2.2⟩
def addI : D → D → Option D := iiO (fun _ _ => true) fun i j => i + j
def addS : D → D → Option D
  | .str x, .str y => if x.length + y.length ≤ cap then some (.str (x ++ y)) else none
  | _, _ => none
def addL : D → D → Option D
  | .list xs, .list ys => if xs.length + ys.length ≤ cap then some (.list (xs ++ ys)) else none
  | _, _ => none
def addT : D → D → Option D
  | .tuple xs, .tuple ys => if xs.length + ys.length ≤ cap then some (.tuple (xs ++ ys)) else none
  | _, _ => none
/-- x + y: ints, texts, lists, tuples -/
def addD : D → D → Option D
  | .int i, .int j => some (.int (i + j))
  | .str x, .str y => if x.length + y.length ≤ cap then some (.str (x ++ y)) else none
  | .list xs, .list ys => if xs.length + ys.length ≤ cap then some (.list (xs ++ ys)) else none
  | .tuple xs, .tuple ys => if xs.length + ys.length ≤ cap then some (.tuple (xs ++ ys)) else none
  | _, _ => none
theorem o_addI : OpD X g (binaryOp .Add) addI := opI_D (rI0_rI op_add) fun _ _ _ => trivial
theorem o_addS : OpD X g (binaryOp .Add) addS := by
  refine ⟨_, op_add_str, fun F H x y d v w Q s ex ey e q => ?_⟩
  cases x <;> cases y <;> simp only [addS] at e <;> try (cases e; done)
  rename_i i j
  cases ex
  cases ey
  split at e
  · rename_i hc
    cases e
    exact ⟨i, j, rfl, rfl, cap_line hc, q.here s (.str _)⟩
  · cases e
theorem o_addL : OpD X g (binaryOp .Add) addL := by
  refine ⟨_, op_cat, fun F H x y d v w Q s ex ey e q => ?_⟩
  cases x <;> cases y <;> simp only [addL] at e <;> try (cases e; done)
  split at e
  · rename_i hc
    cases e
    cases ex with
    | lst h1 k1 =>
      cases ey with
      | lst h2 k2 =>
        refine ⟨_, _, _, _, rfl, rfl, s _ _ h1, s _ _ h2, cap_line (by rw [k1.len, k2.len]; exact hc), fun p hp => ?_⟩
        exact q _ _ _ (Grow.alloc s hp) (.lst upd_same ((k1.app k2).mono (Sub.new (s.free hp))))
  · cases e
theorem TupX.at_ {K : PySem.W.Frag} {pins : List (Addr × Obj)} {s : Shared} {a : Addr} {xs : List V} (I : Inv X pins σ H s) (hK : X.K = K) (h : TupX K H a xs) :
    ∃ (its : List Value) (o : Obj) (n : Nat), Vals xs its ∧ s.heap.get? a = some o ∧ o.cls = .type "tuple" ∧ o.dict = none ∧ o.data = .seq its.toArray n ∧ xs.length ≤ sizeLine := by
  rcases h with ⟨its, h⟩ | ⟨o, its, n, h1, h2, h3, h4, h5, h6⟩
  · obtain ⟨e, hz, its2, r, o2, e2, c2, n2, d2⟩ := I.hok a _ h
    rw [e] at e2
    cases e2
    exact ⟨its2, _, _, r, e, rfl, rfl, d2, hz⟩
  · refine ⟨its.toList, o, n, h6, I.kIn a o (hK ▸ h1), h2, h3, by simpa using h4, ?_⟩
    have e := h6.length
    simp only [Array.length_toList] at e
    omega
/-- a new exact tuple is laid -/
theorem inv_newTup {pins : List (Addr × Obj)} {s : Shared} {xs : List V} {its : List Value} {tk : Nat} (I : Inv X pins σ H s) (r : Vals xs its) (hz : xs.length ≤ sizeLine) :
    Inv X pins σ (upd H s.heap.objs.size (.frz (obT its) (.tup xs))) { s with heap := s.heap.push (obT its), toks := tk } :=
  I.laid (fun _ _ e => Heap.get?_push_of_some _ e) (Nat.le_refl _) ⟨Heap.get?_push_size _ rfl, hz, its, r, _, Heap.get?_push_size _ rfl, rfl, _, rfl⟩
/-- what is wanted of a new tuple -/
abbrev NewT (xs : List V) (H : Hp) (Q : VK) : Prop := ∀ p its, H p = none → Q (.ref p) (upd H p (.frz (obT its) (.tup xs)))
theorem Gives.newT {F H : Hp} {ds : List D} {xs : List V} {Q : VK} (k : Gives g F H (.tuple ds) Q) (s : Sub F H) (h : EncL g F xs ds) : NewT xs H Q := fun p its hp =>
  k.new s hp (.tup (.inl ⟨its, upd_same⟩) (h.mono (Sub.new (s.free hp))))
def rCatX (K : PySem.W.Frag) : R2 := fun x y H Q => ∃ a b xs ys, x = .ref a ∧ y = .ref b ∧ TupX K H a xs ∧ TupX K H b ys ∧ xs.length + ys.length ≤ sizeLine ∧
  (xs = [] → Q (.ref b) H) ∧ (xs ≠ [] → ys = [] → Q (.ref a) H) ∧ (xs ≠ [] → ys ≠ [] → NewT (xs ++ ys) H Q)
theorem op_catX : OpR X (binaryOp .Add) (rCatX X.K) := by
  intro pins s σ H x y v u Q I rx ry h
  obtain ⟨a, b, xs, ys, rfl, rfl, ha, hb, hz, q0, q1, q2⟩ := h
  by_cases hx : xs = []
  · exact op_catA pins s σ H _ _ v u Q I rx ry ⟨a, b, xs, ys, rfl, rfl, ha.sqT, hb.sqT, hz, q0, fun z => absurd hx z, fun z => absurd hx z⟩
  · by_cases hy : ys = []
    · exact op_catA pins s σ H _ _ v u Q I rx ry ⟨a, b, xs, ys, rfl, rfl, ha.sqT, hb.sqT, hz, fun z => absurd z hx, q1, fun _ z => absurd hy z⟩
    · cases rx
      cases ry
      obtain ⟨its, r1, p1, _⟩ := I.tuple ha.sqT
      obtain ⟨its2, r2, p2, _⟩ := I.tuple hb.sqT
      refine HT.cat_tup p1 p2 (fun z => hx (r1.nil_iff.mp z)) (fun z => absurd (r2.nil_iff.mp z) hy) (fun _ => ?_) (by rw [← r1.length, ← r2.length]; exact hz)
      exact ⟨.ref s.heap.objs.size, _, inv_newTup (tk := s.toks) I (r1.append r2) (by rw [List.length_append]; exact hz), rfl, q2 hx hy _ _ (I.hok.fresh (Nat.le_refl _))⟩
theorem o_addT (hK : X.K = g.K := by rfl) : OpD X g (binaryOp .Add) addT := by
  refine ⟨_, op_catX, fun F H x y d v w Q s ex ey e q => ?_⟩
  cases x <;> cases y <;> simp only [addT] at e <;> try (cases e; done)
  split at e
  · rename_i hc
    cases e
    cases ex with
    | tup h1 k1 =>
      cases ey with
      | tup h2 k2 =>
        refine ⟨_, _, _, _, rfl, rfl, s.tupX (hK ▸ h1), s.tupX (hK ▸ h2), cap_line (by rw [k1.len, k2.len]; exact hc), fun e1 => ?_, fun _ e2 => ?_, fun _ _ => ?_⟩
        · subst e1
          cases k1
          exact q.here s (.tup h2 k2)
        · subst e2
          cases k2
          rw [List.append_nil] at q
          exact q.here s (.tup h1 k1)
        · exact q.newT s (k1.app k2)
  · cases e
theorem o_add (hK : X.K = g.K := by rfl) : OpD X g (binaryOp .Add) addD := (o_addI.or (o_addS.or (o_addL.or (o_addT hK)))).is fun x y d h => by
  cases x <;> cases y <;> simp only [addD] at h <;> first | (cases h; done) | simpa [addI, addS, addL, addT, iiO] using h
/-- -x -/
def negD : D → Option D
  | .int i => some (.int (-i))
  | _ => none
theorem e_neg (ha : PE X e1 (tE g b Γ ra)) : PE X (.UnaryOp .USub e1 pos) (tE g b Γ (ra.bind fun x => ofO (negD x))) := by
  refine PE.imp (pe_un un_neg ha) fun σ H Q q => ?_
  obtain ⟨F, p⟩ := q
  refine tE_bind p fun x v F1 H1 _ g1 ex p1 => ?_
  obtain ⟨d, e, k⟩ := p1.gives
  cases x <;> simp only [negD] at e <;> try (cases e; done)
  cases e
  cases ex
  exact ⟨_, rfl, k.here p1.1.gr.fh (.int _)⟩
def OpB (X : Cx) (g : Gm) (f : Value → Value → Sem Value) (op : D → D → Option Bool) : Prop :=
  ∃ r : R2, OpR X f r ∧ ∀ (H : Hp) (x y : D) (k : Bool) (v w : V) (Q : VK), Enc g H v x → Enc g H w y → op x y = some k → Q (.bl k) H → r v w H Q
theorem OpB.or {f : Value → Value → Sem Value} {o1 o2 : D → D → Option Bool} (h1 : OpB X g f o1) (h2 : OpB X g f o2) : OpB X g f (fun x y => (o1 x y).or (o2 x y)) := by
  obtain ⟨r1, a1, k1⟩ := h1
  obtain ⟨r2, a2, k2⟩ := h2
  refine ⟨_, a1.or a2, fun H x y d v w Q ex ey e q => ?_⟩
  have e : (o1 x y).or (o2 x y) = some d := e
  cases e1 : o1 x y with
  | some d' =>
    rw [e1] at e
    cases e
    exact .inl (k1 H x y _ v w Q ex ey e1 q)
  | none =>
    rw [e1] at e
    exact .inr (k2 H x y d v w Q ex ey e q)
theorem OpB.is {f : Value → Value → Sem Value} {o1 o2 : D → D → Option Bool} (h1 : OpB X g f o1) (h : ∀ x y d, o2 x y = some d → o1 x y = some d) : OpB X g f o2 := by
  obtain ⟨r1, a1, k1⟩ := h1
  exact ⟨r1, a1, fun H x y d v w Q ex ey e => k1 H x y d v w Q ex ey (h _ _ _ e)⟩
theorem tR_two {o : D → D → Option Bool} {r2 : R2} (h2 : ∀ (H : Hp) (x y : D) (k : Bool) (v w : V) (Q : VK), Enc g H v x → Enc g H w y → o x y = some k → Q (.bl k) H → r2 v w H Q) {Q : Bool → Hp → Prop}
    (q : tT g b Γ (ra.bind fun x => rb.bind fun y => ofO (o x y)) σ H Q) : tTest (tOp r2 (tR g b Γ ra) (tR g b Γ rb)) σ H Q := by
  obtain ⟨F, p⟩ := q
  refine tR_bindT p fun x v F1 H1 _ g1 ex p1 => tR_bindT p1 fun y w F2 H2 _ g2 ey p2 => ?_
  obtain ⟨rf, p2⟩ := p2
  cases e : o x y with
  | none =>
    rw [e] at p2
    exact p2.elim
  | some k =>
    rw [e] at p2
    exact h2 H2 x y k v w _ (Enc.mono g2.hh ex) ey e ⟨k, rfl, p2 F2 H2 (Grow.refl rf.gr.fh)⟩
theorem t_cmp {op : CmpOp} {o : D → D → Option Bool} (ho : OpB X g (compareOp op) o) (ha : PE X e1 (tR g b Γ ra)) (hb : PE X e2 (tR g b Γ rb)) (hm : behindInMarks op e2 = false := by first | exact nomark _ | rfl) :
    PT X (.Compare e1 [op] [e2] pos) (tT g b Γ (ra.bind fun x => rb.bind fun y => ofO (o x y))) := by
  obtain ⟨r2, h1, h2⟩ := ho
  exact PT.imp (pt_cmpR h1 ha hb hm) fun σ H Q q => tR_two h2 q
theorem e_cmp {op : CmpOp} {o : D → D → Option Bool} (ho : OpB X g (compareOp op) o) (ha : PE X e1 (tR g b Γ ra)) (hb : PE X e2 (tR g b Γ rb)) (hm : behindInMarks op e2 = false := by first | exact nomark _ | rfl) :
    PE X (.Compare e1 [op] [e2] pos) (tE g b Γ (ra.bind fun x => rb.bind fun y => (ofO (o x y)).bind fun k => .ok (.bool k))) := by
  obtain ⟨r2, h1, h2⟩ := ho
  refine PE.imp (pe_cmpR h1 ha hb hm) fun σ H Q q => ?_
  obtain ⟨F, p⟩ := q
  refine tR_bind p fun x v F1 H1 _ g1 ex p1 => tR_bind p1 fun y w F2 H2 _ g2 ey p2 => ?_
  cases e : o x y with
  | none =>
    rw [e] at p2
    exact p2.2.elim
  | some k =>
    rw [e] at p2
    exact h2 H2 x y k v w _ (Enc.mono g2.hh ex) ey e (p2.done (.bl k))
/-- an order of two ints -/
def iiB (f : Int → Int → Bool) : D → D → Option Bool
  | .int i, .int j => some (f i j)
  | _, _ => none
theorem opI_B {f : Value → Value → Sem Value} {h : Int → Int → Bool} (ho : OpR X f (rI0 fun i j => .bl (h i j))) : OpB X g f (iiB h) := by
  refine ⟨_, ho, fun H x y k v w Q ex ey e q => ?_⟩
  cases x <;> cases y <;> simp only [iiB] at e <;> try (cases e; done)
  cases e
  cases ex
  cases ey
  exact ⟨_, _, rfl, rfl, q⟩
def ltB : D → D → Option Bool := iiB fun i j => decide (i < j)
def leB : D → D → Option Bool := iiB fun i j => decide (i ≤ j)
def gtB : D → D → Option Bool := iiB fun i j => decide (j < i)
def geB : D → D → Option Bool := iiB fun i j => decide (j ≤ i)
theorem o_lt : OpB X g (compareOp .Lt) ltB := opI_B op_lt
theorem o_le : OpB X g (compareOp .LtE) leB := opI_B op_le
theorem o_gt : OpB X g (compareOp .Gt) gtB := opI_B op_gt
theorem o_ge : OpB X g (compareOp .GtE) geB := opI_B op_ge
mutual
theorem Enc.dp {H : Hp} : ∀ {v : V} {d : D}, Enc g H v d → d.plain = true → Dp g.K H v d
  | _, _, .non, _ => .non
  | _, _, .bl k, _ => .bl k
  | _, _, .int i, _ => .int i
  | _, _, .str x, _ => .str x
  | _, _, .lst h k, q => .lst (SqL.of h) (EncL.dp k (by simpa [PyData.plain] using q))
  | _, _, .tup h k, q => .tup h.sqT (EncL.dp k (by simpa [PyData.plain] using q))
  | _, _, .dct _, q => by simp [PyData.plain] at q
theorem EncL.dp {H : Hp} : ∀ {vs : List V} {ds : List D}, EncL g H vs ds → PyData.plainAll ds = true → DpAll g.K H vs ds
  | _, _, .nil, _ => .nil
  | _, _, .cons h k, q => by
    have q2 : PyData.plain _ = true ∧ PyData.plainAll _ = true := Bool.and_eq_true_iff.mp q
    exact .cons (Enc.dp h q2.1) (EncL.dp k q2.2)
end
theorem Enc.reads {pins : List (Addr × Obj)} {s : Shared} {v : V} {u : Value} {d : D} (hK : X.K = g.K) (I : Inv X pins σ H s) (h : Enc g H v d) (p : d.plain = true) (r : RelV v u) : ∃ as, Reads s.heap u d as :=
  Dp.reads I d v u (by rw [hK]; exact h.dp p) r
/-- two data that == compares: without dicts and instances, one of them not deep -/
def eqOk (x y : D) : Bool := x.plain && y.plain && (decide (x.depth ≤ 60) || decide (y.depth ≤ 60))
theorem eqOk_d {x y : D} (h : eqOk x y = true) : x.plain = true ∧ y.plain = true ∧ min x.depth y.depth ≤ 60 := by
  unfold eqOk at h
  rw [Bool.and_eq_true, Bool.and_eq_true, Bool.or_eq_true] at h
  obtain ⟨⟨h1, h2⟩, h3⟩ := h
  refine ⟨h1, h2, ?_⟩
  rcases h3 with h3 | h3
  · have := of_decide_eq_true h3
    omega
  · have := of_decide_eq_true h3
    omega
def eqB (x y : D) : Option Bool := if eqOk x y = true then some (PyData.eqv x y) else none
def neB (x y : D) : Option Bool := if eqOk x y = true then some (!PyData.eqv x y) else none
theorem if_some {c : Prop} [Decidable c] {α : Type} {a b : α} (h : (if c then some a else none) = some b) : c ∧ a = b := by
  split at h
  · cases h
    exact ⟨by assumption, rfl⟩
  · cases h
/-- an operation told by data -/
theorem opB_of {f : Value → Value → Sem Value} {o : D → D → Option Bool}
    (h : ∀ (pins : List (Addr × Obj)) (s : Shared) (σ : L2.St) (H : Hp) (x y : D) (k : Bool) (v w : V) (u t : Value) (Q : Value → Shared → Prop), Inv X pins σ H s → RelV v u → RelV w t → Enc g H v x → Enc g H w y → o x y = some k → Q (.bool k) s →
      wpAny (model X.prog X.w) X.A (f u t) Q X.xe s) : OpB X g f o :=
  ⟨fun v w H Q => ∃ x y k, Enc g H v x ∧ Enc g H w y ∧ o x y = some k ∧ Q (.bl k) H, fun pins s σ H v w u t Q I rv rw ⟨x, y, k, ex, ey, e, q⟩ =>
    h pins s σ H x y k v w u t _ I rv rw ex ey e ⟨.bl k, H, I, rfl, q⟩, fun H x y k v w Q ex ey e q => ⟨x, y, k, ex, ey, e, q⟩⟩
theorem o_eq (hu : X.A.units + 64 < cLine) (hK : X.K = g.K := by rfl) : OpB X g (compareOp .Eq) eqB := opB_of fun pins s σ H x y k v w u t Q I rv rw ex ey e q => by
  obtain ⟨hc, rfl⟩ := if_some e
  obtain ⟨px, py, hd⟩ := eqOk_d hc
  obtain ⟨as, r1⟩ := ex.reads hK I px rv
  obtain ⟨bs, r2⟩ := ey.reads hK I py rw
  exact SeqAt.eq_plain r1 r2 px py (by omega) q
theorem o_ne (hu : X.A.units + 64 < cLine) (hK : X.K = g.K := by rfl) : OpB X g (compareOp .NotEq) neB := opB_of fun pins s σ H x y k v w u t Q I rv rw ex ey e q => by
  obtain ⟨hc, rfl⟩ := if_some e
  obtain ⟨px, py, hd⟩ := eqOk_d hc
  obtain ⟨as, r1⟩ := ex.reads hK I px rv
  obtain ⟨bs, r2⟩ := ey.reads hK I py rw
  exact SeqAt.ne_plain r1 r2 px py (by omega) q
/-- x in ys -/
def inOk (x : D) (ys : List D) : Bool := x.plain && PyData.plainAll ys && (decide (x.depth ≤ 60) || decide (PyData.depthAll ys ≤ 60))
theorem inOk_d {x : D} {ys : List D} (h : inOk x ys = true) : x.plain = true ∧ PyData.plainAll ys = true ∧ min (PyData.depthAll ys) x.depth ≤ 60 := by
  unfold inOk at h
  rw [Bool.and_eq_true, Bool.and_eq_true, Bool.or_eq_true] at h
  obtain ⟨⟨h1, h2⟩, h3⟩ := h
  refine ⟨h1, h2, ?_⟩
  rcases h3 with h3 | h3
  · have := of_decide_eq_true h3
    omega
  · have := of_decide_eq_true h3
    omega
def memD (x : D) (ys : List D) : Bool := ys.any fun y => PyData.eqv y x
def ninB : D → D → Option Bool
  | x, .list ys => if inOk x ys = true then some (!memD x ys) else none
  | x, .tuple ys => if inOk x ys = true then some (!memD x ys) else none
  | .str x, .str y => if x.length = 1 then some (!decide (x.cps.toList.getD 0 0 ∈ y.cps.toList)) else none
  | _, _ => none
theorem one_sign {x : Str} (h : x.length = 1) : x = ⟨#[x.cps.toList.getD 0 0]⟩ := by
  apply TL.ext_tl
  have h1 : x.cps.toList.length = 1 := by simpa [Str.length] using h
  show x.cps.toList = (#[x.cps.toList.getD 0 0] : Array Nat).toList
  cases e : x.cps.toList with
  | nil => rw [e] at h1; simp at h1
  | cons c r =>
    cases r with
    | nil => rfl
    | cons c2 r2 => rw [e] at h1; simp at h1
theorem o_nin (hu : X.A.units + 64 < cLine) (hK : X.K = g.K := by rfl) : OpB X g (compareOp .NotIn) ninB := opB_of fun pins s σ H x y k v w u t Q I rv rw ex ey e q => by
  cases y with
  | list ys =>
    have e : (if inOk x ys = true then some (!memD x ys) else none) = some k := by
      cases x <;> exact e
    obtain ⟨hc, rfl⟩ := if_some e
    obtain ⟨px, py, hd⟩ := inOk_d hc
    obtain ⟨as, r1⟩ := ex.reads hK I px rv
    obtain ⟨bs, r2⟩ := ey.reads hK I (show PyData.plainAll ys = true from py) rw
    exact SeqAt.notIn_list_data r2 r1 py px (by omega) q
  | tuple ys =>
    have e : (if inOk x ys = true then some (!memD x ys) else none) = some k := by
      cases x <;> exact e
    obtain ⟨hc, rfl⟩ := if_some e
    obtain ⟨px, py, hd⟩ := inOk_d hc
    obtain ⟨as, r1⟩ := ex.reads hK I px rv
    obtain ⟨bs, r2⟩ := ey.reads hK I (show PyData.plainAll ys = true from py) rw
    exact SeqAt.notIn_tuple_data r2 r1 py px (by omega) q
  | str y =>
    cases x with
    | str x =>
      obtain ⟨hc, rfl⟩ := if_some (show (if x.length = 1 then some (!decide (x.cps.toList.getD 0 0 ∈ y.cps.toList)) else none) = some k from e)
      cases ex
      cases ey
      obtain ⟨t1, rfl⟩ := rv
      obtain ⟨t2, rfl⟩ := rw
      refine PyProof.Rows.notIn_str ?_
      rw [one_sign hc, PySem.StrLaws.found_one]
      rw [one_sign hc] at q
      exact q
    | _ => cases e
  | _ => cases x <;> cases e
/-- is None, is not None -/
def isNone : D → Bool
  | .none => true
  | _ => false
/-- a value that is True or False -/
def asB : D → Option Bool
  | .bool k => some k
  | _ => none
theorem t_val (ha : PE X e1 (tE g b Γ ra)) (he : ∀ whole, isTrue e1 X.env whole = (do let v ← whole; standAt e1.pos; holding [v] (truthy v)) := by first | exact isTrue_plain rfl | (intro _; rfl)) : PT X e1 (tT g b Γ (ra.bind fun x => ofO (asB x))) := by
  refine PT.imp (pt_val ha he) fun σ H Q q => ?_
  obtain ⟨F, p⟩ := q
  refine tE_bindT p fun x v F1 H1 _ g1 ex p1 => ?_
  obtain ⟨rf, p1⟩ := p1
  cases x <;> simp only [asB, ofO] at p1 <;> try exact p1.elim
  cases ex
  exact ⟨_, rfl, p1 F1 H1 (Grow.refl rf.gr.fh)⟩
theorem t_not {rt : Res Bool} (ha : PT X e1 (tT g b Γ rt)) : PT X (.UnaryOp .Not e1 pos) (tT g b Γ (rt.bind fun k => .ok (!k))) := by
  refine PT.imp (pt_not ha) fun σ H Q q => ?_
  obtain ⟨F, p⟩ := q
  exact tT_bindT p fun k F1 H1 _ g1 p1 => p1.2 F1 H1 (Grow.refl p1.1.gr.fh)
variable {rest : List Expr} {rt ru : Res Bool}
theorem w_and1 (ha : PT X e1 (tT g b Γ rt)) : PW X (.BoolOp .And [e1] pos) (tT g b Γ rt) := pw_and1 ha
theorem w_or1 (ha : PT X e1 (tT g b Γ rt)) : PW X (.BoolOp .Or [e1] pos) (tT g b Γ rt) := pw_or1 ha
theorem w_and (ha : PT X e1 (tT g b Γ rt)) (hb : PW X (.BoolOp .And (e2 :: rest) pos) (tT g b Γ ru)) : PW X (.BoolOp .And (e1 :: e2 :: rest) pos) (tT g b Γ (rt.bind fun k => if k = true then ru else .ok false)) := by
  refine PW.imp (pw_and ha hb) fun σ H Q q => ?_
  obtain ⟨F, p⟩ := q
  refine tT_bindT p fun k F1 H1 _ g1 p1 => ?_
  cases k with
  | true => exact ⟨F1, p1⟩
  | false => exact p1.2 F1 H1 (Grow.refl p1.1.gr.fh)
theorem w_or (ha : PT X e1 (tT g b Γ rt)) (hb : PW X (.BoolOp .Or (e2 :: rest) pos) (tT g b Γ ru)) : PW X (.BoolOp .Or (e1 :: e2 :: rest) pos) (tT g b Γ (rt.bind fun k => if k = true then .ok true else ru)) := by
  refine PW.imp (pw_or ha hb) fun σ H Q q => ?_
  obtain ⟨F, p⟩ := q
  refine tT_bindT p fun k F1 H1 _ g1 p1 => ?_
  cases k with
  | true => exact p1.2 F1 H1 (Grow.refl p1.1.gr.fh)
  | false => exact ⟨F1, p1⟩
/-- and, or, not as values that are True or False -/
theorem v_one {op : BoolOp} (ha : PE X e1 (tE g b Γ ra)) : PE X (.BoolOp op [e1] pos) (tE g b Γ ra) := pe_one ha
theorem v_and (ha : PE X e1 (tE g b Γ ra)) (hb : PE X (.BoolOp .And (e2 :: rest) pos) (tE g b Γ rb)) : PE X (.BoolOp .And (e1 :: e2 :: rest) pos) (tE g b Γ (ra.bind fun x => (ofO (asB x)).bind fun k => if k = true then rb else .ok (.bool false))) := by
  refine PE.imp (pe_and ha hb) fun σ H Q q => ?_
  obtain ⟨F, p⟩ := q
  refine tE_bind p fun x v F1 H1 _ g1 ex p1 => ?_
  cases x <;> simp only [asB, ofO_some, ofO_none, Res.bind_ok, Res.bind_no] at p1 <;> try exact p1.2.elim
  cases ex
  rename_i k _
  refine ⟨k, rfl, ?_⟩
  cases k with
  | true => exact ⟨F1, p1⟩
  | false => exact p1.done (.bl false)
/-- a < b < c -/
theorem t_chain {op op' : CmpOp} {o o' : D → D → Option Bool} {c : Expr} {rc : Res D} (ho : OpB X g (compareOp op) o) (ho' : OpB X g (compareOp op') o') (ha : PE X e1 (tR g b Γ ra)) (hb : PE X e2 (tR g b Γ rb)) (hc : PE X c (tR g b Γ rc))
    (hm : lastMarks [op, op'] [e2, c] = false := by with_unfolding_all rfl) :
    PT X (.Compare e1 [op, op'] [e2, c] pos) (tT g b Γ (ra.bind fun x => rb.bind fun y => (ofO (o x y)).bind fun k => if k = true then rc.bind fun z => ofO (o' y z) else .ok false)) := by
  obtain ⟨r1, a1, k1⟩ := ho
  obtain ⟨r2, a2, k2⟩ := ho'
  refine PT.imp (pt_chain a1 a2 ha hb hc hm) fun σ H Q q => ?_
  obtain ⟨F, p⟩ := q
  refine tR_bindT p fun x v F1 H1 _ g1 ex p1 => tR_bindT p1 fun y w F2 H2 _ g2 ey p2 => ?_
  cases e : o x y with
  | none =>
    rw [e] at p2
    exact p2.2.elim
  | some k =>
    rw [e] at p2
    refine k1 H2 x y k v w _ (Enc.mono g2.hh ex) ey e ⟨k, rfl, ?_⟩
    cases k with
    | false => exact ⟨false, rfl, p2.2 F2 H2 (Grow.refl p2.1.gr.fh)⟩
    | true =>
      refine tR_bindT (f := fun z => ofO (o' y z)) (by simpa using p2) fun z t F3 H3 _ g3 ez p3 => ?_
      obtain ⟨rf, p3⟩ := p3
      cases e3 : o' y z with
      | none =>
        rw [e3] at p3
        exact p3.elim
      | some k3 =>
        rw [e3] at p3
        exact k2 H3 y z k3 w t _ (Enc.mono g3.hh ey) ez e3 ⟨k3, rfl, p3 F3 H3 (Grow.refl rf.gr.fh)⟩
end
end Mi
namespace Mi
open L2 PySem PySem.Spec PyProof.Rows
section
variable {X : Cx} {g : Gm} {b : Bs} {Γ : Ctx} {F : Hp} {σ : L2.St} {H : Hp} {e e1 e2 : Expr} {es : List Expr} {pos : Pos} {r ra rb : Res D} {rs : Res (List D)}
theorem a_nil : PA X [] (tA g b Γ (.ok [])) := PA.imp pa_nil fun σ H Q q => by
  obtain ⟨F, rf, p⟩ := q
  exact p [] F H (Grow.refl rf.gr.fh) .nil
theorem a_cons (ha : PE X e (tE g b Γ ra)) (hr : PA X es (tA g b Γ rs)) (hs : starEach (e :: es) X.env = (false, eval e X.env) :: starEach es X.env := by first | exact starEach_plain rfl | rfl) :
    PA X (e :: es) (tA g b Γ (ra.bind fun x => rs.bind fun xs => .ok (x :: xs))) := PA.imp (pa_cons ha hr hs) fun σ H Q q => by
  obtain ⟨F, p⟩ := q
  exact tE_bindA p fun x v F1 H1 _ g1 ex p1 => tA_bindA p1 fun xs vs F2 H2 _ g2 exs p2 => p2.2 (v :: vs) F2 H2 (Grow.refl p2.1.gr.fh) (.cons (ex.mono g2.ff) exs)
/-- a new list that the view does not have yet -/
def PostN (g : Gm) (b : Bs) (Γ : Ctx) (F : Hp) (r : Res (List D)) (σ : L2.St) (H : Hp) (Q : VK) : Prop :=
  Rf g b Γ F σ H ∧ match r with
  | .ok ds => ∀ p vs F' H', Grow F H F' H' → H p = none → F' p = none → H' p = some (.lst vs) → EncL g F' vs ds → Q (.ref p) H'
  | .ex c fs => ∀ cls od F' H', Grow F H F' H' → Rf g b b.cx F' σ H' → ExOk g c fs cls od F' → b.W cls od σ H'
  | .no => False
def tN (g : Gm) (b : Bs) (Γ : Ctx) (r : Res (List D)) : TE := fun σ H Q => ∃ F, PostN g b Γ F r σ H Q
theorem PostN.grow {r : Res (List D)} {Q : VK} {F' H' : Hp} (p : PostN g b Γ F r σ H Q) (gr : Grow F H F' H') : PostN g b Γ F' r σ H' Q := by
  obtain ⟨rf, p⟩ := p
  refine ⟨rf.grow gr, ?_⟩
  cases r with
  | ok d => exact fun q v F2 H2 a hp => p q v F2 H2 (gr.trans a) (gr.hh.free hp)
  | ex c fs => exact ex_go gr p
  | no => exact p
/-- .. taken into the view -/
theorem ofN (h : PE X e (tN g b Γ rs)) : PE X e (tE g b Γ (rs.bind fun xs => .ok (.list xs))) := PE.imp h fun σ H Q q => by
  obtain ⟨F, rf, q⟩ := q
  refine ⟨F, rf, ?_⟩
  cases rs with
  | ok ds =>
    intro p vs F' H' gr hp hf hh en
    refine q (.ref p) (upd F' p (.lst vs)) H' ⟨gr.ff.trans (Sub.new hf), fun c o z => ?_, gr.hh, fun c z1 z2 => ?_⟩ (.lst upd_same (en.mono (Sub.new hf)))
    · by_cases w : c = p
      · subst w
        rw [upd_same] at z
        cases z
        exact hh
      · rw [upd_ne w] at z
        exact gr.fh _ _ z
    · have w : c ≠ p := fun w => z1 (by rw [w]; exact hp)
      rw [upd_ne w]
      exact gr.new c z1 z2
  | ex c fs => exact q
  | no => exact q
/-- a length that a list may have -/
def mkL (xs : List D) : Option (List D) := if xs.length ≤ cap then some xs else none
theorem mkL_some {xs ys : List D} (h : mkL xs = some ys) : ys = xs ∧ xs.length ≤ cap := by
  obtain ⟨h1, h2⟩ := if_some (show (if xs.length ≤ cap then some xs else none) = some ys from h)
  exact ⟨h2.symm, h1⟩
theorem PostN.new {ds : List D} {vs : List V} {Q : VK} (h : PostN g b Γ F (.ok ds) σ H Q) (en : EncL g F vs ds) : ∀ p, H p = none → Q (.ref p) (upd H p (.lst vs)) := fun p hp =>
  h.2 p vs F _ ⟨Sub.refl _, h.1.gr.fh.trans (Sub.new hp), Sub.new hp, fun _ _ z => z⟩ hp (h.1.gr.fh.free hp) upd_same en
theorem tA_bindN {ra : Res (List D)} {f : List D → Res (List D)} {Q : VK} {K : List V → Hp → Prop} (h : PostN g b Γ F (ra.bind f) σ H Q) (k : ∀ d v F' H', ra = .ok d → Grow F H F' H' → EncL g F' v d → PostN g b Γ F' (f d) σ H' Q → K v H') : tA g b Γ ra σ H K := by
  refine ⟨F, h.1, ?_⟩
  cases ra with
  | ok d => exact fun v F' H' gr en => k d v F' H' rfl gr en (PostN.grow h gr)
  | ex c fs => exact h.2
  | no => exact h.2
theorem tE_bindN {ra : Res D} {f : D → Res (List D)} {Q : VK} {K : VK} (h : PostN g b Γ F (ra.bind f) σ H Q) (k : ∀ d v F' H', ra = .ok d → Grow F H F' H' → Enc g F' v d → PostN g b Γ F' (f d) σ H' Q → K v H') : tE g b Γ ra σ H K := by
  refine ⟨F, h.1, ?_⟩
  cases ra with
  | ok d => exact fun v F' H' gr en => k d v F' H' rfl gr en (PostN.grow h gr)
  | ex c fs => exact h.2
  | no => exact h.2
/-- [a, b] -/
theorem n_lst (ha : PA X es (tA g b Γ rs)) : PE X (.List es pos) (tN g b Γ (rs.bind fun xs => ofO (mkL xs))) := PE.imp (pe_lst ha) fun σ H Q q => by
  obtain ⟨F, p⟩ := q
  refine tA_bindN p fun xs vs F1 H1 _ g1 ex p1 => ?_
  cases e : mkL xs with
  | none =>
    rw [e] at p1
    exact p1.2.elim
  | some ys =>
    rw [e] at p1
    obtain ⟨rfl, hz⟩ := mkL_some e
    exact ⟨cap_line (by rw [ex.len]; exact hz), p1.new ex⟩
def itemD : D → D → Option D
  | .list xs, .int i => atI xs i
  | .tuple xs, .int i => atI xs i
  | .str z, .int i => if z.length ≤ cap then (atI z.cps.toList i).map fun c => .str ⟨#[c]⟩ else none
  | .dict [(.none, .list xs)], .int i => atI xs i
  | _, _ => none
theorem atI_enc {vs : List V} {ds : List D} {i : Int} {d : D} (h : EncL g F vs ds) (e : atI ds i = some d) : ∃ v, atI vs i = some v ∧ Enc g F v d := by
  unfold atI at e ⊢
  rw [h.len]
  cases q : ixN ds.length i with
  | none =>
    rw [q] at e
    cases e
  | some j =>
    rw [q] at e
    exact h.get e
theorem ix_go (hK : X.K = g.K) {x y d : D} {v w : V} {Q : VK} (s : Sub F H) (ex : Enc g F v x) (ey : Enc g F w y) (e : itemD x y = some d) (k : Gives g F H d Q) : rIx X.K v w H Q := by
  cases ey with
  | int i =>
    cases ex with
    | lst h1 k1 =>
      obtain ⟨u, e1, e2⟩ := atI_enc k1 (show atI _ i = some d from e)
      exact .inl ⟨_, _, i, u, rfl, rfl, SqL.of (s _ _ h1), e1, k.here s e2⟩
    | tup h1 k1 =>
      obtain ⟨u, e1, e2⟩ := atI_enc k1 (show atI _ i = some d from e)
      exact .inr (.inl ⟨_, _, i, u, rfl, rfl, hK ▸ (s.tupX h1).sqT, e1, k.here s e2⟩)
    | str z =>
      obtain ⟨hc, e1⟩ : z.length ≤ cap ∧ (atI z.cps.toList i).map (fun c => PyData.str ⟨#[c]⟩) = some d := by
        have e1 : (if z.length ≤ cap then (atI z.cps.toList i).map fun c => PyData.str ⟨#[c]⟩ else none) = some d := e
        split at e1
        · exact ⟨by assumption, e1⟩
        · cases e1
      obtain ⟨c, e2, rfl⟩ := Option.map_eq_some_iff.mp e1
      exact .inr (.inr ⟨z, i, c, rfl, rfl, cap_line hc, e2, k.here s (.str _)⟩)
    | dct h1 =>
      cases h1 with
      | scr h2 k2 =>
        obtain ⟨u, e1, e2⟩ := atI_enc k2 (show atI _ i = some d from e)
        exact .inl ⟨_, _, i, u, rfl, rfl, hK ▸ s.sqL h2, e1, k.here s e2⟩
      | st _ _ _ => cases e
      | dk _ kp =>
        cases kp with
        | nil => cases e
        | consI _ _ => cases e
        | consS _ _ => cases e
      | obj _ kf _ => cases e
    | _ => cases e
  | _ => cases x <;> first | (cases e; done) | (unfold itemD at e; split at e <;> first | (cases e; done) | rename_i q; cases q)
theorem e_ix (ha : PE X e1 (tE g b Γ ra)) (hb : PE X e2 (tE g b Γ rb)) (hs : PlainIx e2 := by exact fun _ _ => rfl) (hK : X.K = g.K := by rfl) :
    PE X (.Subscript e1 e2 pos) (tE g b Γ (ra.bind fun x => rb.bind fun y => ofO (itemD x y))) := PE.imp (pe_ix ix_seq ha hb hs) fun σ H Q q => by
  obtain ⟨F, p⟩ := q
  refine tE_bind p fun x v F1 H1 _ g1 ex p1 => tE_bind p1 fun y w F2 H2 _ g2 ey p2 => ?_
  obtain ⟨d, e, k⟩ := p2.gives
  exact ix_go hK p2.1.gr.fh (ex.mono g2.ff) ey e k
theorem PO.imp {o : Option Expr} {t t' : TO} (h : PO X o t) (k : ∀ σ H Q, t' σ H Q → t σ H Q) : PO X o t' := by
  obtain ⟨h⟩ := h
  constructor
  intros
  first
    | exact h _ _ _ _ _ ‹_› (k _ _ _ ‹_›)
    | exact h _ _ _ _ _ _ ‹_› (k _ _ _ ‹_›)
end
end Mi
namespace Mi
open L2 PySem PySem.Spec PyProof.Rows
section
variable {X : Cx} {g : Gm} {b : Bs} {Γ : Ctx} {F : Hp} {σ : L2.St} {H : Hp} {e e1 e2 : Expr} {es : List Expr} {pos p : Pos} {r ra rb : Res D} {rs : Res (List D)} {x : Str} {id : String}
/-- a built-in of one value that is looked at; the answer is a scalar -/
def Call1 (X : Cx) (g : Gm) (f : Value) (o : D → Option D) : Prop :=
  ∃ r : List V → Hp → VK → Prop, CallR X f r ∧ ∀ (H : Hp) (x d : D) (v : V) (Q : VK), Enc g H v x → o x = some d → (∀ w, (∀ F, Enc g F w d) → Q w H) → r [v] H Q
theorem e_b1 {o : D → Option D} (hc : Call1 X g (.builtin id) o) (ha : PE X e1 (tR g b Γ ra)) (hm : X.mg x = none) (hg : Gl X x := by rfl) (hv : bootBuiltins x = some (.builtin id) := by decide +kernel) (hn : x ≠ "__name__" := by decide)
    (hdb : (x == ("__debug__" : Str)) = false := by decide) (he : starEach [e1] X.env = (false, eval e1 X.env) :: starEach [] X.env := by first | exact starEach_plain rfl | rfl) (hpl : (backTo pos (starEach [] X.env)).any (·.1) = false := by first | exact star_any rfl | rfl) :
    PE X (.Call (.Name x p) [e1] [] pos) (tE g b Γ (ra.bind fun y => ofO (o y))) := by
  obtain ⟨r1, h1, h2⟩ := hc
  refine PE.imp (pe_callB h1 hg hm hv (pa_cons ha pa_nil he) hn hdb he hpl) fun σ H Q q => ?_
  obtain ⟨F, q⟩ := q
  refine tR_bind q fun y v F1 H1 _ g1 ey p1 => ?_
  obtain ⟨d, e, k⟩ := p1.gives
  exact h2 H1 y d v Q ey e fun w hw => k.here p1.1.gr.fh (hw F1)
theorem e_t1 {T : String} {o : D → Option D} (hc : Call1 X g (.type T) o) (ha : PE X e1 (tR g b Γ ra)) (hm : X.mg x = none) (hg : Gl X x := by rfl) (hv : bootBuiltins x = some (.type T) := by decide +kernel) (hn : x ≠ "__name__" := by decide)
    (hdb : (x == ("__debug__" : Str)) = false := by decide) (he : starEach [e1] X.env = (false, eval e1 X.env) :: starEach [] X.env := by first | exact starEach_plain rfl | rfl) (hpl : (backTo pos (starEach [] X.env)).any (·.1) = false := by first | exact star_any rfl | rfl) :
    PE X (.Call (.Name x p) [e1] [] pos) (tE g b Γ (ra.bind fun y => ofO (o y))) := by
  obtain ⟨r1, h1, h2⟩ := hc
  refine PE.imp (pe_callTy h1 hg hm hv (pa_cons ha pa_nil he) hn hdb he hpl) fun σ H Q q => ?_
  obtain ⟨F, q⟩ := q
  refine tR_bind q fun y v F1 H1 _ g1 ey p1 => ?_
  obtain ⟨d, e, k⟩ := p1.gives
  exact h2 H1 y d v Q ey e fun w hw => k.here p1.1.gr.fh (hw F1)
def lenD : D → Option D
  | .str z => if z.length ≤ cap then some (.int z.length) else none
  | .list xs => some (.int xs.length)
  | .tuple xs => some (.int xs.length)
  | .dict [(.none, .list xs)] => some (.int xs.length)
  | _ => none
theorem c_len (hK : X.K = g.K := by rfl) : Call1 X g (.builtin "len") lenD := by
  refine ⟨_, call_len, fun H x d v Q ex e k => ?_⟩
  cases ex with
  | str z =>
    obtain ⟨hc, rfl⟩ := if_some (show (if z.length ≤ cap then some (PyData.int z.length) else none) = some d from e)
    exact ⟨_, z.length, rfl, ⟨cap_line hc, rfl⟩, k _ fun _ => .int _⟩
  | lst h1 k1 =>
    cases e
    refine ⟨_, _, rfl, .inl ⟨_, SqL.of h1, k1.len.symm⟩, k _ fun _ => .int _⟩
  | tup h1 k1 =>
    cases e
    refine ⟨_, _, rfl, .inr ⟨_, hK ▸ h1.sqT, k1.len.symm⟩, k _ fun _ => .int _⟩
  | dct h1 =>
    cases h1 with
    | scr h2 k2 =>
      cases e
      exact ⟨_, _, rfl, .inl ⟨_, hK ▸ h2, k2.len.symm⟩, k _ fun _ => .int _⟩
    | st _ _ _ => cases e
    | dk _ kp =>
      cases kp with
      | nil => cases e
      | consI _ _ => cases e
      | consS _ _ => cases e
    | obj _ kf _ => cases e
  | _ => cases e
def intD : D → Option D
  | .int i => some (.int i)
  | .bool k => some (.int (if k then 1 else 0))
  | _ => none
theorem c_int : Call1 X g (.type "int") intD := by
  refine ⟨_, call_int1, fun H x d v Q ex e k => ?_⟩
  cases ex with
  | int i =>
    cases e
    exact .inl ⟨i, rfl, k _ fun _ => .int i⟩
  | bl t =>
    cases e
    exact .inr ⟨t, rfl, k _ fun _ => .int _⟩
  | _ => cases e
/-- list(x): a new list of x's items -/
def listR : D → Res (List D)
  | .list xs => .ok xs
  | .tuple xs => .ok xs
  | _ => .no
theorem n_list (ha : PE X e1 (tE g b Γ ra)) (hm : X.mg "list" = none) (hg : Gl X "list" := by rfl) (hv : bootBuiltins "list" = some (.type "list") := by decide +kernel)
    (he : starEach [e1] X.env = (false, eval e1 X.env) :: starEach [] X.env := by first | exact starEach_plain rfl | rfl) (hpl : (backTo pos (starEach [] X.env)).any (·.1) = false := by first | exact star_any rfl | rfl) (hK : X.K = g.K := by rfl) :
    PE X (.Call (.Name "list" p) [e1] [] pos) (tN g b Γ (ra.bind fun y => listR y)) := PE.imp (pe_callTy call_list_of hg hm hv (pa_cons ha pa_nil he) (by decide) (by decide) he hpl) fun σ H Q q => by
  obtain ⟨F, q⟩ := q
  refine tE_bindN q fun y v F1 H1 _ g1 ey p1 => ?_
  cases ey with
  | lst h1 k1 => exact ⟨_, _, rfl, .inl (SqL.of (p1.1.gr.fh _ _ h1)), p1.new k1⟩
  | tup h1 k1 => exact ⟨_, _, rfl, .inr (hK ▸ (p1.1.gr.fh.tupX h1).sqT), p1.new k1⟩
  | _ => exact p1.2.elim
/-- min(a, b), max(a, b) of two ints -/
def minD : D → D → Option D
  | .int i, .int j => some (.int (if j < i then j else i))
  | _, _ => none
theorem e_min (ha : PE X e1 (tE g b Γ ra)) (hb : PE X e2 (tE g b Γ rb)) (hm : X.mg "min" = none) (hc : X.calm = true := by rfl) (hg : Gl X "min" := by rfl) (hv : bootBuiltins "min" = some (.builtin "min") := by decide +kernel)
    (he : starEach [e1, e2] X.env = (false, eval e1 X.env) :: starEach [e2] X.env := by first | exact starEach_plain rfl | rfl) (he2 : starEach [e2] X.env = (false, eval e2 X.env) :: starEach [] X.env := by first | exact starEach_plain rfl | rfl) (hpl : (backTo pos (starEach [e2] X.env)).any (·.1) = false := by first | exact star_any rfl | rfl) :
    PE X (.Call (.Name "min" p) [e1, e2] [] pos) (tE g b Γ (ra.bind fun y => rb.bind fun z => ofO (minD y z))) := PE.imp (pe_callB (call_min2 hc) hg hm hv (pa_cons ha (pa_cons hb pa_nil he2) he) (by decide) (by decide) he hpl) fun σ H Q q => by
  obtain ⟨F, q⟩ := q
  refine tE_bind q fun y v F1 H1 _ g1 ey p1 => tE_bind p1 fun z w F2 H2 _ g2 ez p2 => ?_
  obtain ⟨d, e, k⟩ := p2.gives
  cases ey with
  | int i =>
    cases ez with
    | int j =>
      cases e
      exact ⟨i, j, rfl, k.here p2.1.gr.fh (.int _)⟩
    | _ => cases e
  | _ => cases z <;> cases e
def tyName : D → String
  | .none => "NoneType"
  | .bool _ => "bool"
  | .int _ => "int"
  | .str _ => "str"
  | .list _ => "list"
  | .tuple _ => "tuple"
  | .dict _ => "dict"
def isiT (T : String) (d : D) : Option Bool := match d with
  | .dict _ => none
  | d => kitB (tyName d) T
theorem Enc.tyx {v : V} {d : D} (hK : X.K = g.K) (h : Enc g H v d) (nd : ∀ kvs, d ≠ .dict kvs) : TyX X.K H v (.type (tyName d)) := by
  cases h with
  | non => exact .base .non
  | bl k => exact .base (.bl k)
  | int i => exact .base (.int i)
  | str z => exact .base (.str z)
  | lst h1 _ => exact .base (.lst h1)
  | tup h1 _ =>
    rcases h1 with ⟨its, h1⟩ | ⟨o, its, n, h1, h2, _⟩
    · exact .fTuple h1
    · exact .kTuple (hK ▸ h1) h2
  | dct _ => exact absurd rfl (nd _)
theorem isi_reading {T : String} {Q : VK} {y : D} {v : V} {k : Bool} (hK : X.K = g.K) (ey : Enc g H v y) (e : isiT T y = some k) (q : Q (.bl k) H) : rIsi X.K [v, .ty T] H Q := by
  have nd : ∀ kvs, y ≠ .dict kvs := fun kvs z => by
    subst z
    cases e
  refine ⟨v, .ty T, .type (tyName y), .type T, k, rfl, .ty T, ey.tyx hK nd, kit_ty ?_, q⟩
  cases y <;> first | exact e | cases e
/-- isinstance(x, T) as a test, T a built-in class -/
theorem t_isi {T : String} {tn : Str} {p2 : Pos} (ha : PE X e1 (tR g b Γ ra)) (hm : X.mg "isinstance" = none) (hmT : X.mg tn = none) (hvT : bootBuiltins tn = some (.type T) := by decide +kernel) (hgT : Gl X tn := by rfl) (hg : Gl X "isinstance" := by rfl)
    (hv : bootBuiltins "isinstance" = some (.builtin "isinstance") := by decide +kernel) (hnT : tn ≠ "__name__" := by decide) (hdT : (tn == ("__debug__" : Str)) = false := by decide)
    (he : starEach [e1, .Name tn p2] X.env = (false, eval e1 X.env) :: starEach [.Name tn p2] X.env := by first | exact starEach_plain rfl | rfl) (he2 : starEach [.Name tn p2] X.env = (false, eval (.Name tn p2) X.env) :: starEach [] X.env := by first | exact starEach_plain rfl | rfl)
    (hpl : (backTo pos (starEach [.Name tn p2] X.env)).any (·.1) = false := by first | exact star_any rfl | rfl) (hw : ∀ whole, isTrue (.Call (.Name "isinstance" p) [e1, .Name tn p2] [] pos) X.env whole = (do let v ← whole; standAt pos; holding [v] (truthy v)) := by first | exact isTrue_plain rfl | (intro _; rfl)) (hK : X.K = g.K := by rfl) :
    PT X (.Call (.Name "isinstance" p) [e1, .Name tn p2] [] pos) (tT g b Γ (ra.bind fun y => ofO (isiT T y))) := PT.imp (pt_val (pe_callB call_isi hg hm hv (pa_cons ha (pa_cons (pe_bltn (v := .ty T) hgT hmT hvT rfl hnT hdT) pa_nil he2) he) (by decide) (by decide) he hpl) hw) fun σ H Q q => by
  obtain ⟨F, q⟩ := q
  refine tR_bindT q fun y v F1 H1 _ g1 ey p1 => ?_
  obtain ⟨rf, p1⟩ := p1
  cases e : isiT T y with
  | none =>
    rw [e] at p1
    exact p1.elim
  | some k =>
    rw [e] at p1
    exact isi_reading (Q := fun x H' => ∃ c, x = .bl c ∧ Q c H') hK ey e ⟨k, rfl, p1 F1 H1 (Grow.refl rf.gr.fh)⟩
end
end Mi
namespace Mi
open L2 PySem PySem.Spec PyProof.Rows
structure ClsOk (K : PySem.W.Frag) (i : CI) : Prop where
  sl : i.k = .slots → SlX.SCls K i.C ∧ i.pl.Nodup ∧ ∀ (j : Nat) (f : Str), i.fs[j]? = some f → ∃ p q, i.pl[j]? = some q ∧ SlX.Slot1 K i.C f p q
  di : i.k = .dict → Cls K i.C ∧ ∀ f ∈ i.fs, NoAttr K i.C f
def CisOk (g : Gm) : Prop := ∀ c i, g.ci c = some i → ClsOk g.K i
/-- a field among those stored -/
def getF : List (D × D) → Str → Option D
  | [], _ => none
  | (.str f, d) :: r, x => if f = x then some d else getF r x
  | _ :: r, x => getF r x
def attrD (d : D) (f : Str) : Option D := match d with
  | .dict ((.none, .str _) :: kvs) => getF kvs f
  | _ => none
def setF (f : Str) (v : D) : List (D × D) → List (D × D)
  | [] => [(.str f, v)]
  | (.str h, d) :: r => if h = f then (.str h, v) :: r else (.str h, d) :: setF f v r
  | q :: r => q :: setF f v r
section
variable {g : Gm} {F H : Hp}
theorem EncF.find : ∀ {ns : List Str} {vs : List V} {kvs : List (D × D)} {f : Str} {d : D}, EncF g F ns vs kvs → getF kvs f = some d → ∃ (j : Nat) (v : V), ns[j]? = some f ∧ vs[j]? = some v ∧ (ns.zip vs).lookup f = some v ∧ Enc g F v d
  | _, _, _, f, d, .nil, e => by cases e
  | n :: ns, v :: vs, _, f, d, .cons h k, e => by
    have e1 : (if n = f then some _ else getF _ f) = some d := e
    split at e1
    · rename_i q
      cases e1
      subst q
      exact ⟨0, v, rfl, rfl, by simp [List.lookup], h⟩
    · rename_i q
      obtain ⟨j, u, a1, a2, a3, a4⟩ := EncF.find k e1
      refine ⟨j + 1, u, by simpa using a1, by simpa using a2, ?_, a4⟩
      have nq : (f == n) = false := by simpa using fun z => q z.symm
      show List.lookup f ((n, v) :: ns.zip vs) = some u
      simp only [List.lookup, nq]
      exact a3
end
section
variable {X : Cx} {g : Gm} {b : Bs} {Γ : Ctx} {F : Hp} {σ : L2.St} {H : Hp} {e e1 e2 : Expr} {es : List Expr} {pos p : Pos} {r ra rb : Res D} {rs : Res (List D)} {x f : Str}
/-- a field of an instance is read -/
theorem attr_go {pins : List (Addr × Obj)} {s : Shared} {a dx : Addr} {i : CI} {ns : List Str} {vs : List V} {v : V} {j : Nat} {t : Bool} {Q : Value → Shared → Prop} {E : Value → Shared → Prop} (hK : X.K = g.K) (co : ClsOk g.K i) (I : Inv X pins σ H s) (o : ObjAt i H a dx ns vs)
    (h1 : ns[j]? = some f) (h2 : vs[j]? = some v) (h3 : (ns.zip vs).lookup f = some v) (k : ∀ u s', Inv X pins σ H s' → RelV v u → Q u s') : wpAny (model X.prog X.w) X.A (getAttr (.ref a) f t) Q E s := by
  rcases o with ⟨ks, en, el, o⟩ | ⟨kd, el, ha, hd, hin⟩
  · obtain ⟨c, nd, sl⟩ := co.sl ks
    have q1 : i.fs[j]? = some f := by
      rw [en, List.getElem?_take] at h1
      split at h1
      · exact h1
      · cases h1
    obtain ⟨p, q, hq, t1⟩ := sl j f q1
    rcases o with ⟨z, _, _⟩ | ⟨ss, h0, z1, z2⟩
    · subst z
      simp at h2
    · exact SlX.getslot_ok I (.inr ⟨z1, z2⟩) (hK ▸ c) (hK ▸ t1) (h0 j v q h2 hq) k
  · obtain ⟨c, na⟩ := co.di kd
    exact getattr_ok I ha (hK ▸ c) (show NoAttr X.K i.C f from hK ▸ na f (hin f (List.mem_of_getElem? h1))) h3 k
theorem e_attr (ha : PE X e (tE g b Γ ra)) (co : CisOk g) (hb : attributeBase e f X.env (eval e X.env) = eval e X.env := by first | exact base_plain rfl | rfl) (hK : X.K = g.K := by rfl) : PE X (.Attribute e f pos) (tE g b Γ (ra.bind fun d => ofO (attrD d f))) := by
  refine ⟨fun pins s σ H Q I h => ?_⟩
  obtain ⟨F, h⟩ := h
  refine attr_of hb (thn (ha.run pins s σ H (fun v H1 => ∃ d F1, Post g b Γ F1 (ofO (attrD d f)) σ H1 Q ∧ Enc g F1 v d) I (tE_bind h fun d v F1 H1 _ g1 en p1 => ⟨d, F1, p1, en⟩)) fun u s1 ⟨v, H1, I1, rv, d, F1, p1, en⟩ => ?_)
  obtain ⟨d', e', k⟩ := p1.gives
  cases en with
  | dct en =>
    cases en with
    | obj hc kf o =>
      obtain ⟨j, w, a1, a2, a3, a4⟩ := kf.find (show getF _ f = some d' from e')
      cases rv
      exact attr_go hK (co _ _ hc) I1 (p1.1.gr.fh.objAt o) a1 a2 a3 fun u' s2 I2 ru => ⟨w, H1, I2, ru, k.here p1.1.gr.fh a4⟩
    | scr _ _ => cases e'
    | st _ _ _ => cases e'
    | dk _ kp =>
      cases kp with
      | nil => cases e'
      | consI _ _ => cases e'
      | consS _ _ => cases e'
  | _ => cases e'
/-- what a def is worth: its arguments' data, the answer's datum -/
def spD (g : Gm) (m : List D → Res D) : Sp := fun vs H Q E => ∃ F ds, Sub F H ∧ EncL g F vs ds ∧ match m ds with
  | .ok d => Gives g F H d Q
  | .ex c fs => ∀ cls od F' H', Grow F H F' H' → ExOk g c fs cls od F' → E cls od H'
  | .no => False
/-- a def of the module by its name -/
structure DefT (P : Program) (w : World) (g : Gm) (mg : Str → Option Value) (base : Heap) (name : Str) (k : Nat) (m : List D → Res D) : Prop where
  ex : ∃ f fd ps, FnOk P w g.K mg base (L2.CX P w) k f fd ps (spD g m) ∧ mg name = some (.ref f) ∧ PySem.W.keepIn g.K (.ref f) = true ∧ Binds g.K fd ps []
theorem e_call {k j : Nat} {m : List D → Res D} (T : DefT X.prog X.w g X.mg X.base x k m) (hr : Room j X.A) (tk : Takes X b.W) (ha : PA X (e :: es) (tA g b Γ rs)) (hj : k ≤ j := by decide) (hg : Gl X x := by rfl) (hdb : (x == ("__debug__" : Str)) = false := by decide)
    (he : starEach (e :: es) X.env = (false, eval e X.env) :: starEach es X.env := by first | exact starEach_plain rfl | rfl) (hpl : (backTo pos (starEach es X.env)).any (·.1) = false := by first | exact star_any rfl | rfl) (hK : X.K = g.K := by rfl) :
    PE X (.Call (.Name x p) (e :: es) [] pos) (tE g b Γ (rs.bind fun ds => m ds)) := by
  obtain ⟨f, fd, ps, Fn, gm, kp, bd⟩ := T.ex
  rw [← hK] at Fn kp bd
  refine ⟨fun pins s σ H Q I h => ?_⟩
  obtain ⟨F, h⟩ := h
  refine wpAny_Call_Name_kw (ld_glob I hg gm ?_ hdb)
  refine PySem.W.callWith_K (h₀ := X.base) I.ok.mod.kin kp (thn (ha.run pos pins s σ H (fun vs H1 => ∃ ds F1, Post g b Γ F1 (m ds) σ H1 Q ∧ EncL g F1 vs ds) I (tA_bind h fun d v F1 H1 _ g1 en p1 => ⟨d, F1, p1, en⟩)) fun us s1 ⟨vs, H1, I1, rv, ds, F1, p1, en⟩ => ⟨I1.kIn, ?_⟩) he hpl
  refine run_fnS Fn (hr.mono hj) bd (passAt tk σ) I1 rv ⟨F1, ds, p1.1.gr.fh, en, ?_⟩
  obtain ⟨rf, p1⟩ := p1
  cases q : m ds with
  | ok d =>
    rw [q] at p1
    exact p1
  | ex c fs =>
    rw [q] at p1
    exact fun cls od F' H' gr ok => p1 cls od F' H' gr (rf.grow gr).cx ok
  | no =>
    rw [q] at p1
    exact p1
/-- what is wanted behind a block that comes to o -/
def EndS {β τ : Type} (g : Gm) (b : Bs) (Γb : β → Ctx) (Γn : τ → Ctx) (o : Fl β τ) (Ds : Ends) : Prop := match o with
  | .nx t => ∀ F' σ' H', Rf g b (Γn t) F' σ' H' → Ds.nx σ' H'
  | .rt d => ∀ v F' H', Grow b.F0 b.H0 F' H' → b.rk F' H' v d → Ds.rt v H'
  | .bk t => ∀ F' σ' H', Rf g b (Γb t) F' σ' H' → Ds.bk σ' H'
  | .ct t => ∀ F' σ' H', Rf g b (Γb t) F' σ' H' → Ds.ct σ' H'
  | .ex c fs => ∀ cls od F' σ' H', Rf g b b.cx F' σ' H' → ExOk g c fs cls od F' → b.W cls od σ' H'
  | .no => False
def tS {β τ : Type} (g : Gm) (b : Bs) (Γb : β → Ctx) (Γ : Ctx) (o : Fl β τ) (Γn : τ → Ctx) : TS := fun Ds σ H => ∃ F, Rf g b Γ F σ H ∧ EndS g b Γb Γn o Ds
variable {β τ υ : Type} {Γb : β → Ctx} {Γn : τ → Ctx} {rest body : List Stmt} {st : Stmt}
theorem b_nil {t : τ} (hl : Le (Γn t) Γ := by repeat (first | exact Le.nil | apply Le.same | apply Le.none)) (hc : Le b.cx (Γn t) := by repeat (first | exact Le.nil | apply Le.same | apply Le.none)) : PSs X [] (tS g b Γb Γ (.nx t) Γn) := PSs.imp pss_nil fun D σ H q => by
  obtain ⟨F, rf, q⟩ := q
  exact q F σ H (rf.weak hl hc)
/-- nothing more is claimed -/
theorem b_no {sts : List Stmt} : PSs X sts (tS g b Γb Γ (.no : Fl β τ) Γn) := PSs.imp pss_never fun D σ H q => by
  obtain ⟨F, rf, q⟩ := q
  exact q
/-- an expression, then the rest of the block by its value -/
theorem tS_bind {ra : Res D} {k : D → Fl β τ} {Ds : Ends} {K : VK} (h : tS g b Γb Γ (ra.bindF k) Γn Ds σ H)
    (go : ∀ d v F1 H1, ra = .ok d → Rf g b Γ F1 σ H1 → Enc g F1 v d → EndS g b Γb Γn (k d) Ds → K v H1) : tE g b Γ ra σ H K := by
  obtain ⟨F, rf, h⟩ := h
  refine ⟨F, rf, ?_⟩
  cases ra with
  | ok d => exact fun v F' H' gr en => go d v F' H' rfl (rf.grow gr) en h
  | ex c fs => exact fun cls od F' H' gr r1 ok => h cls od F' σ H' r1 ok
  | no => exact h
theorem tS_bindG {ra : Res D} {k : D → Fl β τ} {Ds : Ends} {K : VK} (rf : Rf g b Γ F σ H) (h : EndS g b Γb Γn (ra.bindF k) Ds)
    (go : ∀ d v F1 H1, ra = .ok d → Grow F H F1 H1 → Rf g b Γ F1 σ H1 → Enc g F1 v d → EndS g b Γb Γn (k d) Ds → K v H1) : tE g b Γ ra σ H K := by
  refine ⟨F, rf, ?_⟩
  cases ra with
  | ok d => exact fun v F' H' gr en => go d v F' H' rfl gr (rf.grow gr) en h
  | ex c fs => exact fun cls od F' H' gr r1 ok => h cls od F' σ H' r1 ok
  | no => exact h
theorem tS_bindT {rt : Res Bool} {k : Bool → Fl β τ} {Ds : Ends} {K : Bool → Hp → Prop} (h : tS g b Γb Γ (rt.bindF k) Γn Ds σ H)
    (go : ∀ d F1 H1, rt = .ok d → Rf g b Γ F1 σ H1 → EndS g b Γb Γn (k d) Ds → K d H1) : tT g b Γ rt σ H K := by
  obtain ⟨F, rf, h⟩ := h
  refine ⟨F, rf, ?_⟩
  cases rt with
  | ok d => exact fun F' H' gr => go d F' H' rfl (rf.grow gr) h
  | ex c fs => exact fun cls od F' H' gr r1 ok => h cls od F' σ H' r1 ok
  | no => exact h
theorem tS_bindN {ra : Res (List D)} {k : List D → Fl β τ} {Ds : Ends} {K : VK} (h : tS g b Γb Γ (ra.bindF k) Γn Ds σ H)
    (go : ∀ ds p vs F1 H1, ra = .ok ds → Rf g b Γ F1 σ H1 → F1 p = none → b.H0 p = none → H1 p = some (.lst vs) → EncL g F1 vs ds → ((∀ (j : Nat) (ys : List D), Γ[j]? = some (some (.l ys)) → σ[j]? ≠ some (some (.ref p))) ∧ ∀ (j : Nat) (x : OD) (v : V) (fp : List Addr), Γ[j]? = some (some (.m x)) → σ[j]? = some (some v) → Own g F1 H1 v x fp → p ∉ fp) → EndS g b Γb Γn (k ds) Ds → K (.ref p) H1) :
    tN g b Γ ra σ H K := by
  obtain ⟨F, rf, h⟩ := h
  refine ⟨F, rf, ?_⟩
  cases ra with
  | ok d =>
    intro p vs F' H' gr hp hf hh en
    refine go d p vs F' H' rfl (rf.grow gr) hf (rf.gr.hh.free hp) hh en ⟨fun j ys hj hs => ?_, fun j x v fp h1 h2 h3 hc => ?_⟩ h
    · obtain ⟨a, us, k1, k2, k3, k4, k5⟩ := rf.own hj
      rw [hs] at k1
      cases k1
      rw [hp] at k4
      cases k4
    · obtain ⟨fp0, k1, _, _⟩ := rf.ownM h1 h2
      have e := k1.uniq h3 (gr.same k1)
      subst e
      obtain ⟨us, k⟩ := k1.lst p hc
      rw [hp] at k
      cases k
  | ex c fs => exact fun cls od F' H' gr r1 ok => h cls od F' σ H' r1 ok
  | no => exact h
/-- x = e; rest -/
theorem b_set {i : Nat} {k : D → Fl β τ} {py : Pos} (he : PE X e (tE g b Γ ra)) (hrest : ∀ d, ra = .ok d → PSs X rest (tS g b Γb (Γ.set i (some (.v d))) (k d) Γn)) (hN : X.N.Nodup) (hc : (b.cx[i]?).join = none := by rfl) (hi : X.N[i]? = some x := by rfl)
    (hx : Loc X.env.scope x := by first | exact Or.inl rfl | exact Or.inr rfl) (hs : swapsWith e (some (.Name x py)) pos.line X.env = pure false := by rfl) (hf : X.fn x = true ∨ X.env.scope.names.lookup x = some .local := by first | exact .inl rfl | exact .inr rfl) :
    PSs X (.Assign [.Name x py] e pos :: rest) (tS g b Γb Γ (ra.bindF k) Γn) := by
  refine PSs.impI (pss_cons (ps_set hN hi hx he hs hf) (PSs.ex fun d => PSs.ex fun q => hrest d q)) fun Ds σ H hl h => ?_
  refine tS_bind h fun d v F1 H1 ed rf en h2 => ?_
  exact ⟨d, ed, F1, rf.setv en hc (by rw [hl]; exact (List.getElem?_eq_some_iff.mp hi).1), h2⟩
/-- x = a new list that is changed later; rest -/
theorem b_setn {i : Nat} {k : List D → Fl β τ} {py : Pos} (he : PE X e (tN g b Γ rs)) (hrest : ∀ ds, rs = .ok ds → PSs X rest (tS g b Γb (Γ.set i (some (.l ds))) (k ds) Γn)) (hN : X.N.Nodup) (hc : (b.cx[i]?).join = none := by rfl) (hi : X.N[i]? = some x := by rfl)
    (hx : Loc X.env.scope x := by first | exact Or.inl rfl | exact Or.inr rfl) (hs : swapsWith e (some (.Name x py)) pos.line X.env = pure false := by rfl) (hf : X.fn x = true ∨ X.env.scope.names.lookup x = some .local := by first | exact .inl rfl | exact .inr rfl) :
    PSs X (.Assign [.Name x py] e pos :: rest) (tS g b Γb Γ (rs.bindF k) Γn) := by
  refine PSs.impI (pss_cons (ps_set hN hi hx he hs hf) (PSs.ex fun d => PSs.ex fun q => hrest d q)) fun Ds σ H hl h => ?_
  refine tS_bindN h fun ds p vs F1 H1 ed rf hf h0 hh en hn h2 => ?_
  exact ⟨ds, ed, F1, rf.setl en hf h0 hh (fun j ys _ hj => hn.1 j ys hj) (fun j x v fp _ h1 h2 h3 => hn.2 j x v fp h1 h2 h3) hc (by rw [hl]; exact (List.getElem?_eq_some_iff.mp hi).1), h2⟩
/-- xs.append(e); rest, xs a list of one's own -/
theorem b_app {i : Nat} {xs : List D} {k : D → Fl β τ} {p1 p2 p3 : Pos} (he : PE X e (tE g b Γ ra)) (hrest : ∀ d, ra = .ok d → xs.length < cap → PSs X rest (tS g b Γb (Γ.set i (some (.l (xs ++ [d])))) (k d) Γn))
    (hΓ : Γ[i]? = some (some (.l xs)) := by rfl) (hc : (b.cx[i]?).join = none := by rfl) (hN : X.N[i]? = some x := by rfl) (hv : Vis X.env.scope x := by first | exact Or.inl rfl | exact Or.inr (Or.inl rfl) | exact Or.inr (Or.inr rfl))
    (hd : (x == ("__debug__" : Str)) = false := by decide) (hcd : (x == ("__classdict__" : Str)) = false := by decide)
    (hbase : attributeBase (.Name x p1) "append" X.env (eval (.Name x p1) X.env) = eval (.Name x p1) X.env := by first | exact base_plain rfl | rfl)
    (hfew : ((backTo p3 (starEach [e] X.env)).all (fun x => !x.1) && (backToKw p3 (keywordEach [] X.env)).all (fun x => x.1.isSome) && decide ([e].length + ([] : List Keyword).length + (if ([] : List Keyword).isEmpty then 0 else 1) < 30)) = true := by first | exact star_few rfl rfl | rfl)
    (hline : (p2.endLine == p3.line) = true := by rfl) (hs : starEach [e] X.env = (false, eval e X.env) :: starEach [] X.env := by first | exact starEach_plain rfl | rfl) (hplain : (backTo p3 (starEach [] X.env)).any (·.1) = false := by first | exact star_any rfl | rfl)
    (hsw : swapsWith (.Call (.Attribute (.Name x p1) "append" p2) [e] [] p3) none pos.line X.env = pure false := by rfl) :
    PSs X (.Expr (.Call (.Attribute (.Name x p1) "append" p2) [e] [] p3) pos :: rest) (tS g b Γb Γ (ra.bindF fun d => if xs.length < cap then k d else .no) Γn) := by
  refine PSs.imp (pss_cons (ps_expr (pe_bm PySem.F.plainAttrs_list PySem.F.slot_list_append PySem.F.type_list_append mt_append (pe_var hN hv hd hcd) (pa_cons he pa_nil hs) hbase hfew hline hs hplain) hsw) (PSs.ex fun d => PSs.ex fun q => PSs.ex fun z => hrest d q z)) fun Ds σ H h => ?_
  obtain ⟨F, rf, h⟩ := h
  obtain ⟨a, vs, h1, h2, h3, h4, h5⟩ := rf.own hΓ
  refine ⟨_, h1, .inl ⟨rfl, vs, SqL.of h4⟩, tS_bind ⟨F, rf, h⟩ fun d v F1 H1 ed rf1 en k1 => ?_⟩
  obtain ⟨a', vs', h1', h2', h3', h4', h5'⟩ := rf1.own hΓ
  rw [h1] at h1'
  cases h1'
  by_cases hz : xs.length < cap
  · rw [if_pos hz] at k1
    exact ⟨a, vs', v, rfl, rfl, h4', cap_lt (by rw [h5'.len]; exact hz), d, ed, hz, F1, rf1.mutl hΓ h1 h4' h2' h3' (h5'.app (.cons en .nil)) hc, k1⟩
  · rw [if_neg hz] at k1
    exact k1.elim
/-- a list of one's own is changed no more -/
theorem b_frz {i : Nat} {xs : List D} {sts : List Stmt} {o : Fl β τ} (hrest : PSs X sts (tS g b Γb (Γ.set i (some (.v (.list xs)))) o Γn)) (hΓ : Γ[i]? = some (some (.l xs)) := by rfl) (hc : (b.cx[i]?).join = none := by rfl) : PSs X sts (tS g b Γb Γ o Γn) := PSs.imp hrest fun Ds σ H h => by
  obtain ⟨F, rf, h⟩ := h
  obtain ⟨F', rf'⟩ := rf.freeze hΓ hc
  exact ⟨F', rf', h⟩
/-- return e -/
theorem b_ret (he : PE X e (tE g b Γ ra)) (hrk : ∀ (F H : Hp) (v : V) (d : D), Enc g F v d → b.rk F H v d := by exact fun _ _ _ _ h => h) : PSs X (.Return (some e) pos :: rest) (tS g b Γb Γ (ra.bindF fun d => (.rt d : Fl β τ)) Γn) := PSs.imp (pss_cons (ps_ret he) pss_never) fun Ds σ H h => by
  refine tS_bind h fun d v F1 H1 ed rf en k => ?_
  exact k v F1 H1 rf.gr (hrk F1 H1 v d en)
/-- an expression whose value is dropped; rest -/
theorem b_expr {k : D → Fl β τ} (he : PE X e (tE g b Γ ra)) (hrest : ∀ d, PSs X rest (tS g b Γb Γ (k d) Γn)) (hs : swapsWith e none pos.line X.env = pure false := by rfl) : PSs X (.Expr e pos :: rest) (tS g b Γb Γ (ra.bindF k) Γn) :=
  PSs.imp (pss_cons (ps_expr he hs) (PSs.ex fun d => hrest d)) fun Ds σ H h => by
  refine tS_bind h fun d v F1 H1 ed rf en k1 => ?_
  exact ⟨d, F1, rf, k1⟩
/-- if c: A else: B; rest: what both branches leave is Γ1 of some t -/
theorem b_if {c : Expr} {A B : List Stmt} {rt : Res Bool} {oA oB : Fl β υ} {Γ1 : υ → Ctx} {k : υ → Fl β τ} (hc : PT X c (tT g b Γ rt)) (hA : rt = .ok true → PSs X A (tS g b Γb Γ oA Γ1)) (hB : rt = .ok false → PSs X B (tS g b Γb Γ oB Γ1)) (hrest : ∀ t, PSs X rest (tS g b Γb (Γ1 t) (k t) Γn)) :
    PSs X (.If c A B pos :: rest) (tS g b Γb Γ ((rt.bindF fun q => if q = true then oA else oB).bind k) Γn) := by
  have one : PS X (.If c A B pos) (tS g b Γb Γ (rt.bindF fun q => if q = true then oA else oB) Γ1) := by
    refine PS.imp (ps_if hc (t := fun Ds σ H => ∃ q : rt = .ok true, tS g b Γb Γ oA Γ1 Ds σ H) (u := fun Ds σ H => ∃ q : rt = .ok false, tS g b Γb Γ oB Γ1 Ds σ H) (PSs.ex fun q => hA q) (PSs.ex fun q => hB q)) fun Ds σ H h => ?_
    refine tS_bindT h fun d F1 H1 ed rf h1 => ?_
    cases d with
    | true => exact iteT ⟨ed, F1, rf, h1⟩
    | false => exact iteF ⟨ed, F1, rf, h1⟩
  refine PSs.imp (pss_cons one (PSs.ex fun t => hrest t)) fun Ds σ H h => ?_
  obtain ⟨F, rf, h⟩ := h
  refine ⟨F, rf, ?_⟩
  cases q : (rt.bindF fun q => if q = true then oA else oB) with
  | nx t =>
    rw [q] at h
    exact fun F' σ' H' r1 => ⟨t, F', r1, h⟩
  | rt d => rw [q] at h; exact h
  | bk t => rw [q] at h; exact h
  | ct t => rw [q] at h; exact h
  | ex c fs => rw [q] at h; exact h
  | no => rw [q] at h; exact h
/-- if c: A, where A leaves; rest -/
theorem b_ifr {c : Expr} {A : List Stmt} {rt : Res Bool} {oA : Fl β Empty} {oB : Fl β τ} (hc : PT X c (tT g b Γ rt)) (hA : rt = .ok true → PSs X A (tS g b Γb Γ oA (fun e => e.elim))) (hrest : rt = .ok false → PSs X rest (tS g b Γb Γ oB Γn)) :
    PSs X (.If c A [] pos :: rest) (tS g b Γb Γ (rt.bindF fun q => if q = true then oA.up else oB) Γn) := by
  refine PSs.imp (pss_cons (ps_if hc (t := fun Ds σ H => ∃ q : rt = .ok true, tS g b Γb Γ oA (fun e => e.elim) Ds σ H) (PSs.ex fun q => hA q) pss_nil) (PSs.ex fun q => hrest q)) fun Ds σ H h => ?_
  refine tS_bindT h fun d F1 H1 ed rf h1 => ?_
  cases d with
  | true =>
    refine iteT ⟨ed, F1, rf, ?_⟩
    have h1 : EndS g b Γb Γn (oA.up) Ds := h1
    cases oA with
    | nx t => exact t.elim
    | rt d => exact h1
    | bk t => exact h1
    | ct t => exact h1
    | ex c fs => exact h1
    | no => exact h1
  | false => exact iteF ⟨ed, F1, rf, h1⟩
end
end Mi
namespace Mi
open L2 PySem PySem.Spec PyProof.Rows
/-- the iterator J yields the data xs, one by one, as long as the view has grown out of F -/
structure Walks (g : Gm) (J : It) (F : Hp) (xs : List D) : Prop where
  go : ∀ (i : Nat) (F' H' : Hp), Sub F F' → Sub F' H' → i < xs.length → J.go i H' ∧ ∀ x H'', J.yld i H' x H'' → H'' = H' ∧ ∃ d, xs[i]? = some d ∧ Enc g F' x d
  stop : ∀ (F' H' : Hp), Sub F F' → Sub F' H' → J.stop xs.length H'
/-- what stands behind «in»: the data that it yields -/
structure Src (X : Cx) (g : Gm) (b : Bs) (Γ : Ctx) (tg iter : Expr) (rx : Res (List D)) : Prop where
  ex : ∃ wi, PI X tg iter wi ∧ ∀ (σ : L2.St) (H : Hp) (R : It → Hp → Prop), (∃ F, Rf g b Γ F σ H ∧ match rx with
    | .ok xs => ∀ J F' H', Grow F H F' H' → Walks g J F' xs → R J H'
    | .ex c fs => ∀ cls od F' H', Grow F H F' H' → Rf g b b.cx F' σ H' → ExOk g c fs cls od F' → b.W cls od σ H'
    | .no => False) → wi σ H R
section
variable {X : Cx} {g : Gm} {b : Bs} {Γ : Ctx} {F : Hp} {σ : L2.St} {H : Hp} {tg e e1 e2 iter : Expr} {es : List Expr} {pos p : Pos} {r ra rb : Res D} {rx : Res (List D)} {x : Str}
theorem walks_list {K : PySem.W.Frag} {a : Addr} {vs : List V} {xs : List D} (h : F a = some (.lst vs)) (en : EncL g F vs xs) : Walks g (Itl K a) F xs where
  go := fun i F' H' s1 s2 hi => by
    have hq := SqL.of (K := K) (s2 _ _ (s1 _ _ h))
    obtain ⟨v, h1, h2⟩ := en.get (List.getElem?_eq_getElem hi)
    refine ⟨⟨vs, v, hq, h1⟩, fun y H'' z => ⟨z.1, _, List.getElem?_eq_getElem hi, ?_⟩⟩
    have e2 := z.2 vs hq
    rw [h1] at e2
    cases e2
    exact h2.mono s1
  stop := fun F' H' s1 s2 => ⟨vs, SqL.of (s2 _ _ (s1 _ _ h)), by rw [en.len]; exact Nat.le_refl _⟩
theorem walks_tup {K : PySem.W.Frag} {a : Addr} {vs : List V} {xs : List D} (h : SqT K F a vs) (en : EncL g F vs xs) : Walks g (Itt K a) F xs where
  go := fun i F' H' s1 s2 hi => by
    have hq := (s1.trans s2).sqT h
    obtain ⟨v, h1, h2⟩ := en.get (List.getElem?_eq_getElem hi)
    refine ⟨⟨vs, v, hq, h1⟩, fun y H'' z => ⟨z.1, _, List.getElem?_eq_getElem hi, ?_⟩⟩
    have e2 := z.2 vs hq
    rw [h1] at e2
    cases e2
    exact h2.mono s1
  stop := fun F' H' s1 s2 => ⟨vs, (s1.trans s2).sqT h, by rw [en.len]; exact Nat.le_refl _⟩
/-- the rngL lo, lo + 1, .., n of them -/
def rngL (lo : Int) (n : Nat) : List D := (List.range n).map fun k => .int (lo + ((k : Nat) : Int))
theorem rngL_len (lo : Int) (n : Nat) : (rngL lo n).length = n := by simp [rngL]
theorem rngL_get {lo : Int} {n i : Nat} (h : i < n) : (rngL lo n)[i]? = some (.int (lo + (i : Int))) := by
  simp [rngL, h]
theorem walks_range (lo : Int) (n : Nat) : Walks g (Itr lo n) F (rngL lo n) where
  go := fun i F' H' s1 s2 hi => by
    rw [rngL_len] at hi
    refine ⟨hi, fun y H'' z => ⟨z.1, _, rngL_get hi, ?_⟩⟩
    rw [z.2]
    exact .int _
  stop := fun F' H' s1 s2 => by
    rw [rngL_len]
    exact Nat.le_refl _
def chars (z : Str) : List D := z.cps.toList.map fun c => .str ⟨#[c]⟩
theorem walks_str (z : Str) : Walks g (Its z) F (chars z) where
  go := fun i F' H' s1 s2 hi => by
    have hi : i < z.cps.size := by simpa [chars] using hi
    refine ⟨hi, fun y H'' q => ⟨q.1, ?_⟩⟩
    obtain ⟨c, h1, h2⟩ := q.2
    refine ⟨.str ⟨#[c]⟩, ?_, by rw [h2]; exact .str _⟩
    have h3 : z.cps.toList[i]? = some c := by simpa using h1
    simp [chars, h3]
  stop := fun F' H' s1 s2 => by
    show z.cps.size ≤ _
    simp [chars]
/-- the data that a value yields: a list's, a tuple's items, a text's signs -/
def itemsD : D → Option (List D)
  | .list xs => some xs
  | .tuple xs => some xs
  | .str z => some (chars z)
  | _ => none
theorem src_val (he : PE X e (tE g b Γ ra)) (hK : X.K = g.K := by rfl) : Src X g b Γ tg e (ra.bind fun d => ofO (itemsD d)) := by
  have lst : ∀ (σ : L2.St) (H : Hp) (R : It → Hp → Prop), (∀ xs, ra ≠ .ok (.tuple xs)) → (∀ z, ra ≠ .ok (.str z)) → (∃ F, Rf g b Γ F σ H ∧ match (ra.bind fun d => ofO (itemsD d)) with
    | .ok xs => ∀ J F' H', Grow F H F' H' → Walks g J F' xs → R J H'
    | .ex c fs => ∀ cls od F' H', Grow F H F' H' → Rf g b b.cx F' σ H' → ExOk g c fs cls od F' → b.W cls od σ H'
    | .no => False) → iList X.K (tE g b Γ ra) σ H R := by
    intro σ H R nt ns h
    obtain ⟨F, rf, h⟩ := h
    refine ⟨F, rf, ?_⟩
    cases ra with
    | ok d =>
      intro v F' H' gr en
      cases en with
      | lst h1 k1 => exact ⟨_, rfl, ⟨_, SqL.of (gr.fh _ _ h1)⟩, h (Itl X.K _) F' H' gr (walks_list h1 k1)⟩
      | tup _ _ => exact absurd rfl (nt _)
      | str _ => exact absurd rfl (ns _)
      | _ => exact h.elim
    | ex c fs => exact h
    | no => exact h
  cases hra : ra with
  | ok d =>
    cases d with
    | tuple xs =>
      refine ⟨_, pi_tup (hra ▸ he), fun σ H R h => ?_⟩
      obtain ⟨F, rf, h⟩ := h
      refine ⟨F, rf, fun v F' H' gr en => ?_⟩
      cases en with
      | tup h1 k1 => exact ⟨_, rfl, ⟨_, hK ▸ (gr.fh.tupX h1).sqT⟩, h (Itt X.K _) F' H' gr (walks_tup (hK ▸ h1.sqT) k1)⟩
    | str z =>
      refine ⟨_, pi_str (hra ▸ he), fun σ H R h => ?_⟩
      obtain ⟨F, rf, h⟩ := h
      refine ⟨F, rf, fun v F' H' gr en => ?_⟩
      cases en
      exact ⟨z, rfl, h (Its z) F' H' gr (walks_str z)⟩
    | _ => exact ⟨_, pi_list (hra ▸ he), fun σ H R h => by
        have := lst σ H R (by rw [hra]; intro _ z; cases z) (by rw [hra]; intro _ z; cases z)
        rw [hra] at this
        exact this h⟩
  | ex c fs => exact ⟨_, pi_list (hra ▸ he), fun σ H R h => by
      have := lst σ H R (by rw [hra]; intro _ z; cases z) (by rw [hra]; intro _ z; cases z)
      rw [hra] at this
      exact this h⟩
  | no => exact ⟨_, pi_list (hra ▸ he), fun σ H R h => by
      have := lst σ H R (by rw [hra]; intro _ z; cases z) (by rw [hra]; intro _ z; cases z)
      rw [hra] at this
      exact this h⟩
/-- range(n), range(a, b) -/
def rng1 : D → Option (List D)
  | .int n => if n < 2 ^ 62 ∧ -(2 ^ 62) ≤ n then some (rngL 0 n.toNat) else none
  | _ => none
theorem src_range1 (ha : PE X e1 (tE g b Γ ra)) (hm : X.mg "range" = none) (hg : Gl X "range" := by rfl) (hs : starEach [e1] X.env = [(false, eval e1 X.env)] := by first | exact starEach_plain rfl | rfl) (hs2 : starEach [e1] X.env = (false, eval e1 X.env) :: starEach [] X.env := by first | exact starEach_plain rfl | rfl) :
    Src X g b Γ tg (.Call (.Name "range" p) [e1] [] pos) (ra.bind fun d => ofO (rng1 d)) := by
  refine ⟨_, pi_range1 hg hm (pa_cons ha pa_nil hs2) hs, fun σ H R h => ?_⟩
  obtain ⟨F, rf, h⟩ := h
  refine ⟨F, rf, ?_⟩
  cases ra with
  | ok d =>
    intro v F' H' gr en
    cases en with
    | int n =>
      by_cases hc : n < 2 ^ 62 ∧ -(2 ^ 62) ≤ n
      · have e : rng1 (.int n) = some (rngL 0 n.toNat) := if_pos hc
        refine ⟨n, rfl, hc.2, hc.1, ?_⟩
        have h2 : match (ofO (rng1 (.int n)) : Res (List D)) with
          | .ok xs => ∀ J F' H', Grow F H F' H' → Walks g J F' xs → R J H'
          | .ex c fs => ∀ cls od F' H', Grow F H F' H' → Rf g b b.cx F' σ H' → ExOk g c fs cls od F' → b.W cls od σ H'
          | .no => False := h
        rw [e] at h2
        exact h2 _ F' H' gr (walks_range 0 n.toNat)
      · have e : rng1 (.int n) = none := if_neg hc
        have h2 : match (ofO (rng1 (.int n)) : Res (List D)) with
          | .ok xs => ∀ J F' H', Grow F H F' H' → Walks g J F' xs → R J H'
          | .ex c fs => ∀ cls od F' H', Grow F H F' H' → Rf g b b.cx F' σ H' → ExOk g c fs cls od F' → b.W cls od σ H'
          | .no => False := h
        rw [e] at h2
        exact h2.elim
    | _ => exact h.elim
  | ex c fs => exact h
  | no => exact h
def loopF {β τ : Type} : List D → τ → (D → τ → Fl τ τ) → Fl β τ
  | [], t, _ => .nx t
  | x :: xs, t, f => match f x t with
    | .nx t' => loopF xs t' f
    | .ct t' => loopF xs t' f
    | .bk t' => .nx t'
    | .rt d => .rt d
    | .ex c fs => .ex c fs
    | .no => .no
/-- the block's view at a loop's start -/
abbrev Bs.at_ (b : Bs) (F1 : Hp) : Bs := { b with F0 := F1 }
theorem Grow.base {F0 H0 F1 H1 F' H' : Hp} (a : Grow F0 H0 F1 H1) (c : Grow F1 H0 F' H') : Grow F0 H0 F' H' :=
  ⟨a.ff.trans c.ff, c.fh, c.hh, fun z h1 h2 => c.new z h1 (a.new z h1 h2)⟩
theorem Rf.down {F1 : Hp} (r : Rf g b Γ F σ H) : Rf g (b.at_ F) Γ F σ H := ⟨⟨Sub.refl _, r.gr.fh, r.gr.hh, fun _ _ z => z⟩, r.le, r.at_, r.sep, r.sepm⟩
theorem Rf.up {F1 H1 : Hp} {Δ : Ctx} {F' H' : Hp} {σ' : L2.St} (r : Rf g (b.at_ F1) Δ F' σ' H') (gr : Grow b.F0 b.H0 F1 H1) : Rf g b Δ F' σ' H' := ⟨gr.base r.gr, r.le, r.at_, r.sep, r.sepm⟩
/-- .. where the slots' number is known -/
theorem PG.impI {tg : Expr} {t : TG} (h : PG X tg t) : PG X tg (fun v σ H Q => σ.length = X.N.length → t v σ H Q) := ⟨fun pins s σ H v u Q I r q => h.run pins s σ H v u Q I r (q I.len)⟩
variable {β τ υ : Type} {Γb : β → Ctx} {Γn : υ → Ctx} {rest body : List Stmt}
/-- for x in e: body; rest -/
theorem b_for {i : Nat} {py : Pos} {t0 : τ} {Γh : τ → Ctx} {f : D → τ → Fl τ τ} {k : τ → Fl β υ} (hS : Src X g b Γ (.Name x py) iter rx)
    (hbody : ∀ (F1 : Hp) (d : D) (t : τ), PSs X body (tS g (b.at_ F1) Γh ((Γh t).set i (some (.v d))) (f d t) Γh)) (hrest : ∀ t, PSs X rest (tS g b Γb (Γh t) (k t) Γn))
    (hp : PassesOwn (model X.prog X.w) X.A X.env X.xe) (hN : X.N.Nodup)
    (h0 : Le (Γh t0) Γ := by repeat (first | exact Le.nil | apply Le.same | apply Le.none)) (hcx : ∀ t, Le b.cx (Γh t) := by intro _; repeat (first | exact Le.nil | apply Le.same | apply Le.none)) (hc0 : (b.cx[i]?).join = none := by rfl)
    (hi : X.N[i]? = some x := by rfl) (hx : Loc X.env.scope x := by first | exact Or.inl rfl | exact Or.inr rfl) (hf : X.fn x = true ∨ X.env.scope.names.lookup x = some .local := by first | exact .inl rfl | exact .inr rfl)
    (hc : X.calm = true := by rfl) (hs : ∀ x, foldedSetIterable iter X.env x = pure x := by intro _; rfl) :
    PSs X (.For (.Name x py) iter body [] pos :: rest) (tS g b Γb Γ (rx.bindF fun xs => (loopF xs t0 f).bind k) Γn) := by
  obtain ⟨wi, hw, hr⟩ := hS.ex
  refine PSs.impI (pss_cons (ps_for (tb := fun Ds σ H => ∃ (F1 : Hp) (d : D) (t : τ), tS g (b.at_ F1) Γh ((Γh t).set i (some (.v d))) (f d t) Γh Ds σ H) hp hc hw (PG.impI (pg_name hN hi hx hf)) (PSs.ex fun F1 => PSs.ex fun d => PSs.ex fun t => hbody F1 d t) hs) (PSs.ex fun t => hrest t)) fun Ds σ H hl h => ?_
  obtain ⟨F, rf, h⟩ := h
  have hiN := (List.getElem?_eq_some_iff.mp hi).1
  refine hr σ H _ ⟨F, rf, ?_⟩
  cases rx with
  | no => exact h
  | ex c fs => exact fun cls od F' H' gr r1 ok => h cls od F' σ H' r1 ok
  | ok xs =>
    intro J Fs Hs gr wk
    have rs := rf.grow gr
    have h : EndS g b Γb Γn ((loopF xs t0 f).bind k) Ds := h
    -- the invariant by the turn
    refine ⟨fun j m σ' H' => m = xs.length - j ∧ j ≤ xs.length ∧ ∃ t F', Rf g (b.at_ Fs) (Γh t) F' σ' H' ∧ (loopF (xs.drop j) t f : Fl β τ) = loopF xs t0 f, ⟨xs.length, by simp, Nat.zero_le _, t0, Fs, (rs.down (F1 := Fs)).weak h0 (hcx t0), by rw [List.drop_zero]⟩, ?_⟩
    rintro j m σ' H' ⟨rfl, hj, t, F', r1, eL⟩
    by_cases hlt : j < xs.length
    · obtain ⟨hgo, hy⟩ := wk.go j F' H' r1.gr.ff r1.gr.fh hlt
      refine .inr ⟨hgo, fun σ2 H2 => ∃ t F', Rf g (b.at_ Fs) (Γh t) F' σ2 H2 ∧ (loopF (xs.drop (j + 1)) t f : Fl β τ) = loopF xs t0 f, fun σ2 H2 q => ⟨xs.length - (j + 1), by omega, rfl, hlt, q⟩, fun v H'' hv hl' => ?_⟩
      obtain ⟨rfl, d, hd, en⟩ := hy v H'' hv
      have dr : xs.drop j = d :: xs.drop (j + 1) := by
        rw [List.drop_eq_getElem_cons hlt]
        have e2 := List.getElem?_eq_getElem hlt
        rw [e2] at hd
        rw [Option.some.inj hd]
      refine ⟨Fs, d, t, F', r1.setv en hc0 (by rw [hl']; exact hiN), ?_⟩
      have eL2 : (loopF (d :: xs.drop (j + 1)) t f : Fl β τ) = loopF xs t0 f := by rw [← dr]; exact eL
      rw [loopF] at eL2
      cases ef : f d t with
      | nx t' =>
        rw [ef] at eL2
        exact fun F2 σ2 H2 r2 => ⟨t', F2, r2, eL2⟩
      | ct t' =>
        rw [ef] at eL2
        exact fun F2 σ2 H2 r2 => ⟨t', F2, r2, eL2⟩
      | bk t' =>
        rw [ef] at eL2
        have e2 : (.nx t' : Fl β τ) = loopF xs t0 f := eL2
        rw [← e2] at h
        exact fun F2 σ2 H2 r2 => ⟨t', F2, r2.up rs.gr, h⟩
      | rt d2 =>
        rw [ef] at eL2
        have e2 : (.rt d2 : Fl β τ) = loopF xs t0 f := eL2
        rw [← e2] at h
        exact fun v F2 H2 gr2 en2 => h v F2 H2 (rs.gr.base gr2) en2
      | ex c fs =>
        rw [ef] at eL2
        have e2 : (.ex c fs : Fl β τ) = loopF xs t0 f := eL2
        rw [← e2] at h
        exact fun cls od F2 σ2 H2 r2 ok => h cls od F2 σ2 H2 (r2.up rs.gr) ok
      | no =>
        rw [ef] at eL2
        have e2 : (.no : Fl β τ) = loopF xs t0 f := eL2
        rw [← e2] at h
        exact h
    · have ej : j = xs.length := by omega
      subst ej
      refine .inl ⟨wk.stop F' H' r1.gr.ff r1.gr.fh, t, F', r1.up rs.gr, ?_⟩
      rw [List.drop_length] at eL
      have e2 : (.nx t : Fl β τ) = loopF xs t0 f := eL
      rw [← e2] at h
      exact h
end
end Mi
namespace Mi
open L2 PySem PySem.Spec PyProof.Rows
/-- the slots of a block's own names say nothing within it -/
def wipeC (Γ : Ctx) : List Nat → Ctx
  | [] => Γ
  | v :: vs => (wipeC Γ vs).set v none
theorem wipeC_get {Γ : Ctx} {i : Nat} {bd : Bnd} : ∀ {vs : List Nat}, (wipeC Γ vs)[i]? = some (some bd) → Γ[i]? = some (some bd) ∧ i ∉ vs
  | [], h => ⟨h, by simp⟩
  | v :: vs, h => by
    rcases set_get (show ((wipeC Γ vs).set v none)[i]? = some (some bd) from h) with ⟨_, e, _⟩ | ⟨ne, e⟩
    · cases e
    · obtain ⟨h1, h2⟩ := wipeC_get e
      exact ⟨h1, by simp only [List.mem_cons, not_or]; exact ⟨ne, h2⟩⟩
theorem wipe_set {σ : L2.St} {i : Nat} {o : Option V} : ∀ {vs : List Nat}, i ∈ vs → wipe ((wipe σ vs).set i o) vs = wipe σ vs := by
  have key : ∀ (vs : List Nat) (τ : L2.St) (j : Nat), (wipe τ vs)[j]? = if j ∈ vs ∧ j < τ.length then some none else τ[j]? := by
    intro vs
    induction vs with
    | nil => intro τ j; simp [wipe]
    | cons v vs ih =>
      intro τ j
      show ((wipe τ vs).set v none)[j]? = _
      rw [List.getElem?_set, wipe_length, ih]
      by_cases hv : v = j
      · subst hv
        by_cases hl : v < τ.length
        · simp [hl]
        · simp [hl]
      · have : ¬ j = v := fun z => hv z.symm
        simp [hv, this]
  intro vs hi
  apply List.ext_getElem?
  intro j
  rw [key, key, List.length_set, wipe_length, List.getElem?_set, wipe_length, key]
  by_cases hj : j ∈ vs
  · by_cases hl : j < σ.length
    · simp [hj, hl]
    · simp [hj, hl]
      omega
  · have ne : i ≠ j := fun z => hj (z ▸ hi)
    simp [hj, ne]
abbrev Bs.blk (b : Bs) : Bs := { b with cx := [], W := fun _ _ _ _ => False }
section
variable {X : Cx} {g : Gm} {b : Bs} {Γ : Ctx} {F : Hp} {σ : L2.St} {H : Hp} {tg e e1 e2 iter elt : Expr} {es ifs : List Expr} {pos p : Pos} {r ra rb : Res D} {rx : Res (List D)} {x : Str} {rt : Res Bool}
theorem Rf.blk (r : Rf g b Γ F σ H) (vs : List Nat) : Rf g b.blk (wipeC Γ vs) F (wipe σ vs) H := by
  refine ⟨r.gr, .nil, fun i bd e => ?_, fun i j a xs ys h1 h2 h3 h4 => ?_, r.sepm_sub (fun j x e => let ⟨q, n⟩ := wipeC_get e; ⟨q, wipe_out n⟩) (fun j xs e => let ⟨q, n⟩ := wipeC_get e; ⟨xs, q, wipe_out n⟩) fun _ _ _ _ _ _ _ _ _ => rfl⟩
  · obtain ⟨e1, e2⟩ := wipeC_get e
    obtain ⟨ov, k1, k2⟩ := r.at_ i bd e1
    exact ⟨ov, by rw [wipe_out e2]; exact k1, k2⟩
  · obtain ⟨a1, n1⟩ := wipeC_get h1
    obtain ⟨a2, n2⟩ := wipeC_get h2
    rw [wipe_out n1] at h3
    rw [wipe_out n2] at h4
    exact r.sep i j a xs ys a1 a2 h3 h4
theorem PTs.imp {t t' : TT} (h : PTs X ifs t) (k : ∀ σ H Q, t' σ H Q → t σ H Q) : PTs X ifs t' := ⟨fun pins s σ H Q I q => h.run pins s σ H Q I (k σ H Q q)⟩
theorem PTs.ex {α : Sort _} {t : α → TT} (h : ∀ a, PTs X ifs (t a)) : PTs X ifs (fun σ H Q => ∃ a, t a σ H Q) := ⟨fun pins s σ H Q I ⟨a, q⟩ => (h a).run pins s σ H Q I q⟩
theorem PE.ex {α : Sort _} {t : α → TE} (h : ∀ a, PE X e (t a)) : PE X e (fun σ H Q => ∃ a, t a σ H Q) := ⟨fun pins s σ H Q I ⟨a, q⟩ => (h a).run pins s σ H Q I q⟩
theorem p_nil : PTs X [] (tT g b Γ (.ok true)) := PTs.imp pts_nil fun σ H Q q => by
  obtain ⟨F, rf, p⟩ := q
  exact p F H (Grow.refl rf.gr.fh)
theorem p_one (h : PT X e (tT g b Γ rt)) : PTs X [e] (tT g b Γ rt) := pts_one h
/-- [f x for x in xs if c x] -/
def lcF : List D → (D → Res Bool) → (D → Res D) → Res (List D)
  | [], _, _ => .ok []
  | x :: xs, c, f => match c x with
    | .ok true => match f x with
      | .ok y => (lcF xs c f).bind fun ys => .ok (y :: ys)
      | _ => .no
    | .ok false => lcF xs c f
    | _ => .no
def lcC (xs : List D) (c : D → Res Bool) (f : D → Res D) : Res (List D) := if xs.length ≤ cap then lcF xs c f else .no
/-- the loop of a comprehension -/
theorem lc_go {i : Nat} {vs : List Nat} {c : D → Res Bool} {f : D → Res D} {xs : List D} {J : It} {Q : VK} {n : Nat} (rs : Rf g b Γ F σ H) (wk : Walks g J F xs) (hi : i ∈ vs) (hl : σ.length = n) (hn : i < n) (hz : xs.length ≤ cap)
    (hq : match lcF xs c f with
      | .ok ds => ∀ p us F' H', Grow F H F' H' → H p = none → F' p = none → H' p = some (.lst us) → EncL g F' us ds → Q (.ref p) H'
      | .ex _ _ => False
      | .no => False) (D : Addr) (hD : H D = none) :
    ∃ W : Nat → Nat → Hp → Prop, (∃ m, W 0 m (upd H D (.lst []))) ∧ ∀ j m H', W j m H' →
      (J.stop j H' ∧ Q (.ref D) H') ∨ (J.go j H' ∧ ∃ Nx : Hp → Prop, (∀ H', Nx H' → ∃ m', m' < m ∧ W (j + 1) m' H') ∧ ∀ y H'', J.yld j H' y H'' → gName i y (wipe σ vs) H'' fun σ2 H2 => wipe σ2 vs = wipe σ vs ∧
        (∃ d, tT g b.blk ((wipeC Γ vs).set i (some (.v d))) (c d) σ2 H2 fun k H3 =>
          if k = true then (∃ d, tE g b.blk ((wipeC Γ vs).set i (some (.v d))) (f d) σ2 H3 fun y H4 => ∃ acc, H4 D = some (.lst acc) ∧ acc.length < sizeLine ∧ Nx (upd H4 D (.lst (acc ++ [y])))) else Nx H3)) := by
  have D0 : b.H0 D = none := rs.gr.hh.free hD
  have DF : F D = none := rs.gr.fh.free hD
  -- what the rest comes to
  have step : ∀ (H' : Hp) (F' : Hp) (us : List V) (y : V) (dy : PyData) (ds : List PyData), Grow F H F' H' → F' D = none → H' D = some (.lst us) → EncL g F' us ds → Enc g F' y dy → Grow F H F' (upd H' D (.lst (us ++ [y]))) ∧ EncL g F' (us ++ [y]) (ds ++ [dy]) := fun H' F' us y dy ds gr h1 h2 en ey =>
    ⟨⟨gr.ff, gr.fh.mut h1, gr.hh.mut hD, gr.new⟩, en.app (.cons ey .nil)⟩
  refine ⟨fun j m H' => m = xs.length - j ∧ j ≤ xs.length ∧ ∃ (F' : Hp) (us : List V) (ds : List PyData), Grow F H F' H' ∧ F' D = none ∧ H' D = some (.lst us) ∧ EncL g F' us ds ∧ ds.length ≤ j ∧ ((lcF (xs.drop j) c f).bind fun es => .ok (ds ++ es)) = lcF xs c f, ⟨xs.length, by simp, Nat.zero_le _, F, [], [], ⟨Sub.refl _, rs.gr.fh.trans (Sub.new hD), Sub.new hD, fun _ _ z => z⟩, DF, upd_same, .nil, Nat.le_refl _, by
    rw [List.drop_zero]
    cases lcF xs c f <;> rfl⟩, ?_⟩
  rintro j m H' ⟨rfl, hj, F', us, ds, gr, hF, hH, en, hlen, eL⟩
  by_cases hlt : j < xs.length
  · obtain ⟨hgo, hy⟩ := wk.go j F' H' gr.ff gr.fh hlt
    refine .inr ⟨hgo, fun H2 => ∃ (F' : Hp) (us : List V) (ds : List PyData), Grow F H F' H2 ∧ F' D = none ∧ H2 D = some (.lst us) ∧ EncL g F' us ds ∧ ds.length ≤ j + 1 ∧ ((lcF (xs.drop (j + 1)) c f).bind fun es => .ok (ds ++ es)) = lcF xs c f, fun H2 q => ⟨xs.length - (j + 1), by omega, rfl, hlt, q⟩, fun v H'' hv => ?_⟩
    obtain ⟨rfl, d, hd, ev⟩ := hy v H'' hv
    have dr : xs.drop j = d :: xs.drop (j + 1) := by
      rw [List.drop_eq_getElem_cons hlt]
      have e2 := List.getElem?_eq_getElem hlt
      rw [e2] at hd
      rw [Option.some.inj hd]
    rw [dr, lcF] at eL
    refine ⟨wipe_set hi, d, F', ((rs.grow gr).blk vs).setv ev rfl (by rw [wipe_length, hl]; exact hn), ?_⟩
    have r2 := ((rs.grow gr).blk vs).setv ev (i := i) rfl (by rw [wipe_length, hl]; exact hn)
    cases ec : c d with
    | ok k =>
      rw [ec] at eL
      intro F2 H2 gr2
      have gF : Grow F H F2 H2 := gr.trans gr2
      have hF2 : F2 D = none := gr2.new D (by rw [hH]; simp) hF
      have hH2 : H2 D = some (.lst us) := gr2.hh _ _ hH
      cases k with
      | false => exact ⟨F2, us, ds, gF, hF2, hH2, en.mono gr2.ff, by omega, eL⟩
      | true =>
        refine ⟨d, F2, r2.grow gr2, ?_⟩
        cases ef : f d with
        | ok y =>
          have eL : (match f d with
            | .ok y => (lcF (xs.drop (j + 1)) c f).bind fun ys => .ok (y :: ys)
            | _ => .no).bind (fun es => .ok (ds ++ es)) = lcF xs c f := eL
          rw [ef] at eL
          intro w F3 H3 gr3 ew
          have hH3 := gr3.hh _ _ hH2
          have hF3 := gr3.new D (by rw [hH2]; simp) hF2
          obtain ⟨s1, s2⟩ := step H3 F3 us w y ds (gF.trans gr3) hF3 hH3 (en.mono (gr2.ff.trans gr3.ff)) ew
          refine ⟨us, hH3, cap_lt (by rw [en.len]; omega), F3, us ++ [w], ds ++ [y], s1, hF3, upd_same, s2, by simp; omega, ?_⟩
          rw [← eL]
          cases lcF (xs.drop (j + 1)) c f with
          | ok es => simp
          | ex _ _ => rfl
          | no => rfl
        | ex cn fs =>
          have eL : (match f d with
            | .ok y => (lcF (xs.drop (j + 1)) c f).bind fun ys => .ok (y :: ys)
            | _ => .no).bind (fun es => .ok (ds ++ es)) = lcF xs c f := eL
          rw [ef] at eL
          rw [← eL] at hq
          exact hq.elim
        | no =>
          have eL : (match f d with
            | .ok y => (lcF (xs.drop (j + 1)) c f).bind fun ys => .ok (y :: ys)
            | _ => .no).bind (fun es => .ok (ds ++ es)) = lcF xs c f := eL
          rw [ef] at eL
          rw [← eL] at hq
          exact hq.elim
    | ex cn fs =>
      rw [ec] at eL
      rw [← eL] at hq
      exact hq.elim
    | no =>
      rw [ec] at eL
      rw [← eL] at hq
      exact hq.elim
  · have ej : j = xs.length := by omega
    subst ej
    rw [List.drop_length] at eL
    have e2 : Res.ok (ds ++ []) = lcF xs c f := eL
    rw [← e2, List.append_nil] at hq
    exact .inl ⟨wk.stop F' H' gr.ff gr.fh, hq D us F' H' gr hD hF hH en⟩
variable {own : List (Str × Nat)} {i : Nat} {py : Pos} {scope : Scope} {c : D → Res Bool} {f : D → Res D}
/-- what a comprehension asks, from what is claimed of it -/
theorem lc_reads {wi : TI} {vs : List Nat} {Q : VK} (hi : i ∈ vs) (hn : i < X.N.length) (hl : σ.length = X.N.length)
    (hr : ∀ (σ : L2.St) (H : Hp) (R : It → Hp → Prop), (∃ F, Rf g b Γ F σ H ∧ match rx with
    | .ok xs => ∀ J F' H', Grow F H F' H' → Walks g J F' xs → R J H'
    | .ex c fs => ∀ cls od F' H', Grow F H F' H' → Rf g b b.cx F' σ H' → ExOk g c fs cls od F' → b.W cls od σ H'
    | .no => False) → wi σ H R) (h : PostN g b Γ F (rx.bind fun xs => lcC xs c f) σ H Q) :
    tLc wi (gName i) (fun σ H Q => ∃ d, tT g b.blk ((wipeC Γ vs).set i (some (.v d))) (c d) σ H Q) (fun σ H Q => ∃ d, tE g b.blk ((wipeC Γ vs).set i (some (.v d))) (f d) σ H Q) vs σ H Q := by
  refine hr σ H _ ⟨F, h.1, ?_⟩
  cases rx with
  | no => exact h.2
  | ex c fs => exact h.2
  | ok xs =>
    intro J F1 H1 gr wk D hD
    have h2 : match lcC xs c f with
      | .ok ds => ∀ p vs F' H', Grow F H F' H' → H p = none → F' p = none → H' p = some (.lst vs) → EncL g F' vs ds → Q (.ref p) H'
      | .ex c fs => ∀ cls od F' H', Grow F H F' H' → Rf g b b.cx F' σ H' → ExOk g c fs cls od F' → b.W cls od σ H'
      | .no => False := h.2
    unfold lcC at h2
    by_cases hz : xs.length ≤ cap
    · rw [if_pos hz] at h2
      refine lc_go (h.1.grow gr) wk hi hl hn hz ?_ D hD
      have nex : ∀ (ys : List PyData) (cn : Str) (fs : List PyData), lcF ys c f ≠ .ex cn fs := by
        intro ys
        induction ys with
        | nil => intro cn fs z; cases z
        | cons y ys ih =>
          intro cn fs z
          rw [lcF] at z
          cases ec : c y with
          | ok k =>
            rw [ec] at z
            cases k with
            | false => exact ih cn fs z
            | true =>
              cases ef : f y with
              | ok w =>
                have z : (match f y with
                  | .ok y => (lcF ys c f).bind fun ys => .ok (y :: ys)
                  | _ => .no) = Res.ex cn fs := z
                rw [ef] at z
                cases er : lcF ys c f with
                | ok es =>
                  have z : (lcF ys c f).bind (fun ys => .ok (w :: ys)) = Res.ex cn fs := z
                  rw [er] at z
                  cases z
                | ex cn' fs' => exact ih cn' fs' er
                | no =>
                  have z : (lcF ys c f).bind (fun ys => .ok (w :: ys)) = Res.ex cn fs := z
                  rw [er] at z
                  cases z
              | ex cn' fs' =>
                have z : (match f y with
                  | .ok y => (lcF ys c f).bind fun ys => .ok (y :: ys)
                  | _ => .no) = Res.ex cn fs := z
                rw [ef] at z
                cases z
              | no =>
                have z : (match f y with
                  | .ok y => (lcF ys c f).bind fun ys => .ok (y :: ys)
                  | _ => .no) = Res.ex cn fs := z
                rw [ef] at z
                cases z
          | ex cn' fs' =>
            rw [ec] at z
            cases z
          | no =>
            rw [ec] at z
            cases z
      cases er : lcF xs c f with
      | ok ds =>
        rw [er] at h2
        exact fun p us F' H' gr2 h3 h4 h5 h6 => h2 p us F' H' (gr.trans gr2) (gr.hh.free h3) h4 h5 h6
      | ex cn fs => exact absurd er (nex _ _ _)
      | no =>
        rw [er] at h2
        exact h2
    · rw [if_neg hz] at h2
      exact h2.elim
theorem n_lc (own : List (Str × Nat)) (hS : Src X g b Γ (.Name x py) iter rx)
    (ht : ∀ (s : Shared) (H : Hp) (C : Addr) (cl : List (Str × Addr)) (fp : List Addr) (d : D), PTs (X.blk s H scope (compEnvC scope cl C X.env) fp) ifs (tT g b.blk ((wipeC Γ (own.map (·.2))).set i (some (.v d))) (c d)))
    (he : ∀ (s : Shared) (H : Hp) (C : Addr) (cl : List (Str × Addr)) (fp : List Addr) (d : D), PE (X.blk s H scope (compEnvC scope cl C X.env) fp) elt (tE g b.blk ((wipeC Γ (own.map (·.2))).set i (some (.v d))) (f d))) (hN : X.N.Nodup)
    (hc : X.calm = true := by rfl) (ok : blkC X.N X.env.scope scope own = true := by kernel_rfl) (hi : X.N[i]? = some x := by rfl) (hm : i ∈ own.map (·.2) := by decide)
    (hx : ∀ (s : Shared) (H : Hp) (C : Addr) (cl : List (Str × Addr)) (fp : List Addr), Loc (X.blk s H scope (compEnvC scope cl C X.env) fp).env.scope x := by intro _ _ _ _ _; first | exact Or.inl rfl | exact Or.inr rfl)
    (hf : ∀ (s : Shared) (H : Hp) (C : Addr) (cl : List (Str × Addr)) (fp : List Addr), (X.blk s H scope (compEnvC scope cl C X.env) fp).fn x = true ∨ (X.blk s H scope (compEnvC scope cl C X.env) fp).env.scope.names.lookup x = some .local := by intro _ _ _ _ _; first | exact .inl rfl | exact .inr rfl)
    (hs : ∀ x, foldedSetIterable iter X.env x = pure x := by intro _; rfl) :
    PE X (.ListComp elt [⟨.Name x py, iter, ifs, 0⟩] scope pos) (tN g b Γ (rx.bind fun xs => lcC xs c f)) := by
  obtain ⟨wi, hw, hr⟩ := hS.ex
  have pe := pe_lc (pos := pos) hc hN hw (blkOk_by ok) (g := gName i) (tt := fun σ H Q => ∃ d, tT g b.blk ((wipeC Γ (own.map (·.2))).set i (some (.v d))) (c d) σ H Q) (te := fun σ H Q => ∃ d, tE g b.blk ((wipeC Γ (own.map (·.2))).set i (some (.v d))) (f d) σ H Q)
    (fun s H C cl fp => pg_name hN hi (hx s H C cl fp) (hf s H C cl fp)) (fun s H C cl fp => PTs.ex fun d => ht s H C cl fp d) (fun s H C cl fp => PE.ex fun d => he s H C cl fp d) hs
  refine ⟨fun pins s σ H Q I h => pe.run pins s σ H Q I ?_⟩
  obtain ⟨F, h⟩ := h
  exact lc_reads hm (List.getElem?_eq_some_iff.mp hi).1 I.len hr h
variable {β τ υ : Type} {Γb : β → Ctx} {Γn : τ → Ctx} {rest : List Stmt} {y : Str} {k : List D → Fl β τ} {i2 : Nat} {py2 spos : Pos}
end
end Mi
namespace Mi
open L2 PySem PySem.Spec PyProof.Rows
def noO : Option Bnd → Bool
  | some (.o _ _ _) => false
  | _ => true
section
variable {g : Gm} {b : Bs} {Γ : Ctx} {F H H' : Hp} {σ : L2.St}
/-- what names the fields stored so far bear -/
def keysF : List (D × D) → List Str
  | [] => []
  | (.str f, _) :: r => f :: keysF r
  | _ :: r => keysF r
end
section
variable {X : Cx} {g : Gm} {b : Bs} {Γ : Ctx} {F : Hp} {σ : L2.St} {H : Hp} {e e1 e2 : Expr} {es : List Expr} {pos p : Pos} {r ra rb : Res D} {rs : Res (List D)} {x f : Str} {β τ υ : Type} {Γb : β → Ctx} {Γn : τ → Ctx} {rest body : List Stmt}
theorem run_makeS {CX : CXT} {k n : Nat} {f C : Addr} {fd : FuncData} {ps ks : List Str} {sp : Sp} {E : XK} {gg : List Value → List Value → List Value} {gV : List V → List V → List V} {pins : List (Addr × Obj)} {s : Shared} {Q : VK} {us ws : List Value} {vs zs : List V} (M : Mk X.K C f)
    (Fn : FnOk X.prog X.w X.K X.mg X.base CX k f fd ps sp) (hr : Room (k + 1) X.A) (hb : KBn X.K fd ps (n + 1) ks gg gV) (hx : PassesAt CX X σ E) (I : Inv X pins σ H s) (r : Vals vs us) (rz : Vals zs ws) (l1 : vs.length = n) (l2 : zs.length = ks.length)
    (h : ∀ x dx, H x = none → H dx = none → dx ≠ x → sp (gV (.ref x :: vs) zs) (upd (upd H dx (.own x)) x (.ins C dx [])) (fun v H2 => v = .non ∧ Q (.ref x) H2) E) : wpAny (model X.prog X.w) X.A (call (.ref C) us (ks.zip ws)) (EP X pins σ Q) X.xe s := by
  have hq := h (s.heap.objs.size + 1) s.heap.objs.size (I.hok.fresh (Nat.le_succ _)) (I.hok.fresh (Nat.le_refl _)) (Nat.ne_of_lt (Nat.lt_succ_self _))
  have I2 := Inv.made (C := C) I
  have r1 : Vals (V.ref (s.heap.objs.size + 1) :: vs) (Value.ref (s.heap.objs.size + 1) :: us) := .cons rfl r
  have n1 : (Value.ref (s.heap.objs.size + 1) :: us).length = n + 1 := by rw [List.length_cons, ← r.length, l1]
  refine wpAny_call (make_map (f := f) I.kIn M.makes M.init (beq_iff_eq.mp M.fn) (codeAny_mono (Fn.run _ X.stack _ _ ⟨Value.ref (s.heap.objs.size + 1) :: us, ks.zip ws⟩ (gg (Value.ref (s.heap.objs.size + 1) :: us) ws) _ _ E (hr.make C us (ks.zip ws))
    (I2.env0.make C us (ks.zip ws)) (hb.to _ (Value.ref (s.heap.objs.size + 1) :: us) ws I2.kIn n1 (rz.length.symm.trans l2)) (hb.rel r1 rz) hq) fun r s' hq' => ?_))
  cases r with
  | error e => exact hx pins _ _ e s' I2 hq'
  | ok fl =>
    cases fl with
    | ret u =>
      obtain ⟨v, H', I3, rv, ev, q3⟩ := I2.after hq'
      subst ev
      exact ⟨rv, ⟨V.ref (s.heap.objs.size + 1), H', I3, rfl, q3⟩⟩
    | next => exact False.elim hq'
    | brk => exact False.elim hq'
    | cont => exact False.elim hq'
end
section
variable {P : Program} {w : World} {g : Gm} {mg : Str → Option Value} {base : Heap} {name qual : Str} {params : Arguments} {body : List Stmt} {scope : Scope} {dvs : List V} {kws : List (Str × V)} {f : Addr} {fd : FuncData} {N ps : List Str} {k : Nat}
def ctx0 (n : Nat) (ds : List D) : Ctx := ds.map (fun d => some (.v d)) ++ List.replicate (n - ds.length) none
theorem ctx0_v {n : Nat} {ds : List D} {i : Nat} {bd : Bnd} (h : (ctx0 n ds)[i]? = some (some bd)) : ∃ d, bd = .v d := by
  unfold ctx0 at h
  by_cases hi : i < ds.length
  · rw [List.getElem?_append_left (by simpa using hi), List.getElem?_map] at h
    cases q : ds[i]? with
    | none =>
      rw [q] at h
      cases h
    | some d =>
      rw [q] at h
      cases h
      exact ⟨d, rfl⟩
  · rw [List.getElem?_append_right (by simpa using hi), List.getElem?_replicate] at h
    split at h <;> cases h
abbrev bs0 (g : Gm) (F H : Hp) (E : XK) : Bs := ⟨F, H, [], fun cls od _ H' => E cls od H', fun F _ v d => Enc g F v d⟩
theorem rf0 {n : Nat} {F H : Hp} {E : XK} {vs : List V} {ds : List D} (hN : N.length = n) (s : Sub F H) (en : EncL g F vs ds) : Rf g (bs0 g F H E) (ctx0 n ds) F (start N vs) H := by
  refine ⟨Grow.refl s, .nil, fun i bd e => ?_, fun i j a xs ys h1 => ?_, fun i j x v fp _ h1 => by obtain ⟨d, z⟩ := ctx0_v h1; cases z⟩
  · unfold ctx0 at e
    by_cases hi : i < ds.length
    · rw [List.getElem?_append_left (by simpa using hi), List.getElem?_map] at e
      cases q : ds[i]? with
      | none =>
        rw [q] at e
        cases e
      | some d =>
        rw [q] at e
        cases e
        obtain ⟨v, h1, h2⟩ := en.get q
        refine ⟨some v, ?_, h2⟩
        unfold L2.start
        rw [List.getElem?_append_left (by rw [List.length_map, en.len]; exact hi), List.getElem?_map, h1]
        rfl
    · rw [List.getElem?_append_right (by simpa using hi), List.getElem?_replicate] at e
      split at e <;> cases e
  · exfalso
    unfold ctx0 at h1
    by_cases hi : i < ds.length
    · rw [List.getElem?_append_left (by simpa using hi), List.getElem?_map] at h1
      cases q : ds[i]? with
      | none =>
        rw [q] at h1
        cases h1
      | some d =>
        rw [q] at h1
        cases h1
    · rw [List.getElem?_append_right (by simpa using hi), List.getElem?_replicate] at h1
      split at h1 <;> cases h1
/-- what each rule within a def's body may lean on -/
structure Side (k : Nat) (P : Program) (w : World) (g : Gm) (mg : Str → Option Value) (base : Heap) (N : List Str) (qual : Str) (scope : Scope) (f : Addr) (cdv : Value) (A : Around) (outer : List Env) (s : Shared) (H : Hp) (E : XK) : Prop where
  hr : Room k (cxOf (L2.CX P w) P w g.K mg base N qual scope f cdv A outer s H E).A
  tk : Takes (cxOf (L2.CX P w) P w g.K mg base N qual scope f cdv A outer s H E) (fun cls od _ H' => E cls od H')
  hu : (cxOf (L2.CX P w) P w g.K mg base N qual scope f cdv A outer s H E).A.units + 64 < cLine
  hu1 : (cxOf (L2.CX P w) P w g.K mg base N qual scope f cdv A outer s H E).A.units + 65 < cLine
  po : PassesOwn (model P w) (cxOf (L2.CX P w) P w g.K mg base N qual scope f cdv A outer s H E).A (cxOf (L2.CX P w) P w g.K mg base N qual scope f cdv A outer s H E).env (cxOf (L2.CX P w) P w g.K mg base N qual scope f cdv A outer s H E).xe
theorem side_of {cdv : Value} {A : Around} {outer : List Env} {s : Shared} {H : Hp} {E : XK} (hr : Room k (A.deeper (envOfC qual scope s.heap.objs.size f cdv))) : Side k P w g mg base N qual scope f cdv A outer s H E :=
  have h : (cxOf (L2.CX P w) P w g.K mg base N qual scope f cdv A outer s H E).A.units + 16 * k + 200 < cLine := hr.un
  ⟨hr, takes_of rfl rfl rfl rfl, by omega, by omega, passes_of rfl⟩
theorem len_nil : ∀ ds : List D, (Res.ok [] : Res (List D)) = .ok ds → ds.length = 0 := fun ds h => by
  cases h
  rfl
theorem len_cons {ra : Res D} {rs : Res (List D)} {n : Nat} (h : ∀ ds, rs = .ok ds → ds.length = n) : ∀ ds : List D, (ra.bind fun x => rs.bind fun xs => .ok (x :: xs)) = .ok ds → ds.length = n + 1 := fun ds q => by
  cases ra with
  | ok a =>
    cases rs with
    | ok xs =>
      cases q
      rw [List.length_cons, h xs rfl]
    | ex _ _ => cases q
    | no => cases q
  | ex _ _ => cases q
  | no => cases q
theorem def_ok {o : List D → Fl Empty Unit} {m : List D → Res D} (Fd : FunD g.K name qual params body scope dvs kws f fd) (S : FnScope N ps scope) (hm : ∀ ds, ds.length = ps.length → m ds = (o ds).res) (hl : ∀ ds, ds.length ≠ ps.length → m ds = .no)
    (hbody : ∀ (cdv : Value) (A : Around) (outer : List Env) (s : Shared) (H F : Hp) (E : XK) (ds : List D), Side k P w g mg base N qual scope f cdv A outer s H E → ds.length = ps.length →
      PSs (cxOf (L2.CX P w) P w g.K mg base N qual scope f cdv A outer s H E) body (tS g (bs0 g F H E) (fun e : Empty => e.elim) (ctx0 N.length ds) (o ds) (fun _ : Unit => []))) :
    FnOk P w g.K mg base (L2.CX P w) (k + 1) f fd ps (spD g m) := by
  have len : ∀ vs H Q E, spD g m vs H Q E → vs.length = ps.length := fun vs H Q E h => by
    obtain ⟨F, ds, s, en, h⟩ := h
    rw [en.len]
    by_cases q : ds.length = ps.length
    · exact q
    · rw [hl ds q] at h
      exact h.elim
  refine Fd.ok S len fun cdv A outer s H vs Q E hr h => ?_
  have l0 := len _ _ _ _ h
  obtain ⟨F, ds, sb, en, h⟩ := h
  have l1 : ds.length = ps.length := by rw [← en.len, l0]
  rw [hm ds l1] at h
  refine ⟨_, hbody cdv A outer s H F E ds (side_of hr) l1, F, rf0 rfl sb en, ?_⟩
  cases q : o ds with
  | nx t =>
    rw [q] at h
    exact fun F' σ' H' r => h .non F' H' r.gr .non
  | rt d =>
    rw [q] at h
    exact fun v F' H' gr en => h v F' H' gr en
  | bk e => exact e.elim
  | ct e => exact e.elim
  | ex c fs =>
    rw [q] at h
    exact fun cls od F' σ' H' r ok => h cls od F' H' r.gr ok
  | no =>
    rw [q] at h
    exact h
end
end Mi
namespace Mi
open L2 PySem PySem.Spec PyProof.Rows
section
variable {X : Cx} {g : Gm} {b : Bs} {Γ : Ctx} {F : Hp} {σ : L2.St} {H : Hp} {e e1 e2 : Expr} {es : List Expr} {pos p : Pos} {r ra rb ro : Res D} {rs : Res (List D)} {x f : Str} {β τ υ : Type} {Γb : β → Ctx} {Γn : τ → Ctx} {rest body : List Stmt}
/-- a list's, a tuple's, a text's type is built in -/
def tyB : D → String
  | .list _ => "list"
  | .tuple _ => "tuple"
  | .str _ => "str"
  | _ => ""
theorem Enc.tyB {pins : List (Addr × Obj)} {s : Shared} {v : V} {u : Value} {d : D} (hK : X.K = g.K) (I : Inv X pins σ H s) (h : Enc g H v d) (r : RelV v u) (n : tyB d ≠ "") : s.TypeIs u (Mi.tyB d) ∧ ∀ a, u = .ref a → ∃ o, s.heap.get? a = some o ∧ o.dict = none := by
  cases h with
  | str z =>
    obtain ⟨t, rfl⟩ := r
    exact ⟨typeIs_str s z t, fun _ e => nomatch e⟩
  | lst h1 _ =>
    cases r
    obtain ⟨its, _, pl, _⟩ := I.list (SqL.of (K := X.K) h1)
    refine ⟨pl.isList.typeIs, fun a e => ?_⟩
    cases e
    obtain ⟨o, n, e, c, hd, _⟩ := pl
    exact ⟨o, e, hd⟩
  | tup h1 _ =>
    cases r
    rcases h1 with ⟨its, h1⟩ | ⟨o, its, m, h1, h2, h3, _⟩
    · obtain ⟨e, _⟩ := I.hok _ _ h1
      exact ⟨⟨_, e, rfl⟩, fun a e2 => by
        cases e2
        exact ⟨_, e, rfl⟩⟩
    · have e := I.kIn _ _ (hK ▸ h1)
      exact ⟨⟨_, e, h2⟩, fun a e2 => by
        cases e2
        exact ⟨_, e, h3⟩⟩
  | _ => exact absurd rfl n
/-- a method of one value, both looked at; the answer is a scalar -/
def Meth1 (X : Cx) (g : Gm) (T id : String) (o : D → D → Option D) : Prop :=
  ∀ (pins : List (Addr × Obj)) (s : Shared) (σ : L2.St) (H : Hp) (v w : V) (u t : Value) (x y d : D) (Q : VK), Inv X pins σ H s → RelV v u → RelV w t → Enc g H v x → Enc g H w y → Mi.tyB x = T → o x y = some d → (∀ z, (∀ F, Enc g F z d) → Q z H) →
    wpAny (model X.prog X.w) X.A (call (.builtin id) [u, t]) (EP X pins σ Q) X.xe s
theorem e_m1 {T id : String} {name : Str} {apos cpos : Pos} {o : D → D → Option D} (pa : PlainAttrs T) (slot : Slot T name id) (hty : typeOf (.builtin id) = pure (.type "method_descriptor")) (hm : Meth1 X g T id o) (hT : T ≠ "") (ho : PE X e1 (tR g b Γ ro)) (ha : PE X e (tR g b Γ ra))
    (hbase : attributeBase e1 name X.env (eval e1 X.env) = eval e1 X.env := by first | exact base_plain rfl | rfl)
    (hfew : ((backTo cpos (starEach [e] X.env)).all (fun x => !x.1) && (backToKw cpos (keywordEach [] X.env)).all (fun x => x.1.isSome) && decide ([e].length + ([] : List Keyword).length + (if ([] : List Keyword).isEmpty then 0 else 1) < 30)) = true := by first | exact star_few rfl rfl | rfl)
    (hline : (apos.endLine == cpos.line) = true := by rfl) (hs : starEach [e] X.env = (false, eval e X.env) :: starEach [] X.env := by first | exact starEach_plain rfl | rfl) (hplain : (backTo cpos (starEach [] X.env)).any (·.1) = false := by first | exact star_any rfl | rfl) (hK : X.K = g.K := by rfl) :
    PE X (.Call (.Attribute e1 name apos) [e] [] cpos) (tE g b Γ (ro.bind fun x => if Mi.tyB x = T then ra.bind fun y => ofO (o x y) else .no)) := by
  refine ⟨fun pins s σ H Q I h => ?_⟩
  obtain ⟨F, h⟩ := h
  refine wpAny_Call_method_late hbase hfew hline rfl (thn (ho.run pins s σ H (fun v H1 => ∃ d F1, Post g b Γ F1 (if Mi.tyB d = T then ra.bind fun y => ofO (o d y) else .no) σ H1 Q ∧ Enc g H1 v d) I (tR_bind h fun d v F1 H1 _ g1 en p1 => ⟨d, F1, p1, en⟩)) fun v s1 ⟨x, H1, I1, r1, d, F1, p1, en⟩ => ?_)
  by_cases q : Mi.tyB d = T
  · rw [if_pos q] at p1
    obtain ⟨h1, h2⟩ := en.tyB hK I1 r1 (by rw [q]; exact hT)
    rw [q] at h1
    refine ⟨T, id, pa, slot, hty, h1, h2, ?_⟩
    have hA := (pa_cons ha pa_nil hs).run cpos pins s1 σ H1 (fun vs H2 => ∃ w dy F2, vs = [w] ∧ Post g b Γ F2 (ofO (o d dy)) σ H2 Q ∧ Enc g H2 w dy ∧ Enc g H2 x d) I1 (tR_bind p1 fun dy w F2 H2 _ g2 ey p2 => ⟨w, dy, F2, rfl, p2, ey, en.mono g2.hh⟩)
    rw [hs] at hA ⊢
    refine Calls.callWith_builtin (by show (false || (backTo cpos (starEach [] X.env)).any (·.1)) = false; rw [hplain] <;> rfl) (Calls.evalArgs_plain ?_)
    refine thn hA fun us s2 ⟨vs, H2, I2, r2, w, dy, F2, e2, p2, ey, ex⟩ => ?_
    subst e2
    obtain ⟨t, rfl, rt⟩ := vals1 r2
    obtain ⟨d', e', k⟩ := p2.gives
    exact hm pins s2 σ H2 x w v t d dy d' Q I2 r1 rt ex ey q e' fun z hz => k.here p2.1.gr.fh (hz F2)
  · rw [if_neg q] at p1
    exact p1.2.elim
/-- l.index(x), t.index(x); l.count(x), t.count(x) -/
def indexD (x y : D) : Option D := match x with
  | .list xs | .tuple xs => if inOk y xs = true ∧ xs.length ≤ cap then (SeqAt.dataPlace xs y).map fun j => .int (j : Nat) else none
  | _ => none
theorem Enc.seq {pins : List (Addr × Obj)} {s : Shared} {v : V} {u : Value} {xs : List D} {a : Addr} {vs : List V} {its : List Value} (hK : X.K = g.K) (I : Inv X pins σ H s) (en : EncL g H vs xs) (p : PyData.plainAll xs = true) (r : Vals vs its) : ∃ as, ReadsAll s.heap its xs as :=
  Dp.readsAll I xs vs its (by rw [hK]; exact en.dp p) r
theorem index_some {xs : List D} {y d : D} (h : (if inOk y xs = true ∧ xs.length ≤ cap then (SeqAt.dataPlace xs y).map fun j => PyData.int (j : Nat) else none) = some d) : inOk y xs = true ∧ xs.length ≤ cap ∧ ∃ j, SeqAt.dataPlace xs y = some j ∧ d = .int (j : Nat) := by
  split at h
  · rename_i q
    obtain ⟨j, h1, h2⟩ := Option.map_eq_some_iff.mp h
    exact ⟨q.1, q.2, j, h1, h2.symm⟩
  · cases h
theorem m_lindex (hu : X.A.units + 65 < cLine) (hK : X.K = g.K := by rfl) : Meth1 X g "list" "list.index" indexD := fun pins s σ H v w u t x y d Q I rv rw ex ey hT e k => by
  cases ex with
  | lst h1 k1 =>
    rename_i a vs xs
    obtain ⟨hc, hz, j, hj, rfl⟩ := index_some (show (if inOk y xs = true ∧ xs.length ≤ cap then (SeqAt.dataPlace xs y).map fun j => PyData.int (j : Nat) else none) = some d from e)
    obtain ⟨py, pxs, hd⟩ := inOk_d hc
    cases rv
    obtain ⟨bs, r1⟩ := ey.reads hK I py rw
    obtain ⟨its, rv, ⟨⟨cls, dd, data, sls⟩, n, ho, hc, hdn, hdt⟩, hlen⟩ := I.list (SqL.of (K := X.K) h1)
    simp only at hc hdt
    subst hc hdt
    obtain ⟨as, h4⟩ := Dp.readsAll I xs _ its (by rw [hK]; exact k1.dp pxs) rv
    have h5 : ReadsAll s.heap its.toArray.toList xs as := h4
    obtain ⟨hj2, hit, hno⟩ := SeqAt.hit_at h5 pxs hj
    have hl := SeqAt.len_at h5
    refine call_meets PySem.F.slot_list_index ⟨_, ho, rfl⟩ PySem.F.entry_list_index (PySem.F.args_list_index_2 _ _) (SeqAt.list_indexAt a its.toArray n dd sls t _ j hj2 (by have := cap_line hz; have := sizeLine_eq; omega) hit hno) ⟨ho, SeqAt.items_plain h5 r1 pxs py (by omega), ?_⟩
    exact ⟨.int (j : Nat), H, I.tok _, ⟨_, rfl⟩, k _ fun _ => .int _⟩
  | _ => simp [Mi.tyB] at hT
theorem e_lindex {apos cpos : Pos} (hu : X.A.units + 65 < cLine) (ho : PE X e1 (tR g b Γ ro)) (ha : PE X e (tR g b Γ ra)) (hbase : attributeBase e1 "index" X.env (eval e1 X.env) = eval e1 X.env := by first | exact base_plain rfl | rfl)
    (hfew : ((backTo cpos (starEach [e] X.env)).all (fun x => !x.1) && (backToKw cpos (keywordEach [] X.env)).all (fun x => x.1.isSome) && decide ([e].length + ([] : List Keyword).length + (if ([] : List Keyword).isEmpty then 0 else 1) < 30)) = true := by first | exact star_few rfl rfl | rfl)
    (hline : (apos.endLine == cpos.line) = true := by rfl) (hs : starEach [e] X.env = (false, eval e X.env) :: starEach [] X.env := by first | exact starEach_plain rfl | rfl) (hplain : (backTo cpos (starEach [] X.env)).any (·.1) = false := by first | exact star_any rfl | rfl) (hK : X.K = g.K := by rfl) :
    PE X (.Call (.Attribute e1 "index" apos) [e] [] cpos) (tE g b Γ (ro.bind fun x => if Mi.tyB x = "list" then ra.bind fun y => ofO (indexD x y) else .no)) :=
  e_m1 PySem.F.plainAttrs_list PySem.F.slot_list_index PySem.F.type_list_index (m_lindex hu hK) (by decide) ho ha hbase hfew hline hs hplain hK
/-- a view with all of the heap's lists -/
def lend (F H : Hp) : Hp := fun a => match F a with
  | some o => some o
  | none => match H a with
    | some (.lst xs) => some (.lst xs)
    | _ => none
/-- a value that may be a list of one's own -/
def PostL (g : Gm) (b : Bs) (Γ : Ctx) (F : Hp) (r : Res (List D)) (σ : L2.St) (H : Hp) (Q : List V → Hp → Prop) : Prop :=
  Rf g b Γ F σ H ∧ match r with
  | .ok ds => ∀ vs F' H', Grow F H F' H' → EncL g (lend F' H') vs ds → Q vs H'
  | .ex c fs => ∀ cls od F' H', Grow F H F' H' → Rf g b b.cx F' σ H' → ExOk g c fs cls od F' → b.W cls od σ H'
  | .no => False
theorem PostL.grow {r : Res (List D)} {Q : List V → Hp → Prop} {F' H' : Hp} (p : PostL g b Γ F r σ H Q) (gr : Grow F H F' H') : PostL g b Γ F' r σ H' Q := by
  obtain ⟨rf, p⟩ := p
  refine ⟨rf.grow gr, ?_⟩
  cases r with
  | ok d => exact fun v F2 H2 a => p v F2 H2 (gr.trans a)
  | ex c fs => exact ex_go gr p
  | no => exact p
mutual
/-- no list within -/
def noL : D → Bool
  | .list _ => false
  | .tuple xs => noLs xs
  | .dict kvs => noLp kvs
  | _ => true
def noLs : List D → Bool
  | [] => true
  | x :: xs => noL x && noLs xs
def noLp : List (D × D) → Bool
  | [] => true
  | (a, b) :: r => noL a && (noL b && noLp r)
end
/-- what the answer of a call to which lists were lent keeps of the view -/
def take (F Fc F' : Hp) : Hp := fun a => if Fc a ≠ none ∧ F a = none then none else F' a
section
variable {Fc F' : Hp}
theorem take_keep (hc : ∀ a, Fc a ≠ none → F a = none → ∃ xs, Fc a = some (.lst xs)) (s : Sub Fc F') {a : Addr} {o : HO} (e : F' a = some o) (h : ∀ xs, o ≠ .lst xs) : take F Fc F' a = some o := by
  unfold take
  rw [if_neg (fun z => by
    obtain ⟨xs, q⟩ := hc a z.1 z.2
    rw [s _ _ q] at e
    cases e
    exact h xs rfl)]
  exact e
end
theorem lend_lst : ∀ a, lend F H a ≠ none → F a = none → ∃ xs, lend F H a = some (.lst xs) := fun a h1 h2 => by
  unfold lend at h1 ⊢
  rw [h2] at h1 ⊢
  cases z : H a with
  | none =>
    rw [z] at h1
    exact absurd rfl h1
  | some o =>
    rw [z] at h1
    cases o <;> first | exact ⟨_, rfl⟩ | exact absurd rfl h1
theorem ExOk.take {c : Str} {fs : List D} {cls : Value} {od : Option Addr} {F' : Hp} (s : Sub (lend F H) F') (ok : ExOk g c fs cls od F') : ExOk g c fs cls od (Mi.take F (lend F H) F') := by
  obtain ⟨i, h1, h2, h3, h4⟩ := ok
  refine ⟨i, h1, h2, h3, fun z => ?_⟩
  obtain ⟨dd, vs, k1, k2, k3, k4, k5⟩ := h4 z
  exact ⟨dd, vs, k1, take_keep lend_lst s k2 (fun _ z => nomatch z), k3.scal k5, k4, k5⟩
end
end Mi
namespace Mi
open L2 PySem PySem.Spec PyProof.Rows
section
open He
variable {K : PySem.W.Frag} {h : Heap} {mg : Str → Option Value}
/-- a class with slots -/
def sclsB (K : PySem.W.Frag) (C : Addr) : Bool := PySem.W.plainGet K C Str.empty && (PySem.W.isClsIn K C && (PySem.W.plainOver K C && eqO (PySem.W.findIn K (.ref C) "__setattr__") (some (some (.builtin "object.__setattr__")))))
theorem scls_ok {C : Addr} (c : sclsB K C = true) : SlX.SCls K C := by
  obtain ⟨c1, c⟩ := ba c
  obtain ⟨c2, c⟩ := ba c
  obtain ⟨c3, c4⟩ := ba c
  exact ⟨c1, c2, c3, eqO_ok c4⟩
def slotB (K : PySem.W.Frag) (C : Addr) (f : Str) (i : Nat) : Bool := eqO (PySem.W.findIn K (.ref C) f) (some (some (.ref (ma K C f)))) && (eqO (PySem.W.specialIn K (.ref (ma K C f)) "__get__") (some (some (.builtin "member_descriptor.__get__"))) &&
  (decide (PySem.W.takesIn K (.ref (ma K C f)) = some true) && (decide (PySem.W.typeIn K (.ref (ma K C f)) = some (.type "member_descriptor")) && (decide (PySem.W.slotIn K (ma K C f) C = some i) && decide (i < 1000)))))
theorem slot_ok {C : Addr} {f : Str} {i : Nat} (c : slotB K C f i = true) : SlX.Slot1 K C f (ma K C f) i := by
  obtain ⟨c1, c⟩ := ba c
  obtain ⟨c2, c⟩ := ba c
  obtain ⟨c3, c⟩ := ba c
  obtain ⟨c4, c⟩ := ba c
  obtain ⟨c5, c6⟩ := ba c
  exact ⟨eqO_ok c1, eqO_ok c2, of_decide_eq_true c3, of_decide_eq_true c4, of_decide_eq_true c5, of_decide_eq_true c6⟩
def slotsB (K : PySem.W.Frag) (C : Addr) : List Str → List Nat → Bool
  | [], _ => true
  | f :: fs, i :: is => slotB K C f i && slotsB K C fs is
  | _ :: _, [] => false
theorem slots_ok {C : Addr} : ∀ {fs : List Str} {is : List Nat}, slotsB K C fs is = true → ∀ (j : Nat) (f : Str), fs[j]? = some f → ∃ p q, is[j]? = some q ∧ SlX.Slot1 K C f p q
  | [], _, _, j, f, e => by simp at e
  | _ :: _, [], c, _, _, _ => by cases c
  | f0 :: fs, i :: is, c, 0, f, e => by
    obtain ⟨c1, _⟩ := ba c
    simp at e
    subst e
    exact ⟨_, i, rfl, slot_ok c1⟩
  | f0 :: fs, i :: is, c, j + 1, f, e => by
    obtain ⟨_, c2⟩ := ba c
    obtain ⟨p, q, h1, h2⟩ := slots_ok c2 j f (by simpa using e)
    exact ⟨p, q, by simpa using h1, h2⟩
/-- a class by its name: its facts as one Bool -/
def ciOk (K : PySem.W.Frag) (x : Str) (k : Kd) (fs : List Str) (pl : List Nat) : Bool := match k with
  | .slots => sclsB K (ga K x) && (decide pl.Nodup && slotsB K (ga K x) fs pl)
  | .dict => (Fa.cls x).ok K && fs.all fun f => (Fa.noat x f).ok K
  | .exc => (Fa.exc x).ok K || !fs.isEmpty
theorem ci_ok {x : Str} {k : Kd} {fs : List Str} {pl : List Nat} (c : ciOk K x k fs pl = true) : ClsOk K ⟨ga K x, k, fs, pl⟩ := by
  refine ⟨fun e => ?_, fun e => ?_⟩
  · have e : k = .slots := e
    subst e
    obtain ⟨c1, c2⟩ := ba c
    obtain ⟨c2, c3⟩ := ba c2
    exact ⟨scls_ok c1, of_decide_eq_true c2, slots_ok c3⟩
  · have e : k = .dict := e
    subst e
    obtain ⟨c1, c2⟩ := ba c
    exact ⟨cls_ok c1, fun f hf => noat_ok (List.all_eq_true.mp c2 f hf)⟩
/-- the classes by a table -/
def ciT (K : PySem.W.Frag) : List (Str × Kd × List Str × List Nat) → Str → Option CI
  | [], _ => none
  | (x, k, fs, pl) :: r, c => if c = x then some ⟨ga K x, k, fs, pl⟩ else ciT K r c
theorem cis_ok {w : World} {t : List (Str × Kd × List Str × List Nat)} (c : (t.all fun q => ciOk K q.1 q.2.1 q.2.2.1 q.2.2.2) = true) : CisOk ⟨K, ciT K t, w⟩ := by
  intro n i e
  have e : ciT K t n = some i := e
  show ClsOk K i
  induction t with
  | nil => cases e
  | cons q r ih =>
    obtain ⟨x, k, fs, pl⟩ := q
    obtain ⟨c1, c2⟩ := ba (show (ciOk K x k fs pl && r.all fun q => ciOk K q.1 q.2.1 q.2.2.1 q.2.2.2) = true from c)
    have e2 : (if n = x then some (⟨ga K x, k, fs, pl⟩ : CI) else ciT K r n) = some i := e
    split at e2
    · cases e2
      exact ci_ok c1
    · exact ih c2 e2 e2
end
section
open He
def obsM (ex : PySem.W.Frag → Bool) (fn : List He5.DefA) (K : PySem.W.Frag) : He.AlD := (ex K && fn.all fun d => d.ok K, fn.map fun d => He5.fnA K (d.at_ K))
def SaysM (ex : PySem.W.Frag → Bool) (fn : List He5.DefA) (K : PySem.W.Frag) : Prop := obsM ex fn K = He5.valA fn
variable {ex : PySem.W.Frag → Bool} {fn : List He5.DefA} {K : PySem.W.Frag}
theorem SaysM.more (c : SaysM ex fn K) : ex K = true := (ba (show (ex K && fn.all fun d => d.ok K) = true from congrArg (fun z : He.AlD => z.1) c)).1
theorem SaysM.def_ (c : SaysM ex fn K) (i : Nat) {d : He5.DefA} (h : fn[i]? = some d := by rfl) : ∃ fd, L2.FunD K d.name d.qual d.params d.body d.scope (d.dvs K) (d.kws K) (d.at_ K) fd := by
  have c2 := (ba (show (ex K && fn.all fun d => d.ok K) = true from congrArg (fun z : He.AlD => z.1) c)).2
  have e : fn.map (fun d => He5.fnA K (d.at_ K)) = fn.map He5.DefA.val := congrArg (fun z : He.AlD => z.2) c
  have e2 : (fn.map fun d => He5.fnA K (d.at_ K))[i]? = (fn.map He5.DefA.val)[i]? := by rw [e]
  rw [List.getElem?_map, List.getElem?_map, h] at e2
  exact He5.DefA.funD (Option.some.inj e2) (List.all_eq_true.mp c2 d (List.mem_of_getElem? h))
end
theorem calm_of {P : Program} {w : World} {K : PySem.W.Frag} {mg : Str → Option Value} {base : Heap} {k : Nat} {f : Addr} {fd : FuncData} {ps : List Str} {sp : Sp} (F : FnOk P w K mg base (L2.CX P w) k f fd ps sp) :
    FnOk P w K mg base CX0 k f fd ps (fun vs H Q _ => sp vs H Q fun _ _ _ => False) :=
  ⟨fun vs H Q E h => F.len vs H Q _ h, fun A outer s H args us vs Q E hr he hb hv h => codeAny_mono (F.run A outer s H args us vs Q (fun _ _ _ => False) hr he hb hv h) fun r s' hq => by
    cases r with
    | error e =>
      obtain ⟨a, B, H', cls, d, h1, h2, h3, h4, h5, h6, h7, h8⟩ := (show L2.CX P w outer H s (fun _ _ _ => False) e s' from hq)
      exact h8.elim
    | ok fl => cases fl <;> exact hq⟩
/-- the script -/
def scrD (ns : List Int) : D := .dict [(.none, .list (ns.map .int))]
theorem encInts {g : Gm} {F : Hp} : ∀ ns : List Int, EncL g F (ns.map V.int) (ns.map PyData.int)
  | [] => .nil
  | n :: ns => .cons (.int n) (encInts ns)
theorem law_sp {g : Gm} {m : List D → Res D} {H : Hp} {a : Addr} {ns : List Int} (hS : SqL g.K H a (ns.map V.int)) (h : m [scrD ns] = .ok (.bool true)) : spD g m [.ref a] H (fun v _ => v = .bl true) fun _ _ _ => False := by
  refine ⟨H, [scrD ns], Sub.refl _, .cons (.dct (.scr hS (encInts ns))) .nil, ?_⟩
  rw [h]
  intro v F' H' _ en
  cases en
  rfl
end Mi
namespace Mi
open L2 PySem PySem.Spec PyProof.Rows
/-- an instance of the class c? -/
def isC (c : Str) : D → Bool
  | .dict ((.none, .str x) :: _) => decide (x = c)
  | _ => false
theorem Enc.isC {g : Gm} {F : Hp} {v : V} {d : D} {c : Str} (h : Enc g F v d) (q : isC c d = true) : ∃ a dx i ns vs kvs, v = .ref a ∧ d = .dict ((.none, .str c) :: kvs) ∧ g.ci c = some i ∧ EncF g F ns vs kvs ∧ ObjAt i F a dx ns vs := by
  cases h with
  | dct k =>
    cases k with
    | obj h1 h2 h3 =>
      have e := of_decide_eq_true (show decide (_ = c) = true from q)
      subst e
      exact ⟨_, _, _, _, _, _, rfl, rfl, h1, h2, h3⟩
    | scr _ _ => cases q
    | st _ _ _ => cases q
    | dk _ kp =>
      cases kp with
      | nil => cases q
      | consI _ _ => cases q
      | consS _ _ => cases q
  | _ => cases q
/-- a def of a class, called at an instance -/
structure MethT (P : Program) (w : World) (g : Gm) (mg : Str → Option Value) (base : Heap) (c m : Str) (k : Nat) (mm : List D → Res D) : Prop where
  ex : ∃ i f fd ps, g.ci c = some i ∧ Meth g.K i.C m f ∧ FnOk P w g.K mg base (L2.CX P w) k f fd ps (spD g mm) ∧ Binds g.K fd ps [] ∧ (i.k = .dict → ∀ f ∈ i.fs, ¬ f = m) ∧ i.k ≠ .exc
section
variable {X : Cx} {g : Gm} {b : Bs} {Γ : Ctx} {F : Hp} {σ : L2.St} {H : Hp} {e e1 e2 : Expr} {es : List Expr} {pos p : Pos} {r ra rb ro : Res D} {rs : Res (List D)} {x f : Str}
theorem zip_none {m : Str} : ∀ {ns : List Str} {vs : List V}, (∀ f ∈ ns, ¬ f = m) → (ns.zip vs).lookup m = none
  | [], _, _ => rfl
  | _ :: _, [], _ => rfl
  | n :: ns, v :: vs, h => by
    have h1 : (m == n) = false := by
      have := h n (by simp)
      simpa using fun z => this z.symm
    show List.lookup m ((n, v) :: ns.zip vs) = none
    simp only [List.lookup, h1]
    exact zip_none fun f hf => h f (by simp [hf])
/-- the method is found -/
theorem meth_go {pins : List (Addr × Obj)} {s : Shared} {a dx fa : Addr} {i : CI} {ns : List Str} {vs : List V} {m : Str} {pl : Sem Bool} {Q : Value × List Value → Shared → Prop} {E : Value → Shared → Prop} (hK : X.K = g.K) (co : ClsOk g.K i) (I : Inv X pins σ H s) (o : ObjAt i H a dx ns vs) (hm : Meth g.K i.C m fa)
    (hf : i.k = .dict → ∀ f ∈ i.fs, ¬ f = m) (hx : i.k ≠ .exc) (q : Q (.ref fa, [.ref a]) s) : wpAny (model X.prog X.w) X.A (getMethod (.ref a) m pl) Q E s := by
  rcases o with ⟨ks, en, el, o⟩ | ⟨kd, el, ha, hd, hin⟩
  · obtain ⟨c, nd, sl⟩ := co.sl ks
    rcases o with ⟨z, z1, _⟩ | ⟨ss, h0, z1, z2⟩
    · exact SlX.getmethsl_ok I (.inl ⟨z1, rfl⟩) (hK ▸ c) (hK ▸ hm) q
    · exact SlX.getmethsl_ok I (.inr ⟨z1, z2⟩) (hK ▸ c) (hK ▸ hm) q
  · obtain ⟨c, na⟩ := co.di kd
    exact getmeth_ok I ha (hK ▸ c) (hK ▸ hm) (zip_none fun f h => hf kd f (hin f h)) q
end
end Mi
namespace Mi
open L2 PySem PySem.Spec PyProof.Rows
/-- a def of a class, called at an instance by positions -/
structure MethR (P : Program) (w : World) (g : Gm) (mg : Str → Option Value) (base : Heap) (c m : Str) (k : Nat) (mm : List D → Res D) : Prop where
  ex : ∃ i f, g.ci c = some i ∧ Meth g.K i.C m f ∧ FnR P w g.K mg base (L2.CX P w) k f (spD g mm) ∧ (i.k = .dict → ∀ f ∈ i.fs, ¬ f = m) ∧ i.k ≠ .exc
theorem MethT.raw {P : Program} {w : World} {g : Gm} {mg : Str → Option Value} {base : Heap} {c m : Str} {k : Nat} {mm : List D → Res D} (T : MethT P w g mg base c m k mm) : MethR P w g mg base c m k mm := by
  obtain ⟨i, f, fd, ps, h1, h2, F, bd, h3, h4⟩ := T.ex
  refine ⟨i, f, h1, h2, (F.raw bd .nil).imp fun vs H Q E h => ?_, h3, h4⟩
  rw [List.append_nil]
  exact h
section
variable {X : Cx} {g : Gm} {b : Bs} {Γ : Ctx} {F : Hp} {σ : L2.St} {H : Hp} {e e1 e2 : Expr} {es : List Expr} {pos p : Pos} {r ra rb ro : Res D} {rs : Res (List D)} {x f : Str}
theorem run_fnRS {CX : CXT} {k : Nat} {f : Addr} {sp : Sp} {E : L2.St → XK} {pins : List (Addr × Obj)} {s : Shared} {Q : VK} {us : List Value} {vs : List V} (F : FnR X.prog X.w X.K X.mg X.base CX k f sp) (hr : Room k X.A) (hx : PassesAt CX X σ (E σ))
    (I : Inv X pins σ H s) (r : Vals vs us) (h : sp vs H Q (E σ)) : wpAny (model X.prog X.w) X.A (call (.ref f) us) (EP X pins σ Q) X.xe s := by
  refine wpAny_call (codeAny_mono (F X.A X.stack s H us vs Q (E σ) hr I.env0 r h) fun r s' hq => ?_)
  cases r with
  | error e => exact hx pins H s e s' I hq
  | ok fl =>
    cases fl with
    | ret u => exact I.after hq
    | next => exact False.elim hq
    | brk => exact False.elim hq
    | cont => exact False.elim hq
/-- what a callee promises, at data -/
theorem sp_of {mm : List D → Res D} {Q : VK} {ds : List D} {vs : List V} (p : Post g b Γ F (mm ds) σ H Q) (en : EncL g F vs ds) : spD g mm vs H Q (WE b.W σ) := by
  refine ⟨F, ds, p.1.gr.fh, en, ?_⟩
  obtain ⟨rf, p⟩ := p
  cases q : mm ds with
  | ok d =>
    rw [q] at p
    exact p
  | ex c fs =>
    rw [q] at p
    exact fun cls od F' H' gr ok => p cls od F' H' gr (rf.grow gr).cx ok
  | no =>
    rw [q] at p
    exact p
/-- o.m(e, ..) -/
theorem e_methR {c m : Str} {k j : Nat} {mm : List D → Res D} {apos : Pos} {pl : Sem Bool} (T : MethR X.prog X.w g X.mg X.base c m k mm) (co : CisOk g) (hr : Room j X.A) (tk : Takes X b.W) (ho : PE X e1 (tE g b Γ ro)) (ha : PA X (e :: es) (tA g b Γ rs)) (hj : k ≤ j := by decide)
    (hst : starEach (e :: es) X.env = (false, eval e X.env) :: starEach es X.env := by first | exact starEach_plain rfl | rfl) (hpl : (backTo pos (starEach es X.env)).any (·.1) = false := by first | exact star_any rfl | rfl)
    (ht : eval (.Call (.Attribute e1 m apos) (e :: es) [] pos) X.env = (do
      let ov ← eval e1 X.env
      standAt apos.atName
      let (f, first) ← holding [ov] (getMethod ov m pl)
      callWith pos f first (backTo pos (starEach (e :: es) X.env)) (backToKw pos (keywordEach [] X.env))) := by first | exact ev_meth rfl rfl rfl rfl rfl | rfl) (hK : X.K = g.K := by rfl) :
    PE X (.Call (.Attribute e1 m apos) (e :: es) [] pos) (tE g b Γ (ro.bind fun o => if isC c o = true then rs.bind fun ds => mm (o :: ds) else .no)) := by
  obtain ⟨i, fa, hi, hm, Fn, hf, hx⟩ := T.ex
  refine ⟨fun pins s σ H Q I h => ?_⟩
  obtain ⟨F, h⟩ := h
  refine PySem.W.methodCall_KW (pl := pl) (thn (ho.run pins s σ H (fun v H1 => ∃ d F1, Post g b Γ F1 (if isC c d = true then rs.bind fun ds => mm (d :: ds) else .no) σ H1 Q ∧ Enc g F1 v d) I (tE_bind h fun d v F1 H1 _ g1 en p1 => ⟨d, F1, p1, en⟩)) fun u s1 ⟨v, H1, I1, rv, d, F1, p1, en⟩ => ?_) ht
  by_cases q : isC c d = true
  · rw [if_pos q] at p1
    obtain ⟨a, dx, i', ns, vs, kvs, rfl, rfl, hi', ef, ob⟩ := en.isC q
    rw [hi] at hi'
    cases hi'
    cases rv
    refine meth_go hK (co _ _ hi) I1 (p1.1.gr.fh.objAt ob) hm hf hx ?_
    rw [← hK] at Fn hm
    refine PySem.W.callWith_K (first := [.ref a]) (h₀ := X.base) I1.ok.mod.kin hm.kp (thn (ha.run pos pins s1 σ H1 (fun ws H2 => ∃ ds F2, Post g b Γ F2 (mm (.dict ((.none, .str c) :: kvs) :: ds)) σ H2 Q ∧ EncL g F2 ws ds ∧ Enc g F2 (.ref a) (.dict ((.none, .str c) :: kvs))) I1 (tA_bind p1 fun ds ws F2 H2 _ g2 en2 p2 => ⟨ds, F2, p2, en2, en.mono g2.ff⟩)) fun us s2 ⟨ws, H2, I2, r2, ds, F2, p2, en2, en3⟩ => ⟨I2.kIn, ?_⟩) hst hpl
    exact run_fnRS (E := WE b.W) (us := .ref a :: us) (vs := .ref a :: ws) Fn (hr.mono hj) (passAt tk σ) I2 (.cons rfl r2) (sp_of p2 (.cons en3 en2))
  · rw [if_neg q] at p1
    exact p1.2.elim
/-- o.m() -/
theorem e_methR0 {c m : Str} {k j : Nat} {mm : List D → Res D} {apos : Pos} {pl : Sem Bool} (T : MethR X.prog X.w g X.mg X.base c m k mm) (co : CisOk g) (hr : Room j X.A) (tk : Takes X b.W) (ho : PE X e1 (tE g b Γ ro)) (hj : k ≤ j := by decide)
    (ht : eval (.Call (.Attribute e1 m apos) [] [] pos) X.env = (do
      let ov ← eval e1 X.env
      standAt apos.atName
      let (f, first) ← holding [ov] (getMethod ov m pl)
      callWith pos f first (backTo pos (starEach [] X.env)) (backToKw pos (keywordEach [] X.env))) := by first | exact ev_meth rfl rfl rfl rfl rfl | rfl) (hK : X.K = g.K := by rfl) :
    PE X (.Call (.Attribute e1 m apos) [] [] pos) (tE g b Γ (ro.bind fun o => if isC c o = true then mm [o] else .no)) := by
  obtain ⟨i, fa, hi, hm, Fn, hf, hx⟩ := T.ex
  refine ⟨fun pins s σ H Q I h => ?_⟩
  obtain ⟨F, h⟩ := h
  refine PySem.W.methodCall_KW (pl := pl) (thn (ho.run pins s σ H (fun v H1 => ∃ d F1, Post g b Γ F1 (if isC c d = true then mm [d] else .no) σ H1 Q ∧ Enc g F1 v d) I (tE_bind h fun d v F1 H1 _ g1 en p1 => ⟨d, F1, p1, en⟩)) fun u s1 ⟨v, H1, I1, rv, d, F1, p1, en⟩ => ?_) ht
  by_cases q : isC c d = true
  · rw [if_pos q] at p1
    obtain ⟨a, dx, i', ns, vs, kvs, rfl, rfl, hi', ef, ob⟩ := en.isC q
    rw [hi] at hi'
    cases hi'
    cases rv
    refine meth_go hK (co _ _ hi) I1 (p1.1.gr.fh.objAt ob) hm hf hx ?_
    rw [← hK] at Fn hm
    refine PySem.W.callWith_K0 (first := [.ref a]) I1.kIn hm.kp ?_
    exact run_fnRS (E := WE b.W) (us := [.ref a]) (vs := [.ref a]) Fn (hr.mono hj) (passAt tk σ) I1 (.cons rfl .nil) (sp_of p1 (.cons en .nil))
  · rw [if_neg q] at p1
    exact p1.2.elim
theorem ObjAt.inst {pins : List (Addr × Obj)} {s : Shared} {i : CI} {a dx : Addr} {ns : List Str} {vs : List V} (I : Inv X pins σ H s) (h : ObjAt i H a dx ns vs) : ∃ ox od, PySem.W.InstAt s.heap a ox i.C (some od) := by
  have ins : ∀ fs : List (Str × V), H a = some (.ins i.C dx fs) → ∃ ox od, PySem.W.InstAt s.heap a ox i.C (some od) := fun fs h => by
    obtain ⟨mA, O, _⟩ := ins_get I.hok h
    obtain ⟨od, J, _⟩ := O.look
    exact ⟨_, _, J⟩
  rcases h with ⟨_, _, _, ⟨_, h, _⟩ | ⟨ss, _, h1, h2⟩⟩ | ⟨_, _, h, _⟩
  · exact ins _ h
  · obtain ⟨sl, od, _, J, _⟩ := SlX.slt_inst I (.inr ⟨h1, h2⟩)
    exact ⟨_, _, J⟩
  · exact ins _ h
end
end Mi
namespace Mi
open L2 PySem PySem.Spec PyProof.Rows
section
variable {X : Cx} {g : Gm} {b : Bs} {Γ : Ctx} {F : Hp} {σ : L2.St} {H : Hp} {e e1 e2 : Expr} {es : List Expr} {pos p : Pos} {r ra rb ro : Res D} {rs : Res (List D)} {x f : Str}
/-- a bool -/
def blO : D → Option Bool
  | .bool k => some k
  | _ => none
end
section
open He
variable {K : PySem.W.Frag}
/-- the classes of a table stand where their names tell -/
theorem ciT_at {K : PySem.W.Frag} {n : Str} {i : CI} : ∀ {t : List (Str × Kd × List Str × List Nat)}, ciT K t n = some i → i.C = ga K n
  | [], e => by cases e
  | (x, k, fs, pl) :: r, e => by
    have e2 : (if n = x then some (⟨ga K x, k, fs, pl⟩ : CI) else ciT K r n) = some i := e
    split at e2
    · rename_i q
      cases e2
      rw [q]
    · exact ciT_at e2
end
end Mi
namespace Mi
open L2 PySem PySem.Spec PyProof.Rows
section
variable {g : Gm} {b : Bs} {Γ : Ctx} {F : Hp} {σ : L2.St} {H : Hp}
/-- a slot holds the exception -/
theorem Rf.setx (r : Rf g b Γ F σ H) {i : Nat} {a : Addr} (hc : (b.cx[i]?).join = none) (hi : i < σ.length) : Rf g b (Γ.set i (some (.x a))) F (σ.set i (some (.ref a))) H := by
  have nn : ∀ {j : Nat} {bd : Bnd}, (Γ.set i (some (.x a)))[j]? = some (some bd) → (∀ a, bd ≠ .x a) → j ≠ i ∧ Γ[j]? = some (some bd) := fun {j} {bd} e n => by
    rcases set_get e with ⟨_, e2, _⟩ | q
    · cases e2
      exact absurd rfl (n a)
    · exact q
  refine ⟨r.gr, r.le.setr hc, fun j bd e => ?_, fun j k c xs ys h1 h2 h3 h4 => ?_, r.sepm_sub (fun j x e => let ⟨n, q⟩ := nn e (fun _ z => nomatch z); ⟨q, List.getElem?_set_ne (Ne.symm n)⟩) (fun j xs e => let ⟨n, q⟩ := nn e (fun _ z => nomatch z); ⟨xs, q, List.getElem?_set_ne (Ne.symm n)⟩) fun _ _ _ _ _ _ _ _ _ => rfl⟩
  · rcases set_get e with ⟨rfl, e2, _⟩ | ⟨ne, e2⟩
    · cases e2
      exact ⟨some (.ref a), List.getElem?_set_self hi, rfl⟩
    · obtain ⟨ov, k1, k2⟩ := r.at_ j bd e2
      exact ⟨ov, by rw [List.getElem?_set_ne (Ne.symm ne)]; exact k1, k2⟩
  · rcases set_get h1 with ⟨_, e2, _⟩ | ⟨n1, e1⟩
    · cases e2
    · rcases set_get h2 with ⟨_, e2, _⟩ | ⟨n2, e2⟩
      · cases e2
      · rw [List.getElem?_set_ne (Ne.symm n1)] at h3
        rw [List.getElem?_set_ne (Ne.symm n2)] at h4
        exact r.sep j k c xs ys e1 e2 h3 h4
end
section
variable {X : Cx} {g : Gm} {b : Bs} {Γ : Ctx} {β τ υ : Type} {Γb : β → Ctx} {Γn : τ → Ctx} {rest body suite : List Stmt} {b₀ : Stmt}
/-- the class behind isinstance, own or built in: which classes of the table are of it -/
structure KitT (g : Gm) (mg : Str → Option Value) (x : Str) (ks : List (Str × Bool)) : Prop where
  ex : ∃ cv c, (mg x = some cv ∨ (mg x = none ∧ bootBuiltins x = some cv ∧ x ≠ "__name__")) ∧ ClsV c cv ∧ ∀ n b, ks.lookup n = some b → ∀ i, g.ci n = some i → PySem.W.kitOne g.K (.ref i.C) cv = some b ∧ ExcC g.K i.C
/-- the name of a class, read -/
theorem pe_clsName {X : Cx} {x : Str} {cv : Value} {c : V} {p : Pos} (h : X.mg x = some cv ∨ (X.mg x = none ∧ bootBuiltins x = some cv ∧ x ≠ "__name__")) (hc : ClsV c cv) (hg : Gl X x) (hd : (x == ("__debug__" : Str)) = false) : PE X (.Name x p) (tC c) := by
  have rc : RelV c cv := by
    cases hc with
    | ty n => rfl
    | own C => rfl
  rcases h with h | ⟨h1, h2, h3⟩
  · exact pe_glob hg h rc hd
  · exact pe_bltn hg h1 h2 rc h3 hd
theorem pe_exc {X : Cx} {i : Nat} {n : Str} {a : Addr} {pos : Pos} (hΓ : Γ[i]? = some (some (.x a))) (hN : X.N[i]? = some n) (hv : Vis X.env.scope n) (hd : (n == ("__debug__" : Str)) = false) (hcd : (n == ("__classdict__" : Str)) = false) :
    PE X (.Name n pos) (fun σ H Q => ∃ F, Rf g b Γ F σ H ∧ Q (.ref a) H) := PE.imp (pe_var hN hv hd hcd) fun σ H Q q => by
  obtain ⟨F, rf, q⟩ := q
  obtain ⟨ov, h1, h2⟩ := rf.at_ i _ hΓ
  cases ov with
  | none => exact h2.elim
  | some v =>
    cases v <;> first | exact h2.elim | skip
    have e : _ = a := h2
    subst e
    exact ⟨_, h1, q⟩
end
section
open He
variable {K : PySem.W.Frag}
/-- what a name stands for: an own class, or a built-in one -/
def clsVal (K : PySem.W.Frag) (x : Str) (bt : Option String) : Value := match bt with
  | none => .ref (ga K x)
  | some T => .type T
/-- the name is as clsVal tells -/
def NameIs (mg : Str → Option Value) (K : PySem.W.Frag) (x : Str) (bt : Option String) : Prop := match bt with
  | none => mg x = some (.ref (ga K x))
  | some T => mg x = none ∧ bootBuiltins x = some (.type T) ∧ x ≠ "__name__"
theorem NameIs.val {mg : Str → Option Value} {x : Str} {bt : Option String} (h : NameIs mg K x bt) : mg x = some (clsVal K x bt) ∨ (mg x = none ∧ bootBuiltins x = some (clsVal K x bt) ∧ x ≠ "__name__") := by
  cases bt with
  | none => exact .inl h
  | some T => exact .inr h
end
end Mi
namespace Mi
open L2 PySem PySem.Spec PyProof.Rows
section
variable {X : Cx} {g : Gm} {b : Bs} {Γ : Ctx} {F : Hp} {σ : L2.St} {H : Hp} {e e1 e2 : Expr} {es : List Expr} {pos p : Pos} {r ra rb : Res D} {x f : Str} {β τ υ : Type} {Γb : β → Ctx} {Γn : τ → Ctx} {rest : List Stmt}
theorem EncL.erase : ∀ {vs : List V} {ds : List D} (k : Nat), EncL g F vs ds → EncL g F (vs.eraseIdx k) (ds.eraseIdx k)
  | _, _, _, .nil => .nil
  | _, _, 0, .cons _ h => h
  | _, _, k + 1, .cons h t => .cons h (EncL.erase k t)
end
end Mi
namespace Mi
open L2 PySem PySem.Spec PyProof.Rows
section
variable {g : Gm} {F : Hp}
theorem EncF.put {f : Str} {v : V} {d : D} (en : Enc g F v d) : ∀ {ns : List Str} {vs : List V} {kvs : List (D × D)}, EncF g F ns vs kvs → f ∈ keysF kvs → ∃ vs', putF f v (ns.zip vs) = ns.zip vs' ∧ vs'.length = vs.length ∧ EncF g F ns vs' (setF f d kvs)
  | _, _, _, .nil, h => nomatch h
  | _, _, _, .cons (f := n) (v := w) (d := e) (fs := ns) (vs := vs) (kvs := kvs) q k, h => by
    by_cases z : n = f
    · refine ⟨v :: vs, ?_, rfl, ?_⟩
      · show (if n = f then (n, v) :: ns.zip vs else (n, w) :: putF f v (ns.zip vs)) = _
        rw [if_pos z]
        rfl
      · show EncF g F (n :: ns) (v :: vs) (if n = f then (.str n, d) :: kvs else (.str n, e) :: setF f d kvs)
        rw [if_pos z]
        exact .cons en k
    · have h2 : f ∈ keysF kvs := by
        rcases List.mem_cons.mp h with y | y
        · exact absurd y.symm z
        · exact y
      obtain ⟨vs', e1, e2, e3⟩ := EncF.put en k h2
      refine ⟨w :: vs', ?_, congrArg (· + 1) e2, ?_⟩
      · show (if n = f then (n, v) :: ns.zip vs else (n, w) :: putF f v (ns.zip vs)) = _
        rw [if_neg z, e1]
        rfl
      · show EncF g F (n :: ns) (w :: vs') (if n = f then (.str n, d) :: kvs else (.str n, e) :: setF f d kvs)
        rw [if_neg z]
        exact .cons q e3
end
section
variable {X : Cx} {g : Gm} {b : Bs} {Γ : Ctx} {F : Hp} {σ : L2.St} {H : Hp} {e e1 e2 : Expr} {es : List Expr} {pos p : Pos} {r ra rb : Res D} {rs : Res (List D)} {x f : Str} {β τ υ : Type} {Γb : β → Ctx} {Γn : τ → Ctx} {rest body : List Stmt}
def catK (acc : Str) (x : D) (f : Str → Res D) : Res D := match x with
  | .str y => if (acc ++ y).length ≤ cap then f (acc ++ y) else .no
  | _ => .no
inductive JR (X : Cx) (g : Gm) (b : Bs) (Γ : Ctx) : List Expr → (Str → Res D) → Prop
  | nil : JR X g b Γ [] (fun acc => .ok (.str acc))
  | cons {e : Expr} {es : List Expr} {r : Res D} {f : Str → Res D} : PE X e (tE g b Γ r) → JR X g b Γ es f → JR X g b Γ (e :: es) (fun acc => r.bind fun x => catK acc x f)
theorem JR.run {es : List Expr} {f : Str → Res D} (h : JR X g b Γ es f) : ∃ ts, PJ X es ts ∧ ∀ (acc : Str) (σ : L2.St) (H : Hp) (Q : VK), tE g b Γ (f acc) σ H Q → tJs ts acc σ H fun out H1 => Q (.str out) H1 := by
  induction h with
  | nil => exact ⟨[], .nil, fun acc σ H Q ⟨F, q⟩ => q.done (.str _)⟩
  | @cons e es r ff he hr ih =>
    obtain ⟨ts, hp, hq⟩ := ih
    refine ⟨_ :: ts, .cons he hp, fun acc σ H Q ⟨F, q⟩ => tE_bind q fun x v F1 H1 _ g1 ex p1 => ?_⟩
    cases x <;> first | exact p1.2.elim | skip
    rename_i y _
    cases ex
    have p1 : Post g b Γ F1 (if (acc ++ y).length ≤ cap then ff (acc ++ y) else .no) σ H1 Q := p1
    by_cases c : (acc ++ y).length ≤ cap
    · rw [if_pos c] at p1
      exact ⟨y, rfl, cap_line c, hq _ σ H1 Q ⟨F1, p1⟩⟩
    · rw [if_neg c] at p1
      exact p1.2.elim
end
end Mi
namespace Mi
open L2 PySem PySem.Spec PyProof.Rows
/-- a class called without keywords -/
theorem kbn0 {K : PySem.W.Frag} {fd : FuncData} {ps : List Str} {n : Nat} (hb : Binds K fd ps []) (hl : ps.length = n) : KBn K fd ps n [] (fun us _ => us) (fun vs _ => vs) := by
  refine ⟨fun s us ws kin l1 _ => ?_, fun r _ => r⟩
  have := hb s us kin (by rw [List.append_nil, l1, hl])
  rw [List.append_nil] at this
  exact this
end Mi
namespace Mi
open L2 PySem PySem.Spec PyProof.Rows
end Mi
namespace Mi
open L2 PySem PySem.Spec PyProof.Rows
section
variable {g : Gm} {b : Bs} {Γ : Ctx}
/-- by tables: of one of these classes -/
def isXA : List (List (Str × Bool)) → Str → Option Bool
  | [], _ => some false
  | ks :: r, c => match ks.lookup c with
    | some true => some true
    | some false => isXA r c
    | none => none
def tCs : List V → TA
  | [] => tNil
  | c :: cs => tCons (tC c) (tCs cs)
inductive KitTs (X : Cx) (g : Gm) : List Expr → List (List (Str × Bool)) → Prop
  | nil : KitTs X g [] []
  | cons {x : Str} {p : Pos} {es : List Expr} {ks : List (Str × Bool)} {kss : List (List (Str × Bool))} : KitT g X.mg x ks → Gl X x → (x == ("__debug__" : Str)) = false → starEach (.Name x p :: es) X.env = (false, eval (.Name x p) X.env) :: starEach es X.env → KitTs X g es kss → KitTs X g (.Name x p :: es) (ks :: kss)
theorem KitTs.run {X : Cx} {es : List Expr} {kss : List (List (Str × Bool))} (h : KitTs X g es kss) : ∃ cs us, Paired ClsV cs us ∧ cs.length = kss.length ∧ PA X es (tCs cs) ∧ ∀ c ci, g.ci c = some ci → ∀ k, isXA kss c = some k → PySem.W.kitAny g.K (.ref ci.C) us = some k := by
  induction h with
  | nil => exact ⟨[], [], .nil, rfl, pa_nil, fun _ _ _ k e => by cases e; exact kitAny_nil⟩
  | @cons x p es ks kss T hg hd hs hr ih =>
    obtain ⟨cs, us, h1, h2, h3, h4⟩ := ih
    obtain ⟨cv, cl, hcv, hcl, hks⟩ := T.ex
    refine ⟨cl :: cs, cv :: us, .cons hcl h1, by simp [h2], pa_cons (pe_clsName hcv hcl hg hd) h3 hs, fun c ci hci k e => ?_⟩
    have e0 : (match ks.lookup c with
      | some true => some true
      | some false => isXA kss c
      | none => none) = some k := e
    cases q : ks.lookup c with
    | none =>
      rw [q] at e0
      cases e0
    | some j =>
      rw [q] at e0
      obtain ⟨k1, _⟩ := hks c j q ci hci
      cases j with
      | true =>
        cases e0
        exact kitAny_cons k1 (fun z => nomatch z) fun _ => rfl
      | false => exact kitAny_cons k1 (fun _ => h4 c ci hci k e0) fun z => nomatch z
theorem KitTs.exc {X : Cx} {es : List Expr} {kss : List (List (Str × Bool))} (h : KitTs X g es kss) (ne : kss ≠ []) {c : Str} {ci : CI} (hci : g.ci c = some ci) {k : Bool} (e : isXA kss c = some k) : ExcC g.K ci.C := by
  cases h with
  | nil => exact absurd rfl ne
  | @cons x p es ks kss T hg hd hs hr =>
    obtain ⟨cv, cl, hcv, hcl, hks⟩ := T.ex
    have e0 : (match ks.lookup c with
      | some true => some true
      | some false => isXA kss c
      | none => none) = some k := e
    cases q : ks.lookup c with
    | none =>
      rw [q] at e0
      cases e0
    | some j => exact (hks c j q ci hci).2
end
end Mi
namespace Mi
open L2 PySem PySem.Spec PyProof.Rows
end Mi
namespace Mi
open L2 PySem PySem.Spec PyProof.Rows
end Mi
namespace Mi
open L2 PySem PySem.Spec PyProof.Rows
section
variable {X : Cx} {g : Gm} {b : Bs} {Γ : Ctx} {e1 e2 : Expr} {pos : Pos} {ra rb : Res D}
def addR (x y : D) : Res (List D) := match x, y with
  | .list xs, .list ys => if xs.length + ys.length ≤ cap then .ok (xs ++ ys) else .no
  | _, _ => .no
theorem n_addL (ha : PE X e1 (tE g b Γ ra)) (hb : PE X e2 (tE g b Γ rb)) : PE X (.BinOp e1 .Add e2 pos) (tN g b Γ (ra.bind fun x => rb.bind fun y => addR x y)) := PE.imp (pe_op op_cat ha hb) fun σ H Q q => by
  obtain ⟨F, p⟩ := q
  refine tE_bindN p fun x v F1 H1 _ g1 ex p1 => ?_
  refine tE_bindN p1 fun y w F2 H2 _ g2 ey p2 => ?_
  have ex2 := ex.mono g2.ff
  cases ex2 with
  | lst h1 k1 =>
    cases ey with
    | lst h2 k2 =>
      unfold addR at p2
      dsimp only at p2
      split at p2
      · rename_i hc
        exact ⟨_, _, _, _, rfl, rfl, p2.1.gr.fh _ _ h1, p2.1.gr.fh _ _ h2, cap_line (by rw [k1.len, k2.len]; exact hc), p2.new (k1.app k2)⟩
      · exact p2.2.elim
    | _ => exact p2.2.elim
  | _ => cases ey <;> exact p2.2.elim
end
end Mi
namespace Mi
open L2 PySem PySem.Spec PyProof.Rows
section
variable {X : Cx} {g : Gm} {b : Bs} {Γ : Ctx} {F : Hp} {σ : L2.St} {H : Hp} {e e1 e2 fe : Expr} {es : List Expr} {pos p : Pos} {r ra rb ro : Res D} {rs : Res (List D)} {x f : Str}
structure TabT (g : Gm) (w : World) (mg : Str → Option Value) (x : Str) (tb : List (Str × D)) : Prop where
  ex : ∃ a es n, mg x = some (.ref a) ∧ KDict g.K w a es n ∧ ∀ z, (∃ d u v, tb.lookup z = some d ∧ PySem.W.nsIn g.K a z = some (some u) ∧ RelV v u ∧ ∀ F, Enc g F v d) ∨ (tb.lookup z = none ∧ PySem.W.nsIn g.K a z = some none)
end
section
open He
def obsMT (ex : PySem.W.Frag → Bool) (fn : List He5.DefA) (ts : List He.Tab) (K : PySem.W.Frag) : He.AlT := (obsM ex fn K, ts.map fun t => dicW K (t.1 K))
def valMT (fn : List He5.DefA) (ts : List He.Tab) (w : World) : He.AlT := (He5.valA fn, ts.map fun t => some (keysIn w.params t.2))
def SaysMT (ex : PySem.W.Frag → Bool) (fn : List He5.DefA) (ts : List He.Tab) (w : World) (K : PySem.W.Frag) : Prop := obsMT ex fn ts K = valMT fn ts w
variable {ex : PySem.W.Frag → Bool} {fn : List He5.DefA} {ts : List He.Tab} {w : World} {K : PySem.W.Frag}
theorem SaysMT.m (c : SaysMT ex fn ts w K) : SaysM ex fn K := congrArg (fun z : AlT => z.1) c
theorem SaysMT.tab (c : SaysMT ex fn ts w K) (i : Nat) {t : He.Tab} (h : ts[i]? = some t := by rfl) : ∃ es n, KDict K w (t.1 K) es n := by
  have e : ts.map (fun t => dicW K (t.1 K)) = ts.map fun t => some (keysIn w.params t.2) := congrArg (fun z : AlT => z.2) c
  have e2 : (ts.map fun t => dicW K (t.1 K))[i]? = (ts.map fun t => some (keysIn w.params t.2))[i]? := by rw [e]
  rw [List.getElem?_map, List.getElem?_map, h] at e2
  exact dicW_ok (Option.some.inj e2)
end
end Mi
namespace Mi
open L2 PySem PySem.Spec PyProof.Rows
abbrev ccl : Str := "__class__"
structure InF (s₀ : Shared) (L : Addr) (m : Str → Option Value) (cs : List (Str × Addr)) (cm : Str → Option Value) (s : Shared) : Prop where
  inn : InCall s₀ L m s
  cell : ∀ n c, cs.lookup n = some c → s.heap.IsCell c (cm n)
  apart : cs.Pairwise fun x y => x.2 ≠ y.2
  ne : ∀ n c, (n, c) ∈ cs → c ≠ L
  above : ∀ n c, (n, c) ∈ cs → n ≠ ccl → L < c
section
variable {M : Model} {A : Around} {E : Value → Shared → Prop} {s₀ s : Shared} {m cm : Str → Option Value} {env : Env}
theorem stLF {n : Str} {v : Value} {Q : Unit → Shared → Prop} (x : InF s₀ env.locals m env.cells cm s) (hk : env.scope.kind = .function) (hl : env.kindOf n = some .local)
    (h : ∀ s', InF s₀ env.locals (fun y => if y = n then some v else m y) env.cells cm s' → Q () s') : wpAny M A (storeName env n v) Q E s := by
  refine wpAny_storeName_local hl x.inn.ns (fun h' hn' hs' => h _ ⟨⟨?_, hn', fun b o e => ?_, x.inn.fresh⟩, fun k c hc => ?_, x.apart, x.ne, x.above⟩) (by rw [hk]; rfl)
  · obtain ⟨h₁, tk, rfl⟩ := x.inn.same
    exact ⟨h', _, rfl⟩
  · exact hs'.extBut b o (Nat.ne_of_lt (Nat.lt_of_lt_of_le (Heap.lt_size e) x.inn.fresh)) (x.inn.keep b o e)
  · exact (x.cell k c hc).sameBut hs' (x.ne k c (PySem.mem_of_lookup hc))
theorem stCF {n : Str} {c : Addr} {v : Value} {Q : Unit → Shared → Prop} (x : InF s₀ env.locals m env.cells cm s) (hk : env.scope.kind = .function) (hl : env.kindOf n = some .cell) (hn : n ≠ ccl)
    (hc : env.cells.lookup n = some c)
    (h : ∀ s', InF s₀ env.locals m env.cells (fun y => if y = n then some v else cm y) s' → Q () s') : wpAny M A (storeName env n v) Q E s := by
  have hLc := x.above n c (PySem.mem_of_lookup hc) hn
  refine wpAny_storeName_cell hk hl hc (x.cell n c hc) fun h' hc' hs' => h _ ⟨⟨?_, x.inn.ns.sameBut hs' (Nat.ne_of_lt hLc), fun b o e => ?_, x.inn.fresh⟩, fun k c' hk' => ?_, x.apart, x.ne, x.above⟩
  · obtain ⟨h₁, tk, rfl⟩ := x.inn.same
    exact ⟨h', _, rfl⟩
  · exact hs'.extBut b o (Nat.ne_of_lt (Nat.lt_trans (Nat.lt_of_lt_of_le (Heap.lt_size e) x.inn.fresh) hLc)) (x.inn.keep b o e)
  · by_cases hkn : k = n
    · subst hkn
      rw [hc] at hk'; cases hk'
      simpa using hc'
    · rw [if_neg hkn]
      exact (x.cell k c' hk').sameBut hs' fun e => hkn (name_of_addr x.apart (PySem.mem_of_lookup hk') (e ▸ PySem.mem_of_lookup hc))
theorem bindF_ (f : Str × Value → PUnit → Sem (ForInStep PUnit)) (hf : ∀ n v u, f (n, v) u = (do storeName env n v; pure (.yield ⟨⟩))) (hk : env.scope.kind = .function) :
    ∀ (binds : List (Str × Value)) (m cm : Str → Option Value) (s : Shared) (Q : PUnit → Shared → Prop), InF s₀ env.locals m env.cells cm s →
      (∀ x ∈ binds, x.1 ≠ ccl ∧ (env.kindOf x.1 = some .local ∨ (env.kindOf x.1 = some .cell ∧ (env.cells.lookup x.1).isSome = true))) →
      (∀ s', InF s₀ env.locals (bindL env.kindOf binds m) env.cells (bindC env.kindOf binds cm) s' → Q ⟨⟩ s') → wpAny M A (forIn binds ⟨⟩ f) Q E s
  | [], m, cm, s, Q, x, _, h => by rw [List.forIn_nil]; exact wpAny_pure (h s x)
  | (n, v) :: r, m, cm, s, Q, x, hkind, h => by
    rw [List.forIn_cons, hf]
    have hr : ∀ y ∈ r, y.1 ≠ ccl ∧ (env.kindOf y.1 = some .local ∨ (env.kindOf y.1 = some .cell ∧ (env.cells.lookup y.1).isSome = true)) := fun y hy => hkind y (List.mem_cons_of_mem _ hy)
    obtain ⟨hn, hq⟩ := hkind (n, v) List.mem_cons_self
    rcases hq with hl | ⟨hl, hc⟩
    · refine wpAny_bind (wpAny_bind (stLF x hk hl fun s' x' => wpAny_pure (bindF_ f hf hk r _ _ s' Q x' hr fun s'' x'' => h s'' ?_)))
      unfold bindL bindC; rw [if_pos hl, if_pos hl]; exact x''
    · obtain ⟨c, hc⟩ := Option.isSome_iff_exists.mp hc
      have hnl : ¬ env.kindOf n = some .local := by rw [hl]; decide
      refine wpAny_bind (wpAny_bind (stCF x hk hl hn hc fun s' x' => wpAny_pure (bindF_ f hf hk r _ _ s' Q x' hr fun s'' x'' => h s'' ?_)))
      unfold bindL bindC; rw [if_neg hnl, if_neg hnl]; exact x''
theorem cells_acc : ∀ (names : List (Str × NameKind)) (n : Nat) (acc : List (Str × Addr)), cellsFrom n names acc = cellsFrom n names [] ++ acc
  | [], _, _ => rfl
  | (y, k) :: r, n, acc => by
    unfold cellsFrom
    split
    · rw [cells_acc r (n + 1) ((y, n) :: acc), cells_acc r (n + 1) [(y, n)], List.append_assoc]
      rfl
    · exact cells_acc r n acc
theorem cells_name : ∀ (names : List (Str × NameKind)) (n : Nat) (y : Str) (c : Addr), (y, c) ∈ cellsFrom n names [] → (y, NameKind.cell) ∈ names
  | [], _, y, c, h => by simp [cellsFrom] at h
  | (x, k) :: r, n, y, c, h => by
    unfold cellsFrom at h
    split at h
    · rename_i hk
      rw [cells_acc] at h
      rcases List.mem_append.mp h with q | q
      · exact List.mem_cons_of_mem _ (cells_name r (n + 1) y c q)
      · simp only [List.mem_singleton, Prod.mk.injEq] at q
        rw [q.1, eq_of_beq hk]
        exact List.mem_cons_self
    · exact List.mem_cons_of_mem _ (cells_name r n y c h)
theorem newF {scope : Scope} {globals cc : Addr} {D : Value} {binds : List (Str × Value)} {qual : Str} {func : Option Addr} {code : Value} {builtins : Addr} {Q : Env → Shared → Prop} (hk : scope.kind = .function) (hnc : ∀ y ∈ scope.names, y.2 = .cell → y.1 ≠ ccl)
    (hcc : s.heap.IsCell cc (some D)) (hpn : ∀ x ∈ binds, x.1 ≠ ccl)
    (hkind : ∀ x ∈ binds, scope.names.lookup x.1 = some .local ∨ (scope.names.lookup x.1 = some .cell ∧ ((cellsFrom (s.heap.objs.size + 1) scope.names [(ccl, cc)]).lookup x.1).isSome = true))
    (hQ : ∀ env, env = newEnv scope s.heap.objs.size globals (cellsFrom (s.heap.objs.size + 1) scope.names [(ccl, cc)]) qual func code none builtins →
      ∀ s', InF s env.locals (bindL env.kindOf binds fun _ => none) env.cells (bindC env.kindOf binds fun y => if y = ccl then some D else none) s' → Q env s') :
    wpAny M A (newFunctionEnv scope globals [(ccl, cc)] binds qual func code none builtins) Q E s := by
  simp only [newFunctionEnv, Option.isSome_none, Bool.false_eq_true, if_false]
  refine wpAny_bind (wpAny_alloc ?_)
  refine wpAny_bind (wpAny_layCells _ (fun name kind cells => by cases hkc : kind == NameKind.cell <;> simp [hkc]) _ _ _ _ ?_)
  have ok := cellsFrom_ok scope.names (s.heap.push { cls := .type "frame", data := .dict #[] }) (s.heap.objs.size + 1) [] ⟨fun _ _ hm => (nomatch hm), List.Pairwise.nil⟩ (by rw [Heap.size_push]; exact Nat.le_refl _)
  rw [Heap.size_push] at ok
  rw [show ({ s with heap := s.heap.push { cls := .type "frame", data := .dict #[] } } : Shared).heap.objs.size = s.heap.objs.size + 1 from Heap.size_push ..]
  have lcc := hcc.lt
  have keep : ∀ b o, s.heap.get? b = some o → (pushCells (s.heap.push { cls := .type "frame", data := .dict #[] }) scope.names).get? b = some o := fun b o e => pushCells_keeps _ _ b o (Heap.get?_push_of_some _ e)
  have mem : ∀ n c, (n, c) ∈ cellsFrom (s.heap.objs.size + 1) scope.names [(ccl, cc)] → ((n, c) ∈ cellsFrom (s.heap.objs.size + 1) scope.names [] ∧ n ≠ ccl) ∨ (n = ccl ∧ c = cc) := fun n c h => by
    rw [cells_acc] at h
    rcases List.mem_append.mp h with q | q
    · exact .inl ⟨q, hnc _ (cells_name _ _ _ _ q) rfl⟩
    · simp only [List.mem_singleton, Prod.mk.injEq] at q
      exact .inr q
  refine wpAny_bind (bindF_ (s₀ := s) (env := newEnv scope s.heap.objs.size globals (cellsFrom (s.heap.objs.size + 1) scope.names [(ccl, cc)]) qual func code none builtins)
    _ (fun _ _ _ => rfl) hk binds (fun _ => none) (fun y => if y = ccl then some D else none) _ _
    ⟨⟨⟨_, _, rfl⟩, (Heap.Ns.new s.heap (.type "frame")).keeps (pushCells_keeps _ _), keep, Nat.le_refl _⟩, fun n c hc => ?_, ?_, fun n c hm => ?_, fun n c hm hn => ?_⟩
    (fun x hx => ⟨hpn x hx, hkind x hx⟩) fun s' x => wpAny_pure (hQ _ rfl s' x))
  · rcases mem n c (PySem.mem_of_lookup hc) with ⟨q, hn⟩ | ⟨rfl, rfl⟩
    · rw [if_neg hn]
      exact (ok.empty n c q).1
    · rw [if_pos rfl]
      exact hcc.keeps keep
  · show (cellsFrom (s.heap.objs.size + 1) scope.names [(ccl, cc)]).Pairwise _
    rw [cells_acc]
    refine List.pairwise_append.mpr ⟨ok.apart, by simp, fun x hx y hy => ?_⟩
    simp only [List.mem_singleton] at hy
    subst hy
    have := (ok.empty x.1 x.2 hx).2
    exact Nat.ne_of_gt (Nat.lt_of_lt_of_le lcc (Nat.le_of_succ_le this))
  · rcases mem n c hm with ⟨q, hn⟩ | ⟨_, rfl⟩
    · have := (ok.empty n c q).2
      exact Nat.ne_of_gt this
    · exact Nat.ne_of_lt lcc
  · rcases mem n c hm with ⟨q, _⟩ | ⟨q, _⟩
    · exact (ok.empty n c q).2
    · exact absurd q hn
end
structure ScS (N P : List Str) (sc : Scope) : Prop where
  kind : sc.kind = .function
  co : sc.isCoroutine = false
  gen : sc.isGenerator = false
  nd : N.Nodup
  pre : N.take P.length = P
  par : ∀ x ∈ P, x ≠ ccl ∧ (sc.names.lookup x = some .local ∨ sc.names.lookup x = some .cell)
  free : ∀ y ∈ sc.names, y.2 = .free → y.1 = ccl
  cl : sc.names.lookup ccl = some .free
  nc : ∀ y ∈ sc.names, y.2 = .cell → y.1 ≠ ccl
  nn : ccl ∉ N
abbrev envS (qual : Str) (scope : Scope) (L f cc : Addr) (cd : Value) : Env := PySem.W.envX qual scope L f cd (cellsFrom (L + 1) scope.names [(ccl, cc)])
def cxS (CX : CXT) (P : Program) (w : World) (K : PySem.W.Frag) (mg : Str → Option Value) (base : Heap) (N : List Str) (qual : Str) (scope : Scope) (f cc : Addr) (cd : Value) (A : Around) (outer : List Env) (s : Shared) (H : Hp) (E : XK) : Cx where
  prog := P
  w := w
  K := K
  mg := mg
  base := base
  A := A.deeper (envS qual scope s.heap.objs.size f cc cd)
  N := N
  s_0 := s
  H_0 := H
  env := envS qual scope s.heap.objs.size f cc cd
  outer := outer
  stack := envS qual scope s.heap.objs.size f cc cd :: outer
  ex := []
  calm := true
  fn := fun x => !(x == ccl)
  pn := []
  xe := fun e s' => wpAny (model P w) (A.deeper (envS qual scope s.heap.objs.size f cc cd)) (leaving (envS qual scope s.heap.objs.size f cc cd) e) (fun _ s'' => CX outer H s E e s'') (fun e' s'' => CX outer H s E e' s'') s'
section
variable {CX : CXT} {P : Program} {w : World} {K : PySem.W.Frag} {mg : Str → Option Value} {base : Heap} {N ps : List Str} {qual : Str} {scope : Scope} {f cc Dc : Addr} {cd : Value} {A : Around} {outer : List Env} {s s1 : Shared} {H : Hp} {E : XK} {us : List Value} {vs : List V}
theorem inv_startS {oc : Value} {od : Option Addr} {sl : Array (Option Value)} (S : ScS N ps scope) (hd : A.handled = none) (e0 : Env0 P w K mg base A outer s H) (hl : vs.length = ps.length) (r : Vals vs us) (hcc : K.lookup cc = some ⟨oc, od, .cell (some (.ref Dc)), sl⟩)
    (x : InF s s.heap.objs.size (bindL (envS qual scope s.heap.objs.size f cc cd).kindOf (ps.zip us) fun _ => none) (cellsFrom (s.heap.objs.size + 1) scope.names [(ccl, cc)]) (bindC (envS qual scope s.heap.objs.size f cc cd).kindOf (ps.zip us) fun y => if y = ccl then some (.ref Dc) else none) s1) :
    Inv (cxS CX P w K mg base N qual scope f cc cd A outer s H E) [] (L2.start N vs) H s1 := by
  have hpl : ps.length ≤ N.length := by have := congrArg List.length S.pre; rw [List.length_take] at this; omega
  obtain ⟨h1, tk, rfl⟩ := x.inn.same
  have hk := x.inn.keep
  have noA : ∀ b : Addr, b ∉ (cxS CX P w K mg base N qual scope f cc cd A outer s H E).ex := fun b z => absurd (show b ∈ ([] : List Addr) from z) (by simp)
  have kb := e0.mod.kin _ _ hcc
  have mem : ∀ n c, (cellsFrom (s.heap.objs.size + 1) scope.names [(ccl, cc)]).lookup n = some c → n ≠ ccl ∨ (n = ccl ∧ c = cc) := fun n c h => by
    by_cases q : n = ccl
    · refine .inr ⟨q, ?_⟩
      have h := PySem.mem_of_lookup h
      rw [cells_acc] at h
      rcases List.mem_append.mp h with z | z
      · exact absurd q (S.nc _ (cells_name _ _ _ _ z) rfl)
      · simp only [List.mem_singleton, Prod.mk.injEq] at z
        exact z.2
    · exact .inl q
  refine ⟨⟨e0.mod, S.kind, rfl, rfl, Nat.le_refl _, fun y z c h1 h2 => ?_, fun y hy => ?_, fun y c hf h => ?_, fun _ => hd, Around.frames_deeper e0.frames, .inr ⟨rfl, rfl⟩, fun b z => absurd z (noA b), e0.bs, e0.bsz, fun b _ _ => noA b, fun b z => absurd z (noA b), e0.funs, e0.frf⟩,
    rfl, e0.bare, Un.kept hk, ⟨_, x.inn.ns, fun i y v h1 h2 h3 => ?_⟩, fun y c h => ⟨_, x.cell y c h⟩, e0.hok.fresh (Nat.le_refl _), fun y c h => ?_, fun p hp => absurd (show p ∈ ([] : List (Addr × Obj)) from hp) (by simp), e0.hok.kept hk, ?_⟩
  · exact name_of_addr x.apart (PySem.mem_of_lookup h1) (PySem.mem_of_lookup h2)
  · have hy : scope.names.lookup y = some .cell ∨ scope.names.lookup y = some .free := hy
    refine Option.isSome_iff_exists.mp (PySem.W.cellsFrom_some scope.names _ [(ccl, cc)] ?_)
    rcases hy with hy | hy
    · exact .inl hy
    · refine .inr ?_
      have ey : y = ccl := S.free _ (PySem.mem_of_lookup hy) rfl
      rw [ey]
      rfl
  · refine Nat.le_of_lt (x.above y c (PySem.mem_of_lookup h) fun e => ?_)
    subst e
    exact absurd (show (!(ccl == ccl)) = true from hf) (by decide)
  · have hi : i < vs.length := by
      unfold L2.start at h2
      by_cases hi : i < vs.length
      · exact hi
      · rw [List.getElem?_append_right (by simpa using hi)] at h2
        rw [List.getElem?_replicate] at h2
        split at h2 <;> cases h2
    have ha : vs[i]? = some v := by
      unfold L2.start at h2
      rw [List.getElem?_append_left (by simpa using hi), List.getElem?_map] at h2
      cases e : vs[i]? with
      | none => rw [e] at h2; cases h2
      | some a => rw [e] at h2; cases h2; rfl
    obtain ⟨u, hu, rv⟩ := r.get ha
    have hp : ps[i]? = some y := by
      rw [← S.pre, List.getElem?_take_of_lt (by omega)]; exact h1
    have ndP : ps.Nodup := by rw [← S.pre]; exact S.nd.sublist (List.take_sublist _ _)
    refine ⟨u, rv, ?_⟩
    rcases (S.par y (List.mem_of_getElem? hp)).2 with k | k
    · exact .inl ⟨k, bindL_get ndP hp hu k⟩
    · obtain ⟨c, e⟩ := Option.isSome_iff_exists.mp (PySem.W.cellsFrom_some scope.names (s.heap.objs.size + 1) [(ccl, cc)] (.inl k))
      refine .inr ⟨.inl k, c, e, ?_⟩
      have q := x.cell y c e
      rw [bindC_get ndP hp hu (by show scope.names.lookup y ≠ _; rw [k]; decide)] at q
      exact q
  · rcases mem y c h with q | ⟨_, rfl⟩
    · exact e0.hok.fresh (Nat.le_of_lt (x.above y c (PySem.mem_of_lookup h) q))
    · exact (e0.bs _ _ kb).2
  · unfold L2.start
    show _ = N.length
    rw [List.length_append, List.length_map, List.length_replicate]
    omega
/-- a block whose first statement may say super() -/
structure PSa (X : Cx) (b0 st : List Stmt) (t : TS) : Prop where
  run : ∀ (pins : List (Addr × Obj)) (s : Shared) (σ : L2.St) (H : Hp) (D : Ends), Inv X pins σ H s → t D σ H → PySem.wpAt (model X.prog X.w) X.A (.func b0 X.env) (execs st X.env) (SP X pins D) X.xe s
/-- THE RULE: a def that says super(), by its body -/
theorem fnS_of {k : Nat} {name : Str} {params : Arguments} {body : List Stmt} {dV kV doc pm ct oc oc2 : Value} {an od od2 : Option Addr} {osl osl2 : Array (Option Value)} {sp : Sp} (lk : K.lookup f = some ⟨oc, od, .func (PySem.W.fnX name qual params body scope [(ccl, cc)] dV kV doc pm an cd ct), osl⟩)
    (hcd : PySem.W.codeIn K cd qual = true) (hcc : K.lookup cc = some ⟨oc2, od2, .cell (some (.ref Dc)), osl2⟩) (S : ScS N ps scope) (len : ∀ vs H Q E, sp vs H Q E → vs.length = ps.length)
    (hbody : ∀ (A : Around) (outer : List Env) (s : Shared) (H : Hp) (vs : List V) (Q : VK) (E : XK), Room k (A.deeper (envS qual scope s.heap.objs.size f cc cd)) → sp vs H Q E →
      ∃ t, PSa (cxS CX P w K mg base N qual scope f cc cd A outer s H E) body body t ∧ t { nx := fun _ H' => Q .non H', rt := Q } (L2.start N vs) H) :
    FnOk P w K mg base CX (k + 1) f (PySem.W.fnX name qual params body scope [(ccl, cc)] dV kV doc pm an cd ct) ps sp := by
  refine ⟨len, fun A outer s H args us vs Q E hr e0 hb r hsp => ?_⟩
  have hl := len _ _ _ _ hsp
  have KX : K.In s.heap := e0.mod.kin.keeps fun b o e => (e0.bs b o e).1
  have lim : s.heap.NoLimit := e0.mod.nolimit.keeps fun b o e => (e0.bs b o e).1
  have hkind : ∀ y ∈ ps.zip us, scope.names.lookup y.1 = some .local ∨ (scope.names.lookup y.1 = some .cell ∧ ((cellsFrom (s.heap.objs.size + 1) scope.names [(ccl, cc)]).lookup y.1).isSome = true) := fun ⟨n, v⟩ hy => by
    rcases (S.par n (List.of_mem_zip hy).1).2 with q | q
    · exact .inl q
    · exact .inr ⟨q, PySem.W.cellsFrom_some _ _ _ (.inl q)⟩
  refine codeAny_call_function hr.depth (KX _ _ lk) rfl S.co S.gen rfl (PySem.W.codeRec_of KX hcd) (hb _ _ _ _ ?_)
  refine newF (D := .ref Dc) S.kind S.nc ⟨_, KX _ _ hcc, rfl⟩ (fun ⟨n, v⟩ hy => (S.par n (List.of_mem_zip hy).1).1) hkind fun env he s1 x => ?_
  subst he
  refine ⟨lim.keeps x.inn.keep, ks_codeAny_funcAt ?_⟩
  obtain ⟨t, ht, hq⟩ := hbody A outer s H vs Q E (hr.deeper _) hsp
  have I : Inv (cxS CX P w K mg base N qual scope f cc cd A outer s H E) [] (L2.start N vs) H s1 := inv_startS S hr.hd e0 hl r hcc x
  refine ks_wpAt_mono (ht.run [] s1 (L2.start N vs) H _ I hq) (fun fl s' hs => ?_) fun e s' hs => hs
  have fin : ∀ {σ' : L2.St} {H' : Hp} {v : V} {u : Value}, Inv (cxS CX P w K mg base N qual scope f cc cd A outer s H E) [] σ' H' s' → RelV v u → Q v H' → CE outer P w H s Q u s' :=
    fun {σ' H' v u} J rv q => ⟨v, H', J.os, J.bare, J.base, J.hok, rv, q⟩
  cases fl with
  | ret u =>
    obtain ⟨v, σ', H', J, rv, q⟩ := hs
    exact fin J rv q
  | next =>
    obtain ⟨σ', H', J, q⟩ := hs
    exact fin (v := V.non) (u := Value.none) J rfl q
  | brk =>
    obtain ⟨_, _, _, q⟩ := hs
    exact False.elim q
  | cont =>
    obtain ⟨_, _, _, q⟩ := hs
    exact False.elim q
end
end Mi
namespace Mi
open L2 PySem PySem.Spec PyProof.Rows
/-- what the top says of a def that says super(): its cell, its code's file -/
structure SupK (P : Program) (K : PySem.W.Frag) (f cc D : Addr) (cd : Value) (fd : FuncData) (sf : Str) : Prop where
  lk : ∃ oc od osl, K.lookup f = some ⟨oc, od, .func fd, osl⟩
  hp : ∃ ar, (fd.params.posonlyargs ++ fd.params.args).head? = some ar ∧ ar.arg = sf
  code : ∃ cda ocl odd vs osc file tf, cd = .ref cda ∧ K.lookup cda = some ⟨ocl, odd, .fields vs, osc⟩ ∧ vs[2]? = some (.str file tf) ∧ ((P.main.file : Str) == file) = true
  top : (P.main.scope.names.lookup ("super" : Str)).isSome = false
  cell : ∃ oc od osl, K.lookup cc = some ⟨oc, od, .cell (some (.ref D)), osl⟩
  cls : ∃ cdD, PySem.W.clsIn K D = some cdD
  opq : PySem.W.nsIn K cStatics "thirdparty.any" = some none
section
variable {X : Cx} {pins : List (Addr × Obj)} {σ : L2.St} {H : Hp} {s : Shared}
theorem clsIn_at {K : PySem.W.Frag} {D : Addr} {cdD : ClassData} {h : Heap} (KX : K.In h) (e : PySem.W.clsIn K D = some cdD) : ∃ oD, h.get? D = some oD ∧ oD.data = .cls cdD := by
  unfold PySem.W.clsIn at e
  split at e
  · rename_i c d cd' sl ho
    cases e
    exact ⟨_, KX _ _ ho, rfl⟩
  · cases e
/-- super().attr: the super object -/
theorem sup_base {b0 : List Stmt} {attr : Str} {whole : Sem Value} {p0 p1 : Pos} {f cc D C a : Addr} {fd : FuncData} {ox : Obj} {odx : Option Obj} {self : Str} {E : Value → Shared → Prop} {Q : Value → Shared → Prop} (T : SupK X.prog X.K f cc D X.env.code fd self) (I : Inv X pins σ H s)
    (hm : X.mg "super" = none) (hfu : X.env.func = some f) (hks : X.env.scope.names.lookup ("super" : Str) = some .globalImplicit) (hkc : X.env.scope.names.lookup ccl = some .free) (hcc : X.env.cells.lookup ccl = some cc) (hat : (attr == ("__class__" : Str)) = false)
    (hN : X.N[0]? = some self) (hv : Vis X.env.scope self) (hs : σ[0]? = some (some (.ref a))) (hsc : (self == ("__classdict__" : Str)) = false) (J : PySem.W.InstAt s.heap a ox C odx) (hsub : PySem.W.mroIn X.K C (.ref D) = some true)
    (h : ∀ so h', h'.get? so = some (PySem.W.ks_superObj D a C) → (∀ y o, s.heap.get? y = some o → h'.get? y = some o) → Q (.ref so) { s with heap := h' }) :
    PySem.wpAt (model X.prog X.w) X.A (.func b0 X.env) (attributeBase (.Call (.Name "super" p0) [] [] p1) attr X.env whole) Q E s := by
  obtain ⟨oc, od, osl, lk⟩ := T.lk
  obtain ⟨ar, hp, ear⟩ := T.hp
  obtain ⟨cda, ocl, odd, vs, osc, file, tf, ecd, lcd, hvs, hfile⟩ := T.code
  obtain ⟨oc2, od2, osl2, lcc⟩ := T.cell
  obtain ⟨cdD, hD⟩ := T.cls
  have KX := I.kIn
  obtain ⟨oD, hD1, hD2⟩ := clsIn_at KX hD
  obtain ⟨mb, b1, b2⟩ := I.mod.blt
  obtain ⟨m, hns, hlook⟩ := I.loc
  obtain ⟨u, ru, hl⟩ := hlook 0 self (.ref a) hN hs hv
  obtain rfl : u = Value.ref a := ru
  have kC : X.env.scope.kind = .function := I.ok.kind
  obtain ⟨hh, g, d, t, os⟩ := s
  refine ks_wpAt_super_base (env := X.env) hks hkc hat hfu (KX _ _ lk) rfl hp ecd (KX _ _ lcd) rfl hvs hfile T.top ?_
  refine PySem.W.ks_loadName_global kC hks (Calls.loadGlobal_builtin (by rw [I.ok.glob]; exact I.mod.glob.keeps I.bk) hm (by rw [I.ok.blt]; exact b1.keeps I.bk) ((b2 "super" (by decide)).trans (show bootBuiltins "super" = some (.type "super") by decide +kernel)) ⟨rfl, ?_⟩)
  refine wpAny_loadName_free kC hkc hcc ⟨_, KX _ _ lcc, rfl⟩ ?_
  have done : wpAny (model X.prog X.w) X.A (isType (.ref D)) (fun b s₄ => b = true ∧ wpAny (model X.prog X.w) X.A (call (.type "super") [.ref D, .ref a]) Q E s₄) E ⟨hh, g, d, t, os⟩ := by
    refine ks_wpAny_isType_cls hD1 hD2 ⟨rfl, ?_⟩
    refine ks_wpAny_call_super hD1 hD2 J.at_ J.cls (fun c e => ?_) (PySem.W.looks_mroIn KX hsub) (fun h' e k => h _ h' e k)
    have := J.no
    unfold PySem.W.notCls at this
    rw [e] at this
    exact Bool.noConfusion this
  rw [ear]
  rcases hl with ⟨k, e⟩ | ⟨k, c, e1, e2⟩
  · exact wpAny_loadName_local kC k hns e done
  · rcases k with k | k
    · exact wpAny_loadName_cell kC k e1 e2 done
    · exact wpAny_loadName_free kC k e1 e2 done hsc
/-- ValueError.__init__ bound to an exception, called -/
theorem call_mwV {P : Program} {w : World} {A : Around} {E : Value → Shared → Prop} {h : Heap} {g : Array GenState} {d : Drawn} {t : Nat} {os : OsState} {nm q : Str} {C N : Addr} {bs bm : List Value} {hdct : Bool} {sn : List Str} {sub : List Value} {ab : Bool} {col : Option Bool} {dd : Option Addr} {k0 k1 k2 k3 k5 : Option Value} {u e t0 : Addr} {rest : List Value} {Q : Value → Shared → Prop}
    (hC : h.get? C = some (excClassObj nm q C N bs bm hdct sn sub ab col dd k0 k1 k2 k3 k5 "ValueError.__new__")) (he : h.get? e = some (HandSPX.excO C t0)) (hu : h.get? u = some (PySem.W.kxs_mw "ValueError.__init__" e)) (hrest : rest.length ≤ sizeLine)
    (hq : ∀ h' t1, (∀ b o, b ≠ e → h.get? b = some o → h'.get? b = some o) → h'.get? e = some (HandSPX.excO C t1) → Q .none ⟨h', g, d, t, os⟩) :
    wpAny (model P w) A (call (.ref u) rest) Q E ⟨h, g, d, t, os⟩ := by
  refine wpAny_call (codeAny_of_tree ?_)
  show wpAny _ A.in1 (callAny (.ref u) ⟨rest, []⟩) _ _ _
  simp only [callAny]
  refine wpAny_bind (wpAny_load hu ?_)
  simp only [PySem.W.kxs_mw, show (Value.type "method-wrapper" == Value.type "method" || Value.type "method-wrapper" == Value.type "builtin_function_or_method" || Value.type "method-wrapper" == Value.type "method-wrapper") = true by decide, if_true]
  refine W.KFB.if_so (by decide) ?_
  refine wpAny_bind (PySem.W.check_bound_init F.excBase_ValueError.toExcCallFacts hC he rfl ?_)
  refine wpAny_bind (wpAny_pure (wpAny_pure ?_))
  refine ⟨Code.quiet_builtin _ (by decide +kernel), codeAny_builtin F.excBase_ValueError.initEntry ?_⟩
  rw [Around.under_plainId F.excBase_ValueError.init.plain _]
  wp_walk
  refine hq _ h.objs.size (fun b o hb ho => ?_) ?_
  · rw [Heap.get?_update_other _ _ (Ne.symm hb)]
    exact Heap.get?_push_of_some _ ho
  · rw [Heap.get?_update_self _ (Heap.get?_push_of_some _ he) rfl]
    rfl
/-- super().__init__("..") in an exception's __init__ -/
theorem sup_exc {b0 : List Stmt} {p0 p1 p2 p3 pos : Pos} {j : Nat} {msg : Str} {f cc D C a : Addr} {fd : FuncData} {self : Str} {E : Value → Shared → Prop} {Q : Value → Shared → Prop} {pl : Sem Bool} (T : SupK X.prog X.K f cc D X.env.code fd self) (TC : OexC X.K C) (I : Inv X pins σ H s)
    (hm : X.mg "super" = none) (hfu : X.env.func = some f) (hks : X.env.scope.names.lookup ("super" : Str) = some .globalImplicit) (hkc : X.env.scope.names.lookup ccl = some .free) (hcc : X.env.cells.lookup ccl = some cc)
    (hN : X.N[0]? = some self) (hv : Vis X.env.scope self) (hs : σ[0]? = some (some (.ref a))) (hsc : (self == ("__classdict__" : Str)) = false) (ha : H a = some (exo a C none)) (hsub : PySem.W.mroIn X.K C (.ref D) = some true)
    (hsi : PySem.W.ks_superIn X.K C D "__init__" = some (some (.builtin "ValueError.__init__"))) (hB : PySem.W.subIn X.K (.ref C) (.type "ValueError") = some true)
    (h : ∀ v s', Inv X pins σ H s' → Q v s')
    (he : eval (.Call (.Attribute (.Call (.Name "super" p0) [] [] p1) "__init__" p2) [.Constant (.str msg) j p3] [] pos) X.env = (do
      let ov ← attributeBase (.Call (.Name "super" p0) [] [] p1) "__init__" X.env (eval (.Call (.Name "super" p0) [] [] p1) X.env)
      standAt p2.atName
      let (f, first) ← holding [ov] (getMethod ov "__init__" pl)
      callWith pos f first (backTo pos (starEach [.Constant (.str msg) j p3] X.env)) []) := by rfl)
    (he2 : starEach [.Constant (.str msg) j p3] X.env = (false, eval (.Constant (.str msg) j p3) X.env) :: starEach [] X.env := by first | exact starEach_plain rfl | rfl) (hpl : (backTo pos (starEach [] X.env)).any (·.1) = false := by first | exact star_any rfl | rfl) :
    PySem.wpAt (model X.prog X.w) X.A (.func b0 X.env) (eval (.Call (.Attribute (.Call (.Name "super" p0) [] [] p1) "__init__" p2) [.Constant (.str msg) j p3] [] pos) X.env) Q E s := by
  obtain ⟨t0, ho⟩ := exo_at I.hok ha
  obtain ⟨nm, q, N, bs, bm, sn, sub, ab, col, dd, k0, k1, k2, k3, k5, hC, hbm⟩ := TC.cls
  have J : PySem.W.InstAt s.heap a ({ cls := .ref C, dict := none, data := .fields #[.ref t0, .none, .none, .none, .bool false, .none] } : Obj) C none := ⟨ho, rfl, rfl, trivial⟩
  refine ks_wpAt_MethodCall (pl := pl) ?_ he
  refine sup_base T I hm hfu hks hkc hcc (by decide) hN hv hs hsc J hsub fun so h' eso k => ?_
  have KX' : X.K.In h' := fun b o e => k b o (I.kIn b o e)
  have J' : PySem.W.InstAt h' a ({ cls := .ref C, dict := none, data := .fields #[.ref t0, .none, .none, .none, .bool false, .none] } : Obj) C none := ⟨k _ _ ho, rfl, rfl, trivial⟩
  obtain ⟨hh, g, d, t, os⟩ := s
  have I1 : Inv X pins σ H ⟨h', g, d, t, os⟩ := I.kept (t' := t) k
  obtain ⟨cdC, hcl⟩ : ∃ cd, PySem.W.clsIn X.K C = some cd := by
    cases e : PySem.W.clsIn X.K C with
    | none =>
      unfold PySem.W.ks_superIn at hsi
      rw [e] at hsi
      cases hsi
    | some cd => exact ⟨cd, rfl⟩
  have hsi2 := hsi
  unfold PySem.W.ks_superIn at hsi2
  rw [hcl] at hsi2
  have hI : PySem.W.Looks (model X.prog X.w) h' (isInstance (.ref a) (.type "ValueError")) true := J'.type.andThen (PySem.W.looks_subIn KX' hB)
  refine PySem.W.kxs_getMethod PySem.W.kxs_ValueError eso (PySem.W.looks_opaque KX' T.opq) (l₀ := cdC.mro) (fun A Q E s k q => wpAny_bind ((PySem.W.looks_clsIn KX' hcl) A _ E s k (wpAny_pure q))) rfl KX' hsi2 hI (PySem.W.ks_ne KX' J' hcl) (by decide) ?_
  have kp : ∀ b o, h'.get? b = some o → (h'.push (PySem.W.kxs_mw "ValueError.__init__" a)).get? b = some o := fun b o e => Heap.get?_push_of_some _ e
  have I2 : Inv X pins σ H ⟨h'.push (PySem.W.kxs_mw "ValueError.__init__" a), g, d, t + 1, os⟩ := I1.kept (t' := t + 1) kp
  have hu : (h'.push (PySem.W.kxs_mw "ValueError.__init__" a)).get? h'.objs.size = some (PySem.W.kxs_mw "ValueError.__init__" a) := Heap.get?_push_at rfl rfl
  show wpAny _ _ (callWith pos (.ref h'.objs.size) [] (backTo pos (starEach [.Constant (.str msg) j p3] X.env)) []) _ _ _
  rw [he2]
  refine PySem.W.kxs_callWith (i := "ValueError.__init__") (x := a) (by show (false || (backTo pos (starEach [] X.env)).any (·.1)) = false; rw [hpl]; rfl) (Calls.evalArgs_plain ?_)
  refine Calls.spliced_cons (show wpAny _ _ (eval (.Constant (.str msg) j p3) X.env) _ _ _ from ?_)
  have I3 : Inv X pins σ H ⟨h'.push (PySem.W.kxs_mw "ValueError.__init__" a), g, d, t + 1 + 1, os⟩ := I2.tok _
  have body : ∀ v : Value, wpAny (model X.prog X.w) X.A (spliced (backTo pos (starEach [] X.env))) (fun vs s₁ => PySem.W.KxsAt "ValueError.__init__" h'.objs.size a s₁.heap ∧ wpAny (model X.prog X.w) X.A (call (.ref h'.objs.size) ([] ++ (v :: vs))) Q E s₁) E ⟨h'.push (PySem.W.kxs_mw "ValueError.__init__" a), g, d, t + 1 + 1, os⟩ := fun v => by
    refine Calls.spliced_nil ⟨hu, ?_⟩
    refine call_mwV (t0 := t0) (kp _ _ (k _ _ (I.kIn _ _ hC))) (kp _ _ (k _ _ ho)) hu (by simp; decide) fun h2 t1 k2 hx => ?_
    have J2 := I3.write (h' := h2) (t' := t + 1 + 1) (x := a) (e := a) (o := exo a C none) (by rw [ha]; exact True.intro) (.inl rfl) k2 ⟨_, hx⟩ (exo_ok hx)
    have eu : upd H a (exo a C none) = H := by
      funext b
      by_cases hb : b = a
      · rw [hb, upd_same, ha]
      · rw [upd_ne hb]
    rw [eu] at J2
    exact h _ _ J2
  exact wpAny_Constant_str (body _)
end
end Mi
namespace Mi
open L2 PySem PySem.Spec PyProof.Rows
def tStores (K : PySem.W.Frag) : List (Str × Nat) → TS
  | [] => tNext
  | (f, i) :: r => tSeq (tOst K f (tVar 0) (tVar i)) (tStores K r)
inductive Sts (K : PySem.W.Frag) (C : Addr) (σ : L2.St) : List (Str × Nat) → List V → Prop
  | nil : Sts K C σ [] []
  | cons {f : Str} {i : Nat} {v : V} {r : List (Str × Nat)} {ws : List V} : PySem.W.findIn K (.ref C) f = some none → σ[i]? = some (some v) → Sts K C σ r ws → Sts K C σ ((f, i) :: r) (v :: ws)
section
variable {K : PySem.W.Frag} {C a : Addr} {σ : L2.St} {D : Ends}
theorem Sts.len : ∀ {r : List (Str × Nat)} {ws : List V}, Sts K C σ r ws → r.length = ws.length
  | _, _, .nil => rfl
  | _, _, .cons _ _ k => congrArg (· + 1) k.len
theorem stores_old (T : OexC K C) (hs : σ[0]? = some (some (.ref a))) {d : Addr} (hd : d ≠ a) : ∀ {r : List (Str × Nat)} {ws : List V} {H : Hp} {fs : List (Str × V)}, Sts K C σ r ws → H a = some (exo a C (some d)) → H d = some (exd d fs) → fs.length + r.length ≤ 900 →
    (∀ H', H' a = some (exo a C (some d)) → H' d = some (exd d (((r.map (·.1)).zip ws).reverse ++ fs)) → (∀ b, b ≠ d → H' b = H b) → D.nx σ H') → tStores K r D σ H
  | _, _, H, fs, .nil, ha, hdd, _, h => h H ha hdd fun _ _ => rfl
  | _, _, H, fs, .cons (f := f) (i := i) (v := v) (r := r) (ws := ws) h1 h2 k, ha, hdd, hl, h => by
    refine ⟨v, h2, .ref a, hs, a, C, rfl, T, h1, .inr ⟨d, fs, ha, hdd, by omega, ?_⟩⟩
    refine stores_old T hs hd (H := upd H d (exd d ((f, v) :: fs))) (fs := (f, v) :: fs) k (by rw [upd_ne (Ne.symm hd)]; exact ha) upd_same (by simp only [List.length_cons] at hl ⊢; omega) fun H' e1 e2 e3 => h H' e1 ?_ fun b hb => ?_
    · rw [e2]
      simp
    · rw [e3 b hb, upd_ne hb]
theorem stores_new (T : OexC K C) (hs : σ[0]? = some (some (.ref a))) {r : List (Str × Nat)} {ws : List V} {H : Hp} (k : Sts K C σ r ws) (hr : r ≠ []) (ha : H a = some (exo a C none)) (hl : r.length ≤ 900)
    (h : ∀ H' d, H d = none → d ≠ a → H' a = some (exo a C (some d)) → H' d = some (exd d ((r.map (·.1)).zip ws).reverse) → (∀ b, b ≠ a → b ≠ d → H' b = H b) → D.nx σ H') : tStores K r D σ H := by
  cases k with
  | nil => exact absurd rfl hr
  | @cons f i v r ws h1 h2 k =>
    refine ⟨v, h2, .ref a, hs, a, C, rfl, T, h1, .inl ⟨ha, fun d hn hd => ?_⟩⟩
    refine stores_old T hs hd (fs := [(f, v)]) k upd_same (by rw [upd_ne hd, upd_same]) (by simp only [List.length_cons, List.length_nil] at hl ⊢; omega) fun H' e1 e2 e3 => h H' d hn hd e1 ?_ fun b hb hb2 => ?_
    · rw [e2]
      simp
    · rw [e3 b hb2, upd_ne hb, upd_ne hb2]
end
section
variable {X : Cx} {rest : List Stmt} {t : TS}
theorem psa_super {b0 : List Stmt} {p0 p1 p2 p3 pos pp : Pos} {j : Nat} {msg : Str} {f cc D C : Addr} {fd : FuncData} {self : Str} {pl : Sem Bool} (T : SupK X.prog X.K f cc D X.env.code fd self) (TC : OexC X.K C) (hr : PSs X rest t)
    (hm : X.mg "super" = none) (hfu : X.env.func = some f) (hks : X.env.scope.names.lookup ("super" : Str) = some .globalImplicit) (hkc : X.env.scope.names.lookup ccl = some .free) (hcc : X.env.cells.lookup ccl = some cc)
    (hN : X.N[0]? = some self) (hv : Vis X.env.scope self) (hsc : (self == ("__classdict__" : Str)) = false) (hsub : PySem.W.mroIn X.K C (.ref D) = some true)
    (hsi : PySem.W.ks_superIn X.K C D "__init__" = some (some (.builtin "ValueError.__init__"))) (hB : PySem.W.subIn X.K (.ref C) (.type "ValueError") = some true)
    (he : eval (.Call (.Attribute (.Call (.Name "super" p0) [] [] p1) "__init__" p2) [.Constant (.str msg) j p3] [] pos) X.env = (do
      let ov ← attributeBase (.Call (.Name "super" p0) [] [] p1) "__init__" X.env (eval (.Call (.Name "super" p0) [] [] p1) X.env)
      standAt p2.atName
      let (f, first) ← holding [ov] (getMethod ov "__init__" pl)
      callWith pos f first (backTo pos (starEach [.Constant (.str msg) j p3] X.env)) []) := by rfl)
    (he2 : starEach [.Constant (.str msg) j p3] X.env = (false, eval (.Constant (.str msg) j p3) X.env) :: starEach [] X.env := by first | exact starEach_plain rfl | rfl) (hpl : (backTo pos (starEach [] X.env)).any (·.1) = false := by first | exact star_any rfl | rfl)
    (hi : interactive X.env = false := by rfl) (hs : swapsWith (.Call (.Attribute (.Call (.Name "super" p0) [] [] p1) "__init__" p2) [.Constant (.str msg) j p3] [] pos) none pp.line X.env = pure false := by rfl) :
    PSa X b0 (.Expr (.Call (.Attribute (.Call (.Name "super" p0) [] [] p1) "__init__" p2) [.Constant (.str msg) j p3] [] pos) pp :: rest) (fun Ds σ H => ∃ a, σ[0]? = some (some (.ref a)) ∧ H a = some (exo a C none) ∧ t Ds σ H) := by
  refine ⟨fun pins s σ H Ds I h => ?_⟩
  obtain ⟨a, h1, h2, h⟩ := h
  exact ks_wpAt_execs_cons (ks_wpAt_Expr_any (sup_exc T TC I hm hfu hks hkc hcc hN hv h1 hsc h2 hsub hsi hB (fun v s' I' => wpAt_of_wpAny (hr.run pins s' σ H Ds I' h)) he he2 hpl) hi hs)
end
def spX (C : Addr) (fs : List Str) : Sp := fun vs H Q E => ∃ a ws, vs = .ref a :: ws ∧ ws.length = fs.length ∧ H a = some (exo a C none) ∧
  ∀ H' d, H d = none → d ≠ a → H' a = some (exo a C (some d)) → H' d = some (exd d (fs.zip ws).reverse) → (∀ b, b ≠ a → b ≠ d → H' b = H b) → Q .non H'
/-- an own error with fields, as a call of its class -/
structure ErrX (P : Program) (w : World) (g : Gm) (mg : Str → Option Value) (base : Heap) (x : Str) (k n : Nat) : Prop where
  ex : ∃ i fI fd ps fs, g.ci x = some i ∧ mg x = some (.ref i.C) ∧ OexC g.K i.C ∧ PySem.W.findIn g.K (.ref i.C) "__init__" = some (some (.ref fI)) ∧ PySem.W.typeIn g.K (.ref fI) = some (.type "function") ∧
    FnOk P w g.K mg base (L2.CX P w) k fI fd ps (spX i.C fs) ∧ Binds g.K fd ps [] ∧ i.fs = fs.reverse ∧ fs.length = n ∧ n ≠ 0 ∧ n ≤ 100
def errX {β τ : Type} (x : Str) (n : Nat) (ds : List D) : Fl β τ := if (ds.all sc && decide (ds.length = n)) = true then .ex x ds.reverse else .no
theorem zip_rev {α β : Type} : ∀ {xs : List α} {ys : List β}, xs.length = ys.length → (xs.zip ys).reverse = xs.reverse.zip ys.reverse
  | [], [], _ => rfl
  | x :: xs, y :: ys, h => by
    have h' : xs.length = ys.length := Nat.succ.inj h
    rw [List.zip_cons_cons, List.reverse_cons, List.reverse_cons, List.reverse_cons, zip_rev h', List.zip_append (by simpa using h')]
    rfl
section
variable {X : Cx} {g : Gm} {b : Bs} {Γ : Ctx} {β τ υ : Type} {Γb : β → Ctx} {Γn : τ → Ctx} {rest body suite : List Stmt} {b₀ : Stmt} {e : Expr} {es : List Expr} {rs : Res (List D)}
/-- raise X(e, ..) -/
theorem b_raiseX {x : Str} {k j n : Nat} {p p3 pos : Pos} (T : ErrX X.prog X.w g X.mg X.base x k n) (hr : Room j X.A) (tk : Takes X b.W) (ha : PA X (e :: es) (tA g b Γ rs)) (hj : k + 1 ≤ j := by decide) (hc : X.calm = true := by rfl) (hg : Gl X x := by rfl) (hdb : (x == ("__debug__" : Str)) = false := by decide)
    (he : starEach (e :: es) X.env = (false, eval e X.env) :: starEach es X.env := by first | exact starEach_plain rfl | rfl) (hpl : (backTo p3 (starEach es X.env)).any (·.1) = false := by first | exact star_any rfl | rfl) (hK : X.K = g.K := by rfl) :
    PSs X (.Raise (some (.Call (.Name x p) (e :: es) [] p3)) none pos :: rest) (tS g b Γb Γ (rs.bindF fun ds => (errX x n ds : Fl β τ)) Γn) := by
  obtain ⟨i, fI, fd, ps, fs, h1, h2, h3, h4, h5, h6, h7, h8, h9, h10, h11⟩ := T.ex
  rw [← hK] at h3 h4 h5 h6 h7
  have hx : Passes (L2.CX X.prog X.w) X (fun _ _ _ => False) := fun pins σ H s e s' I c => tk e s' (XE.of_call I (fun _ _ _ h => h.elim) c)
  refine PSs.imp (pss_cons (ps_raise hc tk (pmk_oex h3 h4 h5 h6 (hr.mono hj) h7 .nil hx hg h2 ha hdb he hpl)) pss_never) fun Ds σ H h => ?_
  obtain ⟨F, rf, h⟩ := h
  refine ⟨F, rf, ?_⟩
  cases rs with
  | no => exact h
  | ex c fs => exact fun cls od F' H' gr r1 ok => h cls od F' σ H' r1 ok
  | ok ds =>
    have h : EndS g b Γb Γn (errX x n ds : Fl β τ) Ds := h
    unfold errX at h
    split at h
    · rename_i q
      obtain ⟨q1, q2⟩ := Bool.and_eq_true_iff.mp q
      have q2 := of_decide_eq_true q2
      intro vs F1 H1 gr en
      have lv : vs.length = fs.length := by rw [en.len, q2, h9]
      refine ⟨by omega, fun a ha => ⟨a, vs, by rw [List.append_nil], lv, upd_same, fun H2 d hd hda e1 e2 e3 => ⟨rfl, d, _, e1, e2, ?_, ?_⟩⟩⟩
      · rw [upd_ne hda] at hd
        exact hd
      · rw [upd_ne hda] at hd
        have eH : upd (del H2 a) d (.xd (fs.zip vs).reverse) = upd H1 d (.xd (fs.zip vs).reverse) := by
          funext c
          by_cases hc : c = d
          · rw [hc, upd_same, upd_same]
          · rw [upd_ne hc, upd_ne hc]
            by_cases hca : c = a
            · rw [hca, del_same, ha]
            · rw [del_ne hca, e3 c hca hc, upd_ne hca]
        rw [eH]
        have gr2 : Grow F1 H1 (upd F1 d (.xd (fs.zip vs).reverse)) (upd H1 d (.xd (fs.zip vs).reverse)) := Grow.alloc gr.fh hd
        refine h _ _ _ _ _ (rf.grow (gr.trans gr2)).cx ⟨i, h1, rfl, fun z => ?_, fun z => ⟨d, vs.reverse, rfl, ?_, (EncL.mono gr2.ff en).reverse, by rw [h8, List.length_reverse, List.length_reverse, h9, q2], by simpa using q1⟩⟩
        · have : ds.reverse.length = 0 := by rw [z]; rfl
          rw [List.length_reverse, q2] at this
          exact absurd this h10
        · rw [upd_same, h8, zip_rev lv.symm]
    · exact h.elim
structure HeldF (b : Bs) (F0 : Hp) : Prop where
  sub : Sub b.F0 F0
  new : ∀ a, b.H0 a ≠ none → b.F0 a = none → F0 a = none
theorem HeldF.grow {F0 F H : Hp} (h : HeldF b F0) (gr : Grow F0 b.H0 F H) : Grow b.F0 b.H0 F H := ⟨h.sub.trans gr.ff, gr.fh, gr.hh, fun a h1 h2 => gr.new a h1 (h.new a h1 h2)⟩
structure XfT (g : Gm) (tab : List (Str × List Str)) : Prop where
  ex : ∀ c ns, tab.lookup c = some ns → ∀ i, g.ci c = some i → i.fs = ns ∧ XfC g.K i.C ∧ ∀ f ∈ ns, PySem.W.findIn g.K (.ref i.C) f = some none
end
end Mi
namespace Mi
open L2 PySem PySem.Spec PyProof.Rows
structure SupP (P : Program) (file : Str) : Prop where
  file : ((P.main.file : Str) == file) = true
  top : (P.main.scope.names.lookup ("super" : Str)).isSome = false
structure FunS (K : PySem.W.Frag) (x qual : Str) (params : Arguments) (body : List Stmt) (scope : Scope) (f cc : Addr) (fd : FuncData) : Prop where
  ex : ∃ oc od kV doc pm an cdv ct osl, fd = PySem.W.fnX x qual params body scope [(ccl, cc)] .none kV doc pm an cdv ct ∧ K.lookup f = some ⟨oc, od, .func fd, osl⟩ ∧ PySem.W.codeIn K cdv qual = true
def ccOf (K : PySem.W.Frag) (f : Addr) : Addr := match K.lookup f with
  | some ⟨_, _, .func fd, _⟩ => (match fd.closure with
    | [(_, c)] => c
    | _ => 0)
  | _ => 0
section
open He
variable {K : PySem.W.Frag}
/-- one def that says super() -/
structure DefS where
  at_ : PySem.W.Frag → Addr
  name : Str
  qual : Str
  params : Arguments
  body : List Stmt
  scope : Scope
def fnS (K : PySem.W.Frag) (a : Addr) : He5.FnW := match K.lookup a with
  | some ⟨_, _, .func fd, _⟩ => some (fd.name, fd.qualname, fd.params, fd.body, fd.scope, fd.globals, fd.closure.map fun q => (q.1, 0), fd.builtins)
  | _ => none
def DefS.val (d : DefS) : He5.FnW := some (d.name, d.qual, d.params, .stmts d.body, d.scope, mainGlobals, [(ccl, 0)], builtinsNs)
def DefS.ok (K : PySem.W.Frag) (d : DefS) : Bool := match K.lookup (d.at_ K) with
  | some ⟨_, _, .func fd, _⟩ => PySem.W.codeIn K fd.code d.qual && decide (fd.defaults = .none)
  | _ => false
theorem DefS.funS {d : DefS} (e : fnS K (d.at_ K) = d.val) (c : d.ok K = true) : ∃ fd, FunS K d.name d.qual d.params d.body d.scope (d.at_ K) (ccOf K (d.at_ K)) fd := by
  unfold fnS at e
  unfold DefS.ok at c
  unfold ccOf
  cases q : K.lookup (d.at_ K) with
  | none =>
    rw [q] at c
    cases c
  | some o =>
    obtain ⟨oc, od, dt, osl⟩ := o
    rw [q] at c e
    cases dt with
    | func fd =>
      obtain ⟨n1, n2, n3, n4, n5, n6, n7, n8, n9, n10, n11, n12, n13, n14, n15⟩ := fd
      have e2 : (some (n1, n2, n3, n4, n5, n6, n7.map (fun q => (q.1, 0)), n15) : He5.FnW) = some (d.name, d.qual, d.params, .stmts d.body, d.scope, mainGlobals, [(ccl, 0)], builtinsNs) := e
      simp only [Option.some.injEq, Prod.mk.injEq] at e2
      obtain ⟨h1, h2, h3, h4, h5, h6, h7, h8⟩ := e2
      have c3 : (PySem.W.codeIn K n13 d.qual && decide (n8 = .none)) = true := c
      obtain ⟨k1, k2⟩ := ba c3
      have k2 := of_decide_eq_true k2
      match n7, h7 with
      | [(y, cc)], h7 =>
        have hy : y = ccl := by simpa using h7
        subst h1 h2 h3 h4 h5 h6 h8 k2 hy
        exact ⟨_, ⟨oc, od, n9, n10, n11, n12, n13, n14, osl, rfl, q, k1⟩⟩
      | [], h7 => cases h7
      | _ :: _ :: _, h7 => simp at h7
    | _ => cases c
def oexB (K : PySem.W.Frag) (C : Addr) : Bool := match K.lookup C with
  | some ⟨.type "type", _, .cls cd, sl⟩ => (match cd.mro, sl.toList with
    | .ref C' :: bm, [_, _, _, _, some (.builtin n), _] => C' == C && n == "ValueError.__new__" && !cd.hasDel && (cd.hasDict && PySem.HandSPX.refsVE bm)
    | _, _ => false)
  | _ => false
def errB (K : PySem.W.Frag) (x file : Str) (fs : List Str) : Bool :=
  let C := ga K x
  let f := ma K C "__init__"
  let cc := ccOf K f
  oexB K C && (eqO (PySem.W.findIn K (.ref C) "__setattr__") (some (some (.builtin "object.__setattr__"))) && (decide (PySem.W.subIn K (.ref C) (.type "BaseException") = some true) && (decide (PySem.W.typeIn K (.ref C) = some (.type "type")) && (PySem.W.keepIn K (.ref C) &&
  (eqO (PySem.W.findIn K (.ref C) "__init__") (some (some (.ref f))) && (decide (PySem.W.typeIn K (.ref f) = some (.type "function")) && ((fs.all fun z => eqO (PySem.W.findIn K (.ref C) z) (some none)) &&
  ((match K.lookup cc with
    | some ⟨_, _, .cell (some (.ref D)), _⟩ => D == C
    | _ => false) && ((match K.lookup f with
    | some ⟨_, _, .func fd, _⟩ => (match fd.code with
      | Value.ref cda => (match K.lookup cda with
        | some ⟨_, _, Data.fields vs, _⟩ => (match vs[2]? with
          | some (Value.str z _) => decide (z = file)
          | _ => false)
        | _ => false)
      | _ => false)
    | _ => false) && ((PySem.W.clsIn K C).isSome && (eqO (PySem.W.nsIn K cStatics "thirdparty.any") (some none) && (decide (PySem.W.mroIn K C (.ref C) = some true) &&
  (eqO (PySem.W.ks_superIn K C C "__init__") (some (some (.builtin "ValueError.__init__"))) && (decide (PySem.W.subIn K (.ref C) (.type "ValueError") = some true) && xfB K C))))))))))))))
structure ErrF (K : PySem.W.Frag) (C f cc : Addr) (file : Str) (fs : List Str) : Prop where
  oex : OexC K C
  ini : PySem.W.findIn K (.ref C) "__init__" = some (some (.ref f))
  tyf : PySem.W.typeIn K (.ref f) = some (.type "function")
  no : ∀ z ∈ fs, PySem.W.findIn K (.ref C) z = some none
  cell : ∃ oc od osl, K.lookup cc = some ⟨oc, od, .cell (some (.ref C)), osl⟩
  code : ∀ oc od fd osl, K.lookup f = some ⟨oc, od, .func fd, osl⟩ → ∃ cda ocl odd vs osc tf, fd.code = .ref cda ∧ K.lookup cda = some ⟨ocl, odd, .fields vs, osc⟩ ∧ vs[2]? = some (.str file tf)
  cls : ∃ cd, PySem.W.clsIn K C = some cd
  opq : PySem.W.nsIn K cStatics "thirdparty.any" = some none
  mro : PySem.W.mroIn K C (.ref C) = some true
  sup : PySem.W.ks_superIn K C C "__init__" = some (some (.builtin "ValueError.__init__"))
  sub : PySem.W.subIn K (.ref C) (.type "ValueError") = some true
  xf : XfC K C
theorem oexB_ok {C : Addr} (h : oexB K C = true) : ∃ nm q N bs bm sn sub ab col dd k0 k1 k2 k3 k5, K.lookup C = some (excClassObj nm q C N bs bm true sn sub ab col dd k0 k1 k2 k3 k5 "ValueError.__new__") ∧ PySem.HandSPX.refsVE bm = true := by
  unfold oexB at h
  split at h
  · rename_i dd cd sl ho
    split at h
    · rename_i C' bm k0 k1 k2 k3 n k5 hm hs
      simp only [Bool.and_eq_true, beq_iff_eq, Bool.not_eq_true'] at h
      obtain ⟨⟨⟨rfl, rfl⟩, hdel⟩, hhd, ht⟩ := h
      obtain ⟨nm, bs, mro, ns, qn, hd, sn, sub, ab, col, del⟩ := cd
      dsimp only at hm hdel hhd
      subst hm hdel hhd
      have hsl : sl = #[k0, k1, k2, k3, some (.builtin "ValueError.__new__"), k5] := by
        obtain ⟨l⟩ := sl
        simp only at hs
        rw [hs]
      subst hsl
      exact ⟨nm, qn, ns, bs, bm, sn, sub, ab, col, dd, k0, k1, k2, k3, k5, ho, ht⟩
    · cases h
  · cases h
theorem errB_ok {x file : Str} {fs : List Str} (h : errB K x file fs = true) : ErrF K (ga K x) (ma K (ga K x) "__init__") (ccOf K (ma K (ga K x) "__init__")) file fs := by
  unfold errB at h
  obtain ⟨c1, h⟩ := ba h
  obtain ⟨c2, h⟩ := ba h
  obtain ⟨c3, h⟩ := ba h
  obtain ⟨c4, h⟩ := ba h
  obtain ⟨c5, h⟩ := ba h
  obtain ⟨c6, h⟩ := ba h
  obtain ⟨c7, h⟩ := ba h
  obtain ⟨c8, h⟩ := ba h
  obtain ⟨c9, h⟩ := ba h
  obtain ⟨c10, h⟩ := ba h
  obtain ⟨c11, h⟩ := ba h
  obtain ⟨c12, h⟩ := ba h
  obtain ⟨c13, h⟩ := ba h
  obtain ⟨c14, h⟩ := ba h
  obtain ⟨c15, c16⟩ := ba h
  refine ⟨⟨oexB_ok c1, eqO_ok c2, of_decide_eq_true c3, of_decide_eq_true c4, c5⟩, eqO_ok c6, of_decide_eq_true c7, fun z hz => eqO_ok (List.all_eq_true.mp c8 z hz), ?_, fun oc od fd osl e => ?_, Option.isSome_iff_exists.mp c11, eqO_ok c12, of_decide_eq_true c13, eqO_ok c14, of_decide_eq_true c15, xfB_ok c16⟩
  · split at c9
    · rename_i oc od D osl e
      have := eq_of_beq c9
      subst this
      exact ⟨_, _, _, e⟩
    · cases c9
  · rw [e] at c10
    dsimp only at c10
    split at c10
    · rename_i cda e1
      split at c10
      · rename_i ocl odd vs osc e2
        split at c10
        · rename_i z tf e3
          have := of_decide_eq_true c10
          subst this
          exact ⟨cda, ocl, odd, vs, osc, tf, e1, e2, e3⟩
        · cases c10
      · cases c10
    · cases c10
end
theorem ErrF.supK {P : Program} {K : PySem.W.Frag} {C f cc : Addr} {file x qual self : Str} {fs : List Str} {params : Arguments} {body : List Stmt} {scope : Scope} {fd : FuncData} (E : ErrF K C f cc file fs) (F : FunS K x qual params body scope f cc fd) (hP : SupP P file) (hs : ∃ ar, (params.posonlyargs ++ params.args).head? = some ar ∧ ar.arg = self) : SupK P K f cc C fd.code fd self := by
  obtain ⟨oc, od, kV, doc, pm, an, cdv, ct, osl, rfl, lk, hcd⟩ := F.ex
  obtain ⟨cda, ocl, odd, vs, osc, tf, e1, e2, e3⟩ := E.code _ _ _ _ lk
  exact ⟨⟨_, _, _, lk⟩, hs, ⟨cda, ocl, odd, vs, osc, file, tf, e1, e2, e3, hP.file⟩, hP.top, E.cell, E.cls, E.opq⟩
theorem start_at {N : List Str} {vs : List V} {i : Nat} {v : V} (h : vs[i]? = some v) : (L2.start N vs)[i]? = some (some v) := by
  have hi := (List.getElem?_eq_some_iff.mp h).1
  unfold L2.start
  rw [List.getElem?_append_left (by simpa using hi), List.getElem?_map, h]
  rfl
theorem sts_of {K : PySem.W.Frag} {C : Addr} {σ : L2.St} : ∀ {fs : List Str} {ws : List V} {j : Nat} (r : List (Str × Nat)), r = fs.zipIdx j → ws.length = fs.length → (∀ z ∈ fs, PySem.W.findIn K (.ref C) z = some none) → (∀ k v, ws[k]? = some v → σ[j + k]? = some (some v)) → Sts K C σ r ws
  | [], [], j, _, rfl, _, _, _ => .nil
  | f :: fs, w :: ws, j, _, rfl, hl, hn, hs => by
    rw [List.zipIdx_cons]
    exact .cons (hn f List.mem_cons_self) (hs 0 w rfl) (sts_of _ rfl (Nat.succ.inj hl) (fun z hz => hn z (List.mem_cons_of_mem _ hz)) fun k v e => by rw [show j + 1 + k = j + (k + 1) by omega]; exact hs (k + 1) v e)
theorem errx_fn {P : Program} {w : World} {K : PySem.W.Frag} {mg : Str → Option Value} {base : Heap} {C f cc : Addr} {file x qual self : Str} {fs N : List Str} {params : Arguments} {body : List Stmt} {scope : Scope} {fd : FuncData} (E : ErrF K C f cc file fs) (F : FunS K x qual params body scope f cc fd) (S : ScS N (self :: fs) scope) (hfs : fs ≠ []) (hl : fs.length ≤ 900)
    (hbody : ∀ (cd : Value) (A : Around) (outer : List Env) (s : Shared) (H : Hp) (E : XK), fd.code = cd → PSa (cxS (L2.CX P w) P w K mg base N qual scope f cc cd A outer s H E) body body (fun Ds σ H => ∃ a, σ[0]? = some (some (.ref a)) ∧ H a = some (exo a C none) ∧ tStores K (fs.zipIdx 1) Ds σ H)) :
    FnOk P w K mg base (L2.CX P w) 1 f fd (self :: fs) (spX C fs) := by
  obtain ⟨oc, od, kV, doc, pm, an, cdv, ct, osl, rfl, lk, hcd⟩ := F.ex
  obtain ⟨oc2, od2, osl2, lcc⟩ := E.cell
  refine fnS_of lk hcd lcc S (fun vs H Q E' h => ?_) fun A outer s H vs Q E' hr h => ⟨_, hbody cdv A outer s H E' rfl, ?_⟩
  · obtain ⟨a, ws, rfl, hw, _⟩ := h
    simp [hw]
  · obtain ⟨a, ws, rfl, hw, ha, h⟩ := h
    have h0 : (L2.start N (.ref a :: ws))[0]? = some (some (.ref a)) := start_at rfl
    have st : Sts K C (L2.start N (.ref a :: ws)) (fs.zipIdx 1) ws := sts_of _ rfl hw E.no fun k v e => start_at (i := 1 + k) (by rw [Nat.add_comm]; exact e)
    refine ⟨a, h0, ha, stores_new E.oex h0 st (fun z => hfs (by have := congrArg List.length z; simpa using this)) ha (by simpa using hl) fun H' d h1 h2 h3 h4 h5 => h H' d h1 h2 h3 ?_ h5⟩
    rw [h4, List.zipIdx_map_fst]
theorem errX_of {P : Program} {w : World} {g : Gm} {mg : Str → Option Value} {base : Heap} {f cc : Addr} {file x nm qual self : Str} {fs : List Str} {params : Arguments} {body : List Stmt} {scope : Scope} {fd : FuncData} {i : CI} (hi : g.ci x = some i) (hm : mg x = some (.ref i.C)) (E : ErrF g.K i.C f cc file fs) (F : FunS g.K nm qual params body scope f cc fd)
    (Fn : FnOk P w g.K mg base (L2.CX P w) 1 f fd (self :: fs) (spX i.C fs)) (hf : i.fs = fs.reverse)
    (hb : ∀ (kV doc pm : Value) (an : Option Addr) (cdv ct : Value) (us : List Value), us.length = (self :: fs).length → bindArgs (PySem.W.fnX nm qual params body scope [(ccl, cc)] .none kV doc pm an cdv ct) ⟨us, []⟩ = pure ((self :: fs).zip us)) (hn : fs.length ≠ 0 := by decide) (hn2 : fs.length ≤ 100 := by decide) : ErrX P w g mg base x 1 fs.length := by
  obtain ⟨oc, od, kV, doc, pm, an, cdv, ct, osl, e, lk, hcd⟩ := F.ex
  refine ⟨⟨i, f, fd, self :: fs, fs, hi, hm, E.oex, E.ini, E.tyf, Fn, ?_, hf, rfl, hn, hn2⟩⟩
  rw [e]
  exact .all (hb kV doc pm an cdv ct)
end Mi
namespace Mi
open L2 PySem PySem.Spec PyProof.Rows
section
open He
def newX (seen : Nat) (all new : List Addr) : List Addr → Nat × List Addr × List Addr
  | [] => (seen, all, new)
  | a :: r => match Nat.beq (Nat.land (Nat.shiftRight seen a) 1) 0 with
    | true => newX (Nat.lor seen (Nat.shiftLeft 1 a)) (a :: all) (a :: new) r
    | false => newX seen all new r
def refsX (o : Obj) : List Addr := match o.cls with
  | .type t => (match decide (t = "code") with
    | true => []
    | false => refsD o)
  | _ => refsD o
def levX (g : Addr → Option Obj) : Nat → Nat → List Addr → List Addr → List Addr
  | 0, _, all, _ => all
  | n + 1, seen, all, fr => match newX seen all [] (fr.flatMap fun a => match g a with
    | some o => refsX o
    | none => []) with
    | (seen', all', new) => levX g n seen' all' new
def asX (g : Addr → Option Obj) (n : Nat) : List Addr := (levX g n (Nat.shiftLeft 1 mainGlobals) [mainGlobals] [mainGlobals]).reverse ++ [cStatics]
abbrev AlX : Type := He.AlT × List He5.FnW
def exX (ex : PySem.W.Frag → Bool) (fx : List DefS) (K : PySem.W.Frag) : Bool := ex K && fx.all fun d => d.ok K
def obsMX (ex : PySem.W.Frag → Bool) (fn : List He5.DefA) (fx : List DefS) (ts : List He.Tab) (K : PySem.W.Frag) : AlX := (obsMT (exX ex fx) fn ts K, fx.map fun d => fnS K (d.at_ K))
def valMX (fn : List He5.DefA) (fx : List DefS) (ts : List He.Tab) (w : World) : AlX := (valMT fn ts w, fx.map DefS.val)
def SaysMX (ex : PySem.W.Frag → Bool) (fn : List He5.DefA) (fx : List DefS) (ts : List He.Tab) (w : World) (K : PySem.W.Frag) : Prop := obsMX ex fn fx ts K = valMX fn fx ts w
def obsMXG (n : Nat) (ex : PySem.W.Frag → Bool) (fn : List He5.DefA) (fx : List DefS) (ts : List He.Tab) (g : Addr → Option Obj) : AlX := obsMX ex fn fx ts (He.frG g (asX g n))
def hookMX (n : Nat) (ex : PySem.W.Frag → Bool) (fn : List He5.DefA) (fx : List DefS) (ts : List He.Tab) : PySem.W.Hook where
  α := AlX
  obs := fun s => obsMXG n ex fn fx ts s.heap.get?
  val := fun w => valMX fn fx ts w
  says := fun w h => ∃ K : PySem.W.Frag, K.In h ∧ SaysMX ex fn fx ts w K
  of := fun _ _ e => ⟨_, frG_in, e⟩
  keeps := fun _ _ _ ⟨K, hK, c⟩ k => ⟨K, PySem.W.Frag.In.keeps hK k, c⟩
theorem obsMXG_eq {n : Nat} {ex : PySem.W.Frag → Bool} {fn : List He5.DefA} {fx : List DefS} {ts : List He.Tab} {g : Addr → Option Obj} {s : Shared} (h : ∀ a, g a = s.heap.get? a) : obsMXG n ex fn fx ts g = (hookMX n ex fn fx ts).obs s := by
  have e : g = s.heap.get? := funext h
  rw [e] <;> rfl
variable {ex : PySem.W.Frag → Bool} {fn : List He5.DefA} {fx : List DefS} {ts : List He.Tab} {w : World} {K : PySem.W.Frag}
theorem SaysMX.t (c : SaysMX ex fn fx ts w K) : SaysMT (exX ex fx) fn ts w K := congrArg (fun z : AlX => z.1) c
theorem SaysMX.more (c : SaysMX ex fn fx ts w K) : ex K = true := (ba c.t.m.more).1
theorem SaysMX.def_ (c : SaysMX ex fn fx ts w K) (i : Nat) {d : He5.DefA} (h : fn[i]? = some d := by rfl) : ∃ fd, L2.FunD K d.name d.qual d.params d.body d.scope (d.dvs K) (d.kws K) (d.at_ K) fd := c.t.m.def_ i h
theorem SaysMX.tab (c : SaysMX ex fn fx ts w K) (i : Nat) {t : He.Tab} (h : ts[i]? = some t := by rfl) : ∃ es n, KDict K w (t.1 K) es n := c.t.tab i h
theorem SaysMX.defS (c : SaysMX ex fn fx ts w K) (i : Nat) {d : DefS} (h : fx[i]? = some d := by rfl) : ∃ fd, FunS K d.name d.qual d.params d.body d.scope (d.at_ K) (ccOf K (d.at_ K)) fd := by
  have c2 := (ba c.t.m.more).2
  have e : fx.map (fun d => fnS K (d.at_ K)) = fx.map DefS.val := congrArg (fun z : AlX => z.2) c
  have e2 : (fx.map fun d => fnS K (d.at_ K))[i]? = (fx.map DefS.val)[i]? := by rw [e]
  rw [List.getElem?_map, List.getElem?_map, h] at e2
  exact DefS.funS (Option.some.inj e2) (List.all_eq_true.mp c2 d (List.mem_of_getElem? h))
end
end Mi
namespace Mi
open L2 PySem PySem.Spec PyProof.Rows
section
open He
variable {K : PySem.W.Frag}
def fsB (c : Str) (fs : List Str) : List (Str × Kd × List Str × List Nat) → Bool
  | [] => false
  | (x, _, f, _) :: r => if c = x then decide (f = fs) else fsB c fs r
theorem fsB_ok {c : Str} {fs : List Str} {i : CI} : ∀ {t : List (Str × Kd × List Str × List Nat)}, fsB c fs t = true → ciT K t c = some i → i.fs = fs
  | [], h, _ => by cases h
  | (x, k, f, pl) :: r, h, e => by
    unfold fsB at h
    unfold ciT at e
    split at h
    · rename_i q
      rw [if_pos q] at e
      cases e
      exact of_decide_eq_true h
    · rename_i q
      rw [if_neg q] at e
      exact fsB_ok h e
theorem memL {α : Type} {x : Str} {v : α} : ∀ {l : List (Str × α)}, l.lookup x = some v → (x, v) ∈ l
  | [], h => by cases h
  | (y, u) :: r, h => by
    rw [List.lookup_cons] at h
    split at h
    · rename_i q
      cases h
      rw [eq_of_beq q]
      exact List.mem_cons_self
    · exact List.mem_cons_of_mem _ (memL h)
theorem xf_ok {w : World} {t : List (Str × Kd × List Str × List Nat)} {file : Str} {xt : List (Str × List Str)} (c : (xt.all fun q => errB K q.1 file q.2.reverse && fsB q.1 q.2 t) = true) : XfT ⟨K, ciT K t, w⟩ xt := by
  refine ⟨fun x ns h i hi => ?_⟩
  obtain ⟨c1, c2⟩ := ba (List.all_eq_true.mp c (x, ns) (memL h))
  have E := errB_ok c1
  have e : i.C = ga K x := by rw [ciT_at hi]
  rw [e]
  exact ⟨fsB_ok c2 hi, E.xf, fun f hf => E.no f (by simpa using hf)⟩
theorem xe_ok {t : List (Str × Kd × List Str × List Nat)} {file : Str} {xt : List (Str × List Str)} (c : (xt.all fun q => errB K q.1 file q.2.reverse && fsB q.1 q.2 t) = true) {x : Str} {ns : List Str} (h : (x, ns) ∈ xt) : ErrF K (ga K x) (ma K (ga K x) "__init__") (ccOf K (ma K (ga K x) "__init__")) file ns.reverse :=
  errB_ok (ba (List.all_eq_true.mp c _ h)).1
end
end Mi
namespace Mi
open L2 PySem PySem.Spec PyProof.Rows
section
variable {g : Gm} {F F' H H' : Hp}
mutual
theorem Own.enc (s : Sub F H) : ∀ {v : V} {x : OD} {fp : List Addr}, Own g F H v x fp → Enc g H v x.x
  | _, _, _, .d e => e.mono s
  | _, _, _, .z _ e => e.mono s
  | _, _, _, .l _ h k => .lst h (OwnL.enc s k)
  | _, _, _, .zk _ e => e.mono s
  | _, _, _, .k _ h k => .dct (.dk h (k.mono s))
  | _, _, _, .zs _ e => e.mono s
  | _, _, _, .s _ h k q => .dct (.st h (k.mono s) q)
  | _, _, _, .zo _ e => e.mono s
  | _, _, _, .zf _ e => e.mono s
  | _, _, _, .zp _ e => e.mono s
  | _, _, _, .p _ h _ k => .lst h (OwnL.enc s k)
  | _, _, _, .o _ hi hk h hd hn k => .dct (.obj hi (OwnF.enc s k) (.inr ⟨hk, k.ns.2, h, s _ _ hd, hn⟩))
theorem OwnL.enc (s : Sub F H) : ∀ {t : Sh} {vs : List V} {xs : List D} {fp : List Addr}, OwnL g F H t vs xs fp → EncL g H vs xs
  | _, _, _, _, .nil => .nil
  | _, _, _, _, .cons h k => .cons (Own.enc s h) (OwnL.enc s k)
theorem OwnF.enc (s : Sub F H) : ∀ {t : Sh} {ns : List Str} {vs : List V} {xs : List (D × D)} {fp : List Addr}, OwnF g F H t ns vs xs fp → EncF g H ns vs xs
  | _, _, _, _, _, .nil => .nil
  | _, _, _, _, _, .cons h k => .cons (Own.enc s h) (OwnF.enc s k)
end
theorem OwnL.len : ∀ {t : Sh} {vs : List V} {xs : List D} {fp : List Addr}, OwnL g F H t vs xs fp → vs.length = xs.length
  | _, _, _, _, .nil => rfl
  | _, _, _, _, .cons _ k => congrArg (· + 1) (OwnL.len k)
/-- a list of data is a list of one's own -/
theorem OwnL.ofEnc : ∀ {vs : List V} {xs : List D}, EncL g F vs xs → OwnL g F H .d vs xs []
  | _, _, .nil => .nil
  | _, _, .cons h k => .cons (fp := []) (.d h) (OwnL.ofEnc k)
theorem OwnL.toEnc : ∀ {vs : List V} {xs : List D} {fp : List Addr}, OwnL g F H .d vs xs fp → EncL g F vs xs ∧ fp = []
  | _, _, _, .nil => ⟨.nil, rfl⟩
  | _, _, _, .cons (.d h) k => by
    obtain ⟨e1, rfl⟩ := OwnL.toEnc k
    exact ⟨.cons h e1, rfl⟩
theorem OwnL.app : ∀ {t : Sh} {vs ws : List V} {xs ys : List D} {fp fq : List Addr}, OwnL g F H t vs xs fp → OwnL g F H t ws ys fq → OwnL g F H t (vs ++ ws) (xs ++ ys) (fp ++ fq)
  | _, _, _, _, _, _, _, .nil, q => q
  | _, _, _, _, _, _, _, .cons (fp := f1) (fq := f2) h k, q => by
    rw [List.append_assoc]
    exact .cons h (OwnL.app k q)
/-- one of them, and the others -/
theorem OwnL.at_ : ∀ {t : Sh} {vs : List V} {xs : List D} {fp : List Addr} {j : Nat} {x : D}, OwnL g F H t vs xs fp → xs[j]? = some x → ∃ v f1 f2 f3, vs[j]? = some v ∧ fp = f1 ++ f2 ++ f3 ∧ Own g F H v ⟨t, x, none⟩ f2 ∧
    ∀ (F2 H2 : Hp) (w : V) (y : D) (f : List Addr), Sub F F2 → Own g F2 H2 w ⟨t, y, none⟩ f → (∀ c ∈ f1 ++ f3, H2 c = H c) → OwnL g F2 H2 t (vs.set j w) (xs.set j y) (f1 ++ f ++ f3)
  | _, _, _, _, _, _, .nil, e => by simp at e
  | _, _, _, _, 0, _, .cons (fp := fp) (fq := fq) h k, e => by
    simp at e
    subst e
    refine ⟨_, [], fp, fq, rfl, rfl, h, fun F2 H2 w y f s o q => ?_⟩
    exact .cons o (k.keep s fun c hc => q c (by simpa using hc))
  | _, _, _, _, j + 1, _, .cons (fp := fp) (fq := fq) h k, e => by
    obtain ⟨v, f1, f2, f3, e1, e2, e3, e4⟩ := OwnL.at_ (j := j) k (by simpa using e)
    refine ⟨v, fp ++ f1, f2, f3, by simpa using e1, by rw [e2]; simp [List.append_assoc], e3, fun F2 H2 w y f s o q => ?_⟩
    have z := OwnL.cons (h.keep s fun c hc => q c (by simp [hc])) (e4 F2 H2 w y f s o fun c hc => q c (by
      rcases List.mem_append.mp hc with z | z <;> simp [z]))
    simpa [List.append_assoc] using z
/-- at v stands the datum y of the shape t, a part of what stands at v0; up: the whole by the part -/
def Zip (g : Gm) (F H : Hp) (v0 : V) (x0 : OD) (v : V) (t : Sh) (y : D) (up : D → D) : Prop :=
  ∀ fp, Own g F H v0 x0 fp → fp.Nodup → ∀ ys, y = .list ys → ∀ s, t = .l s → ∃ a ws fr, v = .ref a ∧ H a = some (.lst ws) ∧ a ∈ fp ∧ OwnL g F H s ws ys fr ∧ (∀ c ∈ fr, c ∈ fp) ∧ (a :: fr).Nodup ∧
    ∀ (F2 H2 : Hp) (ws2 : List V) (ys2 : List D) (fr2 : List Addr), Sub F F2 → H2 a = some (.lst ws2) → OwnL g F2 H2 s ws2 ys2 fr2 → (a :: fr2).Nodup → (∀ c ∈ fr2, c ∈ fr ∨ c ∉ fp) → (∀ c ∈ fp, c ≠ a → c ∉ fr → H2 c = H c) →
      ∃ fp2, Own g F2 H2 v0 ⟨x0.s, up (.list ys2), x0.o⟩ fp2 ∧ fp2.Nodup ∧ ∀ c ∈ fp2, c ∈ fp ∨ c ∈ fr2
theorem Zip.top {v0 : V} {x0 : OD} : Zip g F H v0 x0 v0 x0.s x0.x id := fun fp h nd ys hy s hs => by
  cases h with
  | d e => cases hs
  | zk _ _ => cases hs
  | k _ _ _ => cases hs
  | zs _ _ => cases hs
  | s _ _ _ _ => cases hs
  | zo _ _ => cases hs
  | zf _ _ => cases hs
  | zp _ _ => cases hs
  | p _ _ _ _ => cases hs
  | o _ _ _ _ _ _ _ => cases hs
  | z q e =>
    have hy : _ = PyData.list ys := hy
    subst hy
    cases q
  | l ho ha k =>
    cases hs
    cases hy
    refine ⟨_, _, _, rfl, ha, List.mem_cons_self, k, fun c hc => List.mem_cons_of_mem _ hc, nd, fun F2 H2 ws2 ys2 fr2 _ h2 k2 nd2 hf _ => ?_⟩
    refine ⟨_, .l ho h2 k2, nd2, fun c hc => ?_⟩
    rcases List.mem_cons.mp hc with e | e
    · exact .inl (by rw [e]; exact List.mem_cons_self)
    · exact .inr e
/-- a part of a part -/
def ixU (p : D × (D → D)) (i : D) : Option (D × (D → D)) := match p.1, i with
  | .list ys, .int n => (ixN ys.length n).bind fun j => (ys[j]?).map fun y => (y, fun z => p.2 (.list (ys.set j z)))
  | _, _ => none
theorem ixU_some {p q : D × (D → D)} {i : D} (h : ixU p i = some q) : ∃ ys n j y, p.1 = .list ys ∧ i = .int n ∧ ixN ys.length n = some j ∧ ys[j]? = some y ∧ q = (y, fun z => p.2 (.list (ys.set j z))) := by
  obtain ⟨p1, p2⟩ := p
  cases p1 with
  | list ys =>
    cases i with
    | int n =>
      have h : (ixN ys.length n).bind (fun j => (ys[j]?).map fun y => (y, fun z => p2 (.list (ys.set j z)))) = some q := h
      cases q1 : ixN ys.length n with
      | none =>
        rw [q1] at h
        cases h
      | some j =>
        rw [q1] at h
        have h : (ys[j]?).map (fun y => (y, fun z => p2 (.list (ys.set j z)))) = some q := h
        cases q2 : ys[j]? with
        | none =>
          rw [q2] at h
          cases h
        | some y =>
          rw [q2] at h
          cases h
          exact ⟨ys, n, j, y, rfl, rfl, q1, q2, rfl⟩
    | _ => cases h
  | _ => cases h
theorem nodup_mid {f1 f2 f3 : List Addr} (h : (f1 ++ f2 ++ f3).Nodup) : f2.Nodup ∧ (∀ c ∈ f2, c ∉ f1 ∧ c ∉ f3) ∧ (f1 ++ f3).Nodup := by
  rw [List.append_assoc, List.nodup_append] at h
  obtain ⟨h1, h2, h3⟩ := h
  rw [List.nodup_append] at h2
  obtain ⟨h4, h5, h6⟩ := h2
  refine ⟨h4, fun c hc => ⟨fun z => h3 c z c (List.mem_append_left _ hc) rfl, fun z => h6 c hc c z rfl⟩, ?_⟩
  rw [List.nodup_append]
  exact ⟨h1, h5, fun a ha b hb => h3 a ha b (List.mem_append_right _ hb)⟩
theorem nodup_mid' {f1 f2 f3 : List Addr} (h2 : f2.Nodup) (h13 : (f1 ++ f3).Nodup) (h : ∀ c ∈ f2, c ∉ f1 ∧ c ∉ f3) : (f1 ++ f2 ++ f3).Nodup := by
  rw [List.nodup_append] at h13
  obtain ⟨a1, a2, a3⟩ := h13
  rw [List.append_assoc, List.nodup_append, List.nodup_append]
  refine ⟨a1, ⟨h2, a2, fun a ha b hb e => (h a ha).2 (e ▸ hb)⟩, fun a ha b hb e => ?_⟩
  rcases List.mem_append.mp hb with z | z
  · exact (h b z).1 (e ▸ ha)
  · exact a3 a ha b z e
theorem Zip.ix {v0 v : V} {x0 : OD} {s : Sh} {p q : D × (D → D)} {i : D} (h : Zip g F H v0 x0 v (.l s) p.1 p.2) (e : ixU p i = some q) (fp0 : List Addr) (h0 : Own g F H v0 x0 fp0) (n0 : fp0.Nodup) :
    ∃ ys n j a ws u, p.1 = .list ys ∧ i = .int n ∧ ixN ys.length n = some j ∧ v = .ref a ∧ H a = some (.lst ws) ∧ ws.length = ys.length ∧ ws[j]? = some u ∧ (s = .d → Enc g F u q.1) ∧ Zip g F H v0 x0 u s q.1 q.2 := by
  obtain ⟨ys, n, j, y, e1, e2, e3, e4, e5⟩ := ixU_some e
  subst e5
  obtain ⟨a, ws, fr, rfl, ha, hap, hk, hfr, nd, cap⟩ := h fp0 h0 n0 ys e1 s rfl
  obtain ⟨u, f1, f2, f3, g1, g2, g3, g4⟩ := hk.at_ e4
  refine ⟨ys, n, j, a, ws, u, e1, e2, e3, rfl, ha, hk.len, g1, fun z => ?_, ?_⟩
  · subst z
    cases g3
    assumption
  · intro fp hown hnd zs hz t ht
    have hz : y = .list zs := hz
    subst hz
    subst ht
    have ef := hown.uniq h0 fun _ _ => rfl
    subst ef
    cases g3 with
    | z q _ => cases q
    | @l a2 us _ _ _ fr2 _ hb kb =>
    subst g2
    have nd2 : (f1 ++ (a2 :: fr2) ++ f3).Nodup := (List.nodup_cons.mp nd).2
    obtain ⟨m1, m2, m3⟩ := nodup_mid nd2
    have ain : a ∉ f1 ++ (a2 :: fr2) ++ f3 := (List.nodup_cons.mp nd).1
    refine ⟨a2, us, fr2, rfl, hb, hfr a2 (by simp), kb, fun c hc => hfr c (by simp [hc]), m1, fun F2 H2 ws2 ys2 fr3 s2 hH2 k2 nd3 hin hout => ?_⟩
    have ha2 : H2 a = some (.lst ws) := by
      rw [hout a hap (fun z => ain (by simp [z])) (fun z => ain (by simp [z]))]
      exact ha
    have own2 : Own g F2 H2 (.ref a2) ⟨.l t, .list ys2, none⟩ (a2 :: fr3) := .l (fun _ z => nomatch z) hH2 k2
    have k3 := g4 F2 H2 (.ref a2) (.list ys2) _ s2 own2 fun c hc => hout c (hfr c (by rcases List.mem_append.mp hc with z | z <;> simp [z])) (fun z => by
      have := m2 a2 (by simp)
      subst z
      rcases List.mem_append.mp hc with w | w
      · exact this.1 w
      · exact this.2 w) (fun z => by
      have := m2 c (by simp [z])
      rcases List.mem_append.mp hc with w | w
      · exact this.1 w
      · exact this.2 w)
    have es : ws.set j (.ref a2) = ws := List.ext_getElem? fun k => by
      by_cases hk2 : j = k
      · subst hk2
        rw [List.getElem?_set_self (List.getElem?_eq_some_iff.mp g1).1, g1]
      · rw [List.getElem?_set_ne hk2]
    rw [es] at k3
    have sep3 : ∀ c ∈ a2 :: fr3, c ∉ f1 ∧ c ∉ f3 := fun c hc => by
      rcases List.mem_cons.mp hc with z | z
      · rw [z]
        exact m2 a2 (by simp)
      · rcases hin c z with w | w
        · exact m2 c (by simp [w])
        · exact ⟨fun w2 => w (hfr c (by simp [w2])), fun w2 => w (hfr c (by simp [w2]))⟩
    have nd4 := nodup_mid' nd3 m3 sep3
    obtain ⟨fp2, o2, n2, in2⟩ := cap F2 H2 ws (ys.set j (.list ys2)) (f1 ++ (a2 :: fr3) ++ f3) s2 ha2 k3 (List.nodup_cons.mpr ⟨fun z => by
        rcases List.mem_append.mp z with w | w
        · rcases List.mem_append.mp w with w2 | w2
          · exact ain (by simp [w2])
          · rcases List.mem_cons.mp w2 with w3 | w3
            · exact ain (by simp [w3])
            · rcases hin a w3 with w4 | w4
              · exact ain (by simp [w4])
              · exact w4 hap
        · exact ain (by simp [w]), nd4⟩) (fun c hc => by
        rcases List.mem_append.mp hc with w | w
        · rcases List.mem_append.mp w with w2 | w2
          · exact .inl (by simp [w2])
          · rcases List.mem_cons.mp w2 with w3 | w3
            · exact .inl (by simp [w3])
            · rcases hin c w3 with w4 | w4
              · exact .inl (by simp [w4])
              · exact .inr w4
        · exact .inl (by simp [w])) (fun c hc n1 n2 => hout c hc (fun z => n2 (by simp [z])) (fun z => n2 (by simp [z])))
    refine ⟨fp2, o2, n2, fun c hc => ?_⟩
    rcases in2 c hc with z | z
    · exact .inl z
    · rcases List.mem_append.mp z with w | w
      · rcases List.mem_append.mp w with w2 | w2
        · exact .inl (hfr c (by simp [w2]))
        · rcases List.mem_cons.mp w2 with w3 | w3
          · exact .inl (hfr c (by simp [w3]))
          · exact .inr w3
      · exact .inl (hfr c (by simp [w]))
theorem Zip.mono {v0 v : V} {x0 : OD} {t : Sh} {y : D} {up : D → D} (h : Zip g F H v0 x0 v t y up) (s : Sub F F') {fp0 : List Addr} (h0 : Own g F H v0 x0 fp0) (e : ∀ c ∈ fp0, H' c = H c) : Zip g F' H' v0 x0 v t y up := fun fp ho nd ys hy s1 hs => by
  have ef := h0.uniq ho e
  subst ef
  obtain ⟨a, ws, fr, h1, h2, h3, h4, h5, h6, cap⟩ := h fp0 h0 nd ys hy s1 hs
  refine ⟨a, ws, fr, h1, by rw [e a h3]; exact h2, h3, h4.keep s fun c hc => e c (h5 c hc), h5, h6, fun F2 H2 ws2 ys2 fr2 s2 k1 k2 k3 k4 k5 => cap F2 H2 ws2 ys2 fr2 (s.trans s2) k1 k2 k3 k4 fun c hc n1 n2 => by
    rw [k5 c hc n1 n2, e c hc]⟩
end
section
variable {g : Gm} {b : Bs} {Γ Γ' : Ctx} {F F' H H' : Hp} {σ : L2.St}
/-- an address of one's own, in a slot of S -/
def InS (g : Gm) (Γ : Ctx) (F : Hp) (σ : L2.St) (H : Hp) (S : Nat → Prop) (c : Addr) : Prop := ∃ j x v fp, S j ∧ Γ[j]? = some (some (.m x)) ∧ σ[j]? = some (some v) ∧ Own g F H v x fp ∧ c ∈ fp
/-- no slot owns it -/
def Free (g : Gm) (Γ : Ctx) (F : Hp) (σ : L2.St) (H : Hp) (c : Addr) : Prop := (∀ (j : Nat) (ys : List D), Γ[j]? = some (some (.l ys)) → σ[j]? ≠ some (some (.ref c))) ∧
  ∀ (j : Nat) (y : OD) (w : V) (fq : List Addr), Γ[j]? = some (some (.m y)) → σ[j]? = some (some w) → Own g F H w y fq → c ∉ fq
theorem Rf.freeG (rf : Rf g b Γ F σ H) (gr : Grow F H F' H') {c : Addr} (h : H c = none) : Free g Γ F' σ H' c := by
  refine ⟨fun j ys hj hs => ?_, fun j y w fq h1 h2 h3 hq => ?_⟩
  · obtain ⟨a, us, k1, k2, k3, k4, k5⟩ := rf.own hj
    rw [hs] at k1
    cases k1
    rw [h] at k4
    cases k4
  · obtain ⟨fp0, k1, _, _⟩ := rf.ownM h1 h2
    have e := k1.uniq h3 (gr.same k1)
    subst e
    obtain ⟨us, k⟩ := k1.lst c hq
    rw [h] at k
    cases k
theorem Rf.chg (r : Rf g b Γ F σ H) (S : Nat → Prop) (x1 : Nat → OD) (hS : ∀ j, S j → ∃ x v, Γ[j]? = some (some (.m x)) ∧ σ[j]? = some (some v))
    (hP : ∀ c o, H c = some o → ¬ InS g Γ F σ H S c → H' c = some o) (ff : Sub F F') (fh : Sub F' H') (new : ∀ a, H a ≠ none → F a = none → ¬ InS g Γ F σ H S a → F' a = none)
    (hΓ : ∀ j bd, Γ'[j]? = some (some bd) → (¬ S j ∧ Γ[j]? = some (some bd)) ∨ (S j ∧ bd = .m (x1 j)))
    (own1 : ∀ j, S j → Γ'[j]? = some (some (.m (x1 j))) → ∀ v, σ[j]? = some (some v) → ∃ fp1, Own g F' H' v (x1 j) fp1 ∧ fp1.Nodup ∧ ∀ c ∈ fp1, F' c = none ∧ b.H0 c = none ∧ (Free g Γ F σ H c ∨ InS g Γ F σ H S c))
    (dis1 : ∀ j k v w fp fq, S j → S k → Γ'[j]? = some (some (.m (x1 j))) → Γ'[k]? = some (some (.m (x1 k))) → j ≠ k → σ[j]? = some (some v) → σ[k]? = some (some w) → Own g F' H' v (x1 j) fp → Own g F' H' w (x1 k) fq → ∀ c ∈ fp, c ∉ fq)
    (le : Le b.cx Γ') : Rf g b Γ' F' σ H' := by
  have s0 : ∀ {c : Addr}, InS g Γ F σ H S c → b.H0 c = none ∧ F c = none ∧ ∃ vs, H c = some (mo vs) := fun {c} ⟨j, x, v, fp, _, h1, h2, h3, hc⟩ => by
    obtain ⟨fp0, k1, k2, k3⟩ := r.ownM h1 h2
    have e := k1.uniq h3 fun _ _ => rfl
    subst e
    exact ⟨(k3 c hc).2, (k3 c hc).1, k1.lst c hc⟩
  have nS : ∀ {j : Nat} {x : OD} {v : V} {fp : List Addr}, ¬ S j → Γ[j]? = some (some (.m x)) → σ[j]? = some (some v) → Own g F H v x fp → ∀ c ∈ fp, ¬ InS g Γ F σ H S c := fun {j} {x} {v} {fp} nj h1 h2 h3 c hc ⟨k, y, w, fq, sk, k1, k2, k3, hc2⟩ =>
    (r.sepm j k x v fp (fun e => nj (e ▸ sk)) h1 h2 h3 c hc).2 y w fq k1 k2 k3 hc2
  have keep : ∀ {j : Nat} {x : OD} {v : V} {fp : List Addr}, ¬ S j → Γ[j]? = some (some (.m x)) → σ[j]? = some (some v) → Own g F H v x fp → ∀ c ∈ fp, H' c = H c := fun {j} {x} {v} {fp} nj h1 h2 h3 c hc => by
    obtain ⟨vs, e⟩ := h3.lst c hc
    rw [e]
    exact hP c _ e (nS nj h1 h2 h3 c hc)
  have nL : ∀ {j : Nat} {a : Addr} {xs : List D}, Γ[j]? = some (some (.l xs)) → σ[j]? = some (some (.ref a)) → ¬ InS g Γ F σ H S a := fun {j} {a} {xs} h1 h2 ⟨k, y, w, fq, sk, k1, k2, k3, hc2⟩ =>
    (r.sepm k j y w fq (fun e => by subst e; rw [h1] at k1; cases k1) k1 k2 k3 a hc2).1 xs h1 h2
  refine ⟨⟨r.gr.ff.trans ff, fh, fun c o e => hP c o (r.gr.hh c o e) fun z => absurd ((s0 z).1.symm.trans e) (fun q => nomatch q), fun a h1 h2 => new a (fun z => h1 (r.gr.hh.free z)) (r.gr.new a h1 h2) fun z => h1 (s0 z).1⟩, le, fun j bd e => ?_, fun j k a xs ys h1 h2 h3 h4 => ?_, fun j k x v fp ne h1 h2 h3 c hc => ?_⟩
  · rcases hΓ j bd e with ⟨nj, e⟩ | ⟨sj, e⟩
    · obtain ⟨ov, k1, k2⟩ := r.at_ j bd e
      refine ⟨ov, k1, ?_⟩
      cases ov with
      | none => exact k2
      | some v =>
        cases bd with
        | v d => exact Enc.mono ff k2
        | l us =>
          cases v with
          | ref c =>
            obtain ⟨q1, q2, vs, q3, q4⟩ := k2
            have n1 := nL e k1
            exact ⟨new c (by rw [q3]; simp) q1 n1, q2, vs, hP c _ q3 n1, EncL.mono ff q4⟩
          | _ => exact k2
        | o a0 cn kvs =>
          cases v with
          | ref c =>
            obtain ⟨q0, ci, dx, ns, us, q1, q2, q3, q4, q5, q6, q7, q8⟩ := k2
            have nA : ¬ InS g Γ F σ H S c := fun ⟨_, _, _, _, _, _, _, w, hc⟩ => (q8.noO q3 w _ hc).1 rfl
            have nD : ¬ InS g Γ F σ H S dx := fun ⟨_, _, _, _, _, _, _, w, hc⟩ => (q8.noO q3 w _ hc).2 rfl
            obtain ⟨t1, t2⟩ := q8.there
            have k : ∀ {z : Addr}, H z ≠ none → ¬ InS g Γ F σ H S z → H' z = H z := fun {z} h1 h2 => by
              cases q : H z with
              | none => exact absurd q h1
              | some o => exact hP z o q h2
            exact ⟨q0, ci, dx, ns, us, q1, new c t1 q2 nA, new dx t2 q3 nD, q4, q5, q6, EncF.mono ff q7, q8.congr (k t1 nA) (k t2 nD)⟩
          | _ => exact k2
        | x a0 => cases v <;> exact k2
        | m x =>
          obtain ⟨fp, q1, q2, q3⟩ := k2.mOf
          exact BOk.toM ⟨fp, q1.keep ff (keep nj e k1 q1), q2, fun c hc => ⟨new c (by obtain ⟨vs, z⟩ := q1.lst c hc; rw [z]; simp) (q3 c hc).1 (nS nj e k1 q1 c hc), (q3 c hc).2⟩⟩
    · have eG := e
      subst eG
      obtain ⟨x, v, h1, h2⟩ := hS j sj
      obtain ⟨fp1, o1, o2, o3⟩ := own1 j sj (by assumption) v h2
      exact ⟨some v, h2, BOk.toM ⟨fp1, o1, o2, fun c hc => ⟨(o3 c hc).1, (o3 c hc).2.1⟩⟩⟩
  · rcases hΓ j _ h1 with ⟨nj, e1⟩ | ⟨_, e1⟩
    · rcases hΓ k _ h2 with ⟨nk, e2⟩ | ⟨_, e2⟩
      · exact r.sep j k a xs ys e1 e2 h3 h4
      · cases e2
    · cases e1
  · rcases hΓ j _ h1 with ⟨nj, e1⟩ | ⟨sj, e1⟩
    · obtain ⟨fp0, k1, k2, k3⟩ := r.ownM e1 h2
      have ef := k1.uniq h3 (keep nj e1 h2 k1)
      subst ef
      refine ⟨fun us z => ?_, fun y w fq z1 z2 z3 => ?_⟩
      · rcases hΓ k _ z with ⟨nk, e2⟩ | ⟨_, e2⟩
        · exact (r.sepm j k x v _ ne e1 h2 k1 c hc).1 us e2
        · cases e2
      · rcases hΓ k _ z1 with ⟨nk, e2⟩ | ⟨sk, e2⟩
        · obtain ⟨fq0, l1, _, _⟩ := r.ownM e2 z2
          have ef := l1.uniq z3 (keep nk e2 z2 l1)
          subst ef
          exact (r.sepm j k x v _ ne e1 h2 k1 c hc).2 y w _ e2 z2 l1
        · cases e2
          intro hq
          obtain ⟨fp1, o1, o2, o3⟩ := own1 k sk z1 w z2
          have ef := o1.uniq z3 fun _ _ => rfl
          subst ef
          rcases (o3 c hq).2.2 with z | z
          · exact z.2 j x v _ e1 h2 k1 hc
          · exact nS nj e1 h2 k1 c hc z
    · cases e1
      obtain ⟨fp1, o1, o2, o3⟩ := own1 j sj h1 v h2
      have ef := o1.uniq h3 fun _ _ => rfl
      subst ef
      refine ⟨fun us z => ?_, fun y w fq z1 z2 z3 => ?_⟩
      · rcases hΓ k _ z with ⟨nk, e2⟩ | ⟨_, e2⟩
        · intro hq
          rcases (o3 c hc).2.2 with w | w
          · exact w.1 k us e2 hq
          · exact nL e2 hq w
        · cases e2
      · rcases hΓ k _ z1 with ⟨nk, e2⟩ | ⟨sk, e2⟩
        · intro hq
          obtain ⟨fq0, l1, _, _⟩ := r.ownM e2 z2
          have ef := l1.uniq z3 (keep nk e2 z2 l1)
          subst ef
          rcases (o3 c hc).2.2 with w2 | w2
          · exact w2.2 k y w _ e2 z2 l1 hq
          · exact nS nk e2 z2 l1 c hq w2
        · cases e2
          exact dis1 j k v w _ _ sj sk h1 z1 ne h2 z2 o1 z3 c hc
/-- one slot -/
theorem Rf.chg1 (r : Rf g b Γ F σ H) {i : Nat} {x0 x1 : OD} {v0 : V} {fp fp1 : List Addr} (hx : Γ[i]? = some (some (.m x0))) (hs : σ[i]? = some (some v0)) (h0 : Own g F H v0 x0 fp) (hP : ∀ c o, H c = some o → c ∉ fp → H' c = some o) (ff : Sub F F') (fh : Sub F' H')
    (new : ∀ a, H a ≠ none → F a = none → a ∉ fp → F' a = none) (h1 : Own g F' H' v0 x1 fp1) (nd : fp1.Nodup) (h2 : ∀ c ∈ fp1, F' c = none ∧ b.H0 c = none ∧ (Free g Γ F σ H c ∨ c ∈ fp)) (hc : (b.cx[i]?).join = none) : Rf g b (Γ.set i (some (.m x1))) F' σ H' := by
  have inS : ∀ {c : Addr}, InS g Γ F σ H (· = i) c ↔ c ∈ fp := fun {c} => ⟨fun ⟨j, x, v, fq, e, k1, k2, k3, hc⟩ => by
    subst e
    rw [hx] at k1
    cases k1
    rw [hs] at k2
    cases k2
    have ef := h0.uniq k3 fun _ _ => rfl
    subst ef
    exact hc, fun hc => ⟨i, x0, v0, fp, rfl, hx, hs, h0, hc⟩⟩
  refine r.chg (· = i) (fun _ => x1) (fun j e => by subst e; exact ⟨_, _, hx, hs⟩) (fun c o e n => hP c o e fun z => n (inS.mpr z)) ff fh (fun a e1 e2 n => new a e1 e2 fun z => n (inS.mpr z)) (fun j bd e => ?_) (fun j e _ v hv => ?_) (fun j k v w fp fq e1 e2 _ _ ne => absurd (e1.trans e2.symm) ne) (r.le.setr hc)
  · rcases set_get e with ⟨e1, e2, _⟩ | ⟨e1, e2⟩
    · cases e2
      exact .inr ⟨e1, rfl⟩
    · exact .inl ⟨e1, e2⟩
  · subst e
    rw [hs] at hv
    cases hv
    refine ⟨fp1, h1, nd, fun c hc => ⟨(h2 c hc).1, (h2 c hc).2.1, ?_⟩⟩
    rcases (h2 c hc).2.2 with z | z
    · exact .inl z
    · exact .inr (inS.mpr z)
/-- a slot takes a new thing of one's own -/
theorem Rf.setm (r : Rf g b Γ F σ H) {i : Nat} {v0 : V} {x : OD} {fp : List Addr} (h : Own g F H v0 x fp) (nd : fp.Nodup) (hf : ∀ c ∈ fp, F c = none ∧ b.H0 c = none)
    (hn : ∀ (j : Nat) (ys : List D), Γ[j]? = some (some (.l ys)) → ∀ c ∈ fp, σ[j]? ≠ some (some (.ref c))) (hnm : ∀ (j : Nat) (y : OD) (v : V) (fq : List Addr), Γ[j]? = some (some (.m y)) → σ[j]? = some (some v) → Own g F H v y fq → ∀ c ∈ fp, c ∉ fq)
    (hc : (b.cx[i]?).join = none) (hi : i < σ.length) : Rf g b (Γ.set i (some (.m x))) F (σ.set i (some v0)) H := by
  refine ⟨r.gr, r.le.setr hc, fun j bd e => ?_, fun j k c us ys h1 h2 h3 h4 => ?_, fun j k y v fq ne h1 h2 h3 c hcm => ?_⟩
  · rcases set_get e with ⟨rfl, e2, _⟩ | ⟨ne, e2⟩
    · cases e2
      exact ⟨some v0, List.getElem?_set_self hi, BOk.toM ⟨fp, h, nd, hf⟩⟩
    · obtain ⟨ov, k1, k2⟩ := r.at_ j bd e2
      exact ⟨ov, by rw [List.getElem?_set_ne (Ne.symm ne)]; exact k1, k2⟩
  · rcases set_get h1 with ⟨_, e2, _⟩ | ⟨n1, e1⟩
    · cases e2
    · rcases set_get h2 with ⟨_, e2, _⟩ | ⟨n2, e2⟩
      · cases e2
      · rw [List.getElem?_set_ne (Ne.symm n1)] at h3
        rw [List.getElem?_set_ne (Ne.symm n2)] at h4
        exact r.sep j k c us ys e1 e2 h3 h4
  · have pl : ∀ {j : Nat} {bd : Bnd}, (Γ.set i (some (.m x)))[j]? = some (some bd) → (j = i ∧ bd = .m x) ∨ (j ≠ i ∧ Γ[j]? = some (some bd)) := fun {j} {bd} e => by
      rcases set_get e with ⟨e1, e2, _⟩ | q
      · cases e2
        exact .inl ⟨e1, rfl⟩
      · exact .inr q
    rcases pl h1 with ⟨rfl, e1⟩ | ⟨n1, e1⟩
    · cases e1
      rw [List.getElem?_set_self hi] at h2
      cases h2
      have ef := h.uniq h3 fun _ _ => rfl
      subst ef
      refine ⟨fun us z w => ?_, fun y2 w fq2 z1 z2 z3 => ?_⟩
      · rcases pl z with ⟨_, z1⟩ | ⟨n2, z1⟩
        · cases z1
        · rw [List.getElem?_set_ne (Ne.symm n2)] at w
          exact hn k us z1 c hcm w
      · rcases pl z1 with ⟨e2, _⟩ | ⟨n2, e2⟩
        · exact absurd e2.symm ne
        · rw [List.getElem?_set_ne (Ne.symm n2)] at z2
          exact hnm k y2 w fq2 e2 z2 z3 c hcm
    · rw [List.getElem?_set_ne (Ne.symm n1)] at h2
      refine ⟨fun us z w => ?_, fun y2 w fq2 z1 z2 z3 => ?_⟩
      · rcases pl z with ⟨_, z1⟩ | ⟨n2, z1⟩
        · cases z1
        · rw [List.getElem?_set_ne (Ne.symm n2)] at w
          exact (r.sepm j k y v fq ne e1 h2 h3 c hcm).1 us z1 w
      · rcases pl z1 with ⟨e2, e3⟩ | ⟨n2, e2⟩
        · cases e3
          subst e2
          rw [List.getElem?_set_self hi] at z2
          cases z2
          have ef := h.uniq z3 fun _ _ => rfl
          subst ef
          exact fun hq => hnm j y v fq e1 h2 h3 c hq hcm
        · rw [List.getElem?_set_ne (Ne.symm n2)] at z2
          exact (r.sepm j k y v fq ne e1 h2 h3 c hcm).2 y2 w fq2 e2 z2 z3
end
end Mi
namespace Mi
open L2 PySem PySem.Spec PyProof.Rows
section
variable {X : Cx} {g : Gm} {b : Bs} {Γ : Ctx} {F : Hp} {σ : L2.St} {H : Hp} {e e1 e2 : Expr} {es : List Expr} {pos : Pos} {r ra rb : Res D} {rs : Res (List D)} {x : Str} {o : OD} {t s : Sh} {rp : Res (D × (D → D))}
theorem r_m {i : Nat} (hΓ : Γ[i]? = some (some (.m o)) := by rfl) (hN : X.N[i]? = some x := by rfl) (hv : Vis X.env.scope x := by first | exact Or.inl rfl | exact Or.inr (Or.inl rfl) | exact Or.inr (Or.inr rfl))
    (hd : (x == ("__debug__" : Str)) = false := by decide) (hcd : (x == ("__classdict__" : Str)) = false := by decide) : PE X (.Name x pos) (tR g b Γ (.ok o.x)) := PE.imp (pe_var hN hv hd hcd) fun σ H Q q => by
  obtain ⟨F, rf, p⟩ := q
  obtain ⟨ov, h1, h2⟩ := rf.at_ i _ hΓ
  cases ov with
  | none => exact h2.elim
  | some v =>
    obtain ⟨fp, k1, k2, k3⟩ := h2.mOf
    exact ⟨v, h1, p v F H (Grow.refl rf.gr.fh) (k1.enc rf.gr.fh)⟩
def PostP (g : Gm) (b : Bs) (Γ : Ctx) (F : Hp) (i : Nat) (o : OD) (t : Sh) (r : Res (D × (D → D))) (σ : L2.St) (H : Hp) (Q : VK) : Prop :=
  Rf g b Γ F σ H ∧ match r with
  | .ok p => ∀ v v0 fp F' H', Grow F H F' H' → σ[i]? = some (some v0) → Own g F' H' v0 o fp → fp.Nodup → Zip g F' H' v0 o v t p.1 p.2 → Q v H'
  | .ex c fs => ∀ cls od F' H', Grow F H F' H' → Rf g b b.cx F' σ H' → ExOk g c fs cls od F' → b.W cls od σ H'
  | .no => False
def tP (g : Gm) (b : Bs) (Γ : Ctx) (i : Nat) (o : OD) (t : Sh) (r : Res (D × (D → D))) : TE := fun σ H Q => ∃ F, PostP g b Γ F i o t r σ H Q
theorem p_m {i : Nat} (hΓ : Γ[i]? = some (some (.m o)) := by rfl) (hN : X.N[i]? = some x := by rfl) (hv : Vis X.env.scope x := by first | exact Or.inl rfl | exact Or.inr (Or.inl rfl) | exact Or.inr (Or.inr rfl))
    (hd : (x == ("__debug__" : Str)) = false := by decide) (hcd : (x == ("__classdict__" : Str)) = false := by decide) : PE X (.Name x pos) (tP g b Γ i o o.s (.ok (o.x, id))) := PE.imp (pe_var hN hv hd hcd) fun σ H Q q => by
  obtain ⟨F, rf, p⟩ := q
  obtain ⟨ov, h1, h2⟩ := rf.at_ i _ hΓ
  cases ov with
  | none => exact h2.elim
  | some v =>
    obtain ⟨fp, k1, k2, k3⟩ := h2.mOf
    exact ⟨v, h1, p v v fp F H (Grow.refl rf.gr.fh) h1 k1 k2 Zip.top⟩
theorem ixL {K : PySem.W.Frag} {a : Addr} {ws : List V} {u : V} {n : Int} {j : Nat} {Q : VK} (h : H a = some (.lst ws)) (h1 : ixN ws.length n = some j) (h2 : ws[j]? = some u) (q : Q u H) : rIx K (.ref a) (.int n) H Q :=
  .inl ⟨_, _, n, u, rfl, rfl, SqL.of h, by unfold atI; rw [h1]; exact h2, q⟩
theorem p_ixQ {i : Nat} {Q : VK} {q : D × (D → D)} {v v0 w : V} {p : D × (D → D)} {y : D} {fp : List Addr} (ho : Own g F H v0 o fp) (nd : fp.Nodup) (zp : Zip g F H v0 o v (.l s) p.1 p.2) (e : ixU p y = some q) (ey : Enc g F w y)
    (k : ∀ u, (s = .d → Enc g F u q.1) → Zip g F H v0 o u s q.1 q.2 → Q u H) : rIx X.K v w H Q := by
  obtain ⟨ys, n, j, a, ws, u, rfl_, rfl, h3, rfl, h4, h5, h6, h7, h8⟩ := zp.ix e fp ho nd
  cases ey
  exact ixL h4 (by rw [h5]; exact h3) h6 (k u h7 h8)
/-- the part of a part -/
theorem p_ix {i : Nat} (ha : PE X e1 (tP g b Γ i o (.l s) rp)) (hb : PE X e2 (tE g b Γ rb)) (hs : PlainIx e2 := by exact fun _ _ => rfl) :
    PE X (.Subscript e1 e2 pos) (tP g b Γ i o s (rp.bind fun p => rb.bind fun y => ofO (ixU p y))) := PE.imp (pe_ix ix_seq ha hb hs) fun σ H Q q => by
  obtain ⟨F, rf, k⟩ := q
  refine ⟨F, rf, ?_⟩
  cases rp with
  | no => exact k
  | ex c fs => exact k
  | ok p =>
    intro v v0 fp F1 H1 g1 hs0 ho nd zp
    refine ⟨F1, rf.grow g1, ?_⟩
    cases rb with
    | no => exact k
    | ex c fs => exact ex_go g1 k
    | ok y =>
      intro w F2 H2 g2 ey
      have k : match (ofO (ixU p y) : Res (D × (D → D))) with
        | .ok p => ∀ v v0 fp F' H', Grow F H F' H' → σ[i]? = some (some v0) → Own g F' H' v0 o fp → fp.Nodup → Zip g F' H' v0 o v s p.1 p.2 → Q v H'
        | .ex c fs => ∀ cls od F' H', Grow F H F' H' → Rf g b b.cx F' σ H' → ExOk g c fs cls od F' → b.W cls od σ H'
        | .no => False := k
      cases e : ixU p y with
      | none =>
        rw [e] at k
        exact k.elim
      | some q =>
        rw [e] at k
        have ho2 := ho.keep g2.ff (g2.same ho)
        exact p_ixQ (i := i) ho2 nd (zp.mono g2.ff ho (g2.same ho)) e ey fun u _ z => k u v0 fp F2 H2 (g1.trans g2) hs0 ho2 nd z
/-- .. that is a datum -/
theorem e_pix {i : Nat} (ha : PE X e1 (tP g b Γ i o (.l .d) rp)) (hb : PE X e2 (tE g b Γ rb)) (hs : PlainIx e2 := by exact fun _ _ => rfl) :
    PE X (.Subscript e1 e2 pos) (tE g b Γ (rp.bind fun p => rb.bind fun y => (ofO (ixU p y)).bind fun q => .ok q.1)) := PE.imp (pe_ix ix_seq ha hb hs) fun σ H Q q => by
  obtain ⟨F, rf, k⟩ := q
  refine ⟨F, rf, ?_⟩
  cases rp with
  | no => exact k
  | ex c fs => exact k
  | ok p =>
    intro v v0 fp F1 H1 g1 hs0 ho nd zp
    refine ⟨F1, rf.grow g1, ?_⟩
    cases rb with
    | no => exact k
    | ex c fs => exact ex_go g1 k
    | ok y =>
      intro w F2 H2 g2 ey
      have k : match ((ofO (ixU p y)).bind fun q => .ok q.1 : Res D) with
        | .ok d => ∀ v F' H', Grow F H F' H' → Enc g F' v d → Q v H'
        | .ex c fs => ∀ cls od F' H', Grow F H F' H' → Rf g b b.cx F' σ H' → ExOk g c fs cls od F' → b.W cls od σ H'
        | .no => False := k
      cases e : ixU p y with
      | none =>
        rw [e] at k
        exact k.elim
      | some q =>
        rw [e] at k
        have ho2 := ho.keep g2.ff (g2.same ho)
        exact p_ixQ (i := i) ho2 nd (zp.mono g2.ff ho (g2.same ho)) e ey fun u z _ => k u F2 H2 (g1.trans g2) (z rfl)
def PostNM (g : Gm) (b : Bs) (Γ : Ctx) (F : Hp) (t : Sh) (r : Res D) (σ : L2.St) (H : Hp) (Q : VK) : Prop :=
  Rf g b Γ F σ H ∧ match r with
  | .ok d => ∀ v fp F' H', Grow F H F' H' → Own g F' H' v ⟨t, d, none⟩ fp → fp.Nodup → (∀ c ∈ fp, H c = none ∧ F' c = none) → Q v H'
  | .ex c fs => ∀ cls od F' H', Grow F H F' H' → Rf g b b.cx F' σ H' → ExOk g c fs cls od F' → b.W cls od σ H'
  | .no => False
def tNM (g : Gm) (b : Bs) (Γ : Ctx) (t : Sh) (r : Res D) : TE := fun σ H Q => ∃ F, PostNM g b Γ F t r σ H Q
theorem PostNM.grow {r : Res D} {Q : VK} {F' H' : Hp} (p : PostNM g b Γ F t r σ H Q) (gr : Grow F H F' H') : PostNM g b Γ F' t r σ H' Q := by
  obtain ⟨rf, p⟩ := p
  refine ⟨rf.grow gr, ?_⟩
  cases r with
  | ok d => exact fun v fp F2 H2 a ho nd hf => p v fp F2 H2 (gr.trans a) ho nd fun c hc => ⟨gr.hh.free (hf c hc).1, (hf c hc).2⟩
  | ex c fs => exact ex_go gr p
  | no => exact p
theorem nm_d (h : PE X e (tE g b Γ r)) : PE X e (tNM g b Γ .d r) := PE.imp h fun σ H Q q => by
  obtain ⟨F, rf, q⟩ := q
  refine ⟨F, rf, ?_⟩
  cases r with
  | ok d => exact fun v F' H' gr en => q v [] F' H' gr (.d en) .nil (fun c hc => nomatch hc)
  | ex c fs => exact q
  | no => exact q
theorem nm_n (h : PE X e (tN g b Γ rs)) : PE X e (tNM g b Γ (.l .d) (rs.bind fun xs => .ok (.list xs))) := PE.imp h fun σ H Q q => by
  obtain ⟨F, rf, q⟩ := q
  refine ⟨F, rf, ?_⟩
  cases rs with
  | ok ds => exact fun p vs F' H' gr hp hf hh en => q (.ref p) [p] F' H' gr (.l (fun _ z => nomatch z) hh (.ofEnc en)) (by simp) (fun c hc => by
      rw [List.mem_singleton.mp hc]
      exact ⟨hp, hf⟩)
  | ex c fs => exact q
  | no => exact q
/-- an argument list of new things -/
def PostAM (g : Gm) (b : Bs) (Γ : Ctx) (F : Hp) (t : Sh) (r : Res (List D)) (σ : L2.St) (H : Hp) (Q : List V → Hp → Prop) : Prop :=
  Rf g b Γ F σ H ∧ match r with
  | .ok ds => ∀ vs fp F' H', Grow F H F' H' → OwnL g F' H' t vs ds fp → fp.Nodup → (∀ c ∈ fp, H c = none ∧ F' c = none) → Q vs H'
  | .ex c fs => ∀ cls od F' H', Grow F H F' H' → Rf g b b.cx F' σ H' → ExOk g c fs cls od F' → b.W cls od σ H'
  | .no => False
def tAM (g : Gm) (b : Bs) (Γ : Ctx) (t : Sh) (r : Res (List D)) : TA := fun σ H Q => ∃ F, PostAM g b Γ F t r σ H Q
theorem am_nil : PA X [] (tAM g b Γ t (.ok [])) := PA.imp pa_nil fun σ H Q q => by
  obtain ⟨F, rf, p⟩ := q
  exact p [] [] F H (Grow.refl rf.gr.fh) .nil .nil (fun c hc => nomatch hc)
/-- [a, b] of new things -/
theorem nm_lst (ha : PA X es (tAM g b Γ t rs)) : PE X (.List es pos) (tNM g b Γ (.l t) (rs.bind fun xs => (ofO (mkL xs)).bind fun ys => .ok (.list ys))) := PE.imp (pe_lst ha) fun σ H Q q => by
  obtain ⟨F, rf, p⟩ := q
  refine ⟨F, rf, ?_⟩
  cases rs with
  | no => exact p
  | ex c fs => exact p
  | ok ds =>
    intro vs fp F1 H1 g1 ho nd hf
    have p9 : match ((ofO (mkL ds)).bind fun ys => .ok (.list ys) : Res D) with
      | .ok d => ∀ v fp F' H', Grow F H F' H' → Own g F' H' v ⟨.l t, d, none⟩ fp → fp.Nodup → (∀ c ∈ fp, H c = none ∧ F' c = none) → Q v H'
      | .ex c fs => ∀ cls od F' H', Grow F H F' H' → Rf g b b.cx F' σ H' → ExOk g c fs cls od F' → b.W cls od σ H'
      | .no => False := p
    cases e : mkL ds with
    | none =>
      rw [e] at p9
      exact p9.elim
    | some ys =>
      rw [e] at p9
      obtain ⟨rfl, hz⟩ := mkL_some e
      have p8 : ∀ v fp F' H', Grow F H F' H' → Own g F' H' v ⟨.l t, .list ys, none⟩ fp → fp.Nodup → (∀ c ∈ fp, H c = none ∧ F' c = none) → Q v H' := p9
      refine ⟨cap_line (by rw [ho.len]; exact hz), fun q hq => ?_⟩
      have nq : q ∉ fp := fun z => by
        obtain ⟨us, w⟩ := ho.lst q z
        rw [hq] at w
        cases w
      refine p8 (.ref q) (q :: fp) F1 _ (g1.trans ⟨Sub.refl _, ((rf.grow g1).gr.fh).trans (Sub.new hq), Sub.new hq, fun _ _ z => z⟩) (.l (fun _ z => nomatch z) upd_same (ho.keep (Sub.refl _) fun c hc => upd_ne fun z => nq (z ▸ hc))) (List.nodup_cons.mpr ⟨nq, nd⟩) fun c hc => ?_
      rcases List.mem_cons.mp hc with z | z
      · rw [z]
        exact ⟨g1.hh.free hq, (rf.grow g1).gr.fh.free hq⟩
      · exact hf c z
variable {β τ υ : Type} {Γb : β → Ctx} {Γn : τ → Ctx} {rest body : List Stmt} {st : Stmt}
theorem tS_bindM {k : D → Fl β τ} {Ds : Ends} {K : VK} (h : tS g b Γb Γ (ra.bindF k) Γn Ds σ H)
    (go : ∀ d v fp F1 H1, ra = .ok d → Rf g b Γ F1 σ H1 → Own g F1 H1 v ⟨t, d, none⟩ fp → fp.Nodup → (∀ c ∈ fp, F1 c = none ∧ b.H0 c = none) →
      ((∀ (j : Nat) (ys : List D), Γ[j]? = some (some (.l ys)) → ∀ c ∈ fp, σ[j]? ≠ some (some (.ref c))) ∧ ∀ (j : Nat) (y : OD) (w : V) (fq : List Addr), Γ[j]? = some (some (.m y)) → σ[j]? = some (some w) → Own g F1 H1 w y fq → ∀ c ∈ fp, c ∉ fq) → EndS g b Γb Γn (k d) Ds → K v H1) :
    tNM g b Γ t ra σ H K := by
  obtain ⟨F, rf, h⟩ := h
  refine ⟨F, rf, ?_⟩
  cases ra with
  | ok d =>
    intro v fp F' H' gr ho nd hf
    refine go d v fp F' H' rfl (rf.grow gr) ho nd (fun c hc => ⟨(hf c hc).2, rf.gr.hh.free (hf c hc).1⟩) ⟨fun j ys hj c hc hs => ?_, fun j y w fq h1 h2 h3 c hc hq => ?_⟩ h
    · obtain ⟨a, us, k1, k2, k3, k4, k5⟩ := rf.own hj
      rw [hs] at k1
      cases k1
      rw [(hf c hc).1] at k4
      cases k4
    · obtain ⟨fp0, k1, _, _⟩ := rf.ownM h1 h2
      have e := k1.uniq h3 (gr.same k1)
      subst e
      obtain ⟨us, k⟩ := k1.lst c hq
      rw [(hf c hc).1] at k
      cases k
  | ex c fs => exact fun cls od F' H' gr r1 ok => h cls od F' σ H' r1 ok
  | no => exact h
/-- x = a new thing of one's own; rest -/
theorem b_setM {i : Nat} {k : D → Fl β τ} {py : Pos} (he : PE X e (tNM g b Γ t ra)) (hrest : ∀ d, PSs X rest (tS g b Γb (Γ.set i (some (.m ⟨t, d, none⟩))) (k d) Γn)) (hN : X.N.Nodup) (hc : (b.cx[i]?).join = none := by rfl) (hi : X.N[i]? = some x := by rfl)
    (hx : Loc X.env.scope x := by first | exact Or.inl rfl | exact Or.inr rfl) (hs : swapsWith e (some (.Name x py)) pos.line X.env = pure false := by rfl) (hf : X.fn x = true ∨ X.env.scope.names.lookup x = some .local := by first | exact .inl rfl | exact .inr rfl) :
    PSs X (.Assign [.Name x py] e pos :: rest) (tS g b Γb Γ (ra.bindF k) Γn) := by
  refine PSs.impI (pss_cons (ps_set hN hi hx he hs hf) (PSs.ex fun d => hrest d)) fun Ds σ H hl h => ?_
  refine tS_bindM h fun d v fp F1 H1 ed rf ho nd hf hn h2 => ?_
  exact ⟨d, F1, rf.setm ho nd hf hn.1 hn.2 hc (by rw [hl]; exact (List.getElem?_eq_some_iff.mp hi).1), h2⟩
def isL : D → Bool
  | .list _ => true
  | _ => false
/-- what a change of a part comes to -/
def appU (p : D × (D → D)) (d : D) : Option D := match p.1 with
  | .list ys => if ys.length < cap then some (p.2 (.list (ys ++ [d]))) else none
  | _ => none
def setU (p : D × (D → D)) (j d : D) : Option D := match p.1, j with
  | .list ys, .int n => (ixN ys.length n).map fun m => p.2 (.list (ys.set m d))
  | _, _ => none
def insU (p : D × (D → D)) (i d : D) : Option D := match p.1, i with
  | .list ys, .int n => if 0 ≤ n ∧ n < 2 ^ 62 ∧ ys.length < cap then some (p.2 (.list (ys.take n.toNat ++ [d] ++ ys.drop n.toNat))) else none
  | _, _ => none
def setD {β τ : Type} (o : Option D) (k : D → Fl β τ) : Fl β τ := match o with
  | some y => k y
  | none => .no
/-- behind a change of a part -/
theorem Rf.part (r : Rf g b Γ F σ H) {i : Nat} {v0 : V} {fp : List Addr} {up : D → D} {a : Addr} (hΓ : Γ[i]? = some (some (.m o))) (hs : σ[i]? = some (some v0)) (h0 : Own g F H v0 o fp) (nd : fp.Nodup) (hc : (b.cx[i]?).join = none)
    (ha : a ∈ fp) {ws2 : List V} {fr2 : List Addr} {ys2 : List D} (hfr : ∀ c ∈ fr2, (F c = none ∧ b.H0 c = none ∧ Free g Γ F σ H c) ∨ c ∈ fp)
    (hk : ∃ fp2, Own g F (upd H a (.lst ws2)) v0 ⟨o.s, up (.list ys2), o.o⟩ fp2 ∧ fp2.Nodup ∧ ∀ c ∈ fp2, c ∈ fp ∨ c ∈ fr2) : Rf g b (Γ.set i (some (.m ⟨o.s, up (.list ys2), o.o⟩))) F σ (upd H a (.lst ws2)) := by
  obtain ⟨fp2, k1, k2, k3⟩ := hk
  obtain ⟨fp0, q1, q2, q3⟩ := r.ownM hΓ hs
  have ef := q1.uniq h0 fun _ _ => rfl
  subst ef
  refine r.chg1 hΓ hs h0 (fun c o e n => ?_) (Sub.refl _) (fun c o e => ?_) (fun _ _ z _ => z) k1 k2 (fun c hc => ?_) hc
  · have n2 : c ≠ a := fun z => n (by rw [z]; exact ha)
    rw [upd_ne n2]
    exact e
  · have n : c ≠ a := fun z => by
      rw [z, (q3 a ha).1] at e
      cases e
    rw [upd_ne n]
    exact r.gr.fh c o e
  · rcases k3 c hc with z | z
    · exact ⟨(q3 c z).1, (q3 c z).2, .inr z⟩
    · rcases hfr c z with w | w
      · exact ⟨w.1, w.2.1, .inl w.2.2⟩
      · exact ⟨(q3 c w).1, (q3 c w).2, .inr w⟩
/-- xs.append(e), xs a part of what is one's own; rest -/
theorem b_appP {i : Nat} {k : D → Fl β τ} {p2 p3 : Pos} (hp : PE X e1 (tP g b Γ i o (.l t) rp)) (he : PE X e (tNM g b Γ t ra)) (hrest : ∀ z, PSs X rest (tS g b Γb (Γ.set i (some (.m ⟨o.s, z, o.o⟩))) (k z) Γn))
    (hΓ : Γ[i]? = some (some (.m o)) := by rfl) (hc : (b.cx[i]?).join = none := by rfl)
    (hbase : attributeBase e1 "append" X.env (eval e1 X.env) = eval e1 X.env := by first | exact base_plain rfl | rfl)
    (hfew : ((backTo p3 (starEach [e] X.env)).all (fun x => !x.1) && (backToKw p3 (keywordEach [] X.env)).all (fun x => x.1.isSome) && decide ([e].length + ([] : List Keyword).length + (if ([] : List Keyword).isEmpty then 0 else 1) < 30)) = true := by first | exact star_few rfl rfl | rfl)
    (hline : (p2.endLine == p3.line) = true := by rfl) (hs : starEach [e] X.env = (false, eval e X.env) :: starEach [] X.env := by first | exact starEach_plain rfl | rfl) (hplain : (backTo p3 (starEach [] X.env)).any (·.1) = false := by first | exact star_any rfl | rfl)
    (hsw : swapsWith (.Call (.Attribute e1 "append" p2) [e] [] p3) none pos.line X.env = pure false := by rfl) :
    PSs X (.Expr (.Call (.Attribute e1 "append" p2) [e] [] p3) pos :: rest) (tS g b Γb Γ (rp.bindF fun p => if isL p.1 = true then ra.bindF fun d => setD (appU p d) k else .no) Γn) := by
  refine PSs.imp (pss_cons (ps_expr (pe_bm PySem.F.plainAttrs_list PySem.F.slot_list_append PySem.F.type_list_append mt_append hp (pa_cons he pa_nil hs) hbase hfew hline hs hplain) hsw) (PSs.ex fun z => hrest z)) fun Ds σ H h => ?_
  obtain ⟨F, rf, h⟩ := h
  refine ⟨F, rf, ?_⟩
  cases rp with
  | no => exact h
  | ex c fs => exact fun cls od F' H' gr r1 ok => h cls od F' σ H' r1 ok
  | ok p =>
    intro v v0 fp F1 H1 g1 hs0 ho nd zp
    obtain ⟨y, up⟩ := p
    cases y with
    | list ys =>
      have h : EndS g b Γb Γn (ra.bindF fun d => setD (appU (.list ys, up) d) k) Ds := h
      obtain ⟨a, ws, fr, rfl, ha, hap, hk, hfr, ndr, cap1⟩ := zp fp ho nd ys rfl t rfl
      refine ⟨.inl ⟨rfl, ws, SqL.of ha⟩, F1, rf.grow g1, ?_⟩
      cases ra with
      | no => exact h
      | ex c fs => exact fun cls od F' H' gr r1 ok => h cls od F' σ H' r1 ok
      | ok d =>
        intro w fq F2 H2 g2 oe ne fe
        have h : EndS g b Γb Γn (setD (if ys.length < Mi.cap then some (up (.list (ys ++ [d]))) else none) k) Ds := h
        by_cases hz : ys.length < Mi.cap
        · rw [if_pos hz] at h
          have h2 : H2 a = some (.lst ws) := g2.hh _ _ ha
          refine ⟨a, ws, w, rfl, rfl, h2, cap_lt (by rw [hk.len]; exact hz), up (.list (ys ++ [d])), F2, ?_, h⟩
          have rf2 := (rf.grow g1).grow g2
          have sm := g2.same ho
          have nq : ∀ c ∈ fq, c ∉ fp := fun c hc z => by
            obtain ⟨us, q⟩ := ho.lst c z
            rw [(fe c hc).1] at q
            cases q
          have naq : a ∉ fq := fun z => nq a z hap
          have nar : a ∉ fr := (List.nodup_cons.mp ndr).1
          refine rf2.part (up := up) (fr2 := fr ++ fq) (ys2 := ys ++ [d]) hΓ hs0 (ho.keep g2.ff sm) nd hc hap (fun c hc => ?_) (cap1 F2 _ (ws ++ [w]) (ys ++ [d]) (fr ++ fq) g2.ff upd_same ?_ ?_ (fun c hc => ?_) fun c hc n1 n2 => ?_)
          · rcases List.mem_append.mp hc with z | z
            · exact .inr (hfr c z)
            · exact .inl ⟨(fe c z).2, (rf.grow g1).gr.hh.free (fe c z).1, (rf.grow g1).freeG g2 (fe c z).1⟩
          · have k1 := hk.keep g2.ff (H' := upd H2 a (.lst (ws ++ [w]))) fun c hc => by
              rw [upd_ne (fun z => nar (by rw [← z]; exact hc))]
              exact sm c (hfr c hc)
            have k2 : Own g F2 (upd H2 a (.lst (ws ++ [w]))) w ⟨t, d, none⟩ fq := oe.keep (Sub.refl _) fun c hc => upd_ne (fun z => naq (by rw [← z]; exact hc))
            have k3 := k1.app (.cons k2 .nil)
            rwa [List.append_nil] at k3
          · refine List.nodup_cons.mpr ⟨fun z => ?_, ?_⟩
            · rcases List.mem_append.mp z with q | q
              · exact nar q
              · exact naq q
            · rw [List.nodup_append]
              exact ⟨(List.nodup_cons.mp ndr).2, ne, fun c h1 d h2 z => nq d h2 (by rw [← z]; exact hfr c h1)⟩
          · rcases List.mem_append.mp hc with z | z
            · exact .inl z
            · exact .inr (nq c z)
          · rw [upd_ne n1]
            exact sm c hc
        · rw [if_neg hz] at h
          exact h.elim
    | _ => exact (show False from h).elim
/-- xs[j] = e, xs a part of what is one's own; rest -/
theorem b_setP {i : Nat} {k : D → Fl β τ} {p2 : Pos} (he : PE X e (tNM g b Γ t ra)) (hp : PE X e1 (tP g b Γ i o (.l t) rp)) (hj : PE X e2 (tE g b Γ rb)) (hrest : ∀ z, PSs X rest (tS g b Γb (Γ.set i (some (.m ⟨o.s, z, o.o⟩))) (k z) Γn))
    (hΓ : Γ[i]? = some (some (.m o)) := by rfl) (hc : (b.cx[i]?).join = none := by rfl)
    (ha : ∀ v, assign (.Subscript e1 e2 p2) X.env v = (do
      let ov ← holding [v] (eval e1 X.env)
      let iv ← holding [v, ov] (eval e2 X.env)
      standAt p2
      holding [v, ov, iv] (setItem ov iv v)
      release [v, ov, iv] []) := by intro _; rfl)
    (hs : swapsWithSole [.Subscript e1 e2 p2] e pos.line X.env = pure false := by rfl) (hw : swappedStores [.Subscript e1 e2 p2] e X.env = pure none := by rfl)
    (h1 : (assignEach [.Subscript e1 e2 p2] X.env).map (·.2) = [assign (.Subscript e1 e2 p2) X.env] := by rfl) :
    PSs X (.Assign [.Subscript e1 e2 p2] e pos :: rest) (tS g b Γb Γ (ra.bindF fun d => rp.bindF fun p => rb.bindF fun j => setD (setU p j d) k) Γn) := by
  refine PSs.imp (pss_cons (ps_asg he (pg_sub hp hj set_list ha) hs hw h1) (PSs.ex fun z => hrest z)) fun Ds σ H h => ?_
  obtain ⟨F, rf, h⟩ := h
  refine ⟨F, rf, ?_⟩
  cases ra with
  | no => exact h
  | ex c fs => exact fun cls od F' H' gr r1 ok => h cls od F' σ H' r1 ok
  | ok d =>
    intro w fq F1 H1 g1 oe ne fe
    refine ⟨F1, rf.grow g1, ?_⟩
    cases rp with
    | no => exact h
    | ex c fs => exact fun cls od F' H' gr r1 ok => h cls od F' σ H' r1 ok
    | ok p =>
      intro v v0 fp F2 H2 g2 hs0 ho nd zp
      refine ⟨F2, (rf.grow g1).grow g2, ?_⟩
      cases rb with
      | no => exact h
      | ex c fs => exact fun cls od F' H' gr r1 ok => h cls od F' σ H' r1 ok
      | ok j =>
        intro u F3 H3 g3 ej
        obtain ⟨y, up⟩ := p
        have h : EndS g b Γb Γn (setD (setU (y, up) j d) k) Ds := h
        cases y with
        | list ys =>
          cases ej with
          | int n =>
            have h : EndS g b Γb Γn (setD ((ixN ys.length n).map fun m => up (.list (ys.set m d))) k) Ds := h
            cases e3 : ixN ys.length n with
            | none =>
              rw [e3] at h
              exact (show False from h).elim
            | some m =>
              rw [e3] at h
              have h : EndS g b Γb Γn (k (up (.list (ys.set m d)))) Ds := h
              obtain ⟨a, ws, fr, rfl, ha, hap, hk, hfr, ndr, cap1⟩ := zp fp ho nd ys rfl t rfl
              have sm := g3.same ho
              have h3 : H3 a = some (.lst ws) := g3.hh _ _ ha
              have rf1 := rf.grow g1
              have rf3 := (rf1.grow g2).grow g3
              obtain ⟨fp9, q1, q2, q3⟩ := (rf1.grow g2).ownM hΓ hs0
              have ef := q1.uniq ho fun _ _ => rfl
              subst ef
              -- what stood in the slot is alike at the heap ahead
              have nq : ∀ c ∈ fq, c ∉ fp9 := fun c hc z => by
                obtain ⟨fp8, l1, _, _⟩ := rf.ownM hΓ hs0
                have ef := l1.uniq ho (fun c hc => ((g1.trans g2).same l1) c hc)
                subst ef
                obtain ⟨us, q⟩ := l1.lst c z
                rw [(fe c hc).1] at q
                cases q
              have naq : a ∉ fq := fun z => nq a z hap
              have nar : a ∉ fr := (List.nodup_cons.mp ndr).1
              have o3 : Own g F3 H3 w ⟨t, d, none⟩ fq := oe.keep (g2.ff.trans g3.ff) ((g2.trans g3).same oe)
              have k1 := hk.keep g3.ff (H' := upd H3 a (.lst (ws.set m w))) fun c hc => by
                rw [upd_ne (fun z => nar (by rw [← z]; exact hc))]
                exact sm c (hfr c hc)
              have k2 : Own g F3 (upd H3 a (.lst (ws.set m w))) w ⟨t, d, none⟩ fq := o3.keep (Sub.refl _) fun c hc => upd_ne (fun z => naq (by rw [← z]; exact hc))
              have lm : m < ys.length := (ixN_seq e3).2.1
              obtain ⟨x9, hx9⟩ : ∃ x9, ys[m]? = some x9 := ⟨ys[m], List.getElem?_eq_getElem lm⟩
              obtain ⟨u9, f1, f2, f3, a1, a2, a3, a4⟩ := k1.at_ hx9
              have k3 := a4 F3 _ w d fq (Sub.refl _) k2 fun _ _ => rfl
              subst a2
              obtain ⟨m1, m2, m3⟩ := nodup_mid (List.nodup_cons.mp ndr).2
              have ndf : (f1 ++ fq ++ f3).Nodup := nodup_mid' ne m3 fun c hc => ⟨fun z => nq c hc (hfr c (by simp [z])), fun z => nq c hc (hfr c (by simp [z]))⟩
              have hin : ∀ c ∈ f1 ++ fq ++ f3, c ∈ fq ∨ c ∈ f1 ++ f2 ++ f3 := fun c hc => by
                rcases List.mem_append.mp hc with z | z
                · rcases List.mem_append.mp z with z2 | z2
                  · exact .inr (by simp [z2])
                  · exact .inl z2
                · exact .inr (by simp [z])
              refine ⟨a, ws, n, m, rfl, rfl, h3, by rw [hk.len]; exact e3, up (.list (ys.set m d)), F3, ?_, h⟩
              refine rf3.part (up := up) (fr2 := f1 ++ fq ++ f3) (ys2 := ys.set m d) hΓ hs0 (ho.keep g3.ff sm) nd hc hap (fun c hc => ?_) (cap1 F3 _ (ws.set m w) (ys.set m d) (f1 ++ fq ++ f3) g3.ff upd_same k3 (List.nodup_cons.mpr ⟨fun z => ?_, ndf⟩) (fun c hc => ?_) fun c hc n1 n2 => ?_)
              · rcases hin c hc with z | z
                · have f9 : F3 c = none := by
                    obtain ⟨us, q⟩ := oe.lst c z
                    exact (g2.trans g3).new c (by rw [q]; simp) (fe c z).2
                  exact .inl ⟨f9, rf.gr.hh.free (fe c z).1, rf.freeG ((g1.trans g2).trans g3) (fe c z).1⟩
                · exact .inr (hfr c z)
              · rcases hin a z with q | q
                · exact naq q
                · exact nar q
              · rcases hin c hc with z | z
                · exact .inr (nq c z)
                · exact .inl z
              · rw [upd_ne n1]
                exact sm c hc
          | _ => exact (show False from h).elim
        | _ => exact (show False from h).elim
end
end Mi
namespace Mi
open L2 PySem PySem.Spec PyProof.Rows
section
variable {g : Gm} {F F' H H' : Hp}
mutual
theorem Own.frz (s : Sub F F') : ∀ {v : V} {x : OD} {fp : List Addr}, Own g F H v x fp → (∀ c ∈ fp, F' c = H c) → Enc g F' v x.x
  | _, _, _, .d e, _ => e.mono s
  | _, _, _, .z _ e, _ => e.mono s
  | _, _, _, .l _ h k, q => .lst (by rw [q _ List.mem_cons_self]; exact h) (OwnL.frz s k fun c hc => q c (List.mem_cons_of_mem _ hc))
  | _, _, _, .zk _ e, _ => e.mono s
  | _, _, _, .k _ h k, q => .dct (.dk (by rw [q _ List.mem_cons_self]; exact h) (k.mono s))
  | _, _, _, .zs _ e, _ => e.mono s
  | _, _, _, .s _ h k r, q => .dct (.st (by rw [q _ List.mem_cons_self]; exact h) (k.mono s) r)
  | _, _, _, .zo _ e, _ => e.mono s
  | _, _, _, .zf _ e, _ => e.mono s
  | _, _, _, .zp _ e, _ => e.mono s
  | _, _, _, .p _ h _ k, q => .lst (by rw [q _ List.mem_cons_self]; exact h) (OwnL.frz s k fun c hc => q c (List.mem_cons_of_mem _ hc))
  | _, _, _, .o _ hi hk h hd hn k, q => .dct (.obj hi (OwnF.frz s k fun c hc => q c (List.mem_cons_of_mem _ hc)) (.inr ⟨hk, k.ns.2, by rw [q _ List.mem_cons_self]; exact h, s _ _ hd, hn⟩))
theorem OwnL.frz (s : Sub F F') : ∀ {t : Sh} {vs : List V} {xs : List D} {fp : List Addr}, OwnL g F H t vs xs fp → (∀ c ∈ fp, F' c = H c) → EncL g F' vs xs
  | _, _, _, _, .nil, _ => .nil
  | _, _, _, _, .cons h k, q => .cons (Own.frz s h fun c hc => q c (List.mem_append_left _ hc)) (OwnL.frz s k fun c hc => q c (List.mem_append_right _ hc))
theorem OwnF.frz (s : Sub F F') : ∀ {t : Sh} {ns : List Str} {vs : List V} {xs : List (D × D)} {fp : List Addr}, OwnF g F H t ns vs xs fp → (∀ c ∈ fp, F' c = H c) → EncF g F' ns vs xs
  | _, _, _, _, _, .nil, _ => .nil
  | _, _, _, _, _, .cons h k, q => .cons (Own.frz s h fun c hc => q c (List.mem_append_left _ hc)) (OwnF.frz s k fun c hc => q c (List.mem_append_right _ hc))
end
/-- the view, with a part of the heap taken in -/
def tin (F H : Hp) (fp : List Addr) : Hp := fun a => if a ∈ fp then H a else F a
theorem tin_in {fp : List Addr} {a : Addr} (h : a ∈ fp) : tin F H fp a = H a := if_pos h
theorem tin_out {fp : List Addr} {a : Addr} (h : a ∉ fp) : tin F H fp a = F a := if_neg h
theorem tin_sub {fp : List Addr} (h : ∀ c ∈ fp, F c = none) : Sub F (tin F H fp) := fun a o e => by
  rw [tin_out fun z => by rw [h a z] at e; cases e]
  exact e
theorem tin_heap {fp : List Addr} (s : Sub F H) : Sub (tin F H fp) H := fun a o e => by
  by_cases z : a ∈ fp
  · rw [tin_in z] at e
    exact e
  · rw [tin_out z] at e
    exact s a o e
end
section
variable {g : Gm} {b : Bs} {Γ Γ' : Ctx} {F F' H H' : Hp} {σ : L2.St}
/-- a part of what is one's own goes into the view -/
theorem Rf.view (r : Rf g b Γ F σ H) {fp : List Addr} (hf : ∀ c ∈ fp, F c = none ∧ b.H0 c = none ∧ ∃ vs, H c = some (mo vs) ∧ ∀ C d fs, vs = .i C d fs → F d ≠ none) (le : Le b.cx Γ')
    (hΓ : ∀ (j : Nat) (bd : Bnd), Γ'[j]? = some (some bd) → (Γ[j]? = some (some bd) ∧ (∀ (ys : List D), bd = Bnd.l ys → ∀ c ∈ fp, σ[j]? ≠ some (some (V.ref c))) ∧ ∀ (x : OD) (v : V) (fq : List Addr), bd = Bnd.m x → σ[j]? = some (some v) → Own g F H v x fq → ∀ c ∈ fp, c ∉ fq) ∨ ∃ (v : V) (d : D), bd = Bnd.v d ∧ σ[j]? = some (some v) ∧ Enc g (tin F H fp) v d) :
    Rf g b Γ' (tin F H fp) σ H := by
  have s1 : Sub F (tin F H fp) := tin_sub fun c hc => (hf c hc).1
  refine ⟨⟨r.gr.ff.trans s1, tin_heap r.gr.fh, r.gr.hh, fun a h1 h2 => ?_⟩, le, fun j bd e => ?_, fun j k a xs ys h1 h2 h3 h4 => ?_, fun j k x v fq ne h1 h2 h3 c hc => ?_⟩
  · rw [tin_out fun z => h1 (hf a z).2.1]
    exact r.gr.new a h1 h2
  · rcases hΓ j bd e with ⟨e, n1, n2⟩ | ⟨v, d, rfl, h1, h2⟩
    · obtain ⟨ov, k1, k2⟩ := r.at_ j bd e
      refine ⟨ov, k1, ?_⟩
      cases ov with
      | none => exact k2
      | some v =>
        cases bd with
        | v d => exact Enc.mono s1 k2
        | l us =>
          cases v with
          | ref c =>
            obtain ⟨q1, q2, vs, q3, q4⟩ := k2
            exact ⟨by rw [tin_out fun z => n1 us rfl c z k1]; exact q1, q2, vs, q3, EncL.mono s1 q4⟩
          | _ => exact k2
        | o a0 cn kvs =>
          cases v with
          | ref c =>
            obtain ⟨q0, ci, dx, ns, us, q1, q2, q3, q4, q5, q6, q7, q8⟩ := k2
            have nA : c ∉ fp := fun z => by
              obtain ⟨vs, e, w⟩ := (hf c z).2.2
              exact (q8.noM e fun C d fs z1 z2 => w C d fs z1 (z2 ▸ q3)).1 rfl
            have nD : dx ∉ fp := fun z => by
              obtain ⟨vs, e, w⟩ := (hf dx z).2.2
              exact (q8.noM e fun C d fs z1 z2 => w C d fs z1 (z2 ▸ q3)).2 rfl
            exact ⟨q0, ci, dx, ns, us, q1, by rw [tin_out nA]; exact q2, by rw [tin_out nD]; exact q3, q4, q5, q6, EncF.mono s1 q7, q8⟩
          | _ => exact k2
        | x a0 => cases v <;> exact k2
        | m x =>
          obtain ⟨fq, q1, q2, q3⟩ := k2.mOf
          exact BOk.toM ⟨fq, q1.keep s1 fun _ _ => rfl, q2, fun c hc => ⟨by rw [tin_out fun z => n2 x v fq rfl k1 q1 c z hc]; exact (q3 c hc).1, (q3 c hc).2⟩⟩
    · exact ⟨some v, h1, h2⟩
  · rcases hΓ j _ h1 with ⟨e1, _⟩ | ⟨v, d, z, _⟩
    · rcases hΓ k _ h2 with ⟨e2, _⟩ | ⟨v, d, z, _⟩
      · exact r.sep j k a xs ys e1 e2 h3 h4
      · cases z
    · cases z
  · rcases hΓ j _ h1 with ⟨e1, _⟩ | ⟨v, d, z, _⟩
    · obtain ⟨f0, k1, _, _⟩ := r.ownM e1 h2
      have ef := k1.uniq h3 fun _ _ => rfl
      subst ef
      obtain ⟨q1, q2⟩ := r.sepm j k x v _ ne e1 h2 k1 c hc
      refine ⟨fun us z => ?_, fun y w fr z1 z2 z3 => ?_⟩
      · rcases hΓ k _ z with ⟨e2, _⟩ | ⟨v, d, z, _⟩
        · exact q1 us e2
        · cases z
      · rcases hΓ k _ z1 with ⟨e2, _⟩ | ⟨v, d, z, _⟩
        · obtain ⟨f2, l1, _, _⟩ := r.ownM e2 z2
          have ef := l1.uniq z3 fun _ _ => rfl
          subst ef
          exact q2 y w _ e2 z2 l1
        · cases z
    · cases z
theorem Rf.freezeM (r : Rf g b Γ F σ H) {i : Nat} {x : OD} (hx : Γ[i]? = some (some (.m x))) (hc : (b.cx[i]?).join = none) : ∃ F', Rf g b (Γ.set i (some (.v x.x))) F' σ H := by
  obtain ⟨ov, h1, h2⟩ := r.at_ i _ hx
  cases ov with
  | none => exact h2.elim
  | some v =>
    obtain ⟨fp, k1, k2, k3⟩ := h2.mOf
    refine ⟨tin F H fp, r.view (fun c hc => ⟨(k3 c hc).1, (k3 c hc).2, k1.lst2 c hc⟩) (r.le.setr hc) fun j bd e => ?_⟩
    rcases set_get e with ⟨e1, e2, _⟩ | ⟨ne, e2⟩
    · subst e1
      exact .inr ⟨v, x.x, Option.some.inj e2, h1, k1.frz (tin_sub fun c hc => (k3 c hc).1) fun c hc => tin_in hc⟩
    · refine .inl ⟨e2, fun ys hy c hcp => ?_, fun y w fq hy hw ho c hcp => ?_⟩
      · subst hy
        exact (r.sepm i j x v fp (Ne.symm ne) hx h1 k1 c hcp).1 ys e2
      · subst hy
        exact (r.sepm i j x v fp (Ne.symm ne) hx h1 k1 c hcp).2 y w fq e2 hw ho
end
section
variable {X : Cx} {g : Gm} {b : Bs} {Γ : Ctx} {F : Hp} {σ : L2.St} {H : Hp} {e e1 e2 : Expr} {es : List Expr} {pos p : Pos} {r ra rb ro : Res D} {rs : Res (List D)} {x : Str} {o : OD} {t s : Sh} {β τ υ : Type} {Γb : β → Ctx} {Γn : τ → Ctx} {rest body : List Stmt}
theorem b_frzM {i : Nat} {sts : List Stmt} {f : Fl β τ} (hrest : PSs X sts (tS g b Γb (Γ.set i (some (.v o.x))) f Γn)) (hΓ : Γ[i]? = some (some (.m o)) := by rfl) (hc : (b.cx[i]?).join = none := by rfl) : PSs X sts (tS g b Γb Γ f Γn) := PSs.imp hrest fun Ds σ H h => by
  obtain ⟨F, rf, h⟩ := h
  obtain ⟨F', rf'⟩ := rf.freezeM hΓ hc
  exact ⟨F', rf', h⟩
end
end Mi
namespace Mi
open L2 PySem PySem.Spec PyProof.Rows
/-- a heap without some addresses -/
def wo (H : Hp) (fp : List Addr) : Hp := fun a => if a ∈ fp then none else H a
theorem wo_in {H : Hp} {fp : List Addr} {a : Addr} (h : a ∈ fp) : wo H fp a = none := if_pos h
theorem wo_out {H : Hp} {fp : List Addr} {a : Addr} (h : a ∉ fp) : wo H fp a = H a := if_neg h
theorem wo_sub {H : Hp} {fp : List Addr} : Sub (wo H fp) H := fun a o e => by
  by_cases z : a ∈ fp
  · rw [wo_in z] at e
    cases e
  · rw [wo_out z] at e
    exact e
/-- a shape that is handed over to be changed -/
def OwS (s : Sh) : Prop := (∃ t, s = .l t) ∨ ∃ c t, s = .o c t
theorem OwS.nd {s : Sh} (h : OwS s) : s ≠ .d := fun z => by
  subst z
  rcases h with ⟨_, h⟩ | ⟨_, _, h⟩ <;> cases h
/-- the arguments, by their shapes -/
inductive ArgsM (g : Gm) (F H : Hp) : List Sh → List V → List D → List Addr → Prop
  | nil : ArgsM g F H [] [] [] []
  | cons {s : Sh} {ms : List Sh} {v : V} {vs : List V} {x : D} {xs : List D} {fp fq : List Addr} : Own g F H v ⟨s, x, none⟩ fp → ArgsM g F H ms vs xs fq → ArgsM g F H (s :: ms) (v :: vs) (x :: xs) (fp ++ fq)
/-- what they are at the end -/
inductive OwnsF (g : Gm) (F H : Hp) : List Sh → List V → List D → List Addr → Prop
  | nil : OwnsF g F H [] [] [] []
  | d {ms : List Sh} {v : V} {vs : List V} {zs : List D} {fq : List Addr} : OwnsF g F H ms vs zs fq → OwnsF g F H (.d :: ms) (v :: vs) zs fq
  | m {s : Sh} {ms : List Sh} {v : V} {vs : List V} {z : D} {zs : List D} {fp fq : List Addr} : OwS s → Own g F H v ⟨s, z, none⟩ fp → OwnsF g F H ms vs zs fq → OwnsF g F H (s :: ms) (v :: vs) (z :: zs) (fp ++ fq)
theorem ArgsM.len {g : Gm} {F H : Hp} : ∀ {ms : List Sh} {vs : List V} {xs : List D} {fp : List Addr}, ArgsM g F H ms vs xs fp → vs.length = xs.length ∧ ms.length = xs.length
  | _, _, _, _, .nil => ⟨rfl, rfl⟩
  | _, _, _, _, .cons _ k => ⟨congrArg (· + 1) k.len.1, congrArg (· + 1) k.len.2⟩
/-- what a def promises that changes its arguments -/
def spM (g : Gm) (ms : List Sh) (sr : Sh) (m : List D → Res D) : Sp := fun vs H Q E => ∃ F ds fp, Sub F H ∧ ArgsM g F H ms vs ds fp ∧ fp.Nodup ∧ (∀ c ∈ fp, F c = none) ∧ match m ds with
  | .ok p => ∀ v F' H' r zs fr fq, p = .tuple (r :: zs) → Grow F (wo H fp) F' H' → Own g F' H' v ⟨sr, r, none⟩ fr → OwnsF g F' H' ms vs zs fq → (fr ++ fq).Nodup → (∀ c ∈ fr ++ fq, F' c = none ∧ wo H fp c = none) → Q v H'
  | .ex c fs => ∀ cls od F' H', Grow F (wo H fp) F' H' → ExOk g c fs cls od F' → E cls od H'
  | .no => False
structure DefM (P : Program) (w : World) (g : Gm) (mg : Str → Option Value) (base : Heap) (name : Str) (k : Nat) (ms : List Sh) (sr : Sh) (m : List D → Res D) : Prop where
  ex : ∃ f, FnR P w g.K mg base (L2.CX P w) k f (spM g ms sr m) ∧ mg name = some (.ref f) ∧ PySem.W.keepIn g.K (.ref f) = true
structure MethM (P : Program) (w : World) (g : Gm) (mg : Str → Option Value) (base : Heap) (c m : Str) (k : Nat) (ms : List Sh) (sr : Sh) (mm : List D → Res D) : Prop where
  ex : ∃ i f, g.ci c = some i ∧ Meth g.K i.C m f ∧ FnR P w g.K mg base (L2.CX P w) k f (spM g ms sr mm) ∧ (i.k = .dict → ∀ f ∈ i.fs, ¬ f = m) ∧ i.k ≠ .exc
abbrev Us := List (Option (Nat × OD))
inductive ArgO (g : Gm) (F : Hp) (σ : L2.St) : Us → List V → List D → Prop
  | nil : ArgO g F σ [] [] []
  | d {us : Us} {v : V} {vs : List V} {x : D} {xs : List D} : Enc g F v x → ArgO g F σ us vs xs → ArgO g F σ (none :: us) (v :: vs) (x :: xs)
  | m {us : Us} {v : V} {vs : List V} {xs : List D} {i : Nat} {o : OD} : σ[i]? = some (some v) → ArgO g F σ us vs xs → ArgO g F σ (some (i, o) :: us) (v :: vs) (o.x :: xs)
theorem ArgO.mono {g : Gm} {F F' : Hp} {σ : L2.St} (s : Sub F F') : ∀ {us : Us} {vs : List V} {xs : List D}, ArgO g F σ us vs xs → ArgO g F' σ us vs xs
  | _, _, _, .nil => .nil
  | _, _, _, .d e k => .d (e.mono s) (k.mono s)
  | _, _, _, .m e k => .m e (k.mono s)
/-- the slots that are handed over: all different, and the caller's own -/
inductive UsOk (Γ cx : Ctx) : List Nat → Us → Prop
  | nil {l : List Nat} : UsOk Γ cx l []
  | d {l : List Nat} {us : Us} : UsOk Γ cx l us → UsOk Γ cx l (none :: us)
  | m {l : List Nat} {us : Us} {i : Nat} {o : OD} : Γ[i]? = some (some (.m o)) → (cx[i]?).join = none → OwS o.s → i ∉ l → UsOk Γ cx (i :: l) us → UsOk Γ cx l (some (i, o) :: us)
def usMs : Us → List Sh
  | [] => []
  | none :: us => .d :: usMs us
  | some (_, o) :: us => o.s :: usMs us
/-- the context behind the call -/
def setMs : Ctx → Us → List D → Ctx
  | Γ, [], _ => Γ
  | Γ, none :: us, zs => setMs Γ us zs
  | Γ, some (i, o) :: us, z :: zs => setMs (Γ.set i (some (.m ⟨o.s, z, o.o⟩))) us zs
  | Γ, some _ :: _, [] => Γ
theorem UsOk.nin {Γ cx : Ctx} : ∀ {l : List Nat} {us : Us}, UsOk Γ cx l us → ∀ i ∈ l, ∀ o, some (i, o) ∉ us
  | _, _, .nil, i, _, o, h => nomatch h
  | _, _, .d k, i, hi, o, h => by
    rcases List.mem_cons.mp h with z | z
    · cases z
    · exact k.nin i hi o z
  | _, _, .m _ _ _ hn k, i, hi, o, h => by
    rcases List.mem_cons.mp h with z | z
    · cases z
      exact hn hi
    · exact k.nin i (List.mem_cons_of_mem _ hi) o z
theorem UsOk.here {Γ cx : Ctx} : ∀ {l : List Nat} {us : Us}, UsOk Γ cx l us → ∀ i o, some (i, o) ∈ us → Γ[i]? = some (some (.m o)) ∧ (cx[i]?).join = none
  | _, _, .nil, i, o, h => nomatch h
  | _, _, .d k, i, o, h => by
    rcases List.mem_cons.mp h with z | z
    · cases z
    · exact k.here i o z
  | _, _, .m h1 h2 _ _ k, i, o, h => by
    rcases List.mem_cons.mp h with z | z
    · cases z
      exact ⟨h1, h2⟩
    · exact k.here i o z
section
variable {g : Gm} {b : Bs} {Γ Γ' : Ctx} {F F' H H' : Hp} {σ : L2.St}
/-- the arguments, with what they own -/
theorem ArgO.own {cx : Ctx} (r : Rf g b Γ F σ H) : ∀ {l : List Nat} {us : Us} {vs : List V} {xs : List D}, UsOk Γ cx l us → ArgO g F σ us vs xs →
    ∃ fp, ArgsM g F H (usMs us) vs xs fp ∧ fp.Nodup ∧ (∀ c ∈ fp, F c = none ∧ b.H0 c = none) ∧ (∀ c, c ∈ fp ↔ InS g Γ F σ H (fun j => ∃ o, some (j, o) ∈ us) c)
  | _, _, _, _, .nil, .nil => ⟨[], .nil, .nil, fun c hc => (by nomatch hc), fun c => ⟨fun h => (by nomatch h), fun ⟨j, x, v, fp, ⟨o, h⟩, _⟩ => (by nomatch h)⟩⟩
  | _, _, _, _, .d k, .d e a => by
    obtain ⟨fp, h1, h2, h3, h4⟩ := ArgO.own r k a
    refine ⟨fp, .cons (.d e) h1, h2, h3, fun c => (h4 c).trans ⟨fun ⟨j, x, v, f, ⟨o, q⟩, z⟩ => ⟨j, x, v, f, ⟨o, List.mem_cons_of_mem _ q⟩, z⟩, fun ⟨j, x, v, f, ⟨o, q⟩, z⟩ => ⟨j, x, v, f, ⟨o, ?_⟩, z⟩⟩⟩
    rcases List.mem_cons.mp q with w | w
    · cases w
    · exact w
  | _, _, _, _, .m (i := i) (o := o) hΓ hc hs hn k, .m (v := v) hv a => by
    obtain ⟨fq, h1, h2, h3, h4⟩ := ArgO.own r k a
    obtain ⟨fp, q1, q2, q3⟩ := r.ownM hΓ hv
    have o1 : Own g F H v ⟨o.s, o.x, none⟩ fp := by
      cases q1 with
      | d e => exact .d e
      | z q e => exact .z q e
      | l ho ha hk => exact .l (fun _ z => nomatch z) ha hk
      | zk q e => exact .zk q e
      | k ho ha hk => exact .k (fun _ z => nomatch z) ha hk
      | zs q e => exact .zs q e
      | s ho ha hk hq => exact .s (fun _ z => nomatch z) ha hk hq
      | zo q e => exact .zo q e
      | zf q e => exact .zf q e
      | zp q e => exact .zp q e
      | p ho h1 h2 h3 => exact .p (fun _ z => nomatch z) h1 h2 h3
      | o ho h1 h2 h3 h4 h5 h6 => exact .o (fun _ z => nomatch z) h1 h2 h3 h4 h5 h6
    have dj : ∀ c ∈ fp, c ∉ fq := fun c hc hq => by
      obtain ⟨j, x, w, f, ⟨o2, z0⟩, z1, z2, z3, z4⟩ := (h4 c).mp hq
      have ne : i ≠ j := fun e => by
        subst e
        exact k.nin i List.mem_cons_self o2 z0
      exact (r.sepm i j o v fp ne hΓ hv q1 c hc).2 x w f z1 z2 z3 z4
    refine ⟨fp ++ fq, .cons o1 h1, ?_, fun c hc => ?_, fun c => ⟨fun hc => ?_, fun ⟨j, x, w, f, ⟨o2, z0⟩, z1, z2, z3, z4⟩ => ?_⟩⟩
    · rw [List.nodup_append]
      exact ⟨q2, h2, fun a ha b hb e => dj a ha (by rw [e]; exact hb)⟩
    · rcases List.mem_append.mp hc with z | z
      · exact q3 c z
      · exact h3 c z
    · rcases List.mem_append.mp hc with z | z
      · exact ⟨i, o, v, fp, ⟨o, List.mem_cons_self⟩, hΓ, hv, q1, z⟩
      · obtain ⟨j, x, w, f, ⟨o2, z0⟩, zz⟩ := (h4 c).mp z
        exact ⟨j, x, w, f, ⟨o2, List.mem_cons_of_mem _ z0⟩, zz⟩
    · rcases List.mem_cons.mp z0 with w2 | w2
      · cases w2
        rw [hΓ] at z1
        cases z1
        rw [hv] at z2
        cases z2
        have ef := q1.uniq z3 fun _ _ => rfl
        subst ef
        exact List.mem_append_left _ z4
      · exact List.mem_append_right _ ((h4 c).mpr ⟨j, x, w, f, ⟨o2, w2⟩, z1, z2, z3, z4⟩)
/-- what a slot holds behind the call -/
def finU : Us → List D → Nat → Option OD
  | [], _, _ => none
  | none :: us, zs, j => finU us zs j
  | some (i, o) :: us, z :: zs, j => if j = i then some ⟨o.s, z, o.o⟩ else finU us zs j
  | some _ :: _, [], _ => none
theorem finU_in {cx : Ctx} : ∀ {us : Us} {zs : List D} {j : Nat} {x : OD}, finU us zs j = some x → ∃ o, some (j, o) ∈ us ∧ x.s = o.s ∧ x.o = o.o
  | [], _, _, _, h => by cases h
  | none :: us, zs, j, x, h => by
    obtain ⟨o, h1, h2⟩ := finU_in (cx := cx) (us := us) (zs := zs) h
    exact ⟨o, List.mem_cons_of_mem _ h1, h2⟩
  | some (i, o) :: us, z :: zs, j, x, h => by
    have h : (if j = i then some (⟨o.s, z, o.o⟩ : OD) else finU us zs j) = some x := h
    split at h
    · rename_i e
      cases h
      exact ⟨o, by rw [e]; exact List.mem_cons_self, rfl, rfl⟩
    · obtain ⟨o, h1, h2⟩ := finU_in (cx := cx) (us := us) (zs := zs) h
      exact ⟨o, List.mem_cons_of_mem _ h1, h2⟩
  | some _ :: _, [], _, _, h => by cases h
theorem setMs_at : ∀ {us : Us} {l : List Nat} {cx Δ : Ctx} {zs : List D} {j : Nat} {bd : Bnd}, UsOk Γ cx l us → (setMs Δ us zs)[j]? = some (some bd) → (finU us zs j = none ∧ Δ[j]? = some (some bd)) ∨ ∃ x, finU us zs j = some x ∧ bd = .m x
  | [], _, _, _, _, _, _, _, h => .inl ⟨rfl, h⟩
  | none :: us, _, _, _, zs, _, _, .d k, h => setMs_at (us := us) (zs := zs) k h
  | some (i, o) :: us, _, cx, Δ, z :: zs, j, bd, .m h1 h2 hs hn k, h => by
    have h : (setMs (Δ.set i (some (.m ⟨o.s, z, o.o⟩))) us zs)[j]? = some (some bd) := h
    have e0 : finU (some (i, o) :: us) (z :: zs) j = if j = i then some ⟨o.s, z, o.o⟩ else finU us zs j := rfl
    rw [e0]
    have ni : ∀ x, finU us zs i ≠ some x := fun x q => by
      obtain ⟨o2, q2, _⟩ := finU_in (cx := cx) q
      exact k.nin i List.mem_cons_self o2 q2
    rcases setMs_at k h with ⟨q1, q2⟩ | ⟨x, q1, q2⟩
    · rcases set_get q2 with ⟨e, e2, _⟩ | ⟨ne, e2⟩
      · rw [if_pos e]
        exact .inr ⟨_, rfl, Option.some.inj e2⟩
      · rw [if_neg ne]
        exact .inl ⟨q1, e2⟩
    · by_cases e : j = i
      · subst e
        exact absurd q1 (ni x)
      · rw [if_neg e]
        exact .inr ⟨x, q1, q2⟩
  | some _ :: _, _, _, _, [], _, _, _, h => .inl ⟨rfl, h⟩
theorem OwnsF.fin : ∀ {us : Us} {l : List Nat} {cx : Ctx} {vs : List V} {xs : List D} {F0 : Hp} {zs : List D} {fq : List Addr}, UsOk Γ cx l us → ArgO g F0 σ us vs xs → OwnsF g F' H' (usMs us) vs zs fq → fq.Nodup →
    (∀ j o, some (j, o) ∈ us → finU us zs j ≠ none) ∧ ∃ fs : Nat → List Addr, (∀ j x, finU us zs j = some x → ∃ v, σ[j]? = some (some v) ∧ Own g F' H' v ⟨x.s, x.x, none⟩ (fs j) ∧ (fs j).Nodup ∧ ∀ c ∈ fs j, c ∈ fq) ∧
      ∀ j k, j ≠ k → finU us zs j ≠ none → finU us zs k ≠ none → ∀ c ∈ fs j, c ∉ fs k
  | _, _, _, _, _, _, _, _, .nil, .nil, .nil, _ => ⟨fun _ _ h => (by cases h), fun _ => [], fun _ _ h => (by cases h), fun _ _ _ h => absurd rfl h⟩
  | none :: us, _, _, _, _, _, zs, _, .d k, .d _ a, .d w, nd => by
    obtain ⟨h1, fs, h2, h3⟩ := OwnsF.fin (us := us) (zs := zs) k a w nd
    refine ⟨fun j o h => ?_, fs, h2, h3⟩
    rcases List.mem_cons.mp h with z | z
    · cases z
    · exact h1 j o z
  | some (i, o) :: us, _, cx, _, _, _, zs, _, .m hΓ hc hs hn k, .m (v := v) hv a, w, nd => by
    have w : OwnsF g F' H' (o.s :: usMs us) (v :: _) zs _ := w
    generalize hq : o.s = t at w
    cases w with
    | d w2 => exact absurd hq hs.nd
    | @m _ _ _ _ z zs fp fq hs2 ow w2 =>
    have nd3 := List.nodup_append.mp nd
    obtain ⟨h1, fs, h2, h3⟩ := OwnsF.fin (us := us) (zs := zs) k a w2 nd3.2.1
    have e0 : ∀ j, finU (some (i, o) :: us) (z :: zs) j = if j = i then some ⟨o.s, z, o.o⟩ else finU us zs j := fun _ => rfl
    refine ⟨fun j o3 h => ?_, fun j => if j = i then fp else fs j, fun j x h => ?_, fun j k2 ne hj hk => ?_⟩
    · rw [e0]
      split
      · exact fun z => nomatch z
      · rename_i ne
        rcases List.mem_cons.mp h with z | z
        · cases z
          exact absurd rfl ne
        · exact h1 j o3 z
    · rw [e0] at h
      by_cases e : j = i
      · rw [if_pos e] at h
        cases h
        subst e
        have ei : (fun j_1 => if j_1 = j then fp else fs j_1) j = fp := if_pos rfl
        rw [ei]
        refine ⟨v, hv, ?_, ?_, ?_⟩
        · show Own g F' H' v ⟨o.s, z, none⟩ fp
          rw [hq]
          exact ow
        · exact nd3.1
        · exact fun c hc => List.mem_append_left _ hc
      · rw [if_neg e] at h
        obtain ⟨v2, q1, q2, q3, q4⟩ := h2 j x h
        have ei : (fun j_1 => if j_1 = i then fp else fs j_1) j = fs j := if_neg e
        rw [ei]
        exact ⟨v2, q1, q2, q3, fun c hc => List.mem_append_right _ (q4 c hc)⟩
    · rw [e0] at hj hk
      have tl : ∀ j2, finU us zs j2 ≠ none → ∀ c ∈ fs j2, c ∈ fq := fun j2 h c hc => by
        cases q : finU us zs j2 with
        | none => exact absurd q h
        | some x =>
          obtain ⟨_, _, _, _, q4⟩ := h2 j2 x q
          exact q4 c hc
      by_cases ej : j = i
      · have ek : k2 ≠ i := fun z => ne (ej.trans z.symm)
        rw [if_neg ek] at hk
        simp only [if_pos ej, if_neg ek]
        exact fun c hc hq => nd3.2.2 c hc c (tl k2 hk c hq) rfl
      · rw [if_neg ej] at hj
        by_cases ek : k2 = i
        · simp only [if_neg ej, if_pos ek]
          exact fun c hc hq => nd3.2.2 c hq c (tl j hj c hc) rfl
        · rw [if_neg ek] at hk
          simp only [if_neg ej, if_neg ek]
          exact h3 j k2 ne hj hk
/-- with the slot's own address -/
theorem Own.iden {v : V} {o x : OD} {f f0 : List Addr} {F0 H0 : Hp} (h0 : Own g F0 H0 v o f0) (hs : OwS o.s) (e1 : x.s = o.s) (e2 : x.o = o.o) (h : Own g F H v ⟨x.s, x.x, none⟩ f) : Own g F H v x f := by
  obtain ⟨xs, xx, xo⟩ := x
  obtain ⟨os, ox, oo⟩ := o
  have e1 : xs = os := e1
  have e2 : xo = oo := e2
  subst e1 e2
  rcases hs with ⟨s, hs⟩ | ⟨c, s, hs⟩
  · have hs : xs = .l s := hs
    subst hs
    cases h0 with
    | z q e =>
      cases h with
      | z q2 e2 => exact .z q2 e2
      | l ho ha k => exact .l (fun _ z => nomatch z) ha k
    | l ho ha k =>
      cases h with
      | z q2 e2 =>
        have q2 : sc xx = true := q2
        have e2 : Enc g F (.ref _) xx := e2
        cases e2 <;> cases q2
      | l ho2 ha2 k2 => exact .l ho ha2 k2
  · have hs : xs = .o c s := hs
    subst hs
    cases h0 with
    | zo q e =>
      cases h with
      | zo q2 e2 => exact .zo q2 e2
      | o ho h1 h2 h3 h4 h5 h6 => exact .o (fun _ z => nomatch z) h1 h2 h3 h4 h5 h6
    | o ho h1 h2 h3 h4 h5 h6 =>
      cases h with
      | zo q2 e2 =>
        have q2 : sc xx = true := q2
        have e2 : Enc g F (.ref _) xx := e2
        cases e2 <;> cases q2
      | o ho2 h1 h2 h3 h4 h5 h6 => exact .o ho h1 h2 h3 h4 h5 h6
/-- behind a call that changes what is one's own -/
theorem Rf.called (r : Rf g b Γ F σ H) {us : Us} {l : List Nat} {vs : List V} {xs : List D} {fp fq : List Addr} {zs : List D} (ok : UsOk Γ b.cx l us) (a : ArgO g F σ us vs xs) (hfp : ∀ c, c ∈ fp ↔ InS g Γ F σ H (fun j => ∃ o, some (j, o) ∈ us) c)
    (gr : Grow F (wo H fp) F' H') (w : OwnsF g F' H' (usMs us) vs zs fq) (nd : fq.Nodup) (hq : ∀ c ∈ fq, F' c = none ∧ wo H fp c = none) : Rf g b (setMs Γ us zs) F' σ H' := by
  obtain ⟨h1, fs, h2, h3⟩ := w.fin ok a nd
  have hin : ∀ j x, finU us zs j = some x → ∃ o, some (j, o) ∈ us ∧ Γ[j]? = some (some (.m o)) ∧ x.s = o.s ∧ x.o = o.o := fun j x h => by
    obtain ⟨o, q1, q2, q3⟩ := finU_in (cx := b.cx) h
    exact ⟨o, q1, (ok.here j o q1).1, q2, q3⟩
  have sh : ∀ {l : List Nat} {us : Us} {j : Nat} {o : OD}, UsOk Γ b.cx l us → some (j, o) ∈ us → OwS o.s := fun {l us j o} k h => by
    induction k with
    | nil => nomatch h
    | d k ih =>
      rcases List.mem_cons.mp h with z | z
      · cases z
      · exact ih z
    | m _ _ hs _ k ih =>
      rcases List.mem_cons.mp h with z | z
      · cases z
        exact hs
      · exact ih z
  have s0 : ∀ c ∈ fp, b.H0 c = none := fun c hc => by
    obtain ⟨j, x, v, f, _, z1, z2, z3, z4⟩ := (hfp c).mp hc
    obtain ⟨f0, k1, _, k3⟩ := r.ownM z1 z2
    have ef := k1.uniq z3 fun _ _ => rfl
    subst ef
    exact (k3 c z4).2
  have own : ∀ j x, finU us zs j = some x → ∀ v, σ[j]? = some (some v) → Own g F' H' v x (fs j) := fun j x h v hv => by
    obtain ⟨o, q1, q2, q3, q4⟩ := hin j x h
    obtain ⟨v2, k1, k2, k3, k4⟩ := h2 j x h
    rw [hv] at k1
    cases k1
    obtain ⟨f0, l1, _, _⟩ := r.ownM q2 hv
    exact l1.iden (sh ok q1) q3 q4 k2
  refine r.chg (fun j => ∃ o, some (j, o) ∈ us) (fun j => (finU us zs j).getD ⟨.d, .none, none⟩) (fun j ⟨o, hj⟩ => ?_) (fun c o e n => ?_) gr.ff gr.fh (fun a e1 e2 n => ?_) (fun j bd e => ?_) (fun j ⟨o, hj⟩ _ v hv => ?_) (fun j k v w f f2 ⟨o, hj⟩ ⟨o2, hk⟩ _ _ ne hv hw w1 w2 => ?_) ?_
  · obtain ⟨x, q⟩ : ∃ x, finU us zs j = some x := Option.ne_none_iff_exists'.mp (h1 j o hj)
    obtain ⟨v, k1, _⟩ := h2 j x q
    exact ⟨o, v, (ok.here j o hj).1, k1⟩
  · refine gr.hh c o ?_
    rw [wo_out fun z => n ((hfp c).mp z)]
    exact e
  · refine gr.new a ?_ e2
    rw [wo_out fun z => n ((hfp a).mp z)]
    exact e1
  · rcases setMs_at ok e with ⟨q1, q2⟩ | ⟨x, q1, q2⟩
    · exact .inl ⟨fun ⟨o, z⟩ => h1 j o z q1, q2⟩
    · obtain ⟨o, z, _⟩ := hin j x q1
      exact .inr ⟨⟨o, z⟩, by rw [q1]; exact q2⟩
  · obtain ⟨x, q⟩ : ∃ x, finU us zs j = some x := Option.ne_none_iff_exists'.mp (h1 j o hj)
    obtain ⟨v2, k1, k2, k3, k4⟩ := h2 j x q
    refine ⟨fs j, ?_, k3, fun c hc => ?_⟩
    · rw [q]
      exact own j x q v hv
    · have z := hq c (k4 c hc)
      by_cases hcp : c ∈ fp
      · exact ⟨z.1, s0 c hcp, .inr ((hfp c).mp hcp)⟩
      · have z2 := z.2
        rw [wo_out hcp] at z2
        exact ⟨z.1, r.gr.hh.free z2, .inl (r.freeG (Grow.refl r.gr.fh) z2)⟩
  · obtain ⟨x, q⟩ : ∃ x, finU us zs j = some x := Option.ne_none_iff_exists'.mp (h1 j o hj)
    obtain ⟨x2, q2⟩ : ∃ x, finU us zs k = some x := Option.ne_none_iff_exists'.mp (h1 k o2 hk)
    rw [q] at w1
    rw [q2] at w2
    have e1 := (own j x q v hv).uniq w1 fun _ _ => rfl
    have e2 := (own k x2 q2 _ hw).uniq w2 fun _ _ => rfl
    subst e1 e2
    exact h3 j k ne (by rw [q]; simp) (by rw [q2]; simp)
  · have go : ∀ {us : Us} {l : List Nat} {Δ : Ctx} {zs : List D}, UsOk Γ b.cx l us → Le b.cx Δ → Le b.cx (setMs Δ us zs) := fun {us l Δ zs} k => by
      induction k generalizing Δ zs with
      | nil => exact fun h => h
      | d k ih => exact ih
      | m h1 h2 _ _ k ih =>
        intro h
        cases zs with
        | nil => exact h
        | cons z zs => exact ih (h.setr h2)
    exact go ok r.le
/-- .. that raises -/
theorem Rf.raised (r : Rf g b Γ F σ H) {us : Us} {l : List Nat} {vs : List V} {xs : List D} {fp : List Addr} (ok : UsOk Γ b.cx l us) (hfp : ∀ c, c ∈ fp ↔ InS g Γ F σ H (fun j => ∃ o, some (j, o) ∈ us) c) (a : ArgO g F σ us vs xs) (gr : Grow F (wo H fp) F' H') : Rf g b b.cx F' σ H' := by
  have ns : ∀ j bd, b.cx[j]? = some (some bd) → ¬ ∃ o, some (j, o) ∈ us := fun j bd e ⟨o, h⟩ => by
    have z := (ok.here j o h).2
    rw [e] at z
    cases z
  refine r.chg (fun j => ∃ o, some (j, o) ∈ us) (fun j => ⟨.d, .none, none⟩) (fun j ⟨o, hj⟩ => ?_) (fun c o e n => ?_) gr.ff gr.fh (fun a e1 e2 n => ?_) (fun j bd e => .inl ⟨ns j bd e, r.le.at_ e⟩) (fun j hj e => absurd hj (ns j _ e)) (fun j k v w f f2 hj _ e => absurd hj (ns j _ e)) (Le.refl _)
  · have h1 := (ok.here j o hj).1
    obtain ⟨ov, q1, q2⟩ := r.at_ j _ h1
    cases ov with
    | none => exact q2.elim
    | some v => exact ⟨o, v, h1, q1⟩
  · refine gr.hh c o ?_
    rw [wo_out fun z => n ((hfp c).mp z)]
    exact e
  · refine gr.new a ?_ e2
    rw [wo_out fun z => n ((hfp a).mp z)]
    exact e1
end
end Mi
namespace Mi
open L2 PySem PySem.Spec PyProof.Rows
section
variable {X : Cx} {g : Gm} {b : Bs} {Γ : Ctx} {F : Hp} {σ : L2.St} {H : Hp} {e e1 e2 : Expr} {es : List Expr} {pos p : Pos} {r ra rb ro : Res D} {rs : Res (List D)} {x : Str} {o : OD} {t s : Sh} {us : Us}
def PostO (g : Gm) (b : Bs) (Γ : Ctx) (F : Hp) (us : Us) (r : Res (List D)) (σ : L2.St) (H : Hp) (Q : List V → Hp → Prop) : Prop :=
  Rf g b Γ F σ H ∧ match r with
  | .ok ds => ∀ vs F' H', Grow F H F' H' → ArgO g F' σ us vs ds → Q vs H'
  | .ex c fs => ∀ cls od F' H', Grow F H F' H' → Rf g b b.cx F' σ H' → ExOk g c fs cls od F' → b.W cls od σ H'
  | .no => False
def tAO (g : Gm) (b : Bs) (Γ : Ctx) (us : Us) (r : Res (List D)) : TA := fun σ H Q => ∃ F, PostO g b Γ F us r σ H Q
theorem ao_nil : PA X [] (tAO g b Γ [] (.ok [])) := PA.imp pa_nil fun σ H Q q => by
  obtain ⟨F, rf, p⟩ := q
  exact p [] F H (Grow.refl rf.gr.fh) .nil
theorem ao_d (ha : PE X e (tE g b Γ ra)) (hr : PA X es (tAO g b Γ us rs)) (hs : starEach (e :: es) X.env = (false, eval e X.env) :: starEach es X.env := by first | exact starEach_plain rfl | rfl) :
    PA X (e :: es) (tAO g b Γ (none :: us) (ra.bind fun x => rs.bind fun xs => .ok (x :: xs))) := PA.imp (pa_cons ha hr hs) fun σ H Q q => by
  obtain ⟨F, rf, p⟩ := q
  refine ⟨F, rf, ?_⟩
  cases ra with
  | no => exact p
  | ex c fs => exact p
  | ok x =>
    intro v F1 H1 g1 e1
    refine ⟨F1, rf.grow g1, ?_⟩
    cases rs with
    | no => exact p
    | ex c fs => exact ex_go g1 p
    | ok xs => exact fun vs F2 H2 g2 a2 => p (v :: vs) F2 H2 (g1.trans g2) (.d (e1.mono g2.ff) a2)
theorem ao_m {i : Nat} (hr : PA X es (tAO g b Γ us rs)) (hΓ : Γ[i]? = some (some (.m o)) := by rfl) (hN : X.N[i]? = some x := by rfl) (hv : Vis X.env.scope x := by first | exact Or.inl rfl | exact Or.inr (Or.inl rfl) | exact Or.inr (Or.inr rfl))
    (hd : (x == ("__debug__" : Str)) = false := by decide) (hcd : (x == ("__classdict__" : Str)) = false := by decide) (hs : starEach (.Name x p :: es) X.env = (false, eval (.Name x p) X.env) :: starEach es X.env := by first | exact starEach_plain rfl | rfl) :
    PA X (.Name x p :: es) (tAO g b Γ (some (i, o) :: us) (rs.bind fun xs => .ok (o.x :: xs))) := PA.imp (pa_cons (pe_var hN hv hd hcd) hr hs) fun σ H Q q => by
  obtain ⟨F, rf, p⟩ := q
  obtain ⟨ov, h1, h2⟩ := rf.at_ i _ hΓ
  cases ov with
  | none => exact h2.elim
  | some v =>
    refine ⟨v, h1, F, rf, ?_⟩
    cases rs with
    | no => exact p
    | ex c fs => exact p
    | ok xs => exact fun vs F2 H2 g2 a2 => p (v :: vs) F2 H2 g2 (.m h1 a2)
def PostC (g : Gm) (b : Bs) (Γ : Ctx) (F : Hp) (us : Us) (r : Res (D × List D)) (σ : L2.St) (H : Hp) (Q : VK) : Prop :=
  Rf g b Γ F σ H ∧ match r with
  | .ok (d, zs) => ∀ v F' H', Sub F F' → Rf g b (setMs Γ us zs) F' σ H' → Enc g F' v d → Q v H'
  | .ex c fs => ∀ cls od F' H', Rf g b b.cx F' σ H' → ExOk g c fs cls od F' → b.W cls od σ H'
  | .no => False
def tC (g : Gm) (b : Bs) (Γ : Ctx) (us : Us) (r : Res (D × List D)) : TE := fun σ H Q => ∃ F, PostC g b Γ F us r σ H Q
def outM : D → Res (D × List D)
  | .tuple (d :: zs) => .ok (d, zs)
  | _ => .no
/-- what the callee asks -/
theorem spM_of {mm : List D → Res D} {Q : VK} {ms : List Sh} {vs us' : List V} {ds : List D} {l : List Nat} {zs0 : List D} (r : Rf g b Γ F σ H) (ok : UsOk Γ b.cx l us) (a : ArgO g F σ us vs ds) (pre : ArgsM g F H ms us' zs0 [])
    (hpre : ∀ F' H' zs fq, OwnsF g F' H' (ms ++ usMs us) (us' ++ vs) zs fq → OwnsF g F' H' (usMs us) vs zs fq)
    (p : match (mm (zs0 ++ ds)).bind outM with
      | .ok (d, zs) => ∀ v F' H', Sub F F' → Rf g b (setMs Γ us zs) F' σ H' → Enc g F' v d → Q v H'
      | .ex c fs => ∀ cls od F' H', Rf g b b.cx F' σ H' → ExOk g c fs cls od F' → b.W cls od σ H'
      | .no => False) : spM g (ms ++ usMs us) .d mm (us' ++ vs) H Q (WE b.W σ) := by
  obtain ⟨fp, h1, h2, h3, h4⟩ := a.own r ok
  have cat : ∀ {ms : List Sh} {us' : List V} {zs0 : List D} {f : List Addr}, ArgsM g F H ms us' zs0 f → f = [] → ArgsM g F H (ms ++ usMs us) (us' ++ vs) (zs0 ++ ds) fp := fun {ms us' zs0 f} k => by
    induction k with
    | nil => exact fun _ => h1
    | cons o k ih =>
      intro e
      obtain ⟨e1, e2⟩ := List.append_eq_nil_iff.mp e
      subst e1 e2
      exact ArgsM.cons (fp := []) o (ih rfl)
  refine ⟨F, zs0 ++ ds, fp, r.gr.fh, cat pre rfl, h2, fun c hc => (h3 c hc).1, ?_⟩
  cases q : mm (zs0 ++ ds) with
  | no =>
    rw [q] at p
    exact p
  | ex c fs =>
    rw [q] at p
    exact fun cls od F' H' gr ok2 => p cls od F' H' (r.raised ok h4 a gr) ok2
  | ok d =>
    rw [q] at p
    intro v F' H' r1 zs fr fq e gr ow wf nd hf
    subst e
    have p : ∀ v F' H', Sub F F' → Rf g b (setMs Γ us zs) F' σ H' → Enc g F' v r1 → Q v H' := p
    cases ow with
    | d en => exact p v F' H' gr.ff (r.called ok a h4 gr (hpre _ _ _ _ wf) nd hf) en
theorem tAO_bind {ra : Res (List D)} {f : List D → Res (D × List D)} {Q : VK} {K : List V → Hp → Prop} (h : PostC g b Γ F us (ra.bind f) σ H Q)
    (k : ∀ ds vs F' H', ra = .ok ds → Sub F F' → Grow F H F' H' → ArgO g F' σ us vs ds → PostC g b Γ F' us (f ds) σ H' Q → K vs H') : tAO g b Γ us ra σ H K := by
  refine ⟨F, h.1, ?_⟩
  cases ra with
  | no => exact h.2
  | ex c fs => exact fun cls od F' H' _ r ok => h.2 cls od F' H' r ok
  | ok ds =>
    intro vs F' H' gr a
    refine k ds vs F' H' rfl gr.ff gr a ⟨h.1.grow gr, ?_⟩
    have h2 : match f ds with
      | .ok (d, zs) => ∀ v F' H', Sub F F' → Rf g b (setMs Γ us zs) F' σ H' → Enc g F' v d → Q v H'
      | .ex c fs => ∀ cls od F' H', Rf g b b.cx F' σ H' → ExOk g c fs cls od F' → b.W cls od σ H'
      | .no => False := h.2
    cases q : f ds with
    | no =>
      rw [q] at h2
      exact h2
    | ex c fs =>
      rw [q] at h2
      exact h2
    | ok p =>
      rw [q] at h2
      exact fun v F2 H2 s => h2 v F2 H2 (gr.ff.trans s)
/-- f(e, ..) -/
theorem e_callC {k j : Nat} {ms : List Sh} {m : List D → Res D} (T : DefM X.prog X.w g X.mg X.base x k ms .d m) (hr : Room j X.A) (tk : Takes X b.W) (ha : PA X (e :: es) (tAO g b Γ us rs)) (hms : ms = usMs us := by rfl) (ok : UsOk Γ b.cx [] us := by repeat (first | exact UsOk.nil | apply UsOk.d | refine UsOk.m rfl rfl (by first | exact .inl ⟨_, rfl⟩ | exact .inr ⟨_, _, rfl⟩) (by decide) ?_)) (hj : k ≤ j := by decide) (hg : Gl X x := by rfl) (hdb : (x == ("__debug__" : Str)) = false := by decide)
    (he : starEach (e :: es) X.env = (false, eval e X.env) :: starEach es X.env := by first | exact starEach_plain rfl | rfl) (hpl : (backTo pos (starEach es X.env)).any (·.1) = false := by first | exact star_any rfl | rfl) (hK : X.K = g.K := by rfl) :
    PE X (.Call (.Name x p) (e :: es) [] pos) (tC g b Γ us (rs.bind fun ds => (m ds).bind outM)) := by
  obtain ⟨f, Fn, gm, kp⟩ := T.ex
  subst hms
  rw [← hK] at Fn kp
  refine ⟨fun pins s σ H Q I h => ?_⟩
  obtain ⟨F, h⟩ := h
  refine wpAny_Call_Name_kw (ld_glob I hg gm ?_ hdb)
  refine PySem.W.callWith_K (h₀ := X.base) I.ok.mod.kin kp (thn (ha.run pos pins s σ H (fun vs H1 => ∃ ds F1, PostC g b Γ F1 us ((m ds).bind outM) σ H1 Q ∧ ArgO g F1 σ us vs ds) I (tAO_bind h fun ds vs F1 H1 _ _ g1 a p1 => ⟨ds, F1, p1, a⟩)) fun us1 s1 ⟨vs, H1, I1, rv, ds, F1, p1, a⟩ => ⟨I1.kIn, ?_⟩) he hpl
  exact run_fnRS (E := WE b.W) Fn (hr.mono hj) (passAt tk σ) I1 rv (spM_of (ms := []) (us' := []) (zs0 := []) p1.1 ok a .nil (fun _ _ _ _ h => h) p1.2)
variable {β τ υ : Type} {Γb : β → Ctx} {Γn : τ → Ctx} {rest body : List Stmt} {st : Stmt} {rc : Res (D × List D)}
theorem tS_bindC {k : D × List D → Fl β τ} {Ds : Ends} {K : VK} (h : tS g b Γb Γ (rc.bindF k) Γn Ds σ H)
    (go : ∀ d zs v F1 H1, rc = .ok (d, zs) → Rf g b (setMs Γ us zs) F1 σ H1 → Enc g F1 v d → EndS g b Γb Γn (k (d, zs)) Ds → K v H1) : tC g b Γ us rc σ H K := by
  obtain ⟨F, rf, h⟩ := h
  refine ⟨F, rf, ?_⟩
  cases rc with
  | no => exact h
  | ex c fs => exact fun cls od F' H' r1 ok => h cls od F' σ H' r1 ok
  | ok p => exact fun v F' H' _ r en => go p.1 p.2 v F' H' rfl r en h
/-- such a call alone; rest -/
theorem b_exprC {k : D × List D → Fl β τ} (he : PE X e (tC g b Γ us rc)) (hrest : ∀ d zs, PSs X rest (tS g b Γb (setMs Γ us zs) (k (d, zs)) Γn)) (hs : swapsWith e none pos.line X.env = pure false := by rfl) :
    PSs X (.Expr e pos :: rest) (tS g b Γb Γ (rc.bindF k) Γn) := PSs.imp (pss_cons (ps_expr he hs) (PSs.ex fun d => PSs.ex fun zs => hrest d zs)) fun Ds σ H h => by
  refine tS_bindC h fun d zs v F1 H1 ed rf en h2 => ?_
  exact ⟨d, zs, F1, rf, h2⟩
/-- the new contents by name -/
def nz1 {α : Type} (no : α) (zs : List D) (f : D → α) : α := match zs with
  | [a] => f a
  | _ => no
theorem b_nz1 {sts : List Stmt} {Γ : List D → Ctx} {zs : List D} {f : D → Fl β τ} (h : ∀ z, PSs X sts (tS g b Γb (Γ [z]) (f z) Γn)) : PSs X sts (tS g b Γb (Γ zs) (nz1 .no zs f) Γn) := by
  rcases zs with _ | ⟨a, _ | ⟨c, zs⟩⟩
  · exact b_no
  · exact h a
  · exact b_no
/-- what is wanted of a returned value -/
def rkM (g : Gm) (H0 : Hp) (ms : List Sh) (vs : List V) (sr : Sh) : Hp → Hp → V → D → Prop := fun F' H' v p => ∃ r zs fr fq, p = .tuple (r :: zs) ∧ Own g F' H' v ⟨sr, r, none⟩ fr ∧ OwnsF g F' H' ms vs zs fq ∧ (fr ++ fq).Nodup ∧ ∀ c ∈ fr ++ fq, F' c = none ∧ H0 c = none
/-- what the arguments are in the end -/
inductive FinC (Γ : Ctx) : List Sh → List V → Nat → List D → Prop
  | nil {i : Nat} : FinC Γ [] [] i []
  | d {ms : List Sh} {v : V} {vs : List V} {i : Nat} {zs : List D} : FinC Γ ms vs (i + 1) zs → FinC Γ (.d :: ms) (v :: vs) i zs
  | m {s : Sh} {ms : List Sh} {a : Addr} {vs : List V} {i : Nat} {z : D} {zs : List D} : OwS s → Γ[i]? = some (some (.m ⟨s, z, some a⟩)) → FinC Γ ms vs (i + 1) zs → FinC Γ (s :: ms) (.ref a :: vs) i (z :: zs)
theorem Own.noO {F H : Hp} {v : V} {s : Sh} {z : D} {oo : Option Addr} {fp : List Addr} (h : Own g F H v ⟨s, z, oo⟩ fp) : Own g F H v ⟨s, z, none⟩ fp := by
  cases h with
  | d e => exact .d e
  | z q e => exact .z q e
  | l ho ha hk => exact .l (fun _ z => nomatch z) ha hk
  | zk q e => exact .zk q e
  | k ho ha hk => exact .k (fun _ z => nomatch z) ha hk
  | zs q e => exact .zs q e
  | s ho ha hk hq => exact .s (fun _ z => nomatch z) ha hk hq
  | zo q e => exact .zo q e
  | zf q e => exact .zf q e
  | zp q e => exact .zp q e
  | p ho h1 h2 h3 => exact .p (fun _ z => nomatch z) h1 h2 h3
  | o ho h1 h2 h3 h4 h5 h6 => exact .o (fun _ z => nomatch z) h1 h2 h3 h4 h5 h6
theorem Own.at_ {F H : Hp} {v : V} {s : Sh} {z : D} {a : Addr} {fp : List Addr} (hs : OwS s) (h : Own g F H v ⟨s, z, some a⟩ fp) : v = .ref a := by
  rcases hs with ⟨t, rfl⟩ | ⟨c, t, rfl⟩
  · cases h with
    | l ho ha hk => rw [ho a rfl]
  · cases h with
    | o ho => rw [ho a rfl]
theorem FinC.owns (r : Rf g b Γ F σ H) : ∀ {ms : List Sh} {vs : List V} {i : Nat} {zs : List D}, FinC Γ ms vs i zs → ∃ fq, OwnsF g F H ms vs zs fq ∧ fq.Nodup ∧ (∀ c ∈ fq, F c = none ∧ b.H0 c = none) ∧ ∀ c ∈ fq, ∃ j x v fp, i ≤ j ∧ Γ[j]? = some (some (.m x)) ∧ σ[j]? = some (some v) ∧ Own g F H v x fp ∧ c ∈ fp
  | _, _, _, _, .nil => ⟨[], .nil, .nil, fun c hc => (by cases hc), fun c hc => (by cases hc)⟩
  | _, _, _, _, .d k => by
    obtain ⟨fq, h1, h2, h3, h4⟩ := k.owns r
    exact ⟨fq, .d h1, h2, h3, fun c hc => let ⟨j, x, v, fp, q, z⟩ := h4 c hc; ⟨j, x, v, fp, Nat.le_of_succ_le q, z⟩⟩
  | _, _, i, _, .m (z := z) hs hΓ k => by
    obtain ⟨fq, h1, h2, h3, h4⟩ := k.owns r
    obtain ⟨ov, q1, q2⟩ := r.at_ i _ hΓ
    cases ov with
    | none => exact q2.elim
    | some v =>
      obtain ⟨fp, o1, o2, o3⟩ := q2.mOf
      have ev := o1.at_ hs
      subst ev
      refine ⟨fp ++ fq, .m hs o1.noO h1, ?_, fun c hc => ?_, fun c hc => ?_⟩
      · rw [List.nodup_append]
        refine ⟨o2, h2, fun c hc d hd e => ?_⟩
        subst e
        obtain ⟨j, x, v, f, q, z1, z2, z3, z4⟩ := h4 c hd
        exact (r.sepm i j _ _ fp (by omega) hΓ q1 o1 c hc).2 x v f z1 z2 z3 z4
      · rcases List.mem_append.mp hc with z | z
        · exact o3 c z
        · exact h3 c z
      · rcases List.mem_append.mp hc with z | z
        · exact ⟨i, _, _, fp, Nat.le_refl _, hΓ, q1, o1, z⟩
        · obtain ⟨j, x, v, f, q, z⟩ := h4 c z
          exact ⟨j, x, v, f, Nat.le_of_succ_le q, z⟩
/-- return e -/
theorem b_retM {ms : List Sh} {vs : List V} {sr : Sh} {zs : List D} (he : PE X e (tNM g b Γ sr ra)) (hz : FinC Γ ms vs 0 zs := by repeat (first | exact FinC.nil | apply FinC.d | refine FinC.m (by first | exact .inl ⟨_, rfl⟩ | exact .inr ⟨_, _, rfl⟩) rfl ?_)) (hrk : b.rk = rkM g b.H0 ms vs sr := by rfl) :
    PSs X (.Return (some e) pos :: rest) (tS g b Γb Γ (ra.bindF fun d => (.rt (.tuple (d :: zs)) : Fl β τ)) Γn) := PSs.imp (pss_cons (ps_ret he) pss_never) fun Ds σ H h => by
  refine tS_bindM h fun d v fp F1 H1 ed rf ow nd hf hn k => ?_
  obtain ⟨fq, h1, h2, h3, h4⟩ := hz.owns rf
  refine k v F1 H1 rf.gr ?_
  rw [hrk]
  refine ⟨d, zs, fp, fq, rfl, ow, h1, ?_, fun c hc => ?_⟩
  · rw [List.nodup_append]
    refine ⟨nd, h2, fun c hc d hd e => ?_⟩
    subst e
    obtain ⟨j, x, v, f, q, z1, z2, z3, z4⟩ := h4 c hd
    exact hn.2 j x v f z1 z2 z3 c hc z4
  · rcases List.mem_append.mp hc with z | z
    · exact hf c z
    · exact h3 c z
end
/-- the contexts of such a def -/
def ctxM : List Sh → List V → List D → Ctx
  | [], _, _ => []
  | .d :: ms, _ :: vs, x :: xs => some (.v x) :: ctxM ms vs xs
  | .l s :: ms, .ref a :: vs, x :: xs => some (.m ⟨.l s, x, some a⟩) :: ctxM ms vs xs
  | .o c s :: ms, .ref a :: vs, x :: xs => some (.m ⟨.o c s, x, some a⟩) :: ctxM ms vs xs
  | _ :: ms, _ :: vs, _ :: xs => none :: ctxM ms vs xs
  | _ :: _, _, _ => []
/-- the data are of the shapes -/
def fitsM : List Sh → List D → Bool
  | [], [] => true
  | .d :: ms, _ :: xs => fitsM ms xs
  | .l _ :: ms, .list _ :: xs => fitsM ms xs
  | .o _ _ :: ms, .dict _ :: xs => fitsM ms xs
  | _, _ => false
abbrev bsM (g : Gm) (F H0 : Hp) (E : XK) (ms : List Sh) (vs : List V) (sr : Sh) : Bs := ⟨F, H0, [], fun cls od _ H' => E cls od H', rkM g H0 ms vs sr⟩
section
variable {P : Program} {w : World} {g : Gm} {mg : Str → Option Value} {base : Heap} {name qual : Str} {params : Arguments} {body : List Stmt} {scope : Scope} {dvs : List V} {kws : List (Str × V)} {f : Addr} {fd : FuncData} {N ps : List Str} {k : Nat}
theorem ctxM_at {F H : Hp} : ∀ {ms : List Sh} {vs : List V} {ds : List D} {fp : List Addr}, ArgsM g F H ms vs ds fp → fitsM ms ds = true → fp.Nodup →
    ∃ fs : Nat → List Addr, (∀ (j : Nat) (bd : Bnd), (ctxM ms vs ds)[j]? = some (some bd) → ∃ v, vs[j]? = some v ∧ ((∃ d, bd = .v d ∧ Enc g F v d) ∨ ∃ x, bd = .m x ∧ Own g F H v x (fs j) ∧ (fs j).Nodup)) ∧ (∀ j c, c ∈ fs j → c ∈ fp) ∧ ∀ j k, j ≠ k → ∀ c ∈ fs j, c ∉ fs k
  | _, _, _, _, .nil, _, _ => ⟨fun _ => [], fun j bd e => by simp [ctxM] at e, fun _ _ h => (by cases h), fun _ _ _ c hc => (by cases hc)⟩
  | _, _, _, _, .cons (s := s) (ms := ms) (v := v) (vs := vs) (x := x) (xs := xs) (fp := fp) (fq := fq) o k, fit, nd => by
    have nd3 := List.nodup_append.mp nd
    have fit2 : fitsM ms xs = true ∧ ∃ bd, ctxM (s :: ms) (v :: vs) (x :: xs) = some bd :: ctxM ms vs xs ∧ ((∃ d, bd = .v d ∧ Enc g F v d) ∨ ∃ x, bd = .m x ∧ Own g F H v x fp) := by
      cases s with
      | d =>
        cases o with
        | d e => exact ⟨fit, _, rfl, .inl ⟨x, rfl, e⟩⟩
      | l s =>
        cases o with
        | z q e =>
          cases x <;> first | (cases q; done) | (cases fit; done)
        | l ho ha hk => exact ⟨fit, _, rfl, .inr ⟨_, rfl, .l (fun c e => by cases e; rfl) ha hk⟩⟩
      | k => cases fit
      | s => cases fit
      | f n s r => cases fit
      | p j a s => cases fit
      | o c s =>
        cases o with
        | zo q e =>
          cases x <;> first | (cases q; done) | (cases fit; done)
        | o ho h1 h2 h3 h4 h5 h6 => exact ⟨fit, _, rfl, .inr ⟨_, rfl, .o (fun c e => by cases e; rfl) h1 h2 h3 h4 h5 h6⟩⟩
    obtain ⟨fit2, bd0, ec, h0⟩ := fit2
    obtain ⟨fs, h1, h2, h3⟩ := ctxM_at k fit2 nd3.2.1
    refine ⟨fun j => match j with
      | 0 => fp
      | j + 1 => fs j, fun j bd e => ?_, fun j c hc => ?_, fun j k ne c hc => ?_⟩
    · rw [ec] at e
      cases j with
      | zero =>
        simp at e
        subst e
        refine ⟨v, rfl, ?_⟩
        rcases h0 with z | ⟨x, z1, z2⟩
        · exact .inl z
        · exact .inr ⟨x, z1, z2, nd3.1⟩
      | succ j => exact h1 j bd (by simpa using e)
    · cases j with
      | zero => exact List.mem_append_left _ hc
      | succ j => exact List.mem_append_right _ (h2 j c hc)
    · cases j with
      | zero =>
        cases k with
        | zero => exact absurd rfl ne
        | succ k => exact fun z => nd3.2.2 c hc c (h2 k c z) rfl
      | succ j =>
        cases k with
        | zero => exact fun z => nd3.2.2 c z c (h2 j c hc) rfl
        | succ k => exact h3 j k (fun z => ne (congrArg (· + 1) z)) c hc
theorem ctxM_len : ∀ {ms : List Sh} {vs : List V} {ds : List D}, ms.length = vs.length → ms.length = ds.length → (ctxM ms vs ds).length = ms.length
  | [], _, _, _, _ => rfl
  | s :: ms, [], _, h, _ => by cases h
  | s :: ms, v :: vs, [], _, h => by cases h
  | s :: ms, v :: vs, d :: ds, h1, h2 => by
    have ih := ctxM_len (ms := ms) (vs := vs) (ds := ds) (by simpa using h1) (by simpa using h2)
    cases s with
    | d => exact congrArg (· + 1) ih
    | l s => cases v <;> exact congrArg (· + 1) ih
    | k => exact congrArg (· + 1) ih
    | s => exact congrArg (· + 1) ih
    | o c s => cases v <;> exact congrArg (· + 1) ih
    | f n s r => exact congrArg (· + 1) ih
    | p j a s => exact congrArg (· + 1) ih
theorem rfM {n : Nat} {F H : Hp} {E : XK} {sr : Sh} {ms : List Sh} {vs : List V} {ds : List D} {fp : List Addr} (hN : N.length = n) (s : Sub F H) (a : ArgsM g F H ms vs ds fp) (fit : fitsM ms ds = true) (nd : fp.Nodup) (hf : ∀ c ∈ fp, F c = none) :
    Rf g (bsM g F (wo H fp) E ms vs sr) (ctxM ms vs ds ++ List.replicate (n - ds.length) none) F (start N vs) H := by
  obtain ⟨fs, h1, h2, h3⟩ := ctxM_at a fit nd
  have len := ctxM_len (a.len.2.trans a.len.1.symm) a.len.2
  have pl : ∀ {j : Nat} {bd : Bnd}, (ctxM ms vs ds ++ List.replicate (n - ds.length) none)[j]? = some (some bd) → ∃ v, (start N vs)[j]? = some (some v) ∧ ((∃ d, bd = .v d ∧ Enc g F v d) ∨ ∃ x, bd = .m x ∧ Own g F H v x (fs j) ∧ (fs j).Nodup) := fun {j} {bd} e => by
    by_cases hj : j < (ctxM ms vs ds).length
    · rw [List.getElem?_append_left hj] at e
      obtain ⟨v, q1, q2⟩ := h1 j bd e
      refine ⟨v, ?_, q2⟩
      unfold L2.start
      rw [List.getElem?_append_left (by rw [List.length_map, ← a.len.1.symm, ← a.len.2, ← len]; exact hj), List.getElem?_map, q1]
      rfl
    · rw [List.getElem?_append_right (by omega), List.getElem?_replicate] at e
      split at e <;> cases e
  have pm : ∀ {j : Nat} {x : OD} {v : V} {f : List Addr}, (ctxM ms vs ds ++ List.replicate (n - ds.length) none)[j]? = some (some (.m x)) → (start N vs)[j]? = some (some v) → Own g F H v x f → f = fs j := fun {j x v f} e hv ho => by
    obtain ⟨v2, q1, q2⟩ := pl e
    rw [hv] at q1
    cases q1
    rcases q2 with ⟨d, z, _⟩ | ⟨y, z, z2, _⟩
    · cases z
    · cases z
      exact (z2.uniq ho fun _ _ => rfl).symm
  refine ⟨⟨Sub.refl _, s, wo_sub, fun c h1 h2 => h2⟩, .nil, fun j bd e => ?_, fun j k c xs ys e => ?_, fun j k x v f ne e hv ho c hc => ⟨fun us z => ?_, fun y w f2 z1 z2 z3 => ?_⟩⟩
  · obtain ⟨v, q1, q2⟩ := pl e
    refine ⟨some v, q1, ?_⟩
    rcases q2 with ⟨d, rfl, z⟩ | ⟨x, rfl, z, z2⟩
    · exact z
    · exact BOk.toM ⟨fs j, z, z2, fun c hc => ⟨hf c (h2 j c hc), wo_in (h2 j c hc)⟩⟩
  · obtain ⟨v, _, q2⟩ := pl e
    rcases q2 with ⟨d, z, _⟩ | ⟨x, z, _⟩ <;> cases z
  · obtain ⟨v, _, q2⟩ := pl z
    rcases q2 with ⟨d, z, _⟩ | ⟨x, z, _⟩ <;> cases z
  · rw [pm e hv ho] at hc
    rw [pm z1 z2 z3]
    exact h3 j k ne c hc
def nOwn : List Sh → Nat
  | [] => 0
  | .d :: ms => nOwn ms
  | .l _ :: ms => nOwn ms + 1
  | .k :: ms => nOwn ms
  | .s :: ms => nOwn ms
  | .o _ _ :: ms => nOwn ms + 1
  | .f _ _ _ :: ms => nOwn ms
  | .p _ _ _ :: ms => nOwn ms
/-- falling off the end gives None -/
def resM (n : Nat) (r : Fl Empty (List D)) : Res D := match r with
  | .nx zs => if zs.length = n then .ok (.tuple (.none :: zs)) else .no
  | .rt d => .ok d
  | .bk b => b.elim
  | .ct b => b.elim
  | .ex c fs => .ex c fs
  | .no => .no
/-- the slots at the end -/
def finX : List Sh → List V → List D → Ctx
  | [], _, _ => []
  | .d :: ms, _ :: vs, zs => none :: finX ms vs zs
  | .l s :: ms, .ref a :: vs, z :: zs => some (.m ⟨.l s, z, some a⟩) :: finX ms vs zs
  | .o c s :: ms, .ref a :: vs, z :: zs => some (.m ⟨.o c s, z, some a⟩) :: finX ms vs zs
  | _, _, _ => []
theorem finX_fin : ∀ {ms : List Sh} {vs : List V} {zs : List D} {pre : Ctx} {i : Nat}, i = pre.length → zs.length = nOwn ms → vs.length = ms.length → (∀ (j : Nat) (s : Sh), ms[j]? = some s → OwS s → ∃ c : Addr, vs[j]? = some (V.ref c)) → (∀ s ∈ ms, s = Sh.d ∨ OwS s) → FinC (pre ++ finX ms vs zs) ms vs i zs
  | [], [], [], _, _, _, _, _, _, _ => .nil
  | [], [], _ :: _, _, _, _, h, _, _, _ => by cases h
  | [], _ :: _, _, _, _, _, _, h, _, _ => by cases h
  | _ :: _, [], _, _, _, _, _, h, _, _ => by cases h
  | .k :: ms, v :: vs, zs, _, _, _, _, _, _, h4 => by rcases h4 .k List.mem_cons_self with z | ⟨_, z⟩ | ⟨_, _, z⟩ <;> cases z
  | .s :: ms, v :: vs, zs, _, _, _, _, _, _, h4 => by rcases h4 .s List.mem_cons_self with z | ⟨_, z⟩ | ⟨_, _, z⟩ <;> cases z
  | .f n s r :: ms, v :: vs, zs, _, _, _, _, _, _, h4 => by rcases h4 (.f n s r) List.mem_cons_self with z | ⟨_, z⟩ | ⟨_, _, z⟩ <;> cases z
  | .p j a s :: ms, v :: vs, zs, _, _, _, _, _, _, h4 => by rcases h4 (.p j a s) List.mem_cons_self with z | ⟨_, z⟩ | ⟨_, _, z⟩ <;> cases z
  | .d :: ms, v :: vs, zs, pre, i, e, h1, h2, h3, h4 => by
    have k := finX_fin (ms := ms) (vs := vs) (zs := zs) (pre := pre ++ [none]) (i := i + 1) (by simp [e]) h1 (by simpa using h2) (fun j s q => h3 (j + 1) s (by simpa using q)) fun s q => h4 s (List.mem_cons_of_mem _ q)
    rw [List.append_assoc] at k
    exact .d k
  | .l s :: ms, v :: vs, [], _, _, _, h, _, _, _ => by cases h
  | .o c s :: ms, v :: vs, [], _, _, _, h, _, _, _ => by cases h
  | .o c s :: ms, v :: vs, z :: zs, pre, i, e, h1, h2, h3, h4 => by
    obtain ⟨a, q⟩ := h3 0 (.o c s) rfl (.inr ⟨_, _, rfl⟩)
    have q : v = .ref a := by simpa using q
    subst q
    have k := finX_fin (ms := ms) (vs := vs) (zs := zs) (pre := pre ++ [some (.m ⟨.o c s, z, some a⟩)]) (i := i + 1) (by simp [e]) (by simpa [nOwn] using h1) (by simpa using h2) (fun j s q => h3 (j + 1) s (by simpa using q)) fun s q => h4 s (List.mem_cons_of_mem _ q)
    rw [List.append_assoc] at k
    refine .m (.inr ⟨_, _, rfl⟩) ?_ k
    rw [List.getElem?_append_right (by omega), e, Nat.sub_self]
    rfl
  | .l s :: ms, v :: vs, z :: zs, pre, i, e, h1, h2, h3, h4 => by
    obtain ⟨a, q⟩ := h3 0 (.l s) rfl (.inl ⟨_, rfl⟩)
    have q : v = .ref a := by simpa using q
    subst q
    have k := finX_fin (ms := ms) (vs := vs) (zs := zs) (pre := pre ++ [some (.m ⟨.l s, z, some a⟩)]) (i := i + 1) (by simp [e]) (by simpa [nOwn] using h1) (by simpa using h2) (fun j s q => h3 (j + 1) s (by simpa using q)) fun s q => h4 s (List.mem_cons_of_mem _ q)
    rw [List.append_assoc] at k
    refine .m (.inl ⟨_, rfl⟩) ?_ k
    rw [List.getElem?_append_right (by omega), e, Nat.sub_self]
    rfl
theorem fitsM_noK : ∀ {ms : List Sh} {ds : List D}, fitsM ms ds = true → ∀ s ∈ ms, s = Sh.d ∨ OwS s
  | [], _, _, s, h => nomatch h
  | .d :: ms, _ :: ds, h, s, q => by
    rcases List.mem_cons.mp q with e | e
    · exact .inl e
    · exact fitsM_noK (ms := ms) (ds := ds) h s e
  | .l _ :: ms, x :: ds, h, s, q => by
    have h : fitsM ms ds = true := by cases x <;> first | exact h | cases h
    rcases List.mem_cons.mp q with e | e
    · exact .inr (.inl ⟨_, e⟩)
    · exact fitsM_noK (ms := ms) (ds := ds) h s e
  | .o _ _ :: ms, x :: ds, h, s, q => by
    have h : fitsM ms ds = true := by cases x <;> first | exact h | cases h
    rcases List.mem_cons.mp q with e | e
    · exact .inr (.inr ⟨_, _, e⟩)
    · exact fitsM_noK (ms := ms) (ds := ds) h s e
  | .o _ _ :: ms, [], h, _, _ => nomatch h
  | .f _ _ _ :: ms, _, h, _, _ => nomatch h
  | .p _ _ _ :: ms, _, h, _, _ => nomatch h
  | .d :: ms, [], h, _, _ => nomatch h
  | .l _ :: ms, [], h, _, _ => nomatch h
  | .k :: ms, _, h, _, _ => nomatch h
  | .s :: ms, _, h, _, _ => nomatch h
theorem ArgsM.refs {F H : Hp} {ms : List Sh} {vs : List V} {ds : List D} {fp : List Addr} (a : ArgsM g F H ms vs ds fp) : fitsM ms ds = true → ∀ (j : Nat) (s : Sh), ms[j]? = some s → OwS s → ∃ c : Addr, vs[j]? = some (V.ref c) := by
  induction a with
  | nil => intro _ j s e; simp at e
  | @cons s0 ms v vs x xs fp fq o k ih =>
    intro fit j s e os
    cases j with
    | zero =>
      simp at e
      subst e
      rcases os with ⟨t, rfl⟩ | ⟨c, t, rfl⟩
      · cases o with
        | z q en => cases x <;> first | (cases q; done) | (cases fit; done)
        | l _ _ _ => exact ⟨_, rfl⟩
      · cases o with
        | zo q en => cases x <;> first | (cases q; done) | (cases fit; done)
        | o => exact ⟨_, rfl⟩
    | succ j =>
      refine ih ?_ j s (by simpa using e) os
      cases s0 with
      | d => exact fit
      | l s0 => cases x <;> first | exact fit | cases fit
      | o c s0 => cases x <;> first | exact fit | cases fit
      | k => cases fit
      | s => cases fit
      | f _ _ _ => cases fit
      | p _ _ _ => cases fit
theorem defM_ok {ms : List Sh} {sr : Sh} {o : List D → Fl Empty (List D)} {m : List D → Res D} (Fd : FunD g.K name qual params body scope dvs kws f fd) (S : FnScope N ps scope) (hms : ms.length = ps.length) (hm : ∀ ds, fitsM ms ds = true → m ds = resM (nOwn ms) (o ds)) (hl : ∀ ds, fitsM ms ds ≠ true → m ds = .no)
    (hbody : ∀ (cdv : Value) (A : Around) (outer : List Env) (s : Shared) (H H0 F : Hp) (E : XK) (vs : List V) (ds : List D), Side k P w g mg base N qual scope f cdv A outer s H E → ds.length = ms.length → (∀ (j : Nat) (s : Sh), ms[j]? = some s → OwS s → ∃ c : Addr, vs[j]? = some (V.ref c)) → vs.length = ms.length →
      PSs (cxOf (L2.CX P w) P w g.K mg base N qual scope f cdv A outer s H E) body (tS g (bsM g F H0 E ms vs sr) (fun e : Empty => e.elim) (ctxM ms vs ds ++ List.replicate (N.length - ds.length) none) (o ds) (finX ms vs))) :
    FnOk P w g.K mg base (L2.CX P w) (k + 1) f fd ps (spM g ms sr m) := by
  have len : ∀ vs H Q E, spM g ms sr m vs H Q E → vs.length = ps.length := fun vs H Q E h => by
    obtain ⟨F, ds, fp, s, a, _⟩ := h
    rw [a.len.1, ← a.len.2, hms]
  refine Fd.ok S len fun cdv A outer s H vs Q E hr h => ?_
  obtain ⟨F, ds, fp, sb, a, nd, hf, h⟩ := h
  by_cases fit : fitsM ms ds = true
  · rw [hm ds fit] at h
    have hv := a.refs fit
    have hvl : vs.length = ms.length := a.len.1.trans a.len.2.symm
    refine ⟨_, hbody cdv A outer s H (wo H fp) F E vs ds (side_of hr) a.len.2.symm hv hvl, F, rfM rfl sb a fit nd hf, ?_⟩
    cases q : o ds with
    | nx zs =>
      rw [q] at h
      intro F' σ' H' r
      have h : match (if zs.length = nOwn ms then Res.ok (PyData.tuple (.none :: zs)) else .no) with
        | .ok p => ∀ v F' H' r zs fr fq, p = .tuple (r :: zs) → Grow F (wo H fp) F' H' → Own g F' H' v ⟨sr, r, none⟩ fr → OwnsF g F' H' ms vs zs fq → (fr ++ fq).Nodup → (∀ c ∈ fr ++ fq, F' c = none ∧ wo H fp c = none) → Q v H'
        | .ex c fs => ∀ cls od F' H', Grow F (wo H fp) F' H' → ExOk g c fs cls od F' → E cls od H'
        | .no => False := h
      by_cases zl : zs.length = nOwn ms
      · rw [if_pos zl] at h
        obtain ⟨fq, w1, w2, w3, _⟩ := (finX_fin (pre := []) rfl zl hvl hv (fitsM_noK fit)).owns r
        exact h .non F' H' .none zs [] fq rfl r.gr (by cases sr with
          | d => exact .d .non
          | l s => exact .z rfl .non
          | k => exact .zk rfl .non
          | s => exact .zs rfl .non
          | o c s => exact .zo rfl .non
          | f n s r => exact .zf rfl .non
          | p j a s => exact .zp rfl .non) w1 w2 w3
      · rw [if_neg zl] at h
        exact h.elim
    | rt d =>
      rw [q] at h
      intro v F' H' gr ⟨r, zs, fr, fq, e1, e2, e3, e4, e5⟩
      exact h v F' H' r zs fr fq e1 gr e2 e3 e4 e5
    | bk e => exact e.elim
    | ct e => exact e.elim
    | ex c fs =>
      rw [q] at h
      exact fun cls od F' σ' H' r ok => h cls od F' H' r.gr ok
    | no =>
      rw [q] at h
      exact h
  · rw [hl ds fit] at h
    exact h.elim
theorem fitsM_len : ∀ {ms : List Sh} {ds : List D}, fitsM ms ds = true → ds.length = ms.length
  | [], [], _ => rfl
  | [], _ :: _, h => by cases h
  | .d :: ms, [], h => by cases h
  | .l _ :: ms, [], h => by cases h
  | .o _ _ :: ms, [], h => by cases h
  | .o _ _ :: ms, d :: ds, h => by
    cases d <;> first | (cases h; done) | exact congrArg (· + 1) (fitsM_len (ms := ms) (ds := ds) h)
  | .d :: ms, _ :: ds, h => congrArg (· + 1) (fitsM_len (ms := ms) (ds := ds) h)
  | .l _ :: ms, d :: ds, h => by
    cases d <;> first | (cases h; done) | exact congrArg (· + 1) (fitsM_len (ms := ms) (ds := ds) h)
end
/-- nothing is claimed of a def that is not reached -/
theorem MethM.zero {P : Program} {w : World} {g : Gm} {mg : Str → Option Value} {base : Heap} {c m : Str} {k : Nat} {ms : List Sh} {sr : Sh} (T : ∃ i f, g.ci c = some i ∧ Meth g.K i.C m f ∧ (i.k = .dict → ∀ f ∈ i.fs, ¬ f = m) ∧ i.k ≠ .exc) : MethM P w g mg base c m k ms sr (fun _ => .no) := by
  obtain ⟨i, f, h1, h2, h3, h4⟩ := T
  refine ⟨⟨i, f, h1, h2, fun A outer s H us vs Q E _ _ _ h => ?_, h3, h4⟩⟩
  obtain ⟨F, ds, fp, _, _, _, _, h⟩ := h
  exact h.elim
theorem MethM.of {P : Program} {w : World} {g : Gm} {mg : Str → Option Value} {base : Heap} {c m : Str} {k : Nat} {ms : List Sh} {sr : Sh} {mm : List D → Res D} {i : CI} {f : Addr} {fd : FuncData} {ps : List Str} (h1 : g.ci c = some i) (h2 : Meth g.K i.C m f) (Fn : FnOk P w g.K mg base (L2.CX P w) k f fd ps (spM g ms sr mm)) (bd : Binds g.K fd ps []) (h3 : i.k = .dict → ∀ f ∈ i.fs, ¬ f = m) (h4 : i.k ≠ .exc) : MethM P w g mg base c m k ms sr mm :=
  ⟨⟨i, f, h1, h2, (Fn.raw bd .nil).imp fun vs H Q E h => by rw [List.append_nil]; exact h, h3, h4⟩⟩
theorem DefM.of {P : Program} {w : World} {g : Gm} {mg : Str → Option Value} {base : Heap} {name : Str} {k : Nat} {ms : List Sh} {sr : Sh} {mm : List D → Res D} {f : Addr} {fd : FuncData} {ps : List Str} (h1 : mg name = some (.ref f)) (kp : PySem.W.keepIn g.K (.ref f) = true) (Fn : FnOk P w g.K mg base (L2.CX P w) k f fd ps (spM g ms sr mm)) (bd : Binds g.K fd ps []) : DefM P w g mg base name k ms sr mm :=
  ⟨⟨f, (Fn.raw bd .nil).imp fun vs H Q E h => by rw [List.append_nil]; exact h, h1, kp⟩⟩
end Mi
namespace Mi
open L2 PySem PySem.Spec PyProof.Rows
/-- what stands behind «in», where asking for it changes what is one's own -/
structure SrcC (X : Cx) (g : Gm) (b : Bs) (Γ : Ctx) (us : Us) (tg iter : Expr) (rx : Res (List D × List D)) : Prop where
  ex : ∃ wi, PI X tg iter wi ∧ ∀ (σ : L2.St) (H : Hp) (R : It → Hp → Prop), (∃ F, Rf g b Γ F σ H ∧ match rx with
    | .ok (xs, zs) => ∀ J F' H', Sub F F' → Rf g b (setMs Γ us zs) F' σ H' → Walks g J F' xs → R J H'
    | .ex c fs => ∀ cls od F' H', Rf g b b.cx F' σ H' → ExOk g c fs cls od F' → b.W cls od σ H'
    | .no => False) → wi σ H R
section
variable {X : Cx} {g : Gm} {b : Bs} {Γ : Ctx} {F : Hp} {σ : L2.St} {H : Hp} {tg e e1 e2 iter : Expr} {es : List Expr} {pos p : Pos} {r ra rb : Res D} {rc : Res (D × List D)} {rx : Res (List D × List D)} {x : Str} {us : Us}
/-- a list that such a call gives -/
def itL : D → Option (List D)
  | .list xs => some xs
  | _ => none
theorem srcC_val (he : PE X e (tC g b Γ us rc)) (hK : X.K = g.K := by rfl) : SrcC X g b Γ us tg e (rc.bind fun p => (ofO (itL p.1)).bind fun xs => .ok (xs, p.2)) := by
  refine ⟨_, pi_list he, fun σ H R h => ?_⟩
  obtain ⟨F, rf, h⟩ := h
  refine ⟨F, rf, ?_⟩
  cases rc with
  | no => exact h
  | ex c fs => exact h
  | ok p =>
    obtain ⟨d, zs⟩ := p
    intro v F' H' s r2 en
    cases en with
    | lst h1 k1 => exact ⟨_, rfl, ⟨_, SqL.of (r2.gr.fh _ _ h1)⟩, h (Itl X.K _) F' H' s r2 (walks_list h1 k1)⟩
    | _ => exact h.elim
variable {β τ υ : Type} {Γb : β → Ctx} {Γn : υ → Ctx} {rest body : List Stmt}
/-- for x in such a call: body; rest -/
theorem b_forC {i : Nat} {py : Pos} {t0 : List D → τ} {Γh : τ → Ctx} {f : D → τ → Fl τ τ} {k : List D → τ → Fl β υ} (hS : SrcC X g b Γ us (.Name x py) iter rx)
    (hbody : ∀ (F1 : Hp) (d : D) (t : τ), PSs X body (tS g (b.at_ F1) Γh ((Γh t).set i (some (.v d))) (f d t) Γh)) (hrest : ∀ zs t, PSs X rest (tS g b Γb (Γh t) (k zs t) Γn))
    (hp : PassesOwn (model X.prog X.w) X.A X.env X.xe) (hN : X.N.Nodup)
    (h0 : ∀ zs, (∃ xs, rx = .ok (xs, zs)) → Le (Γh (t0 zs)) (setMs Γ us zs)) (hcx : ∀ t, Le b.cx (Γh t) := by intro _; repeat (first | exact Le.nil | apply Le.same | apply Le.none)) (hc0 : (b.cx[i]?).join = none := by rfl)
    (hi : X.N[i]? = some x := by rfl) (hx : Loc X.env.scope x := by first | exact Or.inl rfl | exact Or.inr rfl) (hf : X.fn x = true ∨ X.env.scope.names.lookup x = some .local := by first | exact .inl rfl | exact .inr rfl)
    (hc : X.calm = true := by rfl) (hs : ∀ x, foldedSetIterable iter X.env x = pure x := by intro _; rfl) :
    PSs X (.For (.Name x py) iter body [] pos :: rest) (tS g b Γb Γ (rx.bindF fun p => (loopF p.1 (t0 p.2) f).bind (k p.2)) Γn) := by
  obtain ⟨wi, hw, hr⟩ := hS.ex
  refine PSs.impI (pss_cons (ps_for (tb := fun Ds σ H => ∃ (F1 : Hp) (d : D) (t : τ), tS g (b.at_ F1) Γh ((Γh t).set i (some (.v d))) (f d t) Γh Ds σ H) hp hc hw (PG.impI (pg_name hN hi hx hf)) (PSs.ex fun F1 => PSs.ex fun d => PSs.ex fun t => hbody F1 d t) hs) (PSs.ex fun zs => PSs.ex fun t => hrest zs t)) fun Ds σ H hl h => ?_
  obtain ⟨F, rf, h⟩ := h
  have hiN := (List.getElem?_eq_some_iff.mp hi).1
  refine hr σ H _ ⟨F, rf, ?_⟩
  cases rx with
  | no => exact h
  | ex c fs => exact fun cls od F' H' r1 ok => h cls od F' σ H' r1 ok
  | ok p =>
    obtain ⟨xs, zs⟩ := p
    intro J Fs Hs s1 rs wk
    have h : EndS g b Γb Γn ((loopF xs (t0 zs) f).bind (k zs)) Ds := h
    refine ⟨fun j m σ' H' => m = xs.length - j ∧ j ≤ xs.length ∧ ∃ t F', Rf g (b.at_ Fs) (Γh t) F' σ' H' ∧ (loopF (xs.drop j) t f : Fl β τ) = loopF xs (t0 zs) f, ⟨xs.length, by simp, Nat.zero_le _, t0 zs, Fs, (rs.down (F1 := Fs)).weak (h0 zs ⟨xs, rfl⟩) (hcx (t0 zs)), by rw [List.drop_zero]⟩, ?_⟩
    rintro j m σ' H' ⟨rfl, hj, t, F', r1, eL⟩
    by_cases hlt : j < xs.length
    · obtain ⟨hgo, hy⟩ := wk.go j F' H' r1.gr.ff r1.gr.fh hlt
      refine .inr ⟨hgo, fun σ2 H2 => ∃ t F', Rf g (b.at_ Fs) (Γh t) F' σ2 H2 ∧ (loopF (xs.drop (j + 1)) t f : Fl β τ) = loopF xs (t0 zs) f, fun σ2 H2 q => ⟨xs.length - (j + 1), by omega, rfl, hlt, q⟩, fun v H'' hv hl' => ?_⟩
      obtain ⟨rfl, d, hd, en⟩ := hy v H'' hv
      have dr : xs.drop j = d :: xs.drop (j + 1) := by
        rw [List.drop_eq_getElem_cons hlt]
        have e2 := List.getElem?_eq_getElem hlt
        rw [e2] at hd
        rw [Option.some.inj hd]
      refine ⟨Fs, d, t, F', r1.setv en hc0 (by rw [hl']; exact hiN), ?_⟩
      have eL2 : (loopF (d :: xs.drop (j + 1)) t f : Fl β τ) = loopF xs (t0 zs) f := by rw [← dr]; exact eL
      rw [loopF] at eL2
      cases ef : f d t with
      | nx t' =>
        rw [ef] at eL2
        exact fun F2 σ2 H2 r2 => ⟨t', F2, r2, eL2⟩
      | ct t' =>
        rw [ef] at eL2
        exact fun F2 σ2 H2 r2 => ⟨t', F2, r2, eL2⟩
      | bk t' =>
        rw [ef] at eL2
        have e2 : (.nx t' : Fl β τ) = loopF xs (t0 zs) f := eL2
        rw [← e2] at h
        exact fun F2 σ2 H2 r2 => ⟨zs, t', F2, r2.up rs.gr, h⟩
      | rt d2 =>
        rw [ef] at eL2
        have e2 : (.rt d2 : Fl β τ) = loopF xs (t0 zs) f := eL2
        rw [← e2] at h
        exact fun v F2 H2 gr2 en2 => h v F2 H2 (rs.gr.base gr2) en2
      | ex c fs =>
        rw [ef] at eL2
        have e2 : (.ex c fs : Fl β τ) = loopF xs (t0 zs) f := eL2
        rw [← e2] at h
        exact fun cls od F2 σ2 H2 r2 ok => h cls od F2 σ2 H2 (r2.up rs.gr) ok
      | no =>
        rw [ef] at eL2
        have e2 : (.no : Fl β τ) = loopF xs (t0 zs) f := eL2
        rw [← e2] at h
        exact h
    · have ej : j = xs.length := by omega
      subst ej
      refine .inl ⟨wk.stop F' H' r1.gr.ff r1.gr.fh, zs, t, F', r1.up rs.gr, ?_⟩
      rw [List.drop_length] at eL
      have e2 : (.nx t : Fl β τ) = loopF xs (t0 zs) f := eL
      rw [← e2] at h
      exact h
end
mutual
def noI (c : Str) : D → Bool
  | .list xs => noIs c xs
  | .tuple xs => noIs c xs
  | .dict ((.none, .str x) :: kvs) => !decide (x = c) && noIp c kvs
  | .dict kvs => noIp c kvs
  | _ => true
def noIs (c : Str) : List D → Bool
  | [] => true
  | x :: xs => noI c x && noIs c xs
def noIp (c : Str) : List (D × D) → Bool
  | [] => true
  | (a, d) :: r => noI c a && (noI c d && noIp c r)
end
section
variable {X : Cx} {g : Gm} {b : Bs} {Γ : Ctx} {F : Hp} {σ : L2.St} {H : Hp} {e e1 e2 : Expr} {es : List Expr} {pos p : Pos} {r ra rb : Res D} {rs : Res (List D)} {x c : Str} {us : Us} {i : CI} {kvs : List (D × D)} {a0 : Addr}
/-- the instance that is being made, by what its slot holds -/
theorem Rf.inst (r : Rf g b Γ F σ H) {j : Nat} (hΓ : Γ[j]? = some (some (.o a0 c kvs))) (hi : g.ci c = some i) (hk : i.k = .dict) : ∃ dx fs, σ[j]? = some (some (.ref a0)) ∧ H a0 = some (.ins i.C dx fs) ∧ H dx = some (.own a0) ∧ F a0 = none ∧ F dx = none ∧ b.H0 a0 = none ∧ b.H0 dx = none ∧
    ∃ ns vs, EncF g F ns vs kvs ∧ ObjAt i H a0 dx ns vs := by
  obtain ⟨ov, h1, h2⟩ := r.at_ j _ hΓ
  cases ov with
  | none => exact h2.elim
  | some v =>
    cases v with
    | ref a =>
      obtain ⟨e0, ci, dx, ns, vs, q1, q2, q3, q4, q5, q6, q7, q8⟩ := h2
      subst e0
      rw [hi] at q1
      cases q1
      rcases q8 with ⟨ks, _⟩ | ⟨kd, el, ha, hd, hin⟩
      · rw [hk] at ks
        cases ks
      · exact ⟨dx, _, h1, ha, hd, q2, q3, q4, q5, ns, vs, q7, .inr ⟨kd, el, ha, hd, hin⟩⟩
    | _ => exact h2.elim
end
end Mi
namespace Mi
open L2 PySem PySem.Spec PyProof.Rows
section
variable {X : Cx} {g : Gm} {b : Bs} {Γ : Ctx} {F : Hp} {σ : L2.St} {H : Hp} {e e1 e2 : Expr} {es : List Expr} {pos p : Pos} {r ra rb : Res D} {rs : Res (List D)} {x c : Str} {us : Us} {i : CI} {kvs : List (D × D)} {a0 : Addr}
theorem ArgsM.mono {F' : Hp} (s : Sub F F') : ∀ {ms : List Sh} {vs : List V} {xs : List D} {fp : List Addr}, ArgsM g F H ms vs xs fp → ArgsM g F' H ms vs xs fp
  | _, _, _, _, .nil => .nil
  | _, _, _, _, .cons o k => .cons (o.keep s fun _ _ => rfl) (k.mono s)
end
end Mi
namespace Mi
open L2 PySem PySem.Spec PyProof.Rows
section
variable {P : Program} {w : World} {g : Gm} {mg : Str → Option Value} {base : Heap} {name qual : Str} {params : Arguments} {body : List Stmt} {scope : Scope} {dvs : List V} {kws : List (Str × V)} {f cc : Addr} {fd : FuncData} {N ps : List Str} {k : Nat}
/-- a def that says super(), with keyword defaults -/
structure FunK (K : PySem.W.Frag) (x qual : Str) (params : Arguments) (body : List Stmt) (scope : Scope) (kws : List (Str × V)) (f cc D : Addr) (fd : FuncData) : Prop where
  ex : ∃ oc od kV doc pm an cdv ct osl, fd = PySem.W.fnX x qual params body scope [(ccl, cc)] .none kV doc pm an cdv ct ∧ K.lookup f = some ⟨oc, od, .func fd, osl⟩ ∧ PySem.W.codeIn K cdv qual = true ∧ KwdV K kV kws
  cell : ∃ oc od osl, K.lookup cc = some ⟨oc, od, .cell (some (.ref D)), osl⟩
end
end Mi
namespace Mi
open L2 PySem PySem.Spec PyProof.Rows
section
variable {X : Cx} {g : Gm} {b : Bs} {Γ : Ctx} {F : Hp} {σ : L2.St} {H : Hp} {e elt iter : Expr} {es ifs : List Expr} {pos p py : Pos} {r ra rb : Res D} {rs : Res (List D)} {rx : Res (List D)} {x : Str} {t : Sh} {scope : Scope} {i : Nat} {c : D → Res Bool} {f : D → Res D}
theorem lcF_noex {c : D → Res Bool} {f : D → Res D} : ∀ (ys : List PyData) (cn : Str) (fs : List PyData), lcF ys c f ≠ .ex cn fs := by
  intro ys
  induction ys with
  | nil => intro cn fs z; cases z
  | cons y ys ih =>
    intro cn fs z
    rw [lcF] at z
    cases ec : c y with
    | ok k =>
      rw [ec] at z
      cases k with
      | false => exact ih cn fs z
      | true =>
        have z : (match f y with
          | .ok y => (lcF ys c f).bind fun ys => .ok (y :: ys)
          | _ => .no) = Res.ex cn fs := z
        cases ef : f y with
        | ok w =>
          rw [ef] at z
          have z : (lcF ys c f).bind (fun ys => .ok (w :: ys)) = Res.ex cn fs := z
          cases er : lcF ys c f with
          | ok es =>
            rw [er] at z
            cases z
          | ex cn' fs' => exact ih cn' fs' er
          | no =>
            rw [er] at z
            cases z
        | ex cn' fs' =>
          rw [ef] at z
          cases z
        | no =>
          rw [ef] at z
          cases z
    | ex cn' fs' =>
      rw [ec] at z
      cases z
    | no =>
      rw [ec] at z
      cases z
/-- the loop of a comprehension of new things -/
theorem lc_goM {vs : List Nat} {xs : List D} {J : It} {Q : VK} {n : Nat} (rs : Rf g b Γ F σ H) (wk : Walks g J F xs) (hi : i ∈ vs) (hl : σ.length = n) (hn : i < n) (hz : xs.length ≤ cap)
    (hq : match lcF xs c f with
      | .ok ds => ∀ v fp F' H', Grow F H F' H' → Own g F' H' v ⟨.l t, .list ds, none⟩ fp → fp.Nodup → (∀ c ∈ fp, H c = none ∧ F' c = none) → Q v H'
      | .ex _ _ => False
      | .no => False) (D : Addr) (hD : H D = none) :
    ∃ W : Nat → Nat → Hp → Prop, (∃ m, W 0 m (upd H D (.lst []))) ∧ ∀ j m H', W j m H' →
      (J.stop j H' ∧ Q (.ref D) H') ∨ (J.go j H' ∧ ∃ Nx : Hp → Prop, (∀ H', Nx H' → ∃ m', m' < m ∧ W (j + 1) m' H') ∧ ∀ y H'', J.yld j H' y H'' → gName i y (wipe σ vs) H'' fun σ2 H2 => wipe σ2 vs = wipe σ vs ∧
        (∃ d, tT g b.blk ((wipeC Γ vs).set i (some (.v d))) (c d) σ2 H2 fun k H3 =>
          if k = true then (∃ d, tNM g b.blk ((wipeC Γ vs).set i (some (.v d))) t (f d) σ2 H3 fun y H4 => ∃ acc, H4 D = some (.lst acc) ∧ acc.length < sizeLine ∧ Nx (upd H4 D (.lst (acc ++ [y])))) else Nx H3)) := by
  have DF : F D = none := rs.gr.fh.free hD
  -- what stands so far
  let St : Hp → Nat → Prop := fun H' j => ∃ (F' : Hp) (us : List V) (ds : List PyData) (fp : List Addr), Grow F H F' H' ∧ F' D = none ∧ H' D = some (.lst us) ∧ OwnL g F' H' t us ds fp ∧ fp.Nodup ∧ D ∉ fp ∧ (∀ c ∈ fp, H c = none ∧ F' c = none) ∧ ds.length ≤ j ∧ ((lcF (xs.drop j) c f).bind fun es => .ok (ds ++ es)) = lcF xs c f
  refine ⟨fun j m H' => m = xs.length - j ∧ j ≤ xs.length ∧ St H' j, ⟨xs.length, by simp, Nat.zero_le _, F, [], [], [], ⟨Sub.refl _, rs.gr.fh.trans (Sub.new hD), Sub.new hD, fun _ _ z => z⟩, DF, upd_same, .nil, .nil, (by simp), fun c hc => (by cases hc), Nat.le_refl _, by
    rw [List.drop_zero]
    cases lcF xs c f <;> rfl⟩, ?_⟩
  rintro j m H' ⟨rfl, hj, F', us, ds, fp, gr, hF, hH, ow, nd, nD, hf, hlen, eL⟩
  by_cases hlt : j < xs.length
  · obtain ⟨hgo, hy⟩ := wk.go j F' H' gr.ff gr.fh hlt
    refine .inr ⟨hgo, fun H2 => St H2 (j + 1), fun H2 q => ⟨xs.length - (j + 1), by omega, rfl, hlt, q⟩, fun v H'' hv => ?_⟩
    obtain ⟨rfl, d, hd, ev⟩ := hy v H'' hv
    have dr : xs.drop j = d :: xs.drop (j + 1) := by
      rw [List.drop_eq_getElem_cons hlt]
      have e2 := List.getElem?_eq_getElem hlt
      rw [e2] at hd
      rw [Option.some.inj hd]
    rw [dr, lcF] at eL
    refine ⟨wipe_set hi, d, F', ((rs.grow gr).blk vs).setv ev rfl (by rw [wipe_length, hl]; exact hn), ?_⟩
    have r2 := ((rs.grow gr).blk vs).setv ev (i := i) rfl (by rw [wipe_length, hl]; exact hn)
    cases ec : c d with
    | ok k =>
      rw [ec] at eL
      intro F2 H2 gr2
      have gF : Grow F H F2 H2 := gr.trans gr2
      have hF2 : F2 D = none := gr2.new D (by rw [hH]; simp) hF
      have hH2 : H2 D = some (.lst us) := gr2.hh _ _ hH
      have sm : ∀ c ∈ fp, H2 c = H'' c := fun c hc => by
        obtain ⟨ws, e⟩ := ow.lst c hc
        rw [e]
        exact gr2.hh _ _ e
      have ow2 := ow.keep gr2.ff sm
      have hf2 : ∀ c ∈ fp, H c = none ∧ F2 c = none := fun c hc => by
        obtain ⟨ws, e⟩ := ow.lst c hc
        exact ⟨(hf c hc).1, gr2.new c (by rw [e]; simp) (hf c hc).2⟩
      cases k with
      | false => exact ⟨F2, us, ds, fp, gF, hF2, hH2, ow2, nd, nD, hf2, by omega, eL⟩
      | true =>
        refine ⟨d, F2, r2.grow gr2, ?_⟩
        have eL : (match f d with
            | .ok y => (lcF (xs.drop (j + 1)) c f).bind fun ys => .ok (y :: ys)
            | _ => .no).bind (fun es => .ok (ds ++ es)) = lcF xs c f := eL
        cases ef : f d with
        | ok y =>
          rw [ef] at eL
          intro w fq F3 H3 gr3 oe ne fe
          have hH3 := gr3.hh _ _ hH2
          have hF3 := gr3.new D (by rw [hH2]; simp) hF2
          have nq : ∀ c ∈ fq, c ∉ fp ∧ c ≠ D := fun c hc => ⟨fun z => (by
            obtain ⟨ws, e⟩ := ow2.lst c z
            rw [(fe c hc).1] at e
            cases e), fun z => (by
            rw [← z, (fe c hc).1] at hH2
            cases hH2)⟩
          have sm3 : ∀ c ∈ fp, H3 c = H2 c := fun c hc => by
            obtain ⟨ws, e⟩ := ow2.lst c hc
            rw [e]
            exact gr3.hh _ _ e
          refine ⟨us, hH3, cap_lt (by rw [ow.len]; omega), F3, us ++ [w], ds ++ [y], fp ++ fq, ⟨(gF.trans gr3).ff, (gF.trans gr3).fh.mut hF3, (gF.trans gr3).hh.mut hD, (gF.trans gr3).new⟩, hF3, upd_same, ?_, ?_, ?_, fun c hc => ?_, by simp; omega, ?_⟩
          · have k1 := ow2.keep gr3.ff (H' := upd H3 D (.lst (us ++ [w]))) fun c hc => by
              rw [upd_ne (fun z => nD (by rw [← z]; exact hc))]
              exact sm3 c hc
            have k2 : Own g F3 (upd H3 D (.lst (us ++ [w]))) w ⟨t, y, none⟩ fq := oe.keep (Sub.refl _) fun c hc => upd_ne (nq c hc).2
            have k3 := k1.app (.cons k2 .nil)
            rwa [List.append_nil] at k3
          · rw [List.nodup_append]
            exact ⟨nd, ne, fun a ha b hb e => (nq b hb).1 (e ▸ ha)⟩
          · intro z
            rcases List.mem_append.mp z with z | z
            · exact nD z
            · exact (nq D z).2 rfl
          · rcases List.mem_append.mp hc with z | z
            · obtain ⟨ws, e⟩ := ow2.lst c z
              exact ⟨(hf c z).1, gr3.new c (by rw [e]; simp) (hf2 c z).2⟩
            · exact ⟨gF.hh.free (fe c z).1, (fe c z).2⟩
          · rw [← eL]
            cases lcF (xs.drop (j + 1)) c f with
            | ok es => simp
            | ex _ _ => rfl
            | no => rfl
        | ex cn fs =>
          rw [ef] at eL
          rw [← eL] at hq
          exact hq.elim
        | no =>
          rw [ef] at eL
          rw [← eL] at hq
          exact hq.elim
    | ex cn fs =>
      rw [ec] at eL
      rw [← eL] at hq
      exact hq.elim
    | no =>
      rw [ec] at eL
      rw [← eL] at hq
      exact hq.elim
  · have ej : j = xs.length := by omega
    subst ej
    rw [List.drop_length] at eL
    have e2 : Res.ok (ds ++ []) = lcF xs c f := eL
    rw [← e2, List.append_nil] at hq
    refine .inl ⟨wk.stop F' H' gr.ff gr.fh, hq (.ref D) (D :: fp) F' H' gr (.l (fun _ z => nomatch z) hH ow) (List.nodup_cons.mpr ⟨nD, nd⟩) fun c hc => ?_⟩
    rcases List.mem_cons.mp hc with z | z
    · rw [z]
      exact ⟨hD, hF⟩
    · exact hf c z
theorem lc_readsM {wi : TI} {vs : List Nat} {Q : VK} (hi : i ∈ vs) (hn : i < X.N.length) (hl : σ.length = X.N.length)
    (hr : ∀ (σ : L2.St) (H : Hp) (R : It → Hp → Prop), (∃ F, Rf g b Γ F σ H ∧ match rx with
    | .ok xs => ∀ J F' H', Grow F H F' H' → Walks g J F' xs → R J H'
    | .ex c fs => ∀ cls od F' H', Grow F H F' H' → Rf g b b.cx F' σ H' → ExOk g c fs cls od F' → b.W cls od σ H'
    | .no => False) → wi σ H R) (h : PostNM g b Γ F (.l t) (rx.bind fun xs => (lcC xs c f).bind fun ys => .ok (.list ys)) σ H Q) :
    tLc wi (gName i) (fun σ H Q => ∃ d, tT g b.blk ((wipeC Γ vs).set i (some (.v d))) (c d) σ H Q) (fun σ H Q => ∃ d, tNM g b.blk ((wipeC Γ vs).set i (some (.v d))) t (f d) σ H Q) vs σ H Q := by
  refine hr σ H _ ⟨F, h.1, ?_⟩
  cases rx with
  | no => exact h.2
  | ex c fs => exact h.2
  | ok xs =>
    intro J F1 H1 gr wk D hD
    have h2 : match ((if xs.length ≤ cap then lcF xs c f else .no).bind fun ys => .ok (.list ys) : Res PyData) with
      | .ok d => ∀ v fp F' H', Grow F H F' H' → Own g F' H' v ⟨.l t, d, none⟩ fp → fp.Nodup → (∀ c ∈ fp, H c = none ∧ F' c = none) → Q v H'
      | .ex c fs => ∀ cls od F' H', Grow F H F' H' → Rf g b b.cx F' σ H' → ExOk g c fs cls od F' → b.W cls od σ H'
      | .no => False := h.2
    by_cases hz : xs.length ≤ cap
    · rw [if_pos hz] at h2
      refine lc_goM (h.1.grow gr) wk hi hl hn hz ?_ D hD
      cases er : lcF xs c f with
      | ok ds =>
        rw [er] at h2
        exact fun v fp F' H' gr2 h3 h4 h5 => h2 v fp F' H' (gr.trans gr2) h3 h4 fun c hc => ⟨gr.hh.free (h5 c hc).1, (h5 c hc).2⟩
      | ex cn fs => exact absurd er (lcF_noex _ _ _)
      | no =>
        rw [er] at h2
        exact h2
    · rw [if_neg hz] at h2
      exact h2.elim
/-- [e for x in ..], each e a new thing of one's own -/
theorem nm_lc (own : List (Str × Nat)) (hS : Src X g b Γ (.Name x py) iter rx)
    (ht : ∀ (s : Shared) (H : Hp) (C : Addr) (cl : List (Str × Addr)) (fp : List Addr) (d : D), PTs (X.blk s H scope (compEnvC scope cl C X.env) fp) ifs (tT g b.blk ((wipeC Γ (own.map (·.2))).set i (some (.v d))) (c d)))
    (he : ∀ (s : Shared) (H : Hp) (C : Addr) (cl : List (Str × Addr)) (fp : List Addr) (d : D), PE (X.blk s H scope (compEnvC scope cl C X.env) fp) elt (tNM g b.blk ((wipeC Γ (own.map (·.2))).set i (some (.v d))) t (f d))) (hN : X.N.Nodup)
    (hc : X.calm = true := by rfl) (ok : blkC X.N X.env.scope scope own = true := by kernel_rfl) (hi : X.N[i]? = some x := by rfl) (hm : i ∈ own.map (·.2) := by decide)
    (hx : ∀ (s : Shared) (H : Hp) (C : Addr) (cl : List (Str × Addr)) (fp : List Addr), Loc (X.blk s H scope (compEnvC scope cl C X.env) fp).env.scope x := by intro _ _ _ _ _; first | exact Or.inl rfl | exact Or.inr rfl)
    (hf : ∀ (s : Shared) (H : Hp) (C : Addr) (cl : List (Str × Addr)) (fp : List Addr), (X.blk s H scope (compEnvC scope cl C X.env) fp).fn x = true ∨ (X.blk s H scope (compEnvC scope cl C X.env) fp).env.scope.names.lookup x = some .local := by intro _ _ _ _ _; first | exact .inl rfl | exact .inr rfl)
    (hs : ∀ x, foldedSetIterable iter X.env x = pure x := by intro _; rfl) :
    PE X (.ListComp elt [⟨.Name x py, iter, ifs, 0⟩] scope pos) (tNM g b Γ (.l t) (rx.bind fun xs => (lcC xs c f).bind fun ys => .ok (.list ys))) := by
  obtain ⟨wi, hw, hr⟩ := hS.ex
  have pe := pe_lc (pos := pos) hc hN hw (blkOk_by ok) (g := gName i) (tt := fun σ H Q => ∃ d, tT g b.blk ((wipeC Γ (own.map (·.2))).set i (some (.v d))) (c d) σ H Q) (te := fun σ H Q => ∃ d, tNM g b.blk ((wipeC Γ (own.map (·.2))).set i (some (.v d))) t (f d) σ H Q)
    (fun s H C cl fp => pg_name hN hi (hx s H C cl fp) (hf s H C cl fp)) (fun s H C cl fp => PTs.ex fun d => ht s H C cl fp d) (fun s H C cl fp => PE.ex fun d => he s H C cl fp d) hs
  refine ⟨fun pins s σ H Q I h => pe.run pins s σ H Q I ?_⟩
  obtain ⟨F, h⟩ := h
  exact lc_readsM hm (List.getElem?_eq_some_iff.mp hi).1 I.len hr h
variable {β τ : Type} {Γb : β → Ctx} {Γn : τ → Ctx} {rest : List Stmt} {y : Str} {k : D → Fl β τ} {i2 : Nat} {py2 spos : Pos}
/-- y = [..] of new things, y a plain local -/
theorem b_setMLc (own : List (Str × Nat)) (hS : Src X g b Γ (.Name x py) iter rx)
    (ht : ∀ (s : Shared) (H : Hp) (C : Addr) (cl : List (Str × Addr)) (fp : List Addr) (d : D), PTs (X.blk s H scope (compEnvC scope cl C X.env) fp) ifs (tT g b.blk ((wipeC Γ (own.map (·.2))).set i (some (.v d))) (c d)))
    (he : ∀ (s : Shared) (H : Hp) (C : Addr) (cl : List (Str × Addr)) (fp : List Addr) (d : D), PE (X.blk s H scope (compEnvC scope cl C X.env) fp) elt (tNM g b.blk ((wipeC Γ (own.map (·.2))).set i (some (.v d))) t (f d)))
    (hrest : ∀ d, PSs X rest (tS g b Γb (Γ.set i2 (some (.m ⟨.l t, d, none⟩))) (k d) Γn)) (hN : X.N.Nodup)
    (hy : X.N[i2]? = some y := by rfl) (hyl : X.env.scope.names.lookup y = some .local := by rfl) (hcx : (b.cx[i2]?).join = none := by rfl) (hsw : swapsWith (.ListComp elt [⟨.Name x py, iter, ifs, 0⟩] scope pos) (some (.Name y py2)) spos.line X.env = pure true := by rfl)
    (hc : X.calm = true := by rfl) (ok : blkC X.N X.env.scope scope own = true := by kernel_rfl) (hi : X.N[i]? = some x := by rfl) (hm : i ∈ own.map (·.2) := by decide)
    (hx : ∀ (s : Shared) (H : Hp) (C : Addr) (cl : List (Str × Addr)) (fp : List Addr), Loc (X.blk s H scope (compEnvC scope cl C X.env) fp).env.scope x := by intro _ _ _ _ _; first | exact Or.inl rfl | exact Or.inr rfl)
    (hf : ∀ (s : Shared) (H : Hp) (C : Addr) (cl : List (Str × Addr)) (fp : List Addr), (X.blk s H scope (compEnvC scope cl C X.env) fp).fn x = true ∨ (X.blk s H scope (compEnvC scope cl C X.env) fp).env.scope.names.lookup x = some .local := by intro _ _ _ _ _; first | exact .inl rfl | exact .inr rfl)
    (hs : ∀ x, foldedSetIterable iter X.env x = pure x := by intro _; rfl) :
    PSs X (.Assign [.Name y py2] (.ListComp elt [⟨.Name x py, iter, ifs, 0⟩] scope pos) spos :: rest) (tS g b Γb Γ ((rx.bind fun xs => (lcC xs c f).bind fun ys => .ok (.list ys)).bindF k) Γn) := by
  obtain ⟨wi, hw, hr⟩ := hS.ex
  refine PSs.impI (pss_cons (ps_setLc hc hN hy hyl hsw hw (blkOk_by ok) (g := gName i) (tt := fun σ H Q => ∃ d, tT g b.blk ((wipeC Γ (own.map (·.2))).set i (some (.v d))) (c d) σ H Q) (te := fun σ H Q => ∃ d, tNM g b.blk ((wipeC Γ (own.map (·.2))).set i (some (.v d))) t (f d) σ H Q)
    (fun s H C cl fp => pg_name hN hi (hx s H C cl fp) (hf s H C cl fp)) (fun s H C cl fp => PTs.ex fun d => ht s H C cl fp d) (fun s H C cl fp => PE.ex fun d => he s H C cl fp d) hs) (PSs.ex fun ds => hrest ds)) fun Ds σ H hl h => ?_
  have h2 := tS_bindM (t := .l t) (K := fun v H1 => gName i2 v σ H1 fun σ' H' => ∃ d, tS g b Γb (Γ.set i2 (some (.m ⟨.l t, d, none⟩))) (k d) Γn Ds σ' H') h fun d v fp F1 H1 _ rf1 a1 a2 a3 a4 a6 => ⟨d, F1, rf1.setm a1 a2 a3 a4.1 a4.2 hcx (by rw [hl]; exact (List.getElem?_eq_some_iff.mp hy).1), a6⟩
  obtain ⟨F, h2⟩ := h2
  exact lc_readsM hm (List.getElem?_eq_some_iff.mp hi).1 hl hr h2
def outN : D → Res D
  | .tuple [d] => .ok d
  | _ => .no
theorem OwnsF.none {F' H' : Hp} : ∀ {ms : List Sh} {vs : List V} {zs : List D} {fq : List Addr}, OwnsF g F' H' ms vs zs fq → (∀ s ∈ ms, s = .d) → zs = [] ∧ fq = []
  | _, _, _, _, .nil, _ => ⟨rfl, rfl⟩
  | _, _, _, _, .d k, h => k.none fun s hs => h s (List.mem_cons_of_mem _ hs)
  | _, _, _, _, .m hs _ _, h => absurd (h _ List.mem_cons_self) hs.nd
theorem spM_new {mm : List D → Res D} {Q : VK} {ms : List Sh} {vs : List V} {ds : List D} (en : EncL g F vs ds) (hms : ms.length = vs.length) (hd : ∀ s ∈ ms, s = .d) (p : PostNM g b Γ F t ((mm ds).bind outN) σ H Q) : spM g ms t mm vs H Q (WE b.W σ) := by
  have args : ∀ {ms : List Sh} {vs : List V} {ds : List D}, EncL g F vs ds → ms.length = vs.length → (∀ s ∈ ms, s = .d) → ArgsM g F H ms vs ds [] := fun {ms vs ds} en => by
    induction ms generalizing vs ds with
    | nil =>
      intro h _
      cases en with
      | nil => exact .nil
      | cons _ _ => cases h
    | cons s ms ih =>
      intro h hd
      cases en with
      | nil => cases h
      | cons e k =>
        have := hd s List.mem_cons_self
        subst this
        exact ArgsM.cons (fp := []) (.d e) (ih k (by simpa using h) fun s hs => hd s (List.mem_cons_of_mem _ hs))
  have w0 : wo H [] = H := by
    funext z
    exact wo_out (by simp)
  refine ⟨F, ds, [], p.1.gr.fh, args en hms hd, .nil, fun c hc => (by cases hc), ?_⟩
  rw [w0]
  obtain ⟨rf, p⟩ := p
  cases q : mm ds with
  | no =>
    rw [q] at p
    exact p
  | ex c fs =>
    rw [q] at p
    exact fun cls od F' H' gr ok => p cls od F' H' gr (rf.grow gr).cx ok
  | ok d =>
    rw [q] at p
    intro v F' H' r zs fr fq e gr ow wf nd hf
    subst e
    obtain ⟨e1, e2⟩ := wf.none hd
    subst e1 e2
    rw [List.append_nil] at nd hf
    exact p v fr F' H' gr ow nd fun c hc => ⟨(hf c hc).2, (hf c hc).1⟩
end
/-- a def that gives a new list, as a def that gives a datum -/
theorem spD_ofM {g : Gm} {ms : List Sh} {t : Sh} {m : List D → Res D} {vs : List V} {H : Hp} {Q : VK} {E : XK} (hl : ∀ ds p, m ds = .ok p → ds.length = ms.length) (hd : ∀ s ∈ ms, s = .d) (h : spD g (fun ds => (m ds).bind outN) vs H Q E) (hx : ∀ ds c fs, m ds = .ex c fs → ds.length = ms.length) : spM g ms t m vs H Q E := by
  obtain ⟨F, ds, s, en, h⟩ := h
  cases q : m ds with
  | no =>
    have h : match (m ds).bind outN with
      | .ok d => Gives g F H d Q
      | .ex c fs => ∀ cls od F' H', Grow F H F' H' → ExOk g c fs cls od F' → E cls od H'
      | .no => False := h
    rw [q] at h
    exact h.elim
  | ex c fs =>
    have h : match (m ds).bind outN with
      | .ok d => Gives g F H d Q
      | .ex c fs => ∀ cls od F' H', Grow F H F' H' → ExOk g c fs cls od F' → E cls od H'
      | .no => False := h
    rw [q] at h
    have l1 := hx ds c fs q
    let b : Bs := ⟨F, H, [], fun cls od _ H' => E cls od H', fun _ _ _ _ => False⟩
    have := spM_new (b := b) (Γ := []) (σ := []) (F := F) (H := H) (t := t) (mm := m) (Q := Q) (ms := ms) en (by rw [en.len, l1]) hd (by
      refine ⟨⟨Grow.refl s, .nil, fun i bd e => by simp at e, fun i j a xs ys e => by simp at e, fun i j x v fp _ e => by simp at e⟩, ?_⟩
      rw [q]
      exact fun cls od F' H' gr _ ok => h cls od F' H' gr ok)
    exact this
  | ok p =>
    have h : match (m ds).bind outN with
      | .ok d => Gives g F H d Q
      | .ex c fs => ∀ cls od F' H', Grow F H F' H' → ExOk g c fs cls od F' → E cls od H'
      | .no => False := h
    have l1 := hl ds p q
    let b : Bs := ⟨F, H, [], fun cls od _ H' => E cls od H', fun _ _ _ _ => False⟩
    have := spM_new (b := b) (Γ := []) (σ := []) (F := F) (H := H) (t := t) (mm := m) (Q := Q) (ms := ms) en (by rw [en.len, l1]) hd (by
      refine ⟨⟨Grow.refl s, .nil, fun i bd e => by simp at e, fun i j a xs ys e => by simp at e, fun i j x v fp _ e => by simp at e⟩, ?_⟩
      cases q2 : (m ds).bind outN with
      | no => rw [q2] at h; exact h
      | ex c fs =>
        rw [q2] at h
        exact fun cls od F' H' gr _ ok => h cls od F' H' gr ok
      | ok d =>
        rw [q2] at h
        intro v fp F' H' gr ow nd hf
        refine h v (tin F' H' fp) H' ⟨gr.ff.trans (tin_sub fun c hc => (hf c hc).2), tin_heap gr.fh, gr.hh, fun z e1 e2 => ?_⟩ (ow.frz (tin_sub fun c hc => (hf c hc).2) fun c hc => tin_in hc)
        rw [tin_out fun w => e1 (hf z w).1]
        exact gr.new z e1 e2)
    exact this
def curry2 {β τ : Type} (f : D → List D → Fl β τ) : D × List D → Fl β τ := fun p => f p.1 p.2
@[simp] theorem curry2_mk {β τ : Type} (f : D → List D → Fl β τ) (d : D) (zs : List D) : curry2 f (d, zs) = f d zs := rfl
end Mi
namespace Mi
open L2 PySem PySem.Spec PyProof.Rows
section
variable {X : Cx} {g : Gm} {b : Bs} {Γ : Ctx} {F : Hp} {σ : L2.St} {H : Hp} {e : Expr} {pos p : Pos} {r ra rb : Res D} {x : Str} {tb : List (Str × D)}
theorem TabT.look {T : TabT g X.w X.mg x tb} {a : Addr} {z : Str} (ht : ∀ z, (∃ d u v, tb.lookup z = some d ∧ PySem.W.nsIn g.K a z = some (some u) ∧ RelV v u ∧ ∀ F, Enc g F v d) ∨ (tb.lookup z = none ∧ PySem.W.nsIn g.K a z = some none)) : ∃ o, PySem.W.nsIn g.K a z = some o ∧ o.isSome = (tb.lookup z).isSome := by
  rcases ht z with ⟨d, u, v, h1, h2, _⟩ | ⟨h1, h2⟩
  · exact ⟨_, h2, by rw [h1]; rfl⟩
  · exact ⟨_, h2, by rw [h1]; rfl⟩
end
section
open He
variable {K : PySem.W.Frag}
structure SupF (K : PySem.W.Frag) (C f cc : Addr) (file m : Str) (f2 : Addr) : Prop where
  cell : ∃ oc od osl, K.lookup cc = some ⟨oc, od, .cell (some (.ref C)), osl⟩
  code : ∀ oc od fd osl, K.lookup f = some ⟨oc, od, .func fd, osl⟩ → ∃ cda ocl odd vs osc tf, fd.code = .ref cda ∧ K.lookup cda = some ⟨ocl, odd, .fields vs, osc⟩ ∧ vs[2]? = some (.str file tf)
  cls : ∃ cd, PySem.W.clsIn K C = some cd
  opq : PySem.W.nsIn K cStatics "thirdparty.any" = some none
  mro : PySem.W.mroIn K C (.ref C) = some true
  sup : PySem.W.ks_superIn K C C m = some (some (.ref f2))
  ty : PySem.W.typeIn K (.ref f2) = some (.type "function")
  fn : PySem.W.fnIn K f2 = true
end
theorem SupF.supK {P : Program} {K : PySem.W.Frag} {C f cc f2 : Addr} {file x qual self m : Str} {params : Arguments} {body : List Stmt} {scope : Scope} {fd : FuncData} (E : SupF K C f cc file m f2) (F : FunS K x qual params body scope f cc fd) (hP : SupP P file) (hs : ∃ ar, (params.posonlyargs ++ params.args).head? = some ar ∧ ar.arg = self) : SupK P K f cc C fd.code fd self := by
  obtain ⟨oc, od, kV, doc, pm, an, cdv, ct, osl, rfl, lk, hcd⟩ := F.ex
  obtain ⟨cda, ocl, odd, vs, osc, tf, e1, e2, e3⟩ := E.code _ _ _ _ lk
  exact ⟨⟨_, _, _, lk⟩, hs, ⟨cda, ocl, odd, vs, osc, file, tf, e1, e2, e3, hP.file⟩, hP.top, E.cell, E.cls, E.opq⟩
end Mi
namespace Mi
open L2 PySem PySem.Spec PyProof.Rows
/-- the heap, its lists outside the view known to their objects -/
def fzH (F H : Hp) (h : Heap) : Hp := fun a => match F a with
  | some _ => H a
  | none => match H a with
    | some (.lst xs) => (match h.get? a with
      | some o => some (.frz o (.lst xs))
      | none => some (.lst xs))
    | o => o
def fzF (F H : Hp) (h : Heap) : Hp := fun a => match F a with
  | some o => some o
  | none => match H a with
    | some (.lst xs) => (match h.get? a with
      | some o => some (.frz o (.lst xs))
      | none => none)
    | _ => none
/-- back again -/
def bkH (F H H' : Hp) : Hp := fun a => match F a with
  | some _ => H' a
  | none => match H a with
    | some (.lst xs) => some (.lst xs)
    | _ => H' a
def bkF (F H F' : Hp) : Hp := fun a => match F a with
  | some _ => F' a
  | none => match H a with
    | some (.lst _) => none
    | _ => F' a
section
variable {P : Program} {w : World} {F H F' H' : Hp} {h h' : Heap} {a : Addr}
/-- the cases: a list outside of the view, or not -/
theorem fz_cases (ok : HOk P w H h) (a : Addr) : (∃ xs o, F a = none ∧ H a = some (.lst xs) ∧ h.get? a = some o ∧ fzH F H h a = some (.frz o (.lst xs)) ∧ fzF F H h a = some (.frz o (.lst xs)) ∧ (∀ H', bkH F H H' a = some (.lst xs)) ∧ ∀ F', bkF F H F' a = none) ∨
    ((F a = none → ∀ xs, H a ≠ some (.lst xs)) ∧ fzH F H h a = H a ∧ fzF F H h a = F a ∧ (∀ H', bkH F H H' a = H' a) ∧ ∀ F', bkF F H F' a = F' a) := by
  unfold fzH fzF bkH bkF
  cases e : F a with
  | some o => exact .inr ⟨(fun z => nomatch z), rfl, rfl, fun _ => rfl, fun _ => rfl⟩
  | none =>
    cases e2 : H a with
    | none => exact .inr ⟨(fun _ _ z => nomatch z), rfl, rfl, fun _ => rfl, fun _ => rfl⟩
    | some o =>
      cases o with
      | lst xs =>
        obtain ⟨_, its, n, _, e3⟩ := ok a _ e2
        exact .inl ⟨xs, _, rfl, rfl, e3, by simp only [e3], by simp only [e3], fun _ => rfl, fun _ => rfl⟩
      | _ => exact .inr ⟨(fun _ _ z => nomatch z), rfl, rfl, fun _ => rfl, fun _ => rfl⟩
theorem fz_view : Sub F (fzF F H h) := fun a o e => by
  unfold fzF
  rw [e]
variable {g : Gm}
theorem bk_hok (ok : HOk P w H h) (s : Sub (fzH F H h) H') (ok' : HOk P w H' h') : HOk P w (bkH F H H') h' := fun a o e => by
  have bs : ∀ b u, H' b = some u → (∀ ob xs, u ≠ .frz ob (.lst xs)) → bkH F H H' b = some u := fun b u q n => by
    rcases fz_cases (F := F) ok b with ⟨xs, ob, _, _, _, h1, _⟩ | ⟨_, _, _, h3, _⟩
    · have := s _ _ h1
      rw [q] at this
      cases this
      exact absurd rfl (n _ _)
    · rw [h3]
      exact q
  have st : ∀ u, ObjOk P w H' h' a u → ObjOk P w (bkH F H H') h' a u := fun u x => x.stay (fun _ _ _ q => q) (fun b q => bs b _ q fun _ _ z => nomatch z) fun b xs q => bs b _ q fun _ _ z => nomatch z
  rcases fz_cases (F := F) ok a with ⟨xs, ob, _, _, _, h1, _, h3, _⟩ | ⟨_, _, _, h3, _⟩
  · rw [h3] at e
    cases e
    exact st _ (ok' a _ (s _ _ h1)).2
  · rw [h3] at e
    exact st _ (ok' a _ e)
end
section
variable {X : Cx} {pins : List (Addr × Obj)} {σ : L2.St} {F H H' : Hp} {s s' : Shared}
theorem Inv.bk (I : Inv X pins σ H s) (I' : Inv X pins σ H' s') (sb : Sub (fzH F H s.heap) H') : Inv X pins σ (bkH F H H') s' := by
  have none_ : ∀ b, H' b = none → bkH F H H' b = none := fun b q => by
    rcases fz_cases (F := F) I.hok b with ⟨xs, ob, _, _, _, h1, _⟩ | ⟨_, _, _, h3, _⟩
    · have := sb _ _ h1
      rw [q] at this
      cases this
    · rw [h3]
      exact q
  have same : ∀ b u, H' b = some u → H b = some u → (∀ xs, u ≠ .lst xs) → bkH F H H' b = some u := fun b u q q2 n => by
    rcases fz_cases (F := F) I.hok b with ⟨xs, ob, _, z, _⟩ | ⟨_, _, _, h3, _⟩
    · rw [q2] at z
      cases z
      exact absurd rfl (n _)
    · rw [h3]
      exact q
  refine ⟨I'.ok, I'.os, I'.bare, ⟨I'.base.keep, I'.base.slot, fun b o e n hx => none_ _ (I'.base.free b o e n hx), I'.base.there, fun b xs q => same _ _ (I'.base.tups b xs q) (I.base.tups b xs q) (fun _ z => nomatch z), fun b o u q => same _ _ (I'.base.frzs b o u q) (I.base.frzs b o u q) (fun _ z => nomatch z), fun b ps q => ?_⟩, I'.loc, I'.cell, none_ _ I'.free, fun x c e => none_ _ (I'.freeC x c e), fun p hp => ?_, bk_hok I.hok sb I'.hok, I'.len⟩
  · obtain ⟨m, e⟩ := I'.base.tbls b ps q
    obtain ⟨m2, e2⟩ := I.base.tbls b ps q
    refine ⟨m, ?_⟩
    rcases fz_cases (F := F) I.hok b with ⟨xs, ob, _, z, _⟩ | ⟨_, _, _, h3, _⟩
    · rw [e2] at z
      cases z
    · rw [h3]
      exact e
  · obtain ⟨h1, h2, h3⟩ := I'.pin p hp
    exact ⟨h1, none_ _ h2, h3⟩
end
/-- a value of the view, or a list of one's own, told as a list that is only read -/
def EncZ (g : Gm) (F H : Hp) (v : V) (d : D) : Prop := Enc g F v d ∨ ∃ a us xs, v = .ref a ∧ d = .dict [(.none, .list xs)] ∧ F a = none ∧ H a = some (.lst us) ∧ EncL g F us xs
inductive EncZL (g : Gm) (F H : Hp) : List V → List D → Prop
  | nil : EncZL g F H [] []
  | cons {v : V} {vs : List V} {d : D} {ds : List D} : EncZ g F H v d → EncZL g F H vs ds → EncZL g F H (v :: vs) (d :: ds)
section
variable {g : Gm} {F H F' H' : Hp}
theorem EncZ.grow (gr : Grow F H F' H') {v : V} {d : D} (h : EncZ g F H v d) : EncZ g F' H' v d := by
  rcases h with h | ⟨a, us, xs, h1, h2, h3, h4, h5⟩
  · exact .inl (h.mono gr.ff)
  · exact .inr ⟨a, us, xs, h1, h2, gr.new a (by rw [h4]; simp) h3, gr.hh _ _ h4, h5.mono gr.ff⟩
theorem EncZL.grow (gr : Grow F H F' H') : ∀ {vs : List V} {ds : List D}, EncZL g F H vs ds → EncZL g F' H' vs ds
  | _, _, .nil => .nil
  | _, _, .cons h k => .cons (h.grow gr) (EncZL.grow gr k)
theorem EncZL.len : ∀ {vs : List V} {ds : List D}, EncZL g F H vs ds → vs.length = ds.length
  | _, _, .nil => rfl
  | _, _, .cons _ k => congrArg (· + 1) (EncZL.len k)
theorem EncZ.to {P : Program} {w : World} {h : Heap} (ok : HOk P w H h) {v : V} {d : D} (z : EncZ g F H v d) : Enc g (fzF F H h) v d := by
  rcases z with z | ⟨a, us, xs, rfl, rfl, h3, h4, h5⟩
  · exact z.mono fz_view
  · rcases fz_cases (F := F) ok a with ⟨ys, ob, _, q, _, _, h2, _⟩ | ⟨q, _⟩
    · rw [h4] at q
      cases q
      exact .dct (.scr (.inl (.inr ⟨_, h2⟩)) (h5.mono fz_view))
    · exact absurd h4 (q h3 us)
theorem EncZL.to {P : Program} {w : World} {h : Heap} (ok : HOk P w H h) : ∀ {vs : List V} {ds : List D}, EncZL g F H vs ds → EncL g (fzF F H h) vs ds
  | _, _, .nil => .nil
  | _, _, .cons z k => .cons (z.to ok) (EncZL.to ok k)
end
section
variable {X : Cx} {g : Gm} {b : Bs} {Γ : Ctx} {F : Hp} {σ : L2.St} {H : Hp} {e : Expr} {es : List Expr} {pos p : Pos} {r ra : Res D} {rs : Res (List D)} {x : Str}
def PostZL (g : Gm) (b : Bs) (Γ : Ctx) (F : Hp) (r : Res (List D)) (σ : L2.St) (H : Hp) (Q : List V → Hp → Prop) : Prop :=
  Rf g b Γ F σ H ∧ match r with
  | .ok ds => ∀ vs F' H', Grow F H F' H' → EncZL g F' H' vs ds → Q vs H'
  | .ex c fs => ∀ cls od F' H', Grow F H F' H' → Rf g b b.cx F' σ H' → ExOk g c fs cls od F' → b.W cls od σ H'
  | .no => False
theorem PostZL.grow {r : Res (List D)} {Q : List V → Hp → Prop} {F' H' : Hp} (p : PostZL g b Γ F r σ H Q) (gr : Grow F H F' H') : PostZL g b Γ F' r σ H' Q := by
  obtain ⟨rf, p⟩ := p
  refine ⟨rf.grow gr, ?_⟩
  cases r with
  | ok d => exact fun v F2 H2 a => p v F2 H2 (gr.trans a)
  | ex c fs => exact ex_go gr p
  | no => exact p
end
section
variable {X : Cx} {g : Gm} {b : Bs} {Γ Γ' : Ctx} {β τ : Type} {Γb : β → Ctx} {Γn : τ → Ctx} {rest : List Stmt} {r : Fl β τ}
/-- the context written out: chains of stores are dear to look into -/
theorem b_norm (h : PSs X rest (tS g b Γb Γ' r Γn)) (e : Γ = Γ' := by rfl) : PSs X rest (tS g b Γb Γ r Γn) := e ▸ h
end
section
variable {X : Cx} {g : Gm} {b : Bs} {Γ : Ctx} {β τ : Type} {Γb : β → Ctx} {Γn : τ → Ctx} {rest : List Stmt} {x : Str} {p pos : Pos} {o : OD}
/-- return x, x a thing of one's own (the parameters are data) -/
theorem b_retMV {i : Nat} {ms : List Sh} {vs : List V} {sr : Sh} (hΓ : Γ[i]? = some (some (.m o)) := by rfl) (hs : o.s = sr := by rfl) (hN : X.N[i]? = some x := by rfl) (hv : Vis X.env.scope x := by first | exact Or.inl rfl | exact Or.inr (Or.inl rfl) | exact Or.inr (Or.inr rfl))
    (hd : (x == ("__debug__" : Str)) = false := by decide) (hcd : (x == ("__classdict__" : Str)) = false := by decide) (hz : FinC Γ ms vs 0 [] := by repeat (first | exact FinC.nil | apply FinC.d)) (hrk : b.rk = rkM g b.H0 ms vs sr := by rfl) :
    PSs X (.Return (some (.Name x p)) pos :: rest) (tS g b Γb Γ (.rt (.tuple [o.x]) : Fl β τ) Γn) := PSs.imp (pss_cons (ps_ret (pe_var hN hv hd hcd)) pss_never) fun Ds σ H h => by
  obtain ⟨F, rf, k⟩ := h
  obtain ⟨ov, h1, h2⟩ := rf.at_ i _ hΓ
  cases ov with
  | none => exact h2.elim
  | some v =>
    refine ⟨v, h1, ?_⟩
    obtain ⟨fp, k1, k2, k3⟩ := h2.mOf
    obtain ⟨fq, q1, q2, q3, q4⟩ := hz.owns rf
    have e : fq = [] := by
      have : ∀ {ms : List Sh} {vs : List V} {fq : List Addr}, OwnsF g F H ms vs [] fq → fq = [] := fun {ms vs fq} w => by
        induction ms generalizing vs fq with
        | nil => cases w; rfl
        | cons m ms ih =>
          cases w with
          | d w => exact ih w
      exact this q1
    subst e
    refine k v F H rf.gr ?_
    rw [hrk]
    subst hs
    refine ⟨o.x, [], fp, [], rfl, Own.noO (oo := o.o) k1, q1, by rw [List.append_nil]; exact k2, fun c hc => ?_⟩
    rw [List.append_nil] at hc
    exact k3 c hc
end
end Mi
namespace Mi
open L2 PySem PySem.Spec PyProof.Rows
end Mi
namespace Mi
open PySem PySem.Spec PyProof.Rows L2 PySem.W
section
variable {X : Cx} {g : Gm} {b : Bs} {Γ : Ctx} {F : Hp} {σ : L2.St} {H : Hp} {e es e1 e2 : Expr} {pos p : Pos} {r ra rb ro : Res D} {x : Str} {t : Sh}
/-- o.m() gives a new list -/
theorem nm_meth0 {c m : Str} {k j : Nat} {mm : List D → Res D} {apos : Pos} {pl : Sem Bool} (T : MethM X.prog X.w g X.mg X.base c m k [.d] t mm) (co : CisOk g) (hr : Room j X.A) (tk : Takes X b.W) (ho : PE X e1 (tE g b Γ ro)) (hj : k ≤ j := by decide)
    (ht : eval (.Call (.Attribute e1 m apos) [] [] pos) X.env = (do
      let ov ← eval e1 X.env
      standAt apos.atName
      let (f, first) ← holding [ov] (getMethod ov m pl)
      callWith pos f first (backTo pos (starEach [] X.env)) (backToKw pos (keywordEach [] X.env))) := by first | exact ev_meth rfl rfl rfl rfl rfl | rfl) (hK : X.K = g.K := by rfl) :
    PE X (.Call (.Attribute e1 m apos) [] [] pos) (tNM g b Γ t (ro.bind fun o => if isC c o = true then (mm [o]).bind outN else .no)) := by
  obtain ⟨i, fa, hi, hm, Fn, hf, hx⟩ := T.ex
  refine ⟨fun pins s σ H Q I h => ?_⟩
  obtain ⟨F, h⟩ := h
  have h0 : tE g b Γ ro σ H fun v H1 => ∃ d F1, PostNM g b Γ F1 t (if isC c d = true then (mm [d]).bind outN else .no) σ H1 Q ∧ Enc g F1 v d := by
    refine ⟨F, h.1, ?_⟩
    cases ro with
    | no => exact h.2
    | ex cn fs => exact h.2
    | ok d => exact fun v F' H' gr en => ⟨d, F', PostNM.grow h gr, en⟩
  refine PySem.W.methodCall_KW (pl := pl) (thn (ho.run pins s σ H _ I h0) fun u s1 ⟨v, H1, I1, rv, d, F1, p1, en⟩ => ?_) ht
  by_cases q : isC c d = true
  · rw [if_pos q] at p1
    obtain ⟨a, dx, i', ns, vs, kvs, rfl, rfl, hi', ef, ob⟩ := en.isC q
    rw [hi] at hi'
    cases hi'
    cases rv
    refine meth_go hK (co _ _ hi) I1 (p1.1.gr.fh.objAt ob) hm hf hx ?_
    rw [← hK] at Fn hm
    refine PySem.W.callWith_K0 (first := [.ref a]) I1.kIn hm.kp ?_
    exact run_fnRS (E := WE b.W) (us := [.ref a]) (vs := [.ref a]) Fn (hr.mono hj) (passAt tk σ) I1 (.cons rfl .nil) (spM_new (.cons en .nil) rfl (by simp) p1)
  · rw [if_neg q] at p1
    exact p1.2.elim
variable {β τ : Type} {Γb : β → Ctx} {Γn : τ → Ctx} {rest : List Stmt}
end
section
variable {P : Program} {w : World} {g : Gm} {mg : Str → Option Value} {base : Heap} {name qual : Str} {params : Arguments} {body : List Stmt} {scope : Scope} {dvs : List V} {kws : List (Str × V)} {f cc : Addr} {fd : FuncData} {N ps : List Str} {k : Nat}
/-- every parameter of such a def is written -/
theorem FunK.bindsN {K : PySem.W.Frag} {Dc : Addr} (F : FunK K name qual params body scope kws f cc Dc fd)
    (h : ∀ (kV doc pm : Value) (an : Option Addr) (cdv ct : Value) (us : List Value), us.length = ps.length → bindArgs (PySem.W.fnX name qual params body scope [(ccl, cc)] .none kV doc pm an cdv ct) ⟨us, []⟩ = pure (ps.zip us)) : Binds K fd ps [] := by
  obtain ⟨oc, od, kV, doc, pm, an, cdv, ct, osl, rfl, lk, hcd, hK⟩ := F.ex
  exact .all (h kV doc pm an cdv ct)
end
end Mi
namespace Mi
open L2 PySem PySem.Spec PyProof.Rows
end Mi
namespace Mi
open L2 PySem PySem.Spec PyProof.Rows
end Mi
namespace Mi
open L2 PySem PySem.Spec PyProof.Rows
theorem PT.ex {α : Sort _} {X : Cx} {e : Expr} {t : α → TT} (h : ∀ a, PT X e (t a)) : PT X e (fun σ H Q => ∃ a, t a σ H Q) := ⟨fun pins s σ H Q I ⟨a, q⟩ => (h a).run pins s σ H Q I q⟩
def whileF {β τ : Type} (c : τ → Res Bool) (f : τ → Fl τ τ) : Nat → τ → Fl β τ
  | 0, _ => .no
  | n + 1, t => match c t with
    | .ok true => (match f t with
      | .nx t' => whileF c f n t'
      | .ct t' => whileF c f n t'
      | .bk t' => .nx t'
      | .rt d => .rt d
      | .ex x fs => .ex x fs
      | .no => .no)
    | .ok false => .nx t
    | .ex x fs => .ex x fs
    | .no => .no
/-- how many turns a loop may take: more than any of these programs takes -/
def fuelW : Nat := 1000000000
section
variable {X : Cx} {g : Gm} {b : Bs} {Γ : Ctx} {F : Hp} {σ : L2.St} {H : Hp} {test : Expr} {pos : Pos}
variable {β τ υ : Type} {Γb : β → Ctx} {Γn : υ → Ctx} {rest body : List Stmt}
/-- while test: body; rest -/
theorem b_while {n : Nat} {t0 : τ} {Γh : τ → Ctx} {c : τ → Res Bool} {f : τ → Fl τ τ} {k : τ → Fl β υ}
    (hc : ∀ (F1 : Hp) (t : τ), PT X test (tT g (b.at_ F1) (Γh t) (c t))) (hbody : ∀ (F1 : Hp) (t : τ), PSs X body (tS g (b.at_ F1) Γh (Γh t) (f t) Γh)) (hrest : ∀ t, PSs X rest (tS g b Γb (Γh t) (k t) Γn))
    (hp : PassesOwn (model X.prog X.w) X.A X.env X.xe)
    (h0 : Le (Γh t0) Γ := by repeat (first | exact Le.nil | apply Le.same | apply Le.none)) (hcx : ∀ t, Le b.cx (Γh t) := by intro _; repeat (first | exact Le.nil | apply Le.same | apply Le.none)) :
    PSs X (.While test body [] pos :: rest) (tS g b Γb Γ ((whileF c f n t0).bind k) Γn) := by
  refine PSs.imp (pss_cons (ps_while hp (PT.ex fun F1 => PT.ex fun t => hc F1 t) (PSs.ex fun F1 => PSs.ex fun t => hbody F1 t)) (PSs.ex fun t => hrest t)) fun Ds σ H h => ?_
  obtain ⟨F, rf, h⟩ := h
  have h : EndS g b Γb Γn ((whileF c f n t0).bind k) Ds := h
  refine ⟨fun m σ' H' => ∃ t F', Rf g (b.at_ F) (Γh t) F' σ' H' ∧ (whileF c f m t : Fl β τ) = whileF c f n t0, ⟨n, t0, F, (rf.down (F1 := F)).weak h0 (hcx t0), rfl⟩, ?_⟩
  rintro m σ' H' ⟨t, F', r1, eL⟩
  cases m with
  | zero =>
    have e2 : (.no : Fl β τ) = whileF c f n t0 := eL
    rw [← e2] at h
    exact h.elim
  | succ m =>
    rw [whileF] at eL
    refine ⟨F, t, F', r1, ?_⟩
    cases ec : c t with
    | ok k1 =>
      rw [ec] at eL
      cases k1 with
      | true =>
        intro F2 H2 gr
        refine ⟨fun σ3 H3 => ∃ t F', Rf g (b.at_ F) (Γh t) F' σ3 H3 ∧ (whileF c f m t : Fl β τ) = whileF c f n t0, fun σ3 H3 q => ⟨m, Nat.lt_succ_self m, q⟩, F, t, F2, r1.grow gr, ?_⟩
        cases ef : f t with
        | nx t' =>
          rw [ef] at eL
          exact fun F3 σ3 H3 r3 => ⟨t', F3, r3, eL⟩
        | ct t' =>
          rw [ef] at eL
          exact fun F3 σ3 H3 r3 => ⟨t', F3, r3, eL⟩
        | bk t' =>
          rw [ef] at eL
          have e2 : (.nx t' : Fl β τ) = whileF c f n t0 := eL
          rw [← e2] at h
          exact fun F3 σ3 H3 r3 => ⟨t', F3, r3.up rf.gr, h⟩
        | rt d2 =>
          rw [ef] at eL
          have e2 : (.rt d2 : Fl β τ) = whileF c f n t0 := eL
          rw [← e2] at h
          exact fun v F3 H3 gr3 en3 => h v F3 H3 (rf.gr.base gr3) en3
        | ex x fs =>
          rw [ef] at eL
          have e2 : (.ex x fs : Fl β τ) = whileF c f n t0 := eL
          rw [← e2] at h
          exact fun cls od F3 σ3 H3 r3 ok => h cls od F3 σ3 H3 (r3.up rf.gr) ok
        | no =>
          rw [ef] at eL
          have e2 : (.no : Fl β τ) = whileF c f n t0 := eL
          rw [← e2] at h
          exact h.elim
      | false =>
        have e2 : (.nx t : Fl β τ) = whileF c f n t0 := eL
        rw [← e2] at h
        exact fun F2 H2 gr => ⟨t, F2, (r1.grow gr).up rf.gr, h⟩
    | ex x fs =>
      rw [ec] at eL
      have e2 : (.ex x fs : Fl β τ) = whileF c f n t0 := eL
      rw [← e2] at h
      exact fun cls od F2 H2 gr r2 ok => h cls od F2 σ' H2 (r2.up rf.gr) ok
    | no =>
      rw [ec] at eL
      have e2 : (.no : Fl β τ) = whileF c f n t0 := eL
      rw [← e2] at h
      exact h.elim
end
end Mi
namespace Mi
open L2 PySem PySem.Spec PyProof.Rows
section
variable {X : Cx} {g : Gm} {b : Bs} {Γ : Ctx} {F : Hp} {σ : L2.St} {H : Hp} {e e1 e2 : Expr} {es : List Expr} {pos p : Pos} {r ra rb ro : Res D} {rs : Res (List D)} {rp : Res (D × (D → D))} {x : Str} {o : OD} {t s : Sh} {β τ υ : Type} {Γb : β → Ctx} {Γn : τ → Ctx} {rest body : List Stmt} {us : Us} {rc : Res (D × List D)}
def augA : D → D → Option D
  | .int i, .int j => some (.int (i + j))
  | _, _ => none
theorem b_augG {op : Operator} {f : Int → Int → Int} {fD : D → D → Option D} (ho : PIp X op (ipI f)) (hf2 : ∀ d y z, fD d y = some z → ∃ i j, d = .int i ∧ y = .int j ∧ z = .int (f i j)) {i : Nat} {d : D} {k : D → Fl β τ} {py : Pos} (he : PE X e (tE g b Γ ra)) (hrest : ∀ z, PSs X rest (tS g b Γb (Γ.set i (some (.v z))) (k z) Γn)) (hN : X.N.Nodup)
    (hΓ : Γ[i]? = some (some (.v d)) := by rfl) (hc : (b.cx[i]?).join = none := by rfl) (hi : X.N[i]? = some x := by rfl)
    (hx : Loc X.env.scope x := by first | exact Or.inl rfl | exact Or.inr rfl) (hf : X.fn x = true ∨ X.env.scope.names.lookup x = some .local := by first | exact .inl rfl | exact .inr rfl) :
    PSs X (.AugAssign (.Name x py) op e pos :: rest) (tS g b Γb Γ (ra.bindF fun y => (ofO (fD d y)).bindF k) Γn) := by
  refine PSs.impI (pss_cons (ps_aug hN hi hx he ho hf) (PSs.ex fun z => hrest z)) fun Ds σ H hl h => ?_
  obtain ⟨F, rf, h⟩ := h
  obtain ⟨ov, h1, h2⟩ := rf.at_ i _ hΓ
  cases ov with
  | none => exact h2.elim
  | some v =>
    refine ⟨v, h1, ?_⟩
    refine tS_bindG rf h fun y w F1 H1 ey gr rf1 en k1 => ?_
    have k1 : EndS g b Γb Γn ((ofO (fD d y)).bindF k) Ds := k1
    cases q : fD d y with
    | none =>
      rw [q] at k1
      exact k1.elim
    | some z =>
      rw [q] at k1
      obtain ⟨i1, j1, rfl, rfl, rfl⟩ := hf2 _ _ _ q
      have h2 : Enc g F v (.int i1) := h2
      cases h2
      cases en
      exact ⟨i1, j1, rfl, rfl, .int (f i1 j1), F1, rf1.setv (.int _) hc (by rw [hl]; exact (List.getElem?_eq_some_iff.mp hi).1), k1⟩
theorem b_augA {i : Nat} {d : D} {k : D → Fl β τ} {py : Pos} (he : PE X e (tE g b Γ ra)) (hrest : ∀ z, PSs X rest (tS g b Γb (Γ.set i (some (.v z))) (k z) Γn)) (hN : X.N.Nodup)
    (hΓ : Γ[i]? = some (some (.v d)) := by rfl) (hc : (b.cx[i]?).join = none := by rfl) (hi : X.N[i]? = some x := by rfl)
    (hx : Loc X.env.scope x := by first | exact Or.inl rfl | exact Or.inr rfl) (hf : X.fn x = true ∨ X.env.scope.names.lookup x = some .local := by first | exact .inl rfl | exact .inr rfl) :
    PSs X (.AugAssign (.Name x py) .Add e pos :: rest) (tS g b Γb Γ (ra.bindF fun y => (ofO (augA d y)).bindF k) Γn) :=
  b_augG ip_add (fun d y z q => by
    unfold augA at q
    split at q
    · cases q
      exact ⟨_, _, rfl, rfl, rfl⟩
    · cases q) he hrest hN hΓ hc hi hx hf
theorem OwnL.unapp {F H : Hp} : ∀ {t : Sh} {vs : List V} {xs : List D} {y : D} {fp : List Addr}, OwnL g F H t vs (xs ++ [y]) fp → ∃ vs' v f1 f2, vs = vs' ++ [v] ∧ fp = f1 ++ f2 ∧ OwnL g F H t vs' xs f1 ∧ Own g F H v ⟨t, y, none⟩ f2
  | t, _, [], y, _, .cons (v := v) h .nil => ⟨[], v, [], _, rfl, by simp, .nil, h⟩
  | t, _, x :: xs, y, _, .cons (v := v) (fp := fp) h k => by
    obtain ⟨vs', w, f1, f2, e1, e2, k1, k2⟩ := OwnL.unapp (xs := xs) k
    exact ⟨v :: vs', w, fp ++ f1, f2, by rw [e1]; rfl, by rw [e2, List.append_assoc], .cons h k1, k2⟩
def popU (p : D × (D → D)) : Option (D × D) := match p.1 with
  | .list ys => (ys.getLast?).map fun y => (y, p.2 (.list ys.dropLast))
  | _ => none
theorem popU_some {p : D × (D → D)} {q : D × D} (h : popU p = some q) : ∃ ys y, p.1 = .list (ys ++ [y]) ∧ q = (y, p.2 (.list ys)) := by
  unfold popU at h
  split at h
  · rename_i ys e
    cases q1 : ys.getLast? with
    | none =>
      rw [q1] at h
      cases h
    | some y =>
      rw [q1] at h
      cases h
      have ne : ys ≠ [] := fun z => by rw [z] at q1; cases q1
      have e2 : ys.dropLast ++ [y] = ys := by
        have e3 := List.dropLast_concat_getLast ne
        rw [List.getLast?_eq_some_getLast ne] at q1
        rw [← Option.some.inj q1]
        exact e3
      exact ⟨ys.dropLast, y, by rw [e, e2], rfl⟩
  · cases h
theorem e_popP {i : Nat} {p2 p3 : Pos} (hp : PE X e1 (tP g b Γ i o (.l t) rp)) (hΓ : Γ[i]? = some (some (.m o)) := by rfl) (hc : (b.cx[i]?).join = none := by rfl)
    (hbase : attributeBase e1 "pop" X.env (eval e1 X.env) = eval e1 X.env := by first | exact base_plain rfl | rfl) (hline : (p2.endLine == p3.line) = true := by rfl) :
    PE X (.Call (.Attribute e1 "pop" p2) [] [] p3) (tC g b Γ [some (i, o)] (rp.bind fun p => (ofO (popU p)).bind fun q => .ok (q.1, [q.2]))) := by
  refine PE.imp (pe_bm0 PySem.F.plainAttrs_list PySem.F.slot_list_pop PySem.F.type_list_pop mt_pop hp hbase hline) fun σ H Q h => ?_
  obtain ⟨F, rf, h⟩ := h
  refine ⟨F, rf, ?_⟩
  cases rp with
  | no => exact h
  | ex c fs => exact fun cls od F' H' gr r1 ok => h cls od F' H' r1 ok
  | ok p =>
    intro v v0 fp F1 H1 g1 hs0 ho nd zp
    have h : match ((ofO (popU p)).bind fun q => (.ok (q.1, [q.2]) : Res (D × List D))) with
      | .ok (d, zs) => ∀ v F' H', Sub F F' → Rf g b (setMs Γ [some (i, o)] zs) F' σ H' → Enc g F' v d → Q v H'
      | .ex c fs => ∀ cls od F' H', Rf g b b.cx F' σ H' → ExOk g c fs cls od F' → b.W cls od σ H'
      | .no => False := h
    cases q0 : popU p with
    | none =>
      rw [q0] at h
      exact h.elim
    | some q =>
      rw [q0] at h
      obtain ⟨ys, y, e1, rfl⟩ := popU_some q0
      obtain ⟨p1, up⟩ := p
      have e1 : p1 = .list (ys ++ [y]) := e1
      subst e1
      have h : ∀ v F' H', Sub F F' → Rf g b (Γ.set i (some (.m ⟨o.s, up (.list ys), o.o⟩))) F' σ H' → Enc g F' v y → Q v H' := h
      obtain ⟨a, ws, fr, rfl, ha, hap, hk, hfr, ndr, cap1⟩ := zp fp ho nd (ys ++ [y]) rfl t rfl
      obtain ⟨ws', w, f1, f2, rfl, rfl, k1, k2⟩ := hk.unapp
      have rf1 := rf.grow g1
      obtain ⟨fp0, o1, o2, o3⟩ := rf1.ownM hΓ hs0
      have ef := o1.uniq ho fun _ _ => rfl
      subst ef
      have nda := List.nodup_cons.mp ndr
      have nd12 := List.nodup_append.mp nda.2
      have na1 : a ∉ f1 := fun z => nda.1 (List.mem_append_left _ z)
      have na2 : a ∉ f2 := fun z => nda.1 (List.mem_append_right _ z)
      refine ⟨.inl ⟨rfl, _, SqL.of ha⟩, a, ws' ++ [w], w, rfl, rfl, ha, by simp, ?_⟩
      rw [List.dropLast_concat]
      -- the tree without the part, where the part is no list any more
      obtain ⟨Hx, hHx⟩ : ∃ Hx : Hp, Hx = fun c => if c ∈ f2 then some (.tup []) else upd H1 a (.lst ws') c := ⟨_, rfl⟩
      have x_out : ∀ c, c ∉ f2 → Hx c = upd H1 a (.lst ws') c := fun c hc => by rw [hHx]; exact if_neg hc
      have x_in : ∀ c, c ∈ f2 → Hx c = some (.tup []) := fun c hc => by rw [hHx]; exact if_pos hc
      have k1' : OwnL g F1 Hx t ws' ys f1 := k1.keep (Sub.refl _) fun c hc => by
        rw [x_out c fun z => nd12.2.2 c hc c z rfl, upd_ne fun z => na1 (by rw [← z]; exact hc)]
      obtain ⟨fp2, m1, m2, m3⟩ := cap1 F1 Hx ws' ys f1 (Sub.refl _) (by rw [x_out a na2, upd_same]) k1' (List.nodup_cons.mpr ⟨na1, nd12.1⟩) (fun c hc => .inl (List.mem_append_left _ hc)) fun c hc n1 n2 => by
        rw [x_out c fun z => n2 (List.mem_append_right _ z), upd_ne n1]
      have n2 : ∀ c ∈ fp2, c ∉ f2 := fun c hc z => by
        obtain ⟨us, q⟩ := m1.lst c hc
        rw [x_in c z] at q
        cases us <;> cases q
      have m1' : Own g F1 (upd H1 a (.lst ws')) v0 ⟨o.s, up (.list ys), o.o⟩ fp2 := m1.keep (Sub.refl _) fun c hc => (x_out c (n2 c hc)).symm
      have rf2 := rf1.part (up := up) (fr2 := f1) (ys2 := ys) hΓ hs0 ho nd hc hap (fun c hc => .inr (hfr c (List.mem_append_left _ hc))) ⟨fp2, m1', m2, m3⟩
      have k2' : Own g F1 (upd H1 a (.lst ws')) w ⟨t, y, none⟩ f2 := k2.keep (Sub.refl _) fun c hc => upd_ne fun z => na2 (by rw [← z]; exact hc)
      have hin2 : ∀ c ∈ f2, c ∈ fp0 := fun c hc => hfr c (List.mem_append_right _ hc)
      have hf2 : ∀ c ∈ f2, F1 c = none ∧ b.H0 c = none ∧ ∃ vs, upd H1 a (.lst ws') c = some (mo vs) ∧ ∀ C d fs, vs = .i C d fs → F1 d ≠ none := fun c hc => ⟨(o3 c (hin2 c hc)).1, (o3 c (hin2 c hc)).2, k2'.lst2 c hc⟩
      have rf3 := rf2.view (fp := f2) hf2 rf2.le fun j bd ej => .inl ⟨ej, fun zs hz c hcf => ?_, fun xo u fq hz hu hown c hcf => ?_⟩
      · exact h w _ _ (g1.ff.trans (tin_sub fun c hc => (hf2 c hc).1)) rf3 (k2'.frz (tin_sub fun c hc => (hf2 c hc).1) fun c hc => tin_in hc)
      · subst hz
        rcases set_get ej with ⟨_, e2, _⟩ | ⟨nj, e2⟩
        · cases e2
        · exact (rf1.sepm i j o v0 fp0 (Ne.symm nj) hΓ hs0 ho c (hin2 c hcf)).1 zs e2
      · subst hz
        rcases set_get ej with ⟨ei, e2, _⟩ | ⟨nj, e2⟩
        · subst ei
          cases e2
          rw [hs0] at hu
          cases hu
          have := hown.uniq m1' fun _ _ => rfl
          rw [this]
          exact fun z => n2 c z hcf
        · have sep := rf1.sepm i j o v0 fp0 (Ne.symm nj) hΓ hs0 ho
          obtain ⟨fq1, w1, _, _⟩ := rf1.ownM e2 hu
          have naq : a ∉ fq1 := (sep a hap).2 xo u fq1 e2 hu w1
          have w2 : Own g F1 (upd H1 a (.lst ws')) u xo fq1 := w1.keep (Sub.refl _) fun c hc => upd_ne fun z => naq (by rw [← z]; exact hc)
          rw [hown.uniq w2 fun _ _ => rfl]
          exact (sep c (hin2 c hcf)).2 xo u fq1 e2 hu w1
end
end Mi
namespace Mi
open L2 PySem PySem.Spec PyProof.Rows
end Mi
namespace Mi
open L2 PySem PySem.Spec PyProof.Rows
def keyD : D → Option Key
  | .int i => some (.inl i)
  | .str x => some (.inr x)
  | _ => none
def lookK (kvs : List (D × D)) (k : Key) : Option D := (kvs.find? fun p => decide (keyD p.1 = some k)).map (·.2)
def putDK (kvs : List (D × D)) (kd : D) (k : Key) (d : D) : List (D × D) := if (kvs.any fun p => decide (keyD p.1 = some k)) = true then kvs.map (fun p => if keyD p.1 = some k then (p.1, d) else p) else kvs ++ [(kd, d)]
section
variable {g : Gm} {F H : Hp}
theorem EncP.split : ∀ {ps : List (Key × V)} {kvs : List (D × D)}, EncP g F ps kvs → (ps = [] ∧ kvs = []) ∨ ∃ kd κ v d qs kws, ps = (κ, v) :: qs ∧ kvs = (kd, d) :: kws ∧ keyD kd = some κ ∧ Enc g F v d ∧ EncP g F qs kws
  | _, _, .nil => .inl ⟨rfl, rfl⟩
  | _, _, .consI (i := i) h k => .inr ⟨.int i, .inl i, _, _, _, _, rfl, rfl, rfl, h, k⟩
  | _, _, .consS (x := x) h k => .inr ⟨.str x, .inr x, _, _, _, _, rfl, rfl, rfl, h, k⟩
theorem EncP.cons {kd : D} {κ : Key} {v : V} {d : D} {ps : List (Key × V)} {kvs : List (D × D)} (e : keyD kd = some κ) (h : Enc g F v d) (k : EncP g F ps kvs) : EncP g F ((κ, v) :: ps) ((kd, d) :: kvs) := by
  cases kd with
  | int i => cases e; exact .consI h k
  | str x => cases e; exact .consS h k
  | _ => cases e
theorem some_dec {a b : Key} : decide (some a = some b) = decide (a = b) := decide_eq_decide.mpr ⟨Option.some.inj, congrArg some⟩
theorem EncP.look (k : Key) : ∀ {ps : List (Key × V)} {kvs : List (D × D)}, EncP g F ps kvs → (∃ d v, lookK kvs k = some d ∧ valV ps k = some v ∧ Enc g F v d) ∨ (lookK kvs k = none ∧ valV ps k = none) := by
  intro ps
  induction ps with
  | nil =>
    intro kvs h
    rcases h.split with ⟨_, rfl⟩ | ⟨_, _, _, _, _, _, z, _⟩
    · exact .inr ⟨rfl, rfl⟩
    · cases z
  | cons p ps ih =>
    intro kvs h
    rcases h.split with ⟨z, _⟩ | ⟨kd, κ, v, d, qs, kws, e1, rfl, e3, e4, e5⟩
    · cases z
    · cases e1
      unfold lookK valV
      rw [List.find?_cons, List.find?_cons, e3, some_dec]
      by_cases q : κ = k
      · rw [decide_eq_true q]
        exact .inl ⟨d, v, rfl, rfl, e4⟩
      · rw [decide_eq_false q]
        exact ih e5
theorem EncP.any (k : Key) : ∀ {ps : List (Key × V)} {kvs : List (D × D)}, EncP g F ps kvs → (ps.any fun kv => decide (kv.1 = k)) = (kvs.any fun p => decide (keyD p.1 = some k)) := by
  intro ps
  induction ps with
  | nil =>
    intro kvs h
    rcases h.split with ⟨_, rfl⟩ | ⟨_, _, _, _, _, _, z, _⟩
    · rfl
    · cases z
  | cons p ps ih =>
    intro kvs h
    rcases h.split with ⟨z, _⟩ | ⟨kd, κ, v, d, qs, kws, e1, rfl, e3, e4, e5⟩
    · cases z
    · cases e1
      rw [List.any_cons, List.any_cons, ih e5, e3, some_dec]
theorem EncP.upd (k : Key) {w : V} {y : D} (hw : Enc g F w y) : ∀ {ps : List (Key × V)} {kvs : List (D × D)}, EncP g F ps kvs → EncP g F (ps.map fun kv => if kv.1 = k then (kv.1, w) else kv) (kvs.map fun p => if keyD p.1 = some k then (p.1, y) else p) := by
  intro ps
  induction ps with
  | nil =>
    intro kvs h
    rcases h.split with ⟨_, rfl⟩ | ⟨_, _, _, _, _, _, z, _⟩
    · exact .nil
    · cases z
  | cons p ps ih =>
    intro kvs h
    rcases h.split with ⟨z, _⟩ | ⟨kd, κ, v, d, qs, kws, e1, rfl, e3, e4, e5⟩
    · cases z
    · cases e1
      rw [List.map_cons, List.map_cons]
      by_cases q : κ = k
      · rw [if_pos q, if_pos (by rw [e3, q])]
        exact .cons e3 hw (ih e5)
      · rw [if_neg q, if_neg (by rw [e3]; exact fun z => q (Option.some.inj z))]
        exact .cons e3 e4 (ih e5)
theorem EncP.app : ∀ {ps qs : List (Key × V)} {kvs kws : List (D × D)}, EncP g F ps kvs → EncP g F qs kws → EncP g F (ps ++ qs) (kvs ++ kws)
  | _, _, _, _, .nil, q => q
  | _, _, _, _, .consI h k, q => .consI h (EncP.app k q)
  | _, _, _, _, .consS h k, q => .consS h (EncP.app k q)
theorem EncP.put {k : Key} {kd : D} {w : V} {y : D} (e : keyD kd = some k) (hw : Enc g F w y) {ps : List (Key × V)} {kvs : List (D × D)} (h : EncP g F ps kvs) : EncP g F (putK ps k w) (putDK kvs kd k y) := by
  unfold putK putDK
  rw [h.any k]
  split
  · exact h.upd k hw
  · exact h.app (.cons e hw .nil)
theorem EncP.len : ∀ {ps : List (Key × V)} {kvs : List (D × D)}, EncP g F ps kvs → ps.length = kvs.length
  | _, _, .nil => rfl
  | _, _, .consI _ k => congrArg (· + 1) (EncP.len k)
  | _, _, .consS _ k => congrArg (· + 1) (EncP.len k)
end
end Mi
namespace Mi
open L2 PySem PySem.Spec PyProof.Rows
end Mi
namespace Mi
open L2 PySem PySem.Spec PyProof.Rows
end Mi
namespace Mi
open L2 PySem PySem.Spec PyProof.Rows
end Mi
namespace Mi
open L2 PySem PySem.Spec PyProof.Rows
/-- what such a def promises -/
def spK (g : Gm) (ms : List Sh) (m : List D → Res D) : Sp := fun vs H Q E => ∃ F ds fp, Sub F H ∧ ArgsM g F H ms vs ds fp ∧ fp.Nodup ∧ (∀ c ∈ fp, F c = none) ∧ match m ds with
  | .ok d => ∀ v F' H', Grow F (wo H fp) F' H' → Enc g F' v d → Q v H'
  | .ex c fs => ∀ cls od F' H', Grow F (wo H fp) F' H' → ExOk g c fs cls od F' → E cls od H'
  | .no => False
structure DefK (P : Program) (w : World) (g : Gm) (mg : Str → Option Value) (base : Heap) (name : Str) (k : Nat) (ms : List Sh) (m : List D → Res D) : Prop where
  ex : ∃ f, FnR P w g.K mg base (L2.CX P w) k f (spK g ms m) ∧ mg name = some (.ref f) ∧ PySem.W.keepIn g.K (.ref f) = true
theorem DefK.of {P : Program} {w : World} {g : Gm} {mg : Str → Option Value} {base : Heap} {name : Str} {k : Nat} {ms : List Sh} {mm : List D → Res D} {f : Addr} {fd : FuncData} {ps : List Str} (h1 : mg name = some (.ref f)) (kp : PySem.W.keepIn g.K (.ref f) = true) (Fn : FnOk P w g.K mg base (L2.CX P w) k f fd ps (spK g ms mm)) (bd : Binds g.K fd ps []) : DefK P w g mg base name k ms mm :=
  ⟨⟨f, (Fn.raw bd .nil).imp fun vs H Q E h => by rw [List.append_nil]; exact h, h1, kp⟩⟩
end Mi
namespace Mi
open L2 PySem PySem.Spec PyProof.Rows
end Mi
namespace Mi
open L2 PySem PySem.Spec PyProof.Rows
end Mi
namespace Mi
open PySem PySem.Spec L2 PyProof.Rows
end Mi
namespace Mi
open L2 PySem PySem.Spec PyProof.Rows
end Mi
namespace Mi
open L2 PySem PySem.Spec PyProof.Rows
section
variable {X : Cx} {g : Gm} {b : Bs} {Γ : Ctx} {F : Hp} {σ : L2.St} {H : Hp} {e e1 e2 : Expr} {es : List Expr} {pos p : Pos} {r ra rb ro : Res D} {rs : Res (List D)} {rc : Res (D × List D)} {rt : Res Bool} {x : Str} {o : OD} {t s : Sh} {α β τ υ ω : Type} {Γb : β → Ctx} {Γn : τ → Ctx} {rest body : List Stmt} {us : Us}
theorem PW.ex {ι : Type} {T : ι → TT} (h : ∀ i, PW X e (T i)) : PW X e (fun σ H Q => ∃ i, T i σ H Q) := ⟨fun wh pins s σ H Q I ⟨i, q⟩ => (h i).run wh pins s σ H Q I q⟩
end
end Mi
namespace Mi
open L2 PySem PySem.Spec PyProof.Rows
section
variable {X : Cx} {g : Gm} {b : Bs} {Γ : Ctx} {e : Expr} {r r1 r2 : Res D} {F : Hp} {σ : L2.St} {H : Hp}
def dct : List Str → List D → List (D × D)
  | y :: ks, d :: ds => (.str y, d) :: dct ks ds
  | _, _ => []
variable {pos : Pos} {ks : List Str} {keys : List (Option Expr)} {es : List Expr} {rs : Res (List D)}
end
end Mi
namespace Mi
open L2 PySem PySem.Spec PyProof.Rows
end Mi
namespace Mi
open L2 PySem PySem.Spec PyProof.Rows
section
variable {X : Cx} {g : Gm} {b : Bs} {Γ : Ctx} {e2 : Expr} {rb : Res D} {F : Hp} {σ : L2.St} {H : Hp} {x : Str} {o : OD} {pos p1 : Pos}
theorem Own.dk {v : V} {fp : List Addr} (h : Own g F H v o fp) (hk : o.s = .k) {kvs : List (D × D)} (e : o.x = .dict kvs) : ∃ a ps, v = .ref a ∧ H a = some (.dK ps) ∧ EncP g F ps kvs := by
  cases h with
  | d e => cases hk
  | z q e => cases hk
  | l q h k => cases hk
  | zs q e => cases hk
  | zo q e => cases hk
  | zf q e => cases hk
  | zp q e => cases hk
  | p h1 h2 h3 h4 => cases hk
  | o h1 h2 h3 h4 h5 h6 h7 => cases hk
  | s q h k e => cases hk
  | zk q e2 =>
    have e : _ = PyData.dict kvs := e
    subst e
    cases q
  | k q h k2 =>
    cases e
    exact ⟨_, _, rfl, h, k2⟩
variable {e1 : Expr} {ra : Res D} {p : Pos}
end
end Mi
namespace Mi
open L2 PySem PySem.Spec PyProof.Rows
end Mi
namespace Mi
open L2 PySem PySem.Spec PyProof.Rows
end Mi
namespace Mi
open L2 PySem PySem.Spec PyProof.Rows
end Mi
namespace Mi
open L2 PySem PySem.Spec PyProof.Rows
end Mi
namespace Mi
open L2 PySem PySem.Spec PyProof.Rows
open HandSPX
end Mi
namespace Mi
open L2 PySem PySem.Spec PyProof.Rows
end Mi
namespace Mi
open PySem PySem.Spec PyProof.Rows L2 GenW
abbrev noCell (o : Obj) : Prop := ∀ v, o.data ≠ .cell v
/-- the consumer puts v behind the list at S; of all else it changes only what stands at Cs -/
structure SlC (S : Addr) (Cs : List Addr) (v : Value) (s s' : Shared) : Prop where
  os : s'.os = s.os
  bare : AllBare s'.gens
  keep : ∀ b o, b ≠ S → b ∉ Cs → s.heap.get? b = some o → s'.heap.get? b = some o
  own : ∀ acc c, s.heap.get? S = some (lstObj acc c) → ∃ c', s'.heap.get? S = some (lstObj (acc.push v) c')
  cs : ∀ b ∈ Cs, ∀ o, s.heap.get? b = some o → noCell o → ∃ o', s'.heap.get? b = some o' ∧ noCell o'
theorem SlC.of {S : Addr} {v : Value} {s s' : Shared} (z : Slept S v s s') : SlC S [] v s s' := ⟨z.os, z.bare, fun b o hb _ e => z.keep b o hb e, z.own, fun b hb => absurd hb (by simp)⟩
end Mi
namespace Mi
open PySem PySem.Spec PyProof.Rows L2 GenW
end Mi
namespace Mi
open L2 PySem PySem.Spec PyProof.Rows
/-- a field's shape -/
def fldS : Sh → Str → Option Sh
  | .f n s r, f => if n = f then some s else fldS r f
  | _, _ => none
section
variable {g : Gm} {F F' H H' : Hp}
/-- one of the fields, and the others -/
theorem OwnF.at_ : ∀ {s t : Sh} {ns : List Str} {vs : List V} {kvs : List (D × D)} {fp : List Addr} {f : Str}, OwnF g F H s ns vs kvs fp → fldS s f = some t → ∃ (j : Nat) (v : V) (x : D) (f1 f2 f3 : List Addr), ns[j]? = some f ∧ vs[j]? = some v ∧ (ns.zip vs).lookup f = some v ∧ getF kvs f = some x ∧ fp = f1 ++ f2 ++ f3 ∧ Own g F H v ⟨t, x, none⟩ f2 ∧
    ∀ (F2 H2 : Hp) (w : V) (y : D) (fq : List Addr), Sub F F2 → Own g F2 H2 w ⟨t, y, none⟩ fq → (∀ c ∈ f1 ++ f3, H2 c = H c) → OwnF g F2 H2 s ns (vs.set j w) (setF f y kvs) (f1 ++ fq ++ f3)
  | _, _, _, _, _, _, _, .nil, e => by cases e
  | _, t, _, _, _, _, f, .cons (s := s) (r := r) (n := n) (ns := ns) (v := v) (vs := vs) (x := x) (kvs := kvs) (fp := fp) (fq := fq) h k, e => by
    have e : (if n = f then some s else fldS r f) = some t := e
    by_cases q : n = f
    · rw [if_pos q] at e
      cases e
      subst q
      refine ⟨0, v, x, [], fp, fq, rfl, rfl, by simp [List.lookup], if_pos rfl, rfl, h, fun F2 H2 w y f s2 o q => ?_⟩
      have es : setF n y ((.str n, x) :: kvs) = (.str n, y) :: kvs := if_pos rfl
      rw [es]
      exact .cons o (k.keep s2 fun c hc => q c (by simpa using hc))
    · rw [if_neg q] at e
      obtain ⟨j, u, y0, f1, f2, f3, a1, a2, a3, a4, a5, a6, a7⟩ := OwnF.at_ k e
      have nq : (f == n) = false := by simpa using fun z => q z.symm
      refine ⟨j + 1, u, y0, fp ++ f1, f2, f3, by simpa using a1, by simpa using a2, ?_, (if_neg q).trans a4, by rw [a5]; simp [List.append_assoc], a6, fun F2 H2 w y f4 s2 o q2 => ?_⟩
      · show List.lookup f ((n, v) :: ns.zip vs) = some u
        simp only [List.lookup, nq]
        exact a3
      · have es : setF f y ((.str n, x) :: kvs) = (.str n, x) :: setF f y kvs := if_neg q
        rw [es]
        have z := OwnF.cons (n := n) (h.keep s2 fun c hc => q2 c (by simp [hc])) (a7 F2 H2 w y f4 s2 o fun c hc => q2 c (by
          rcases List.mem_append.mp hc with z | z <;> simp [z]))
        simpa [List.append_assoc] using z
/-- a part of what is one's own, and how to change it where it stands -/
def ZipG (g : Gm) (F H : Hp) (v0 : V) (x0 : OD) (v : V) (t : Sh) (y : D) (up : D → D) : Prop :=
  ∀ fp, Own g F H v0 x0 fp → fp.Nodup → ∃ fr, Own g F H v ⟨t, y, none⟩ fr ∧ (∀ c ∈ fr, c ∈ fp) ∧ fr.Nodup ∧
    ∀ (F2 H2 : Hp) (y2 : D) (fr2 : List Addr), Sub F F2 → Own g F2 H2 v ⟨t, y2, none⟩ fr2 → fr2.Nodup → (∀ c ∈ fr2, c ∈ fr ∨ c ∉ fp) → (∀ c ∈ fp, c ∉ fr → H2 c = H c) →
      ∃ fp2, Own g F2 H2 v0 ⟨x0.s, up y2, x0.o⟩ fp2 ∧ fp2.Nodup ∧ ∀ c ∈ fp2, c ∈ fp ∨ c ∈ fr2
theorem Own.noI {v : V} {s : Sh} {z : D} {oo : Option Addr} {fp : List Addr} (h : Own g F H v ⟨s, z, oo⟩ fp) : Own g F H v ⟨s, z, none⟩ fp := by
  cases h with
  | d e => exact .d e
  | z q e => exact .z q e
  | l ho ha hk => exact .l (fun _ z => nomatch z) ha hk
  | zk q e => exact .zk q e
  | k ho ha hk => exact .k (fun _ z => nomatch z) ha hk
  | zs q e => exact .zs q e
  | s ho ha hk hq => exact .s (fun _ z => nomatch z) ha hk hq
  | zo q e => exact .zo q e
  | zf q e => exact .zf q e
  | zp q e => exact .zp q e
  | p ho h1 h2 h3 => exact .p (fun _ z => nomatch z) h1 h2 h3
  | o ho h1 h2 h3 h4 h5 h6 => exact .o (fun _ z => nomatch z) h1 h2 h3 h4 h5 h6
theorem ZipG.top {v0 : V} {x0 : OD} (hs : OwS x0.s) : ZipG g F H v0 x0 v0 x0.s x0.x id := fun fp ho nd =>
  ⟨fp, ho.noI, fun _ h => h, nd, fun F2 H2 y2 fr2 _ o2 n2 _ _ => ⟨fr2, ho.iden (x := ⟨x0.s, y2, x0.o⟩) hs rfl rfl o2, n2, fun c hc => .inr hc⟩⟩
theorem ZipG.zip {v0 v : V} {x0 : OD} {t : Sh} {y : D} {up : D → D} (h : ZipG g F H v0 x0 v t y up) : Zip g F H v0 x0 v t y up := fun fp ho nd ys hy s hs => by
  subst hy hs
  obtain ⟨fr, o, sub, ndr, cap⟩ := h fp ho nd
  cases o with
  | z q e => cases q
  | @l a ws _ _ _ fq _ ha hk =>
    refine ⟨a, ws, fq, rfl, ha, sub a List.mem_cons_self, hk, fun c hc => sub c (List.mem_cons_of_mem _ hc), ndr, fun F2 H2 ws2 ys2 fr2 s2 h2 k2 nd2 hin hout => ?_⟩
    obtain ⟨fp2, p1, p2, p3⟩ := cap F2 H2 (.list ys2) (a :: fr2) s2 (.l (fun _ z => nomatch z) h2 k2) nd2 (fun c hc => by
      rcases List.mem_cons.mp hc with z | z
      · exact .inl (by rw [z]; exact List.mem_cons_self)
      · rcases hin c z with w | w
        · exact .inl (List.mem_cons_of_mem _ w)
        · exact .inr w) fun c hc n => hout c hc (fun z => n (by rw [z]; exact List.mem_cons_self)) fun z => n (List.mem_cons_of_mem _ z)
    refine ⟨fp2, p1, p2, fun c hc => ?_⟩
    rcases p3 c hc with z | z
    · exact .inl z
    · rcases List.mem_cons.mp z with w | w
      · exact .inl (by rw [w]; exact sub a List.mem_cons_self)
      · exact .inr w
/-- a field of a part -/
def fldU (p : D × (D → D)) (f : Str) : Option (D × (D → D)) := match p.1 with
  | .dict ((.none, .str c) :: kvs) => (getF kvs f).map fun y => (y, fun z => p.2 (.dict ((.none, .str c) :: setF f z kvs)))
  | _ => none
theorem ZipG.fld {v0 v : V} {x0 : OD} {c : Str} {s t : Sh} {y : D} {up : D → D} {f : Str} (h : ZipG g F H v0 x0 v (.o c s) y up) (ht : fldS s f = some t) {q : D × (D → D)} (e : fldU (y, up) f = some q) {fp0 : List Addr} (h0 : Own g F H v0 x0 fp0) (n0 : fp0.Nodup) :
    ∃ (a dx : Addr) (i : CI) (ns : List Str) (vs : List V) (j : Nat) (w : V), v = .ref a ∧ g.ci c = some i ∧ i.k = .dict ∧ H a = some (.ins i.C dx (ns.zip vs)) ∧ F dx = some (.own a) ∧ ns.length = vs.length ∧ (∀ f ∈ ns, f ∈ i.fs) ∧ ns[j]? = some f ∧ vs[j]? = some w ∧ (ns.zip vs).lookup f = some w ∧ ZipG g F H v0 x0 w t q.1 q.2 := by
  obtain ⟨fr, o, sub, ndr, cap⟩ := h fp0 h0 n0
  cases o with
  | zo q2 _ =>
    cases y with
    | dict _ => cases q2
    | _ => cases e
  | @o a dx _ i ns vs _ kvs _ fq _ hi hk ha hd hn hf =>
    obtain ⟨j, w, x, f1, f2, f3, a1, a2, a3, a4, a5, a6, a7⟩ := hf.at_ ht
    have e : (getF kvs f).map (fun y => (y, fun z => up (.dict ((.none, .str c) :: setF f z kvs)))) = some q := e
    rw [a4] at e
    cases e
    refine ⟨a, dx, i, ns, vs, j, w, rfl, hi, hk, ha, hd, hf.ns.2, hn, a1, a2, a3, fun fp ho nd => ?_⟩
    have ef := h0.uniq ho fun _ _ => rfl
    subst ef
    subst a5
    obtain ⟨m1, m2, m3⟩ := nodup_mid (List.nodup_cons.mp ndr).2
    have ain := (List.nodup_cons.mp ndr).1
    have hin : ∀ c ∈ f1 ++ f2 ++ f3, c ∈ fp0 := fun c hc => sub c (List.mem_cons_of_mem _ hc)
    refine ⟨f2, a6, fun c hc => hin c (by simp [hc]), m1, fun F2 H2 y2 fr2 s2 o2 n2 i2 k2 => ?_⟩
    have sep : ∀ c ∈ fr2, c ≠ a ∧ c ∉ f1 ∧ c ∉ f3 := fun c hc => by
      rcases i2 c hc with z | z
      · exact ⟨fun w => ain (by rw [← w]; simp [z]), m2 c z⟩
      · exact ⟨fun w => z (by rw [w]; exact sub a List.mem_cons_self), fun w => z (hin c (by simp [w])), fun w => z (hin c (by simp [w]))⟩
    have k3 := a7 F2 H2 w y2 fr2 s2 o2 fun c hc => k2 c (hin c (by rcases List.mem_append.mp hc with z | z <;> simp [z])) fun z => by
      have := m2 c z
      rcases List.mem_append.mp hc with w | w
      · exact this.1 w
      · exact this.2 w
    have es : vs.set j w = vs := List.ext_getElem? fun k => by
      by_cases hk2 : j = k
      · subst hk2
        rw [List.getElem?_set_self (List.getElem?_eq_some_iff.mp a2).1, a2]
      · rw [List.getElem?_set_ne hk2]
    rw [es] at k3
    have ha2 : H2 a = some (.ins i.C dx (ns.zip vs)) := by
      rw [k2 a (sub a List.mem_cons_self) fun z => ain (by simp [z])]
      exact ha
    have o3 : Own g F2 H2 (.ref a) ⟨.o c s, .dict ((.none, .str c) :: setF f y2 kvs), none⟩ (a :: (f1 ++ fr2 ++ f3)) := .o (fun _ z => nomatch z) hi hk ha2 (s2 _ _ hd) hn k3
    have nd3 : (a :: (f1 ++ fr2 ++ f3)).Nodup := List.nodup_cons.mpr ⟨fun z => by
      rcases List.mem_append.mp z with z | z
      · rcases List.mem_append.mp z with z | z
        · exact ain (by simp [z])
        · exact (sep a z).1 rfl
      · exact ain (by simp [z]), nodup_mid' n2 m3 fun c hc => (sep c hc).2⟩
    obtain ⟨fp2, p1, p2, p3⟩ := cap F2 H2 _ _ s2 o3 nd3 (fun c hc => by
      rcases List.mem_cons.mp hc with z | z
      · exact .inl (by rw [z]; exact List.mem_cons_self)
      · rcases List.mem_append.mp z with z | z
        · rcases List.mem_append.mp z with z | z
          · exact .inl (by simp [z])
          · rcases i2 c z with w | w
            · exact .inl (by simp [w])
            · exact .inr w
        · exact .inl (by simp [z])) fun c hc n => k2 c hc fun z => n (by simp [z])
    refine ⟨fp2, p1, p2, fun c hc => ?_⟩
    rcases p3 c hc with z | z
    · exact .inl z
    · rcases List.mem_cons.mp z with z | z
      · exact .inl (by rw [z]; exact sub a List.mem_cons_self)
      · rcases List.mem_append.mp z with z | z
        · rcases List.mem_append.mp z with z | z
          · exact .inl (hin c (by simp [z]))
          · exact .inr z
        · exact .inl (hin c (by simp [z]))
end
section
variable {X : Cx} {g : Gm} {b : Bs} {Γ : Ctx} {F F' : Hp} {σ : L2.St} {H H' : Hp} {e e1 e2 : Expr} {pos : Pos} {r ra rb : Res D} {x f : Str} {o : OD} {t s : Sh} {rp : Res (D × (D → D))}
theorem PostR.grow {Q : VK} (p : PostR g b Γ F r σ H Q) (gr : Grow F H F' H') : PostR g b Γ F' r σ H' Q := by
  obtain ⟨rf, p⟩ := p
  refine ⟨rf.grow gr, ?_⟩
  cases r with
  | ok d => exact fun v F2 H2 a en => p v F2 H2 (gr.trans a) en
  | ex c fs => exact ex_go gr p
  | no => exact p
theorem tR_bindR {h : D → Res D} {Q K : VK} (p : PostR g b Γ F (ra.bind h) σ H Q) (k : ∀ d v F' H', ra = .ok d → Grow F H F' H' → Enc g H' v d → PostR g b Γ F' (h d) σ H' Q → K v H') : tR g b Γ ra σ H K := by
  refine ⟨F, p.1, ?_⟩
  cases ra with
  | ok d => exact fun v F' H' gr en => k d v F' H' rfl gr en (PostR.grow p gr)
  | ex c fs => exact p.2
  | no => exact p.2
/-- a field of what is looked at -/
theorem r_fld (ha : PE X e (tR g b Γ ra)) (co : CisOk g) (hb : attributeBase e f X.env (eval e X.env) = eval e X.env := by first | exact base_plain rfl | rfl) (hK : X.K = g.K := by rfl) : PE X (.Attribute e f pos) (tR g b Γ (ra.bind fun d => ofO (attrD d f))) := by
  refine ⟨fun pins s σ H Q I h => ?_⟩
  obtain ⟨F, h⟩ := h
  refine attr_of hb (thn (ha.run pins s σ H (fun v H1 => ∃ d F1, PostR g b Γ F1 (ofO (attrD d f)) σ H1 Q ∧ Enc g H1 v d) I (tR_bindR h fun d v F1 H1 _ g1 en p1 => ⟨d, F1, p1, en⟩)) fun u s1 ⟨v, H1, I1, rv, d, F1, p1, en⟩ => ?_)
  obtain ⟨rf, p1⟩ := p1
  cases e' : attrD d f with
  | none =>
    rw [e'] at p1
    exact p1.elim
  | some d' =>
    rw [e'] at p1
    cases en with
    | dct en =>
      cases en with
      | obj hc kf o =>
        obtain ⟨j, w, a1, a2, a3, a4⟩ := kf.find (show getF _ f = some d' from e')
        cases rv
        exact attr_go hK (co _ _ hc) I1 o a1 a2 a3 fun u' s2 I2 ru => ⟨w, H1, I2, ru, p1 w F1 H1 (Grow.refl rf.gr.fh) a4⟩
      | scr _ _ => cases e'
      | st _ _ _ => cases e'
      | dk _ kp =>
        cases kp with
        | nil => cases e'
        | consI _ _ => cases e'
        | consS _ _ => cases e'
    | _ => cases e'
def PostG (g : Gm) (b : Bs) (Γ : Ctx) (F : Hp) (i : Nat) (o : OD) (t : Sh) (r : Res (D × (D → D))) (σ : L2.St) (H : Hp) (Q : VK) : Prop :=
  Rf g b Γ F σ H ∧ match r with
  | .ok p => ∀ v v0 fp F' H', Grow F H F' H' → σ[i]? = some (some v0) → Own g F' H' v0 o fp → fp.Nodup → ZipG g F' H' v0 o v t p.1 p.2 → Q v H'
  | .ex c fs => ∀ cls od F' H', Grow F H F' H' → Rf g b b.cx F' σ H' → ExOk g c fs cls od F' → b.W cls od σ H'
  | .no => False
def tG (g : Gm) (b : Bs) (Γ : Ctx) (i : Nat) (o : OD) (t : Sh) (r : Res (D × (D → D))) : TE := fun σ H Q => ∃ F, PostG g b Γ F i o t r σ H Q
theorem g_m {i : Nat} (hΓ : Γ[i]? = some (some (.m o)) := by rfl) (hN : X.N[i]? = some x := by rfl) (hv : Vis X.env.scope x := by first | exact Or.inl rfl | exact Or.inr (Or.inl rfl) | exact Or.inr (Or.inr rfl))
    (hd : (x == ("__debug__" : Str)) = false := by decide) (hcd : (x == ("__classdict__" : Str)) = false := by decide) (hs : OwS o.s := by first | exact .inl ⟨_, rfl⟩ | exact .inr ⟨_, _, rfl⟩) : PE X (.Name x pos) (tG g b Γ i o o.s (.ok (o.x, id))) := PE.imp (pe_var hN hv hd hcd) fun σ H Q q => by
  obtain ⟨F, rf, p⟩ := q
  obtain ⟨ov, h1, h2⟩ := rf.at_ i _ hΓ
  cases ov with
  | none => exact h2.elim
  | some v =>
    obtain ⟨fp, k1, k2, k3⟩ := h2.mOf
    exact ⟨v, h1, p v v fp F H (Grow.refl rf.gr.fh) h1 k1 k2 (ZipG.top hs)⟩
theorem p_g {i : Nat} (h : PE X e (tG g b Γ i o t rp)) : PE X e (tP g b Γ i o t rp) := PE.imp h fun σ H Q q => by
  obtain ⟨F, rf, p⟩ := q
  refine ⟨F, rf, ?_⟩
  cases rp with
  | ok p1 => exact fun v v0 fp F' H' gr hs ho nd z => p v v0 fp F' H' gr hs ho nd z.zip
  | ex c fs => exact p
  | no => exact p
theorem g_fld {i : Nat} {c : Str} (ha : PE X e (tG g b Γ i o (.o c s) rp)) (co : CisOk g) (ht : fldS s f = some t := by rfl) (hb : attributeBase e f X.env (eval e X.env) = eval e X.env := by first | exact base_plain rfl | rfl) (hK : X.K = g.K := by rfl) : PE X (.Attribute e f pos) (tG g b Γ i o t (rp.bind fun p => ofO (fldU p f))) := by
  refine ⟨fun pins s9 σ H Q I h => ?_⟩
  obtain ⟨F, rf, h⟩ := h
  refine attr_of hb (thn (ha.run pins s9 σ H (fun v H1 => ∃ p v0 fp F1, rp = .ok p ∧ Grow F H F1 H1 ∧ σ[i]? = some (some v0) ∧ Own g F1 H1 v0 o fp ∧ fp.Nodup ∧ ZipG g F1 H1 v0 o v (.o c s) p.1 p.2) I ⟨F, rf, ?_⟩) fun u s1 ⟨v, H1, I1, rv, p, v0, fp, F1, ep, g1, hs0, ho, nd, zp⟩ => ?_)
  · cases rp with
    | no => exact h
    | ex cn fs => exact h
    | ok p => exact fun v v0 fp F1 H1 g1 hs0 ho nd zp => ⟨p, v0, fp, F1, rfl, g1, hs0, ho, nd, zp⟩
  · subst ep
    have h : match (ofO (fldU p f) : Res (D × (D → D))) with
      | .ok p => ∀ v v0 fp F' H', Grow F H F' H' → σ[i]? = some (some v0) → Own g F' H' v0 o fp → fp.Nodup → ZipG g F' H' v0 o v t p.1 p.2 → Q v H'
      | .ex c fs => ∀ cls od F' H', Grow F H F' H' → Rf g b b.cx F' σ H' → ExOk g c fs cls od F' → b.W cls od σ H'
      | .no => False := h
    cases e : fldU p f with
    | none =>
      rw [e] at h
      exact h.elim
    | some q =>
      rw [e] at h
      obtain ⟨a, dx, ci, ns, vs, j, w, rfl, h1, h2, h3, h4, h5, h6, h7, h8, h9, z⟩ := zp.fld ht e ho nd
      cases rv
      exact attr_go hK (co _ _ h1) I1 (.inr ⟨h2, h5, h3, g1.fh _ _ h4, h6⟩) h7 h8 h9 fun u' s2 I2 ru => ⟨w, H1, I2, ru, h w v0 fp F1 H1 g1 hs0 ho nd z⟩
end
end Mi
namespace Mi
open L2 PySem PySem.Spec PyProof.Rows
mutual
/-- data without lists, dicts, instances -/
def fl : D → Bool
  | .none => true
  | .bool _ => true
  | .int _ => true
  | .str _ => true
  | .tuple ds => fls ds
  | _ => false
def fls : List D → Bool
  | [] => true
  | d :: ds => fl d && fls ds
end
mutual
/-- new things that hold such data -/
def flO : Sh → D → Bool
  | .d, x => fl x
  | .l s, .list xs => xs.all (flO s)
  | .o _ s, .dict (_ :: kvs) => flF s kvs
  | _, x => sc x
def flF : Sh → List (D × D) → Bool
  | .d, [] => true
  | .f _ s r, (_, x) :: kvs => flO s x && flF r kvs
  | _, _ => false
end
section
variable {g : Gm} {F F' H H' : Hp} {fp : List Addr}
theorem wo_keep (n : ∀ c ∈ fp, ∃ u, F c = some (mo u)) {a : Addr} {o : HO} (h : F a = some o) (q : ∀ u, o ≠ mo u) : wo F fp a = some o := by
  rw [wo_out fun z => ?_]
  · exact h
  · obtain ⟨u, e⟩ := n a z
    rw [h] at e
    exact q u (Option.some.inj e)
theorem frz_mo (ob : Obj) (o : HO) : ∀ u, HO.frz ob o ≠ mo u := fun u z => by
  cases u with
  | e w q a L =>
    have z : HO.frz ob o = SetN w q a L := z
    unfold SetN at z
    cases z
  | _ => cases z
theorem own_mo (a : Addr) : ∀ u, HO.own a ≠ mo u := fun u z => by
  cases u with
  | e w q a L =>
    have z : HO.own _ = SetN w q a L := z
    unfold SetN at z
    cases z
  | _ => cases z
theorem xd_mo (fs : List (Str × V)) : ∀ u, HO.xd fs ≠ mo u := fun u z => by
  cases u with
  | e w q a L =>
    have z : HO.xd fs = SetN w q a L := z
    unfold SetN at z
    cases z
  | _ => cases z
mutual
theorem Enc.flat (n : ∀ c ∈ fp, ∃ u, F c = some (mo u)) : ∀ {v : V} {d : D}, Enc g F v d → fl d = true → Enc g (wo F fp) v d
  | _, _, .non, _ => .non
  | _, _, .bl b, _ => .bl b
  | _, _, .int i, _ => .int i
  | _, _, .str x, _ => .str x
  | _, _, .lst _ _, q => nomatch q
  | _, _, .tup h k, q => .tup (by
      rcases h with ⟨its, h⟩ | h
      · exact .inl ⟨its, wo_keep n h (frz_mo _ _)⟩
      · exact .inr h) (EncL.flat n k q)
  | _, _, .dct _, q => nomatch q
theorem EncL.flat (n : ∀ c ∈ fp, ∃ u, F c = some (mo u)) : ∀ {vs : List V} {ds : List D}, EncL g F vs ds → fls ds = true → EncL g (wo F fp) vs ds
  | _, _, .nil, _ => .nil
  | _, _, .cons h k, q => by
    have q2 := Bool.and_eq_true_iff.mp q
    exact .cons (Enc.flat n h q2.1) (EncL.flat n k q2.2)
end
mutual
theorem Own.flat (n : ∀ c ∈ fp, ∃ u, F c = some (mo u)) : ∀ {v : V} {x : OD} {fr : List Addr}, Own g F H v x fr → flO x.s x.x = true → Own g (wo F fp) H v x fr
  | _, _, _, .d e, q => .d (e.flat n q)
  | _, _, _, .z z e, _ => .z z (e.scal z)
  | _, _, _, .l o h k, q => .l o h (OwnL.flat n k q)
  | _, _, _, .zk z e, _ => .zk z (e.scal z)
  | _, _, _, .k _ _ _, q => nomatch q
  | _, _, _, .zs z e, _ => .zs z (e.scal z)
  | _, _, _, .s _ _ _ _, q => nomatch q
  | _, _, _, .zo z e, _ => .zo z (e.scal z)
  | _, _, _, .zf z e, _ => .zf z (e.scal z)
  | _, _, _, .zp z e, _ => .zp z (e.scal z)
  | _, _, _, .p _ _ _ _, q => nomatch q
  | _, _, _, .o o h1 h2 h3 h4 h5 k, q => .o o h1 h2 h3 (wo_keep n h4 (own_mo _)) h5 (OwnF.flat n k q)
theorem OwnL.flat (n : ∀ c ∈ fp, ∃ u, F c = some (mo u)) : ∀ {s : Sh} {vs : List V} {xs : List D} {fr : List Addr}, OwnL g F H s vs xs fr → xs.all (flO s) = true → OwnL g (wo F fp) H s vs xs fr
  | _, _, _, _, .nil, _ => .nil
  | _, _, _, _, .cons h k, q => by
    rw [List.all_cons] at q
    have q2 := Bool.and_eq_true_iff.mp q
    exact .cons (Own.flat n h q2.1) (OwnL.flat n k q2.2)
theorem OwnF.flat (n : ∀ c ∈ fp, ∃ u, F c = some (mo u)) : ∀ {s : Sh} {ns : List Str} {vs : List V} {xs : List (D × D)} {fr : List Addr}, OwnF g F H s ns vs xs fr → flF s xs = true → OwnF g (wo F fp) H s ns vs xs fr
  | _, _, _, _, _, .nil, _ => .nil
  | _, _, _, _, _, .cons h k, q => by
    have q2 := Bool.and_eq_true_iff.mp q
    exact .cons (Own.flat n h q2.1) (OwnF.flat n k q2.2)
end
theorem ExOk.flat (n : ∀ c ∈ fp, ∃ u, F c = some (mo u)) {cn : Str} {es : List D} {cls : Value} {od : Option Addr} (h : ExOk g cn es cls od F) : ExOk g cn es cls od (wo F fp) := by
  obtain ⟨i, h1, h2, h3, h4⟩ := h
  refine ⟨i, h1, h2, h3, fun z => ?_⟩
  obtain ⟨dd, vs, k1, k2, k3, k4, k5⟩ := h4 z
  exact ⟨dd, vs, k1, wo_keep n k2 (xd_mo _), k3.scal k5, k4, k5⟩
/-- behind a call to which a part of the heap was lent -/
theorem lent (hf : ∀ c ∈ fp, F c = none ∧ ∃ u, H c = some (mo u)) (gr : Grow (tin F H fp) H F' H') : Grow F H (wo F' fp) H' ∧ ∀ c ∈ fp, ∃ u, F' c = some (mo u) := by
  refine ⟨⟨fun a o e => ?_, wo_sub.trans gr.fh, gr.hh, fun a h1 h2 => ?_⟩, fun c hc => ?_⟩
  · have na : a ∉ fp := fun z => by
      rw [(hf a z).1] at e
      cases e
    rw [wo_out na]
    exact gr.ff _ _ (by rw [tin_out na]; exact e)
  · by_cases z : a ∈ fp
    · exact wo_in z
    · rw [wo_out z]
      exact gr.new a h1 (by rw [tin_out z]; exact h2)
  · obtain ⟨u, e⟩ := (hf c hc).2
    exact ⟨u, gr.ff _ _ (by rw [tin_in hc]; exact e)⟩
theorem ArgO.len {σ : L2.St} : ∀ {us : Us} {vs : List V} {ds : List D}, ArgO g F σ us vs ds → vs.length = ds.length
  | _, _, _, .nil => rfl
  | _, _, _, .d _ k => congrArg (· + 1) k.len
  | _, _, _, .m _ k => congrArg (· + 1) k.len
theorem ArgsM.frz {F9 : Hp} (s : Sub F F9) : ∀ {ms : List Sh} {vs : List V} {ds : List D} {f : List Addr}, ArgsM g F H ms vs ds f → (∀ c ∈ f, F9 c = H c) → EncL g F9 vs ds
  | _, _, _, _, .nil, _ => .nil
  | _, _, _, _, .cons o k, e => .cons (o.frz s fun c hc => e c (List.mem_append_left _ hc)) (ArgsM.frz s k fun c hc => e c (List.mem_append_right _ hc))
theorem ArgsM.ofEnc : ∀ {ms : List Sh} {vs : List V} {ds : List D}, EncL g F vs ds → ms.length = vs.length → (∀ s ∈ ms, s = .d) → ArgsM g F H ms vs ds []
  | [], _, _, .nil, _, _ => .nil
  | [], _, _, .cons _ _, h, _ => by cases h
  | _ :: _, _, _, .nil, h, _ => by cases h
  | s :: ms, _, _, .cons e k, h, hd => by
    have := hd s List.mem_cons_self
    subst this
    exact ArgsM.cons (fp := []) (.d e) (ArgsM.ofEnc k (by simpa using h) fun s hs => hd s (List.mem_cons_of_mem _ hs))
end
/-- an answer that holds nothing that was lent -/
def flR (t : Sh) (d : D) : Res D := if flO t d = true then .ok d else .no
section
variable {X : Cx} {g : Gm} {b : Bs} {Γ : Ctx} {F F' : Hp} {σ : L2.St} {H H' : Hp} {e e1 e2 : Expr} {es : List Expr} {pos p : Pos} {r ra rb ro : Res D} {rs : Res (List D)} {x f : Str} {o : OD} {t s : Sh} {us : Us}
theorem spM_lend {cx : Ctx} {l : List Nat} {mm : List D → Res D} {Q : VK} {ms : List Sh} {vs : List V} {ds : List D} (r : Rf g b Γ F σ H) (ok : UsOk Γ cx l us) (a : ArgO g F σ us vs ds) (hl : ms.length = vs.length) (hd : ∀ s ∈ ms, s = .d)
    (p : match ((mm ds).bind outN).bind (flR t) with
      | .ok d => ∀ v fp F' H', Grow F H F' H' → Own g F' H' v ⟨t, d, none⟩ fp → fp.Nodup → (∀ c ∈ fp, H c = none ∧ F' c = none) → Q v H'
      | .ex c fs => ∀ cls od F' H', Grow F H F' H' → Rf g b b.cx F' σ H' → ExOk g c fs cls od F' → b.W cls od σ H'
      | .no => False) : spM g ms t mm vs H Q (WE b.W σ) := by
  obtain ⟨fp, h1, h2, h3, h4⟩ := a.own r ok
  have hf : ∀ c ∈ fp, F c = none ∧ ∃ u, H c = some (mo u) := fun c hc => by
    obtain ⟨j, x, v, f, _, z1, z2, z3, z4⟩ := (h4 c).mp hc
    exact ⟨(h3 c hc).1, z3.lst c z4⟩
  have s1 : Sub F (tin F H fp) := tin_sub fun c hc => (hf c hc).1
  have en := h1.frz s1 fun c hc => tin_in hc
  have w0 : wo H [] = H := by
    funext z
    exact wo_out (by simp)
  refine ⟨tin F H fp, ds, [], tin_heap r.gr.fh, .ofEnc en hl hd, .nil, fun c hc => (by cases hc), ?_⟩
  rw [w0]
  cases q : mm ds with
  | no =>
    rw [q] at p
    exact p
  | ex c fs =>
    rw [q] at p
    intro cls od F' H' gr ok2
    obtain ⟨g2, n2⟩ := lent hf gr
    exact p cls od _ H' g2 (r.grow g2).cx (ok2.flat n2)
  | ok d =>
    rw [q] at p
    intro v F' H' r1 zs fr fq e gr ow wf nd hfr
    subst e
    obtain ⟨rfl, rfl⟩ := wf.none hd
    obtain ⟨g2, n2⟩ := lent hf gr
    have p : match flR t r1 with
      | .ok d => ∀ v fp F' H', Grow F H F' H' → Own g F' H' v ⟨t, d, none⟩ fp → fp.Nodup → (∀ c ∈ fp, H c = none ∧ F' c = none) → Q v H'
      | .ex c fs => ∀ cls od F' H', Grow F H F' H' → Rf g b b.cx F' σ H' → ExOk g c fs cls od F' → b.W cls od σ H'
      | .no => False := p
    unfold flR at p
    by_cases z : flO t r1 = true
    · rw [if_pos z] at p
      refine p v fr _ H' g2 (ow.flat n2 z) (by simpa using nd) fun c hc => ?_
      have := hfr c (by simp [hc])
      refine ⟨this.2, ?_⟩
      by_cases w : c ∈ fp
      · exact wo_in w
      · rw [wo_out w]
        exact this.1
    · rw [if_neg z] at p
      exact p.elim
theorem tAO_bindNM {ra : Res (List D)} {f : List D → Res D} {Q : VK} {K : List V → Hp → Prop} (h : PostNM g b Γ F t (ra.bind f) σ H Q)
    (k : ∀ ds vs F' H', ra = .ok ds → Grow F H F' H' → ArgO g F' σ us vs ds → PostNM g b Γ F' t (f ds) σ H' Q → K vs H') : tAO g b Γ us ra σ H K := by
  refine ⟨F, h.1, ?_⟩
  cases ra with
  | no => exact h.2
  | ex c fs => exact h.2
  | ok ds => exact fun vs F' H' gr a => k ds vs F' H' rfl gr a (PostNM.grow h gr)
/-- f(e, ..), what is one's own lent; the answer is new -/
theorem nm_callL {k j : Nat} {cx : Ctx} {ms : List Sh} {m : List D → Res D} (T : DefM X.prog X.w g X.mg X.base x k ms t m) (hr : Room j X.A) (tk : Takes X b.W) (ha : PA X (e :: es) (tAO g b Γ us rs)) (ok : UsOk Γ cx [] us) (hl : ∀ ds, rs = .ok ds → ds.length = ms.length) (hd : ∀ s ∈ ms, s = .d := by intro s hs; simp only [List.mem_cons, List.not_mem_nil, or_false, or_self] at hs; exact hs) (hj : k ≤ j := by decide) (hg : Gl X x := by rfl) (hdb : (x == ("__debug__" : Str)) = false := by decide)
    (he : starEach (e :: es) X.env = (false, eval e X.env) :: starEach es X.env := by first | exact starEach_plain rfl | rfl) (hpl : (backTo pos (starEach es X.env)).any (·.1) = false := by first | exact star_any rfl | rfl) (hK : X.K = g.K := by rfl) :
    PE X (.Call (.Name x p) (e :: es) [] pos) (tNM g b Γ t (rs.bind fun ds => ((m ds).bind outN).bind (flR t))) := by
  obtain ⟨f, Fn, gm, kp⟩ := T.ex
  rw [← hK] at Fn kp
  refine ⟨fun pins s σ H Q I h => ?_⟩
  obtain ⟨F, h⟩ := h
  refine wpAny_Call_Name_kw (ld_glob I hg gm ?_ hdb)
  refine PySem.W.callWith_K (h₀ := X.base) I.ok.mod.kin kp (thn (ha.run pos pins s σ H (fun vs H1 => ∃ ds F1, rs = .ok ds ∧ PostNM g b Γ F1 t (((m ds).bind outN).bind (flR t)) σ H1 Q ∧ ArgO g F1 σ us vs ds) I (tAO_bindNM h fun ds vs F1 H1 hrs g1 a p1 => ⟨ds, F1, hrs, p1, a⟩)) fun us1 s1 ⟨vs, H1, I1, rv, ds, F1, hrs, p1, a⟩ => ⟨I1.kIn, ?_⟩) he hpl
  obtain ⟨rf, p1⟩ := p1
  have len := a.len
  exact run_fnRS (E := WE b.W) Fn (hr.mono hj) (passAt tk σ) I1 rv (spM_lend rf ok a (by rw [len, hl ds hrs]) hd p1)
/-- the instance that stands in a slot of one's own -/
theorem Own.inst {v : V} {c : Str} {fp : List Addr} (h : Own g F H v o fp) (q : isC c o.x = true) (hs : ∃ s, o.s = .o c s) (sf : Sub F H) : ∃ a dx i ns vs, v = .ref a ∧ g.ci c = some i ∧ ObjAt i H a dx ns vs := by
  obtain ⟨os, ox, oo⟩ := o
  obtain ⟨s, hs⟩ := hs
  have hs : os = .o c s := hs
  subst hs
  cases h with
  | zo z e =>
    have q : isC c ox = true := q
    cases ox with
    | dict _ => cases z
    | _ => cases q
  | o ho hi hk ha hd hn k => exact ⟨_, _, _, _, _, rfl, hi, .inr ⟨hk, k.ns.2, ha, sf _ _ hd, hn⟩⟩
/-- x.m(e, ..), x and what else is one's own lent; the answer is new -/
theorem nm_methL {c m : Str} {k j i : Nat} {cx : Ctx} {ms : List Sh} {mm : List D → Res D} {apos : Pos} {pl : Sem Bool} (T : MethM X.prog X.w g X.mg X.base c m k ms t mm) (co : CisOk g) (hr : Room j X.A) (tk : Takes X b.W) (ha : PA X (e :: es) (tAO g b Γ us rs)) (ok : UsOk Γ cx [] (some (i, o) :: us)) (hl : ∀ ds, rs = .ok ds → ds.length + 1 = ms.length)
    (hd : ∀ s ∈ ms, s = .d := by intro s hs; simp only [List.mem_cons, List.not_mem_nil, or_false, or_self] at hs; exact hs) (hs : ∃ s, o.s = .o c s := by exact ⟨_, rfl⟩) (hN : X.N[i]? = some x := by rfl) (hv : Vis X.env.scope x := by first | exact Or.inl rfl | exact Or.inr (Or.inl rfl) | exact Or.inr (Or.inr rfl))
    (hdb : (x == ("__debug__" : Str)) = false := by decide) (hcd : (x == ("__classdict__" : Str)) = false := by decide) (hj : k ≤ j := by decide)
    (hst : starEach (e :: es) X.env = (false, eval e X.env) :: starEach es X.env := by first | exact starEach_plain rfl | rfl) (hpl : (backTo pos (starEach es X.env)).any (·.1) = false := by first | exact star_any rfl | rfl)
    (ht : eval (.Call (.Attribute (.Name x p) m apos) (e :: es) [] pos) X.env = (do
      let ov ← eval (.Name x p) X.env
      standAt apos.atName
      let (f, first) ← holding [ov] (getMethod ov m pl)
      callWith pos f first (backTo pos (starEach (e :: es) X.env)) (backToKw pos (keywordEach [] X.env))) := by first | exact ev_meth rfl rfl rfl rfl rfl | rfl) (hK : X.K = g.K := by rfl) :
    PE X (.Call (.Attribute (.Name x p) m apos) (e :: es) [] pos) (tNM g b Γ t (if isC c o.x = true then rs.bind fun ds => ((mm (o.x :: ds)).bind outN).bind (flR t) else .no)) := by
  obtain ⟨i9, fa, hi, hm, Fn, hf, hx⟩ := T.ex
  have hΓ := (ok.here i o List.mem_cons_self).1
  refine ⟨fun pins s σ H Q I h => ?_⟩
  obtain ⟨F, h⟩ := h
  obtain ⟨ov, h1, h2⟩ := h.1.at_ i _ hΓ
  cases ov with
  | none => exact h2.elim
  | some v =>
  obtain ⟨fp, k1, k2, k3⟩ := h2.mOf
  refine PySem.W.methodCall_KW (pl := pl) (thn ((pe_var hN hv hdb hcd).run pins s σ H (fun v1 H1 => v1 = v ∧ H1 = H) I ⟨_, h1, rfl, rfl⟩) fun u s1 ⟨v1, H1, I1, rv, e1, e2⟩ => ?_) ht
  subst e1 e2
  by_cases q : isC c o.x = true
  · rw [if_pos q] at h
    obtain ⟨a, dx, i', ns, vs, rfl, hi', ob⟩ := k1.inst q hs h.1.gr.fh
    rw [hi] at hi'
    cases hi'
    cases rv
    refine meth_go hK (co _ _ hi) I1 ob hm hf hx ?_
    rw [← hK] at Fn hm
    refine PySem.W.callWith_K (first := [.ref a]) (h₀ := X.base) I1.ok.mod.kin hm.kp (thn (ha.run pos pins s1 σ H1 (fun ws H2 => ∃ ds F2, rs = .ok ds ∧ PostNM g b Γ F2 t (((mm (o.x :: ds)).bind outN).bind (flR t)) σ H2 Q ∧ ArgO g F2 σ us ws ds) I1 (tAO_bindNM h fun ds ws F2 H2 hrs g2 a2 p2 => ⟨ds, F2, hrs, p2, a2⟩)) fun us1 s2 ⟨ws, H2, I2, r2, ds, F2, hrs, p2, a2⟩ => ⟨I2.kIn, ?_⟩) hst hpl
    obtain ⟨rf, p2⟩ := p2
    have a3 : ArgO g F2 σ (some (i, o) :: us) (.ref a :: ws) (o.x :: ds) := .m h1 a2
    exact run_fnRS (E := WE b.W) (us := .ref a :: us1) (vs := .ref a :: ws) Fn (hr.mono hj) (passAt tk σ) I2 (.cons rfl r2) (spM_lend rf ok a3 (by rw [a3.len, List.length_cons, hl ds hrs]) hd p2)
  · rw [if_neg q] at h
    exact h.2.elim
/-- x.m() -/
theorem nm_methL0 {c m : Str} {k j i : Nat} {cx : Ctx} {mm : List D → Res D} {apos : Pos} {pl : Sem Bool} (T : MethM X.prog X.w g X.mg X.base c m k [.d] t mm) (co : CisOk g) (hr : Room j X.A) (tk : Takes X b.W) (ok : UsOk Γ cx [] [some (i, o)])
    (hs : ∃ s, o.s = .o c s := by exact ⟨_, rfl⟩) (hN : X.N[i]? = some x := by rfl) (hv : Vis X.env.scope x := by first | exact Or.inl rfl | exact Or.inr (Or.inl rfl) | exact Or.inr (Or.inr rfl))
    (hdb : (x == ("__debug__" : Str)) = false := by decide) (hcd : (x == ("__classdict__" : Str)) = false := by decide) (hj : k ≤ j := by decide)
    (ht : eval (.Call (.Attribute (.Name x p) m apos) [] [] pos) X.env = (do
      let ov ← eval (.Name x p) X.env
      standAt apos.atName
      let (f, first) ← holding [ov] (getMethod ov m pl)
      callWith pos f first (backTo pos (starEach [] X.env)) (backToKw pos (keywordEach [] X.env))) := by first | exact ev_meth rfl rfl rfl rfl rfl | rfl) (hK : X.K = g.K := by rfl) :
    PE X (.Call (.Attribute (.Name x p) m apos) [] [] pos) (tNM g b Γ t (if isC c o.x = true then ((mm [o.x]).bind outN).bind (flR t) else .no)) := by
  obtain ⟨i9, fa, hi, hm, Fn, hf, hx⟩ := T.ex
  have hΓ := (ok.here i o List.mem_cons_self).1
  refine ⟨fun pins s σ H Q I h => ?_⟩
  obtain ⟨F, h⟩ := h
  obtain ⟨ov, h1, h2⟩ := h.1.at_ i _ hΓ
  cases ov with
  | none => exact h2.elim
  | some v =>
  obtain ⟨fp, k1, k2, k3⟩ := h2.mOf
  refine PySem.W.methodCall_KW (pl := pl) (thn ((pe_var hN hv hdb hcd).run pins s σ H (fun v1 H1 => v1 = v ∧ H1 = H) I ⟨_, h1, rfl, rfl⟩) fun u s1 ⟨v1, H1, I1, rv, e1, e2⟩ => ?_) ht
  subst e1 e2
  by_cases q : isC c o.x = true
  · rw [if_pos q] at h
    obtain ⟨a, dx, i', ns, vs, rfl, hi', ob⟩ := k1.inst q hs h.1.gr.fh
    rw [hi] at hi'
    cases hi'
    cases rv
    refine meth_go hK (co _ _ hi) I1 ob hm hf hx ?_
    rw [← hK] at Fn hm
    refine PySem.W.callWith_K0 (first := [.ref a]) I1.kIn hm.kp ?_
    have a3 : ArgO g F σ [some (i, o)] [.ref a] [o.x] := .m h1 .nil
    exact run_fnRS (E := WE b.W) (us := [.ref a]) (vs := [.ref a]) Fn (hr.mono hj) (passAt tk σ) I1 (.cons rfl .nil) (spM_lend h.1 ok a3 rfl (by simp) h.2)
  · rw [if_neg q] at h
    exact h.2.elim
/-- x.m(e, ..) that changes x -/
theorem e_methO {c m : Str} {k j i : Nat} {ms : List Sh} {mm : List D → Res D} {apos : Pos} {pl : Sem Bool} (T : MethM X.prog X.w g X.mg X.base c m k ms .d mm) (co : CisOk g) (hr : Room j X.A) (tk : Takes X b.W) (ha : PA X (e :: es) (tAO g b Γ us rs)) (hms : ms = usMs (some (i, o) :: us) := by rfl)
    (ok : UsOk Γ b.cx [] (some (i, o) :: us) := by repeat (first | exact UsOk.nil | apply UsOk.d | refine UsOk.m rfl rfl (by first | exact .inl ⟨_, rfl⟩ | exact .inr ⟨_, _, rfl⟩) (by decide) ?_)) (hs : ∃ s, o.s = .o c s := by exact ⟨_, rfl⟩) (hN : X.N[i]? = some x := by rfl) (hv : Vis X.env.scope x := by first | exact Or.inl rfl | exact Or.inr (Or.inl rfl) | exact Or.inr (Or.inr rfl))
    (hdb : (x == ("__debug__" : Str)) = false := by decide) (hcd : (x == ("__classdict__" : Str)) = false := by decide) (hj : k ≤ j := by decide)
    (hst : starEach (e :: es) X.env = (false, eval e X.env) :: starEach es X.env := by first | exact starEach_plain rfl | rfl) (hpl : (backTo pos (starEach es X.env)).any (·.1) = false := by first | exact star_any rfl | rfl)
    (ht : eval (.Call (.Attribute (.Name x p) m apos) (e :: es) [] pos) X.env = (do
      let ov ← eval (.Name x p) X.env
      standAt apos.atName
      let (f, first) ← holding [ov] (getMethod ov m pl)
      callWith pos f first (backTo pos (starEach (e :: es) X.env)) (backToKw pos (keywordEach [] X.env))) := by first | exact ev_meth rfl rfl rfl rfl rfl | rfl) (hK : X.K = g.K := by rfl) :
    PE X (.Call (.Attribute (.Name x p) m apos) (e :: es) [] pos) (tC g b Γ (some (i, o) :: us) (if isC c o.x = true then rs.bind fun ds => (mm (o.x :: ds)).bind outM else .no)) := by
  obtain ⟨i9, fa, hi, hm, Fn, hf, hx⟩ := T.ex
  subst hms
  have hΓ := (ok.here i o List.mem_cons_self).1
  refine ⟨fun pins s σ H Q I h => ?_⟩
  obtain ⟨F, h⟩ := h
  obtain ⟨ov, h1, h2⟩ := h.1.at_ i _ hΓ
  cases ov with
  | none => exact h2.elim
  | some v =>
  obtain ⟨fp, k1, k2, k3⟩ := h2.mOf
  refine PySem.W.methodCall_KW (pl := pl) (thn ((pe_var hN hv hdb hcd).run pins s σ H (fun v1 H1 => v1 = v ∧ H1 = H) I ⟨_, h1, rfl, rfl⟩) fun u s1 ⟨v1, H1, I1, rv, e1, e2⟩ => ?_) ht
  subst e1 e2
  by_cases q : isC c o.x = true
  · rw [if_pos q] at h
    obtain ⟨a, dx, i', ns, vs, rfl, hi', ob⟩ := k1.inst q hs h.1.gr.fh
    rw [hi] at hi'
    cases hi'
    cases rv
    refine meth_go hK (co _ _ hi) I1 ob hm hf hx ?_
    rw [← hK] at Fn hm
    have t0 : tAO g b Γ us rs σ H1 (fun ws H2 => ∃ ds F2, Rf g b Γ F2 σ H2 ∧ ArgO g F2 σ us ws ds ∧ match (mm (o.x :: ds)).bind outM with
        | .ok (d, zs) => ∀ v F' H', Sub F2 F' → Rf g b (setMs Γ (some (i, o) :: us) zs) F' σ H' → Enc g F' v d → Q v H'
        | .ex c fs => ∀ cls od F' H', Rf g b b.cx F' σ H' → ExOk g c fs cls od F' → b.W cls od σ H'
        | .no => False) := by
      obtain ⟨rf, h9⟩ := h
      refine ⟨F, rf, ?_⟩
      cases rs with
      | no => exact h9
      | ex cn fs => exact fun cls od F' H' _ r ok => h9 cls od F' H' r ok
      | ok ds =>
        intro ws F2 H2 gr a2
        refine ⟨ds, F2, rf.grow gr, a2, ?_⟩
        have h9 : match (mm (o.x :: ds)).bind outM with
          | .ok (d, zs) => ∀ v F' H', Sub F F' → Rf g b (setMs Γ (some (i, o) :: us) zs) F' σ H' → Enc g F' v d → Q v H'
          | .ex c fs => ∀ cls od F' H', Rf g b b.cx F' σ H' → ExOk g c fs cls od F' → b.W cls od σ H'
          | .no => False := h9
        cases q9 : (mm (o.x :: ds)).bind outM with
        | no => rw [q9] at h9; exact h9
        | ex cn fs => rw [q9] at h9; exact h9
        | ok pq =>
          rw [q9] at h9
          exact fun v F' H' s => h9 v F' H' (gr.ff.trans s)
    refine PySem.W.callWith_K (first := [.ref a]) (h₀ := X.base) I1.ok.mod.kin hm.kp (thn (ha.run pos pins s1 σ H1 _ I1 t0) fun us1 s2 ⟨ws, H2, I2, r2, ds, F2, rf, a2, p2⟩ => ⟨I2.kIn, ?_⟩) hst hpl
    have a3 : ArgO g F2 σ (some (i, o) :: us) (.ref a :: ws) (o.x :: ds) := .m h1 a2
    exact run_fnRS (E := WE b.W) (us := .ref a :: us1) (vs := .ref a :: ws) Fn (hr.mono hj) (passAt tk σ) I2 (.cons rfl r2) (spM_of (ms := []) (us' := []) (zs0 := []) rf ok a3 .nil (fun _ _ _ _ h => h) p2)
  · rw [if_neg q] at h
    exact h.2.elim
/-- x.m() that changes x -/
theorem e_methO0 {c m : Str} {k j i : Nat} {mm : List D → Res D} {apos : Pos} {pl : Sem Bool} (T : MethM X.prog X.w g X.mg X.base c m k [o.s] .d mm) (co : CisOk g) (hr : Room j X.A) (tk : Takes X b.W)
    (ok : UsOk Γ b.cx [] [some (i, o)] := by repeat (first | exact UsOk.nil | apply UsOk.d | refine UsOk.m rfl rfl (by first | exact .inl ⟨_, rfl⟩ | exact .inr ⟨_, _, rfl⟩) (by decide) ?_)) (hs : ∃ s, o.s = .o c s := by exact ⟨_, rfl⟩) (hN : X.N[i]? = some x := by rfl) (hv : Vis X.env.scope x := by first | exact Or.inl rfl | exact Or.inr (Or.inl rfl) | exact Or.inr (Or.inr rfl))
    (hdb : (x == ("__debug__" : Str)) = false := by decide) (hcd : (x == ("__classdict__" : Str)) = false := by decide) (hj : k ≤ j := by decide)
    (ht : eval (.Call (.Attribute (.Name x p) m apos) [] [] pos) X.env = (do
      let ov ← eval (.Name x p) X.env
      standAt apos.atName
      let (f, first) ← holding [ov] (getMethod ov m pl)
      callWith pos f first (backTo pos (starEach [] X.env)) (backToKw pos (keywordEach [] X.env))) := by first | exact ev_meth rfl rfl rfl rfl rfl | rfl) (hK : X.K = g.K := by rfl) :
    PE X (.Call (.Attribute (.Name x p) m apos) [] [] pos) (tC g b Γ [some (i, o)] (if isC c o.x = true then (mm [o.x]).bind outM else .no)) := by
  obtain ⟨i9, fa, hi, hm, Fn, hf, hx⟩ := T.ex
  have hΓ := (ok.here i o List.mem_cons_self).1
  refine ⟨fun pins s σ H Q I h => ?_⟩
  obtain ⟨F, h⟩ := h
  obtain ⟨ov, h1, h2⟩ := h.1.at_ i _ hΓ
  cases ov with
  | none => exact h2.elim
  | some v =>
  obtain ⟨fp, k1, k2, k3⟩ := h2.mOf
  refine PySem.W.methodCall_KW (pl := pl) (thn ((pe_var hN hv hdb hcd).run pins s σ H (fun v1 H1 => v1 = v ∧ H1 = H) I ⟨_, h1, rfl, rfl⟩) fun u s1 ⟨v1, H1, I1, rv, e1, e2⟩ => ?_) ht
  subst e1 e2
  by_cases q : isC c o.x = true
  · rw [if_pos q] at h
    obtain ⟨a, dx, i', ns, vs, rfl, hi', ob⟩ := k1.inst q hs h.1.gr.fh
    rw [hi] at hi'
    cases hi'
    cases rv
    refine meth_go hK (co _ _ hi) I1 ob hm hf hx ?_
    rw [← hK] at Fn hm
    refine PySem.W.callWith_K0 (first := [.ref a]) I1.kIn hm.kp ?_
    have a3 : ArgO g F σ [some (i, o)] [.ref a] [o.x] := .m h1 .nil
    exact run_fnRS (E := WE b.W) (us := [.ref a]) (vs := [.ref a]) Fn (hr.mono hj) (passAt tk σ) I1 (.cons rfl .nil) (spM_of (ms := []) (us' := []) (zs0 := []) h.1 ok a3 .nil (fun _ _ _ _ h => h) h.2)
  · rw [if_neg q] at h
    exact h.2.elim
/-- a new datum, as a datum -/
theorem e_nm (h : PE X e (tNM g b Γ .d r)) : PE X e (tE g b Γ r) := PE.imp h fun σ H Q q => by
  obtain ⟨F, rf, q⟩ := q
  refine ⟨F, rf, ?_⟩
  cases r with
  | ok d => exact fun v fp F' H' gr o _ _ => (by
      cases o with
      | d en => exact q v F' H' gr en)
  | ex c fs => exact q
  | no => exact q
end
end Mi
namespace Mi
open L2 PySem PySem.Spec PyProof.Rows
inductive PutSh (f : Str) (t : Sh) : Sh → Sh → Prop
  | new : PutSh f t .d (.f f t .d)
  | here {r : Sh} : PutSh f t (.f f t r) (.f f t r)
  | there {n : Str} {s r r' : Sh} : ¬ n = f → PutSh f t r r' → PutSh f t (.f n s r) (.f n s r')
section
variable {g : Gm} {F F' H H' : Hp}
theorem OwnF.put {f : Str} {t : Sh} {s s1 : Sh} {ns : List Str} {vs : List V} {kvs : List (D × D)} {fp : List Addr} (hp : PutSh f t s s1) (h : OwnF g F H s ns vs kvs fp) : ∃ f1 f3 : List Addr, (∀ c ∈ f1 ++ f3, c ∈ fp) ∧ (fp.Nodup → (f1 ++ f3).Nodup) ∧
    ∀ (F2 H2 : Hp) (w : V) (y : D) (fq : List Addr), Sub F F2 → Own g F2 H2 w ⟨t, y, none⟩ fq → (∀ c ∈ f1 ++ f3, H2 c = H c) → ∃ (ns' : List Str) (vs' : List V), putF f w (ns.zip vs) = ns'.zip vs' ∧ (∀ z ∈ ns', z ∈ ns ∨ z = f) ∧ OwnF g F2 H2 s1 ns' vs' (setF f y kvs) (f1 ++ fq ++ f3) := by
  induction hp generalizing ns vs kvs fp with
  | new =>
    cases h with
    | nil =>
    refine ⟨[], [], fun _ h => (by cases h), fun _ => .nil, fun F2 H2 w y fq _ o _ => ⟨[f], [w], rfl, fun z hz => .inr (List.mem_singleton.mp hz), ?_⟩⟩
    have z := OwnF.cons (n := f) o OwnF.nil
    have es : setF f y [] = [(.str f, y)] := rfl
    rw [es]
    simpa using z
  | here =>
    cases h with
    | @cons _ _ _ ns v vs x kvs fp fq h k =>
    refine ⟨[], fq, fun c hc => List.mem_append_right _ (by simpa using hc), fun nd => (by simpa using (List.nodup_append.mp nd).2.1), fun F2 H2 w y fz s2 o q => ⟨f :: ns, w :: vs, if_pos rfl, fun z hz => .inl hz, ?_⟩⟩
    have es : setF f y ((.str f, x) :: kvs) = (.str f, y) :: kvs := if_pos rfl
    rw [es]
    exact .cons o (k.keep s2 fun c hc => q c (by simpa using hc))
  | @there n s0 r0 r1 hn hp ih =>
    cases h with
    | @cons _ _ _ ns v vs x kvs fp fq h k =>
    obtain ⟨f1, f3, a1, a2, a3⟩ := ih k
    refine ⟨fp ++ f1, f3, fun c hc => ?_, fun nd => ?_, fun F2 H2 w y fz s2 o q => ?_⟩
    · rw [List.append_assoc] at hc
      rcases List.mem_append.mp hc with z | z
      · exact List.mem_append_left _ z
      · exact List.mem_append_right _ (a1 c z)
    · rw [List.append_assoc]
      obtain ⟨n1, n2, n3⟩ := List.nodup_append.mp nd
      exact List.nodup_append.mpr ⟨n1, a2 n2, fun a ha b hb => n3 a ha b (a1 b hb)⟩
    · obtain ⟨ns', vs', b1, b2, b3⟩ := a3 F2 H2 w y fz s2 o fun c hc => q c (by rw [List.append_assoc]; exact List.mem_append_right _ hc)
      refine ⟨n :: ns', v :: vs', ?_, fun z hz => ?_, ?_⟩
      · show (if n = f then _ else (n, v) :: putF f w (ns.zip vs)) = _
        rw [if_neg hn, b1]
        rfl
      · rcases List.mem_cons.mp hz with e | e
        · exact .inl (by rw [e]; exact List.mem_cons_self)
        · rcases b2 z e with w | w
          · exact .inl (List.mem_cons_of_mem _ w)
          · exact .inr w
      · have es : setF f y ((.str n, x) :: kvs) = (.str n, x) :: setF f y kvs := if_neg hn
        rw [es]
        have z := OwnF.cons (n := n) (h.keep s2 fun c hc => q c (by simp [hc])) b3
        simpa [List.append_assoc] using z
end
/-- a field stored, in the datum -/
def addFD (x : D) (f : Str) (d : D) : Option D := match x with
  | .dict ((.none, .str c) :: kvs) => some (.dict ((.none, .str c) :: setF f d kvs))
  | _ => none
section
variable {X : Cx} {g : Gm} {b : Bs} {Γ : Ctx} {F : Hp} {σ : L2.St} {H : Hp} {e e1 e2 : Expr} {es : List Expr} {pos p : Pos} {r ra rb : Res D} {rs : Res (List D)} {x f : Str} {t : Sh} {β τ υ : Type} {Γb : β → Ctx} {Γn : τ → Ctx} {rest body : List Stmt}
/-- x.f = e, x an instance of one's own; rest -/
theorem b_attrO {i : Nat} {c : Str} {ci : CI} {s0 s1 : Sh} {X0 : D} {oo : Option Addr} {k : D → Fl β τ} {p1 p2 : Pos} (co : CisOk g) (hci : g.ci c = some ci) (he : PE X e (tNM g b Γ t ra)) (hrest : ∀ z, PSs X rest (tS g b Γb (Γ.set i (some (.m ⟨.o c s1, z, oo⟩))) (k z) Γn))
    (hput : PutSh f t s0 s1) (hf : f ∈ ci.fs) (hsz : (fnSh s0).length < 1000)
    (hΓ : Γ[i]? = some (some (.m ⟨.o c s0, X0, oo⟩)) := by rfl) (hc : (b.cx[i]?).join = none := by rfl) (hN : X.N[i]? = some x := by rfl) (hv : Vis X.env.scope x := by first | exact Or.inl rfl | exact Or.inr (Or.inl rfl) | exact Or.inr (Or.inr rfl))
    (hd : (x == ("__debug__" : Str)) = false := by decide) (hcd : (x == ("__classdict__" : Str)) = false := by decide) (hs : swapsWith e (some (.Attribute (.Name x p1) f p2)) pos.line X.env = pure false := by rfl) (hK : X.K = g.K := by rfl) :
    PSs X (.Assign [.Attribute (.Name x p1) f p2] e pos :: rest) (tS g b Γb Γ (ra.bindF fun d => setD (addFD X0 f d) k) Γn) := by
  have hv2 := pe_var (pos := p1) hN hv hd hcd
  have one : PS X (.Assign [.Attribute (.Name x p1) f p2] e pos) (fun Ds σ H => tNM g b Γ t ra σ H fun v H1 => ∃ d fq F1 z, Rf g b Γ F1 σ H1 ∧ Own g F1 H1 v ⟨t, d, none⟩ fq ∧ fq.Nodup ∧ (∀ c ∈ fq, F1 c = none ∧ b.H0 c = none ∧ Free g Γ F1 σ H1 c) ∧ addFD X0 f d = some z ∧
      ∀ F2 H2, Rf g b (Γ.set i (some (.m ⟨.o c s1, z, oo⟩))) F2 σ H2 → Ds.nx σ H2) := by
    refine ⟨fun pins s σ H Ds I h => ?_⟩
    refine plainObj_wpAny_Assign_Attribute (thn (he.run pins s σ H _ I h) fun u s1' ⟨v, H1, I1, rv, d, fq, F1, z, rf, oq, nq, hq, ez, q⟩ => ?_) hs
    obtain ⟨ov, h1, h2⟩ := rf.at_ i _ hΓ
    cases ov with
    | none => exact h2.elim
    | some w =>
      obtain ⟨fp, k1, k2, k3⟩ := h2.mOf
      have k1' := k1
      cases k1 with
      | zo z1 z2 =>
        exfalso
        cases X0 with
        | dict _ => cases z1
        | _ => cases ez
      | @o a dx _ i9 ns vs _ kvs _ fr ho hi hk ha hdx hn hF =>
        rw [hci] at hi
        cases hi
        refine thn (hv2.run pins s1' σ H1 (fun v2 H2 => v2 = .ref a ∧ H2 = H1) I1 ⟨_, h1, rfl, rfl⟩) fun u2 s2 ⟨v2, H2, I2, rv2, e1, e2⟩ => ?_
        subst e1 e2
        cases rv2
        obtain ⟨sc9, na⟩ := (co c ci hci).di hk
        have len := hF.ns
        refine setattr_ok I2 ha (hK ▸ sc9) (show NoAttr X.K ci.C f from hK ▸ na f hf) (by rw [List.length_zip]; rw [len.1] at *; omega) rv fun s3 I3 => ⟨σ, _, I3, q F1 _ ?_⟩
        have ez : z = .dict ((.none, .str c) :: setF f d kvs) := (Option.some.inj ez).symm
        subst ez
        obtain ⟨f1, f3, a1, a2, a3⟩ := OwnF.put hput hF
        have ndr := (List.nodup_cons.mp k2)
        have aq : a ∉ fq := fun zz => (hq a zz).2.2.2 i _ _ _ hΓ h1 k1' List.mem_cons_self
        have dq : ∀ c ∈ fq, c ∉ fr := fun c hc zz => (hq c hc).2.2.2 i _ _ _ hΓ h1 k1' (List.mem_cons_of_mem _ zz)
        have na1 : ∀ c ∈ f1 ++ f3, c ≠ a := fun c hc zz => ndr.1 (by rw [← zz]; exact a1 c hc)
        obtain ⟨ns', vs', b1, b2, b3⟩ := a3 F1 (upd H2 a (.ins ci.C dx (putF f v (ns.zip vs)))) v d fq (Sub.refl _) (oq.keep (Sub.refl _) fun c hc => upd_ne fun zz => aq (by rw [← zz]; exact hc)) fun c hc => upd_ne (na1 c hc)
        have own : Own g F1 (upd H2 a (.ins ci.C dx (putF f v (ns.zip vs)))) (.ref a) ⟨.o c s1, .dict ((.none, .str c) :: setF f d kvs), oo⟩ (a :: (f1 ++ fq ++ f3)) := by
          refine .o ho hci hk ?_ hdx (fun z hz => ?_) b3
          · rw [upd_same, b1]
          · rcases b2 z hz with w | w
            · exact hn z w
            · rw [w]; exact hf
        have m3 := a2 ndr.2
        refine rf.chg1 hΓ h1 k1' (fun c o e n => ?_) (Sub.refl _) (fun c o e => ?_) (fun _ _ z _ => z) own ?_ (fun c hc => ?_) hc
        · have n2 : c ≠ a := fun z => n (by rw [z]; exact List.mem_cons_self)
          rw [upd_ne n2]
          exact e
        · have n : c ≠ a := fun z => by
            rw [z, (k3 a List.mem_cons_self).1] at e
            cases e
          rw [upd_ne n]
          exact rf.gr.fh c o e
        · refine List.nodup_cons.mpr ⟨fun zz => ?_, nodup_mid' nq m3 fun c hc => ⟨fun w => dq c hc (a1 c (by simp [w])), fun w => dq c hc (a1 c (by simp [w]))⟩⟩
          rcases List.mem_append.mp zz with w | w
          · rcases List.mem_append.mp w with w | w
            · exact na1 a (by simp [w]) rfl
            · exact aq w
          · exact na1 a (by simp [w]) rfl
        · rcases List.mem_cons.mp hc with w | w
          · rw [w]
            exact ⟨(k3 a List.mem_cons_self).1, (k3 a List.mem_cons_self).2, .inr List.mem_cons_self⟩
          · have inr : ∀ c, c ∈ fr → F1 c = none ∧ b.H0 c = none ∧ (Free g Γ F1 σ H2 c ∨ c ∈ a :: fr) := fun c w => ⟨(k3 c (List.mem_cons_of_mem _ w)).1, (k3 c (List.mem_cons_of_mem _ w)).2, .inr (List.mem_cons_of_mem _ w)⟩
            rcases List.mem_append.mp w with w | w
            · rcases List.mem_append.mp w with w | w
              · exact inr c (a1 c (by simp [w]))
              · exact ⟨(hq c w).1, (hq c w).2.1, .inl (hq c w).2.2⟩
            · exact inr c (a1 c (by simp [w]))
  refine PSs.imp (pss_cons one (PSs.ex fun z => hrest z)) fun Ds σ H h => ?_
  refine tS_bindM h fun d v fp F1 H1 ed rf ow nd hf hn h2 => ?_
  cases ez : addFD X0 f d with
  | none =>
    rw [ez] at h2
    exact h2.elim
  | some z =>
    rw [ez] at h2
    exact ⟨d, fp, F1, z, rf, ow, nd, fun c hc => ⟨(hf c hc).1, (hf c hc).2, ⟨fun j ys hj => hn.1 j ys hj c hc, fun j y w fq h1 h2 h3 => hn.2 j y w fq h1 h2 h3 c hc⟩⟩, ez, fun F2 H2 r2 => ⟨z, F2, r2, h2⟩⟩
end
def ansO (o : Fl Empty D) : Res D := match o with
  | .nx z => .ok z
  | .ex c fs => .ex c fs
  | _ => .no
def spIO (g : Gm) (i : CI) (c : Str) (s : Sh) (m : List D → Res D) : Sp := fun vs H Q E => ∃ F H0 ds a dx vs', vs = .ref a :: vs' ∧ H0 a = none ∧ H0 dx = none ∧ dx ≠ a ∧ H = upd (upd H0 dx (.own a)) a (.ins i.C dx []) ∧ Sub F H0 ∧ EncL g F vs' ds ∧ match m ds with
  | .ok d => ∀ F' H' fr, Grow F H0 F' H' → Own g F' H' (.ref a) ⟨.o c s, d, none⟩ fr → fr.Nodup → (∀ q ∈ fr, F' q = none ∧ H0 q = none) → Q .non H'
  | .ex c fs => ∀ cls od F' H', Grow F H0 F' H' → ExOk g c fs cls od F' → E cls od H'
  | .no => False
/-- a class of the program that is called without values -/
structure MakeO (P : Program) (w : World) (g : Gm) (mg : Str → Option Value) (base : Heap) (x : Str) (k : Nat) (s : Sh) (m : List D → Res D) : Prop where
  ex : ∃ i f fd ps g' gV, g.ci x = some i ∧ mg x = some (.ref i.C) ∧ Mk g.K i.C f ∧ FnOk P w g.K mg base (L2.CX P w) k f fd ps (spIO g i x s m) ∧ KBn g.K fd ps 1 [] g' gV ∧ ∀ x : Addr, gV [.ref x] [] = [V.ref x]
section
variable {X : Cx} {g : Gm} {b : Bs} {Γ : Ctx} {F : Hp} {σ : L2.St} {H : Hp} {pos p : Pos} {x : Str} {s : Sh}
/-- C() -/
theorem nm_makeO {k j : Nat} {m : List D → Res D} (T : MakeO X.prog X.w g X.mg X.base x k s m) (hr : Room j X.A) (tk : Takes X b.W) (hj : k + 1 ≤ j := by decide) (hg : Gl X x := by rfl) (hdb : (x == ("__debug__" : Str)) = false := by decide) (hK : X.K = g.K := by rfl) :
    PE X (.Call (.Name x p) [] [] pos) (tNM g b Γ (.o x s) (m [])) := by
  obtain ⟨i, f, fd, ps, g', gV, hi, gm, M, Fn, hb, hG⟩ := T.ex
  rw [← hK] at Fn hb M
  refine ⟨fun pins s9 σ H Q I h => ?_⟩
  obtain ⟨F, rf, h⟩ := h
  refine wpAny_Call_Name_kw (ld_glob I hg gm ?_ hdb)
  refine PySem.W.callWith_K0 (first := []) I.kIn M.kp ?_
  refine run_makeS (n := 0) (ks := []) (vs := []) (ws := []) (zs := []) M Fn (hr.mono hj) hb (passAt tk σ) I .nil .nil rfl rfl fun a dx h1 h2 h3 => ?_
  rw [hG]
  refine ⟨F, H, [], a, dx, [], rfl, h1, h2, h3, rfl, rf.gr.fh, .nil, ?_⟩
  cases q : m [] with
  | ok d =>
    rw [q] at h
    exact fun F' H' fr gr ow nd hf => ⟨rfl, h _ fr F' H' gr ow nd fun c hc => ⟨(hf c hc).2, (hf c hc).1⟩⟩
  | ex c fs =>
    rw [q] at h
    exact fun cls od F' H' gr ok => h cls od F' H' gr (rf.grow gr).cx ok
  | no =>
    rw [q] at h
    exact h
end
section
variable {P : Program} {w : World} {g : Gm} {mg : Str → Option Value} {base : Heap} {name qual : Str} {params : Arguments} {body : List Stmt} {scope : Scope} {dvs : List V} {kws : List (Str × V)} {f : Addr} {fd : FuncData} {N ps : List Str} {k : Nat}
theorem initO_ok {i : CI} {c : Str} {t : Sh} {o : List D → Fl Empty D} {m : List D → Res D} (hci : g.ci c = some i) (hk : i.k = .dict) (Fd : FunD g.K name qual params body scope dvs kws f fd) (S : FnScope N ps scope) (hm : ∀ ds, ds.length + 1 = ps.length → m ds = ansO (o ds)) (hl : ∀ ds, ds.length + 1 ≠ ps.length → m ds = .no)
    (hbody : ∀ (cdv : Value) (A : Around) (outer : List Env) (s : Shared) (H H0 F : Hp) (E : XK) (a : Addr) (ds : List D), Side k P w g mg base N qual scope f cdv A outer s H E → ds.length + 1 = ps.length →
      PSs (cxOf (L2.CX P w) P w g.K mg base N qual scope f cdv A outer s H E) body (tS g (bs0 g F H0 E) (fun e : Empty => e.elim) (some (.m ⟨.o c .d, .dict [(.none, .str c)], some a⟩) :: ctx0 (N.length - 1) ds) (o ds) (fun z => [some (.m ⟨.o c t, z, some a⟩)]))) :
    FnOk P w g.K mg base (L2.CX P w) (k + 1) f fd ps (spIO g i c t m) := by
  have len : ∀ vs H Q E, spIO g i c t m vs H Q E → vs.length = ps.length := fun vs H Q E h => by
    obtain ⟨F, H0, ds, a, dx, vs', rfl, h1, h2, h3, h4, s, en, h⟩ := h
    rw [List.length_cons, en.len]
    by_cases q : ds.length + 1 = ps.length
    · exact q
    · rw [hl ds q] at h
      exact h.elim
  refine Fd.ok S len fun cdv A outer s H vs Q E hr h => ?_
  have l0 := len _ _ _ _ h
  obtain ⟨F, H0, ds, a, dx, vs', rfl, h1, h2, h3, h4, sb, en, h⟩ := h
  have l1 : ds.length + 1 = ps.length := by rw [← en.len]; exact l0
  rw [hm ds l1] at h
  have N1 : 1 ≤ N.length := by
    have z := S.pre
    have z2 := congrArg List.length z
    rw [List.length_take] at z2
    omega
  have Fa : F a = none := sb.free h1
  have Fd' : F dx = none := sb.free h2
  have s0 : Sub H0 H := by
    rw [h4]
    exact (Sub.new h2).trans (Sub.new (by rw [upd_ne (Ne.symm h3)]; exact h1))
  have s1 : Sub F (upd F dx (.own a)) := Sub.new Fd'
  have Hdx : H dx = some (.own a) := by rw [h4, upd_ne h3, upd_same]
  have s2 : Sub (upd F dx (.own a)) H := fun z u e => by
    by_cases q : z = dx
    · subst q
      rw [upd_same] at e
      rw [Hdx]
      exact e
    · rw [upd_ne q] at e
      exact s0 _ _ (sb _ _ e)
  have own : Own g (upd F dx (.own a)) H (.ref a) ⟨.o c .d, .dict [(.none, .str c)], some a⟩ [a] := .o (dx := dx) (ns := []) (vs := []) (fun q e => by cases e; rfl) hci hk (by rw [h4, upd_same]; rfl) upd_same (fun _ z => nomatch z) .nil
  have fa : upd F dx (.own a) a = none := by
    rw [upd_ne (Ne.symm h3)]
    exact Fa
  have r0 := rf0 (g := g) (N := N.tail) (n := N.length - 1) (E := E) (by simp) sb en
  have e9 : start N (V.ref a :: vs') = some (V.ref a) :: start N.tail vs' := by
    unfold L2.start
    simp
    omega
  refine ⟨_, hbody cdv A outer s H H0 F E a ds (side_of hr) l1, upd F dx (.own a), ?_, ?_⟩
  · refine ⟨⟨s1, s2, s0, fun b hb1 hb2 => ?_⟩, .nil, fun j bd e => ?_, fun j j2 z xs ys e1 e2 e3 e4 => ?_, fun j j2 x v fp ne e1 e2 e3 q hq => ⟨fun xs w => ?_, fun y w fq w1 w2 w3 => ?_⟩⟩
    · rw [upd_ne fun z => hb1 (by rw [z]; exact h2)]
      exact hb2
    · cases j with
      | zero =>
        cases e
        exact ⟨some (.ref a), by rw [e9]; rfl, BOk.toM (b := bs0 g F H0 E) ⟨[a], own, by simp, fun q hq => by
          rw [List.mem_singleton.mp hq]
          exact ⟨fa, h1⟩⟩⟩
      | succ j =>
        have e : (ctx0 (N.length - 1) ds)[j]? = some (some bd) := by simpa using e
        obtain ⟨d, rfl⟩ := ctx0_v e
        obtain ⟨ov, k1, k2⟩ := r0.at_ j _ e
        refine ⟨ov, by rw [e9]; exact k1, ?_⟩
        cases ov with
        | none => exact k2
        | some v => exact Enc.mono s1 k2
    · cases j with
      | zero => cases e1
      | succ j =>
        obtain ⟨d, z⟩ := ctx0_v (i := j) (by simpa using e1)
        cases z
    · cases j2 with
      | zero => cases w
      | succ j =>
        obtain ⟨d, z⟩ := ctx0_v (i := j) (by simpa using w)
        cases z
    · cases j2 with
      | zero =>
        cases j with
        | zero => exact absurd rfl ne
        | succ j =>
          obtain ⟨d, z⟩ := ctx0_v (i := j) (by simpa using e1)
          cases z
      | succ j =>
        obtain ⟨d, z⟩ := ctx0_v (i := j) (by simpa using w1)
        cases z
  · cases q : o ds with
    | nx z =>
      rw [q] at h
      intro F' σ' H' r
      obtain ⟨ov, k1, k2⟩ := r.at_ 0 (.m ⟨.o c t, z, some a⟩) rfl
      cases ov with
      | none => exact k2.elim
      | some v =>
        obtain ⟨fp, q1, q2, q3⟩ := k2.mOf
        have ev := q1.at_ (.inr ⟨_, _, rfl⟩)
        subst ev
        exact h F' H' fp r.gr q1.noO q2 q3
    | rt d =>
      rw [q] at h
      exact h.elim
    | bk e => exact e.elim
    | ct e => exact e.elim
    | ex cn fs =>
      rw [q] at h
      exact fun cls od F' σ' H' r ok => h cls od F' H' r.gr ok
    | no =>
      rw [q] at h
      exact h
end
end Mi
namespace Mi
open L2 PySem PySem.Spec PyProof.Rows
/-- a field's shape, another -/
inductive RepSh (f : Str) (t t2 : Sh) : Sh → Sh → Prop
  | here {r : Sh} : RepSh f t t2 (.f f t r) (.f f t2 r)
  | there {n : Str} {s r r' : Sh} : ¬ n = f → RepSh f t t2 r r' → RepSh f t t2 (.f n s r) (.f n s r')
section
variable {g : Gm} {F F' H H' : Hp}
theorem OwnF.resh {f : Str} {t t2 : Sh} {s s1 : Sh} {ns : List Str} {vs : List V} {kvs : List (D × D)} {fp : List Addr} (hp : RepSh f t t2 s s1) (h : OwnF g F H s ns vs kvs fp)
    (k : ∀ v x fq, (ns.zip vs).lookup f = some v → getF kvs f = some x → Own g F H v ⟨t, x, none⟩ fq → Own g F H v ⟨t2, x, none⟩ fq) : OwnF g F H s1 ns vs kvs fp := by
  induction hp generalizing ns vs kvs fp with
  | here =>
    cases h with
    | @cons _ _ _ ns v vs x kvs fp fq h q => exact .cons (k v x fp (by simp [List.lookup]) (if_pos rfl) h) q
  | @there n s0 r0 r1 hn hp ih =>
    cases h with
    | @cons _ _ _ ns v vs x kvs fp fq h q =>
    refine .cons h (ih q fun v2 x2 f2 l1 l2 o => k v2 x2 f2 ?_ ?_ o)
    · have nq : (f == n) = false := by simpa using fun z => hn z.symm
      show List.lookup f ((n, v) :: ns.zip vs) = some v2
      simp only [List.lookup, nq]
      exact l1
    · exact (if_neg hn).trans l2
/-- the item at a known place -/
theorem ZipG.item {v0 v : V} {x0 : OD} {j : Nat} {a : Addr} {s : Sh} {ys : List D} {z : D} {up : D → D} (h : ZipG g F H v0 x0 v (.p j a s) (.list ys) up) (e : ys[j]? = some z) : ZipG g F H v0 x0 (.ref a) s z (fun w => up (.list (ys.set j w))) := fun fp ho nd => by
  obtain ⟨fr, o, sub, ndr, cap⟩ := h fp ho nd
  cases o with
  | zp q _ => cases q
  | @p c _ vs _ _ _ _ fq _ hc hj k =>
  obtain ⟨v1, f1, f2, f3, a1, a2, a3, a4⟩ := k.at_ e
  rw [hj] at a1
  cases a1
  subst a2
  have cin := (List.nodup_cons.mp ndr).1
  obtain ⟨m1, m2, m3⟩ := nodup_mid (List.nodup_cons.mp ndr).2
  have hin : ∀ q ∈ f1 ++ f2 ++ f3, q ∈ fp := fun q hq => sub q (List.mem_cons_of_mem _ hq)
  refine ⟨f2, a3, fun q hq => hin q (by simp [hq]), m1, fun F2 H2 y2 fr2 s2 o2 n2 i2 k2 => ?_⟩
  have sep : ∀ q ∈ fr2, q ≠ c ∧ q ∉ f1 ∧ q ∉ f3 := fun q hq => by
    rcases i2 q hq with w | w
    · exact ⟨fun e => cin (by rw [← e]; simp [w]), m2 q w⟩
    · exact ⟨fun e => w (by rw [e]; exact sub c List.mem_cons_self), fun e => w (hin q (by simp [e])), fun e => w (hin q (by simp [e]))⟩
  have k3 := a4 F2 H2 (.ref a) y2 fr2 s2 o2 fun q hq => k2 q (hin q (by rcases List.mem_append.mp hq with w | w <;> simp [w])) fun w => by
    have := m2 q w
    rcases List.mem_append.mp hq with u | u
    · exact this.1 u
    · exact this.2 u
  have es : vs.set j (.ref a) = vs := List.ext_getElem? fun k => by
    by_cases hk2 : j = k
    · subst hk2
      rw [List.getElem?_set_self (List.getElem?_eq_some_iff.mp hj).1, hj]
    · rw [List.getElem?_set_ne hk2]
  rw [es] at k3
  have hc2 : H2 c = some (.lst vs) := by
    rw [k2 c (sub c List.mem_cons_self) fun w => cin (by simp [w])]
    exact hc
  have o3 : Own g F2 H2 (.ref c) ⟨.p j a s, .list (ys.set j y2), none⟩ (c :: (f1 ++ fr2 ++ f3)) := .p (fun _ z => nomatch z) hc2 hj k3
  have nd3 : (c :: (f1 ++ fr2 ++ f3)).Nodup := List.nodup_cons.mpr ⟨fun w => by
    rcases List.mem_append.mp w with w | w
    · rcases List.mem_append.mp w with w | w
      · exact cin (by simp [w])
      · exact (sep c w).1 rfl
    · exact cin (by simp [w]), nodup_mid' n2 m3 fun q hq => (sep q hq).2⟩
  obtain ⟨fp2, p1, p2, p3⟩ := cap F2 H2 _ _ s2 o3 nd3 (fun q hq => by
    rcases List.mem_cons.mp hq with w | w
    · exact .inl (by rw [w]; exact List.mem_cons_self)
    · rcases List.mem_append.mp w with w | w
      · rcases List.mem_append.mp w with w | w
        · exact .inl (by simp [w])
        · rcases i2 q w with u | u
          · exact .inl (by simp [u])
          · exact .inr u
      · exact .inl (by simp [w])) fun q hq n => k2 q hq fun w => n (by simp [w])
  refine ⟨fp2, p1, p2, fun q hq => ?_⟩
  rcases p3 q hq with w | w
  · exact .inl w
  · rcases List.mem_cons.mp w with w | w
    · exact .inl (by rw [w]; exact sub c List.mem_cons_self)
    · rcases List.mem_append.mp w with w | w
      · rcases List.mem_append.mp w with w | w
        · exact .inl (hin q (by simp [w]))
        · exact .inr w
      · exact .inl (hin q (by simp [w]))
end
/-- the place of an item that is a list, in a field -/
def aliM (z i : D) : Option Nat := match z, i with
  | .list ys, .int n => (ixN ys.length n).bind fun j => match ys[j]? with
    | some (.list _) => some j
    | _ => none
  | _, _ => none
def aliJ (x : D) (f : Str) (i : D) : Option Nat := (fldU (x, id) f).bind fun p => aliM p.1 i
def aliK {β τ : Type} (o : Option Nat) (k : Nat → Fl β τ) : Fl β τ := match o with
  | some j => k j
  | none => .no
/-- that item, and how to change it -/
def aliU (x : D) (f : Str) (j : Nat) : Option (D × (D → D)) := (fldU (x, id) f).bind fun p => match p.1 with
  | .list ys => (ys[j]?).map fun z => (z, fun w => p.2 (.list (ys.set j w)))
  | _ => none
section
variable {X : Cx} {g : Gm} {b : Bs} {Γ : Ctx} {F F' : Hp} {σ : L2.St} {H H' : Hp} {e e1 e2 : Expr} {es : List Expr} {pos p : Pos} {r ra rb ro : Res D} {rs : Res (List D)} {x y f : Str} {o : OD} {s t : Sh} {rp : Res (D × (D → D))} {β τ υ : Type} {Γb : β → Ctx} {Γn : τ → Ctx} {rest body : List Stmt}
/-- a part, looked at -/
theorem r_g {i : Nat} (h : PE X e (tG g b Γ i o t rp)) : PE X e (tR g b Γ (rp.bind fun p => .ok p.1)) := PE.imp h fun σ H Q q => by
  obtain ⟨F, rf, q⟩ := q
  refine ⟨F, rf, ?_⟩
  cases rp with
  | ok p =>
    intro v v0 fp F' H' gr hs ho nd z
    obtain ⟨fr, o2, _⟩ := z fp ho nd
    exact q v F' H' gr (o2.enc gr.fh)
  | ex c fs => exact q
  | no => exact q
/-- the local name of an item -/
theorem g_alias {i i2 j : Nat} {a : Addr} {c : Str} {s1 : Sh} {X0 : D} {oo : Option Addr} (hf : fldS s1 f = some (.p j a s) := by rfl) (hΓ : Γ[i]? = some (some (.m ⟨.o c s1, X0, oo⟩)) := by rfl) (hΓ2 : Γ[i2]? = some (some (.x a)) := by rfl) (hN : X.N[i2]? = some x := by rfl) (hv : Vis X.env.scope x := by first | exact Or.inl rfl | exact Or.inr (Or.inl rfl) | exact Or.inr (Or.inr rfl))
    (hd : (x == ("__debug__" : Str)) = false := by decide) (hcd : (x == ("__classdict__" : Str)) = false := by decide) : PE X (.Name x pos) (tG g b Γ i ⟨.o c s1, X0, oo⟩ s (ofO (aliU X0 f j))) := PE.imp (pe_exc (g := g) (b := b) (Γ := Γ) hΓ2 hN hv hd hcd) fun σ H Q q => by
  obtain ⟨F, rf, q⟩ := q
  refine ⟨F, rf, ?_⟩
  have q9 : match (ofO (aliU X0 f j) : Res (D × (D → D))) with
    | .ok p => ∀ v v0 fp F' H', Grow F H F' H' → σ[i]? = some (some v0) → Own g F' H' v0 ⟨.o c s1, X0, oo⟩ fp → fp.Nodup → ZipG g F' H' v0 ⟨.o c s1, X0, oo⟩ v s p.1 p.2 → Q v H'
    | .ex c fs => ∀ cls od F' H', Grow F H F' H' → Rf g b b.cx F' σ H' → ExOk g c fs cls od F' → b.W cls od σ H'
    | .no => False := q
  cases ea : aliU X0 f j with
  | none =>
    rw [ea] at q9
    exact q9.elim
  | some pz =>
    rw [ea] at q9
    obtain ⟨ov, h1, h2⟩ := rf.at_ i _ hΓ
    cases ov with
    | none => exact h2.elim
    | some v0 =>
      obtain ⟨fp, k1, k2, k3⟩ := h2.mOf
      unfold aliU at ea
      cases ef : fldU (X0, id) f with
      | none =>
        rw [ef] at ea
        cases ea
      | some pf =>
        rw [ef] at ea
        obtain ⟨yf, uf⟩ := pf
        have zt : ZipG g F H v0 ⟨.o c s1, X0, oo⟩ v0 (.o c s1) X0 id := ZipG.top (x0 := ⟨.o c s1, X0, oo⟩) (.inr ⟨_, _, rfl⟩)
        obtain ⟨_, _, _, _, _, _, w, _, _, _, _, _, _, _, _, _, _, zf⟩ := zt.fld hf ef k1 k2
        cases yf with
        | list ys =>
          have ea : (ys[j]?).map (fun z => (z, fun w => uf (.list (ys.set j w)))) = some pz := ea
          cases ej : ys[j]? with
          | none =>
            rw [ej] at ea
            cases ea
          | some z =>
            rw [ej] at ea
            cases ea
            exact q9 (.ref a) v0 fp F H (Grow.refl rf.gr.fh) h1 k1 k2 (zf.item ej)
        | _ => cases ea
/-- a field of an instance of one's own, by its place -/
theorem pe_fldX {i : Nat} {c : Str} {s0 t0 : Sh} {X0 : D} {oo : Option Addr} {p1 : Pos} (co : CisOk g) (hft : fldS s0 f = some t0) (hX : ∃ p, fldU (X0, id) f = some p) (hΓ : Γ[i]? = some (some (.m ⟨.o c s0, X0, oo⟩))) (hN : X.N[i]? = some x) (hv : Vis X.env.scope x) (hd : (x == ("__debug__" : Str)) = false) (hcd : (x == ("__classdict__" : Str)) = false)
    (hb : attributeBase (.Name x p1) f X.env (eval (.Name x p1) X.env) = eval (.Name x p1) X.env) (hK : X.K = g.K) :
    PE X (.Attribute (.Name x p1) f pos) (fun σ H Q => ∃ F, Rf g b Γ F σ H ∧ ∀ a dx (ci : CI) (ns : List Str) (vs : List V) kvs fr w z, σ[i]? = some (some (.ref a)) → Own g F H (.ref a) ⟨.o c s0, X0, oo⟩ (a :: fr) → X0 = .dict ((.none, .str c) :: kvs) → g.ci c = some ci → ci.k = .dict → H a = some (.ins ci.C dx (ns.zip vs)) → F dx = some (.own a) → (∀ f ∈ ns, f ∈ ci.fs) → OwnF g F H s0 ns vs kvs fr → (ns.zip vs).lookup f = some w → getF kvs f = some z → Q w H) := by
  refine ⟨fun pins s9 σ H Q I h => ?_⟩
  obtain ⟨F, rf, h⟩ := h
  obtain ⟨ov, h1, h2⟩ := rf.at_ i _ hΓ
  cases ov with
  | none => exact h2.elim
  | some v0 =>
    obtain ⟨fp, k1, k2, k3⟩ := h2.mOf
    have k1' := k1
    cases k1 with
    | zo q _ =>
      obtain ⟨p, e⟩ := hX
      cases X0 with
      | dict _ => cases q
      | _ => cases e
    | @o a dx _ ci ns vs _ kvs _ fr ho hi hk ha hdx hn hF =>
      refine attr_of hb (thn ((pe_var hN hv hd hcd).run pins s9 σ H (fun v H1 => v = .ref a ∧ H1 = H) I ⟨_, h1, rfl, rfl⟩) fun u s1 ⟨v, H1, I1, rv, e1, e2⟩ => ?_)
      subst e1 e2
      cases rv
      obtain ⟨j, w, z, f1, f2, f3, a1, a2, a3, a4, _⟩ := hF.at_ hft
      exact attr_go hK (co _ _ hi) I1 (.inr ⟨hk, hF.ns.2, ha, rf.gr.fh _ _ hdx, hn⟩) a1 a2 a3 fun u' s2 I2 ru => ⟨w, H1, I2, ru, h a dx ci ns vs kvs fr w z h1 k1' rfl hi hk ha hdx hn hF a3 a4⟩
/-- y = x.f[e], an item that is a list; rest -/
theorem b_alias {i i2 : Nat} {c : Str} {s0 : Sh} {s1 : Nat → Addr → Sh} {X0 : D} {oo : Option Addr} {k : Nat → Fl β τ} {p1 p2 p3 py : Pos} (co : CisOk g) (hb : PE X e2 (tE g b Γ rb)) (hsh : ∀ j a, RepSh f (.l (.l t)) (.p j a (.l t)) s0 (s1 j a)) (hft : fldS s0 f = some (.l (.l t)))
    (hrest : ∀ j a, PSs X rest (tS g b Γb ((Γ.set i (some (.m ⟨.o c (s1 j a), X0, oo⟩))).set i2 (some (.x a))) (k j) Γn)) (hND : X.N.Nodup)
    (hΓ : Γ[i]? = some (some (.m ⟨.o c s0, X0, oo⟩)) := by rfl) (hc : (b.cx[i]?).join = none := by rfl) (hc2 : (b.cx[i2]?).join = none := by rfl) (hN : X.N[i]? = some x := by rfl) (hN2 : X.N[i2]? = some y := by rfl) (hv : Vis X.env.scope x := by first | exact Or.inl rfl | exact Or.inr (Or.inl rfl) | exact Or.inr (Or.inr rfl))
    (hy : Loc X.env.scope y := by first | exact Or.inl rfl | exact Or.inr rfl) (hd : (x == ("__debug__" : Str)) = false := by decide) (hcd : (x == ("__classdict__" : Str)) = false := by decide)
    (hbase : attributeBase (.Name x p1) f X.env (eval (.Name x p1) X.env) = eval (.Name x p1) X.env := by first | exact base_plain rfl | rfl) (hpl : PlainIx e2 := by exact fun _ _ => rfl)
    (hs : swapsWith (.Subscript (.Attribute (.Name x p1) f p2) e2 p3) (some (.Name y py)) pos.line X.env = pure false := by rfl) (hf : X.fn y = true ∨ X.env.scope.names.lookup y = some .local := by first | exact .inl rfl | exact .inr rfl) (hK : X.K = g.K := by rfl) :
    PSs X (.Assign [.Name y py] (.Subscript (.Attribute (.Name x p1) f p2) e2 p3) pos :: rest) (tS g b Γb Γ (if (fldU (X0, id) f).isSome = true then rb.bindF fun i => aliK (aliJ X0 f i) k else .no) Γn) := by
  by_cases hX : ∃ p, fldU (X0, id) f = some p
  · rw [if_pos (by obtain ⟨p, e⟩ := hX; rw [e]; rfl)]
    refine PSs.impI (pss_cons (ps_set hND hN2 hy (pe_ix ix_seq (pe_fldX (b := b) (p1 := p1) (pos := p2) co hft hX hΓ hN hv hd hcd hbase hK) hb hpl) hs hf) (PSs.ex fun j => PSs.ex fun a => hrest j a)) fun Ds σ H hl h => ?_
    obtain ⟨F, rf, h⟩ := h
    refine ⟨F, rf, fun a dx ci ns vs kvs fr w z hs0 ho eX hci hck ha hdx hn hF hlk hget => ?_⟩
    refine ⟨F, rf, ?_⟩
    cases rb with
    | no => exact h
    | ex cn fs => exact fun cls od F' H' gr r1 ok => h cls od F' σ H' r1 ok
    | ok iv =>
      intro wi F1 H1 g1 ei
      have h : EndS g b Γb Γn (aliK (aliJ X0 f iv) k) Ds := h
      cases ea : aliJ X0 f iv with
      | none =>
        rw [ea] at h
        exact (show False from h).elim
      | some j =>
        rw [ea] at h
        have h5 : EndS g b Γb Γn (k j) Ds := h
        clear h
        subst eX
        have ea : ((getF kvs f).map (fun y => (y, fun z => (PyData.dict ((.none, .str c) :: setF f z kvs))))).bind (fun p => aliM p.1 iv) = some j := ea
        rw [hget] at ea
        have ea : aliM z iv = some j := ea
        cases z with
        | list ys =>
          cases ei with
          | int n =>
            have ea : (ixN ys.length n).bind (fun j => match ys[j]? with
              | some (.list _) => some j
              | _ => none) = some j := ea
            cases e3 : ixN ys.length n with
            | none =>
              rw [e3] at ea
              cases ea
            | some m =>
              rw [e3] at ea
              have ea : (match ys[m]? with
                | some (.list _) => some m
                | _ => none) = some j := ea
              cases e4 : ys[m]? with
              | none =>
                rw [e4] at ea
                cases ea
              | some zz =>
                rw [e4] at ea
                cases zz with
                | list zs =>
                  cases ea
                  obtain ⟨jx, w2, z2, f1, f2, f3, a1, a2, a3, a4, a5, a6, a7⟩ := hF.at_ hft
                  rw [hlk] at a3
                  cases a3
                  rw [hget] at a4
                  cases a4
                  have rf1 := rf.grow g1
                  have sm := g1.same ho
                  cases a6 with
                  | z q _ => cases q
                  | @l q ws _ _ _ fq _ hq hws =>
                  obtain ⟨u, g1', g2', g3', b1, b2, b3, b4⟩ := hws.at_ e4
                  cases b3 with
                  | z q _ => cases q
                  | @l q2 us _ _ _ fq2 _ hq2 hus =>
                  have qin : q ∈ a :: fr := by
                    subst a5
                    exact List.mem_cons_of_mem _ (by simp)
                  have hq1 : H1 q = some (.lst ws) := by
                    rw [sm q qin]
                    exact hq
                  refine ixL hq1 (by rw [hws.len]; exact e3) b1 ?_
                  -- the whole, with the place known
                  have ho1 := ho.keep g1.ff sm
                  have own : Own g F1 H1 (.ref a) ⟨.o c (s1 j q2), .dict ((.none, .str c) :: kvs), oo⟩ (a :: fr) := by
                    cases ho1 with
                    | @o _ dx1 _ ci1 ns1 vs1 _ _ _ _ ho9 hi9 hk9 ha9 hd9 hn9 hF9 =>
                    refine .o ho9 hi9 hk9 ha9 hd9 hn9 (hF9.resh (hsh j q2) fun v9 x9 fq9 l1 l2 o9 => ?_)
                    rw [hget] at l2
                    cases l2
                    have e1 : H1 a = H a := sm a List.mem_cons_self
                    rw [ha9, ha] at e1
                    injection e1 with e1
                    injection e1 with _ _ e1
                    rw [e1, hlk] at l1
                    cases l1
                    cases o9 with
                    | z q9 _ => cases q9
                    | @l _ ws9 _ _ _ _ _ h91 h92 =>
                    rw [hq1] at h91
                    cases h91
                    exact .p (fun _ z => nomatch z) hq1 b1 h92
                  have rf2 := rf1.chg1 (H' := H1) (F' := F1) hΓ hs0 ho1 (fun c o e _ => e) (Sub.refl _) rf1.gr.fh (fun _ _ z _ => z) own (by
                    obtain ⟨fpz, z1, z2, z3⟩ := rf1.ownM hΓ hs0
                    have ef := z1.uniq ho1 fun _ _ => rfl
                    subst ef
                    exact z2) (fun c9 hc9 => by
                    obtain ⟨fpz, z1, z2, z3⟩ := rf1.ownM hΓ hs0
                    have ef := z1.uniq ho1 fun _ _ => rfl
                    subst ef
                    exact ⟨(z3 c9 hc9).1, (z3 c9 hc9).2, .inr hc9⟩) hc
                  exact ⟨j, q2, F1, rf2.setx hc2 (by rw [hl]; exact (List.getElem?_eq_some_iff.mp hN2).1), h5⟩
                | _ => cases ea
          | _ => cases ea
        | _ => cases ea
  · rw [if_neg fun z => hX (Option.isSome_iff_exists.mp z)]
    exact b_no
/-- the known place is forgotten -/
theorem b_unali {i j : Nat} {a : Addr} {c : Str} {s0 s1 : Sh} {X0 : D} {oo : Option Addr} {sts : List Stmt} {m : Fl β τ} (hsh : RepSh f (.p j a (.l t)) (.l (.l t)) s1 s0) (hrest : PSs X sts (tS g b Γb (Γ.set i (some (.m ⟨.o c s0, X0, oo⟩))) m Γn))
    (hΓ : Γ[i]? = some (some (.m ⟨.o c s1, X0, oo⟩)) := by rfl) (hc : (b.cx[i]?).join = none := by rfl) : PSs X sts (tS g b Γb Γ m Γn) := PSs.imp hrest fun Ds σ H h => by
  obtain ⟨F, rf, h⟩ := h
  refine ⟨F, ?_, h⟩
  obtain ⟨ov, h1, h2⟩ := rf.at_ i _ hΓ
  cases ov with
  | none => exact h2.elim
  | some v0 =>
    obtain ⟨fp, k1, k2, k3⟩ := h2.mOf
    have own : Own g F H v0 ⟨.o c s0, X0, oo⟩ fp := by
      cases k1 with
      | zo q e => exact .zo q e
      | o ho9 hi9 hk9 ha9 hd9 hn9 hF9 =>
        refine .o ho9 hi9 hk9 ha9 hd9 hn9 (hF9.resh hsh fun v9 x9 fq9 l1 l2 o9 => ?_)
        cases o9 with
        | zp q e => exact .z q e
        | p ho h1 h2 h3 => exact .l (fun _ z => nomatch z) h1 h3
    exact rf.chg1 (H' := H) (F' := F) hΓ h1 k1 (fun c o e _ => e) (Sub.refl _) rf.gr.fh (fun _ _ z _ => z) own k2 (fun c9 hc9 => ⟨(k3 c9 hc9).1, (k3 c9 hc9).2, .inr hc9⟩) hc
/-- xs.insert(e2, e), xs a part of what is one's own that holds data; rest -/
theorem b_insP {i : Nat} {k : D → Fl β τ} {p2 p3 : Pos} (hp : PE X e1 (tP g b Γ i o (.l .d) rp)) (hj : PE X e2 (tE g b Γ rb)) (he : PE X e (tE g b Γ ra)) (hrest : ∀ z, PSs X rest (tS g b Γb (Γ.set i (some (.m ⟨o.s, z, o.o⟩))) (k z) Γn))
    (hΓ : Γ[i]? = some (some (.m o)) := by rfl) (hc : (b.cx[i]?).join = none := by rfl)
    (hbase : attributeBase e1 "insert" X.env (eval e1 X.env) = eval e1 X.env := by first | exact base_plain rfl | rfl)
    (hfew : ((backTo p3 (starEach [e2, e] X.env)).all (fun x => !x.1) && (backToKw p3 (keywordEach [] X.env)).all (fun x => x.1.isSome) && decide ([e2, e].length + ([] : List Keyword).length + (if ([] : List Keyword).isEmpty then 0 else 1) < 30)) = true := by first | exact star_few rfl rfl | rfl)
    (hline : (p2.endLine == p3.line) = true := by rfl) (hs : starEach [e2, e] X.env = (false, eval e2 X.env) :: starEach [e] X.env := by first | exact starEach_plain rfl | rfl) (hs2 : starEach [e] X.env = (false, eval e X.env) :: starEach [] X.env := by first | exact starEach_plain rfl | rfl) (hplain : (backTo p3 (starEach [e] X.env)).any (·.1) = false := by first | exact star_any rfl | rfl)
    (hsw : swapsWith (.Call (.Attribute e1 "insert" p2) [e2, e] [] p3) none pos.line X.env = pure false := by rfl) :
    PSs X (.Expr (.Call (.Attribute e1 "insert" p2) [e2, e] [] p3) pos :: rest) (tS g b Γb Γ (rp.bindF fun p => if isL p.1 = true then rb.bindF fun j => ra.bindF fun d => setD (insU p j d) k else .no) Γn) := by
  refine PSs.imp (pss_cons (ps_expr (pe_bm PySem.F.plainAttrs_list PySem.F.slot_list_insert PySem.F.type_list_insert mt_insert hp (pa_cons hj (pa_cons he pa_nil hs2) hs) hbase hfew hline hs hplain) hsw) (PSs.ex fun z => hrest z)) fun Ds σ H h => ?_
  obtain ⟨F, rf, h⟩ := h
  refine ⟨F, rf, ?_⟩
  cases rp with
  | no => exact h
  | ex c fs => exact fun cls od F' H' gr r1 ok => h cls od F' σ H' r1 ok
  | ok p =>
    intro v v0 fp F1 H1 g1 hs0 ho nd zp
    obtain ⟨y, up⟩ := p
    cases y with
    | list ys =>
      have h : EndS g b Γb Γn (rb.bindF fun j => ra.bindF fun d => setD (insU (.list ys, up) j d) k) Ds := h
      obtain ⟨a, ws, fr, rfl, ha, hap, hk, hfr, ndr, cap1⟩ := zp fp ho nd ys rfl .d rfl
      refine ⟨.inl ⟨rfl, ws, SqL.of ha⟩, F1, rf.grow g1, ?_⟩
      cases rb with
      | no => exact h
      | ex c fs => exact fun cls od F' H' gr r1 ok => h cls od F' σ H' r1 ok
      | ok jj =>
        intro vj F2 H2 g2 ej
        refine ⟨F2, (rf.grow g1).grow g2, ?_⟩
        cases ra with
        | no => exact h
        | ex c fs => exact fun cls od F' H' gr r1 ok => h cls od F' σ H' r1 ok
        | ok d =>
          intro w F3 H3 g3 ew
          have h : EndS g b Γb Γn (setD (insU (.list ys, up) jj d) k) Ds := h
          cases q : insU (.list ys, up) jj d with
          | none =>
            rw [q] at h
            exact (show False from h).elim
          | some zz =>
            rw [q] at h
            have h : EndS g b Γb Γn (k zz) Ds := h
            cases ej with
            | int n =>
              have q : (if 0 ≤ n ∧ n < 2 ^ 62 ∧ ys.length < Mi.cap then some (up (.list (ys.take n.toNat ++ [d] ++ ys.drop n.toNat))) else none) = some zz := q
              obtain ⟨hc1, rfl⟩ := if_some q
              have g23 := g2.trans g3
              have h3 : H3 a = some (.lst ws) := g23.hh _ _ ha
              refine ⟨a, ws, n, w, rfl, rfl, h3, cap_lt (by rw [hk.len]; exact hc1.2.2), hc1.1, Int.lt_trans hc1.2.1 (by decide), _, F3, ?_, h⟩
              have rf3 := (rf.grow g1).grow g23
              have sm := g23.same ho
              obtain ⟨ed, rfl⟩ := hk.toEnc
              refine rf3.part (up := up) (fr2 := []) (ys2 := ys.take n.toNat ++ [d] ++ ys.drop n.toNat) hΓ hs0 (ho.keep g23.ff sm) nd hc hap (fun c hc => nomatch hc) (cap1 F3 _ _ _ [] g23.ff upd_same (.ofEnc (((ed.mono g23.ff).take _ |>.app (.cons ew .nil)).app ((ed.mono g23.ff).drop _))) (by simp) (fun c hc => nomatch hc) fun c hc n1 n2 => ?_)
              rw [upd_ne n1]
              exact sm c hc
            | _ => cases q
    | _ => exact (show False from h).elim
end
def liftM (m : List D → Res D) (ds : List D) : Res D := (m ds).bind fun r => .ok (.tuple [r])
theorem OwnsF.allD {g : Gm} {F H : Hp} : ∀ {ms : List Sh} {vs : List V}, ms.length = vs.length → (∀ s ∈ ms, s = .d) → OwnsF g F H ms vs [] []
  | [], [], _, _ => .nil
  | [], _ :: _, h, _ => by cases h
  | _ :: _, [], h, _ => by cases h
  | s :: ms, v :: vs, h, hd => by
    have := hd s List.mem_cons_self
    subst this
    exact .d (OwnsF.allD (by simpa using h) fun s hs => hd s (List.mem_cons_of_mem _ hs))
theorem ArgsM.toEnc {g : Gm} {F H : Hp} : ∀ {ms : List Sh} {vs : List V} {ds : List D} {fp : List Addr}, ArgsM g F H ms vs ds fp → (∀ s ∈ ms, s = .d) → EncL g F vs ds ∧ fp = []
  | _, _, _, _, .nil, _ => ⟨.nil, rfl⟩
  | _, _, _, _, .cons o k, hd => by
    have := hd _ List.mem_cons_self
    subst this
    cases o with
    | d e =>
      obtain ⟨h1, rfl⟩ := ArgsM.toEnc k fun s hs => hd s (List.mem_cons_of_mem _ hs)
      exact ⟨.cons e h1, rfl⟩
theorem spM_ofD {g : Gm} {ms : List Sh} {m : List D → Res D} {vs : List V} {H : Hp} {Q : VK} {E : XK} (hd : ∀ s ∈ ms, s = .d) (h : spM g ms .d (liftM m) vs H Q E) : spD g m vs H Q E := by
  obtain ⟨F, ds, fp, s, a, nd, hf, h⟩ := h
  obtain ⟨en, rfl⟩ := a.toEnc hd
  have w0 : wo H [] = H := by
    funext z
    exact wo_out (by simp)
  rw [w0] at h
  refine ⟨F, ds, s, en, ?_⟩
  unfold liftM at h
  cases q : m ds with
  | ok r =>
    rw [q] at h
    exact fun v F' H' gr ev => h v F' H' r [] [] [] rfl gr (.d ev) (.allD (a.len.2.trans a.len.1.symm) hd) .nil (fun c hc => nomatch hc)
  | ex c fs =>
    rw [q] at h
    exact h
  | no =>
    rw [q] at h
    exact h
theorem DefM.ofD {P : Program} {w : World} {g : Gm} {mg : Str → Option Value} {base : Heap} {name : Str} {k : Nat} {m : List D → Res D} {ms : List Sh} (T : DefT P w g mg base name k m) (hd : ∀ s ∈ ms, s = .d := by intro s hs; simp only [List.mem_cons, List.not_mem_nil, or_false, or_self] at hs; exact hs) : DefM P w g mg base name k ms .d (liftM m) := by
  obtain ⟨f, fd, ps, Fn, gm, kp, bd⟩ := T.ex
  exact ⟨⟨f, (Fn.raw bd .nil).imp fun vs H Q E h => by rw [List.append_nil]; exact spM_ofD hd h, gm, kp⟩⟩
end Mi
namespace Mi
open L2 PySem PySem.Spec PyProof.Rows
theorem MethM.ofR {P : Program} {w : World} {g : Gm} {mg : Str → Option Value} {base : Heap} {c n : Str} {k : Nat} {m : List D → Res D} {ms : List Sh} (T : MethR P w g mg base c n k m) (hd : ∀ s ∈ ms, s = .d := by intro s hs; simp only [List.mem_cons, List.not_mem_nil, or_false, or_self] at hs; exact hs) : MethM P w g mg base c n k ms .d (liftM m) := by
  obtain ⟨i, f, h1, h2, Fn, h3, h4⟩ := T.ex
  exact ⟨⟨i, f, h1, h2, Fn.imp fun vs H Q E h => spM_ofD hd h, h3, h4⟩⟩
section
variable {X : Cx} {g : Gm} {b : Bs} {Γ : Ctx} {F F' : Hp} {σ : L2.St} {H H' : Hp} {e e1 e2 : Expr} {es : List Expr} {pos p : Pos} {r ra rb ro : Res D} {rs : Res (List D)} {x y f : Str} {o : OD} {s t : Sh} {us : Us}
/-- a new thing, as a datum -/
theorem e_nmF (h : PE X e (tNM g b Γ t r)) : PE X e (tE g b Γ r) := PE.imp h fun σ H Q q => by
  obtain ⟨F, rf, q⟩ := q
  refine ⟨F, rf, ?_⟩
  cases r with
  | ok d =>
    intro v fp F' H' gr o nd hf
    have s1 : Sub F' (tin F' H' fp) := tin_sub fun c hc => (hf c hc).2
    refine q v (tin F' H' fp) H' ⟨gr.ff.trans s1, tin_heap gr.fh, gr.hh, fun a h1 h2 => ?_⟩ (o.frz s1 fun c hc => tin_in hc)
    rw [tin_out fun z => h1 (hf a z).1]
    exact gr.new a h1 h2
  | ex c fs => exact q
  | no => exact q
/-- a[e], e a call that changes what is one's own -/
theorem e_ixC {rc : Res (D × List D)} (ha : PE X e1 (tE g b Γ ra)) (hb : PE X e2 (tC g b Γ us rc)) (hs : PlainIx e2 := by exact fun _ _ => rfl) (hK : X.K = g.K := by rfl) :
    PE X (.Subscript e1 e2 pos) (tC g b Γ us (ra.bind fun x => rc.bind fun p => (ofO (itemD x p.1)).bind fun d => .ok (d, p.2))) := by
  refine PE.imp (pe_ix ix_seq ha hb hs) fun σ H Q q => ?_
  obtain ⟨F, rf, q⟩ := q
  refine ⟨F, rf, ?_⟩
  cases ra with
  | no => exact q
  | ex c fs => exact fun cls od F' H' _ r ok => q cls od F' H' r ok
  | ok x =>
    intro v F1 H1 g1 ex
    refine ⟨F1, rf.grow g1, ?_⟩
    cases rc with
    | no => exact q
    | ex c fs => exact q
    | ok p =>
      obtain ⟨d, zs⟩ := p
      intro w F2 H2 s2 r2' ey
      have q : match ((ofO (itemD x d)).bind fun d => .ok (d, zs) : Res (D × List D)) with
        | .ok (d, zs) => ∀ v F' H', Sub F F' → Rf g b (setMs Γ us zs) F' σ H' → Enc g F' v d → Q v H'
        | .ex c fs => ∀ cls od F' H', Rf g b b.cx F' σ H' → ExOk g c fs cls od F' → b.W cls od σ H'
        | .no => False := q
      cases e : itemD x d with
      | none =>
        rw [e] at q
        exact q.elim
      | some d2 =>
        rw [e] at q
        exact ix_go hK r2'.gr.fh (ex.mono s2) ey e fun u F' H' gr eu => q u F' H' ((g1.ff.trans s2).trans gr.ff) (r2'.grow gr) eu
end
theorem makeO0 {P : Program} {w : World} {g : Gm} {mg : Str → Option Value} {base : Heap} {x : Str} {k : Nat} {t : Sh} {m : List D → Res D} {i : CI} {f : Addr} {fd : FuncData} {ps : List Str} (hi : g.ci x = some i) (gm : mg x = some (.ref i.C)) (M : Mk g.K i.C f) (Fn : FnOk P w g.K mg base (L2.CX P w) k f fd ps (spIO g i x t m)) (hb : Binds g.K fd ps []) (hl : ps.length = 1) :
    MakeO P w g mg base x k t m :=
  ⟨⟨i, f, fd, ps, _, _, hi, gm, M, Fn, kbn0 (n := 1) hb hl, fun _ => rfl⟩⟩
end Mi
namespace Mi
open L2 PySem PySem.Spec PyProof.Rows
section
variable {X : Cx} {g : Gm} {b : Bs} {Γ : Ctx} {F F' : Hp} {σ : L2.St} {H H' : Hp} {e : Expr} {pos : Pos} {r : Res D} {x y : Str} {o : OD} {t : Sh} {β τ υ : Type} {Γb : β → Ctx} {Γn : τ → Ctx} {rest body : List Stmt}
/-- an expression that reads what is one's own as a datum; its answer is new and holds nothing of it -/
theorem nm_lend {i : Nat} (he : PE X e (tNM g b (Γ.set i (some (.v o.x))) t r)) (hΓ : Γ[i]? = some (some (.m o)) := by rfl) (hc : (b.cx[i]?).join = none := by rfl) : PE X e (tNM g b Γ t (r.bind (flR t))) := PE.imp he fun σ H Q q => by
  obtain ⟨F, rf, q⟩ := q
  obtain ⟨ov, h1, h2⟩ := rf.at_ i _ hΓ
  cases ov with
  | none => exact h2.elim
  | some v0 =>
    obtain ⟨fp, k1, k2, k3⟩ := h2.mOf
    have hf : ∀ c ∈ fp, F c = none ∧ ∃ u, H c = some (mo u) := fun c hc => ⟨(k3 c hc).1, k1.lst c hc⟩
    have rv : Rf g b (Γ.set i (some (.v o.x))) (tin F H fp) σ H := by
      refine rf.view (fun c hc => ⟨(k3 c hc).1, (k3 c hc).2, k1.lst2 c hc⟩) (rf.le.setr hc) fun j bd e => ?_
      rcases set_get e with ⟨e1, e2, _⟩ | ⟨ne, e2⟩
      · subst e1
        exact .inr ⟨v0, o.x, Option.some.inj e2, h1, k1.frz (tin_sub fun c hc => (k3 c hc).1) fun c hc => tin_in hc⟩
      · refine .inl ⟨e2, fun ys hy c hcp => ?_, fun y w fq hy hw ho c hcp => ?_⟩
        · subst hy
          exact (rf.sepm i j o v0 fp (Ne.symm ne) hΓ h1 k1 c hcp).1 ys e2
        · subst hy
          exact (rf.sepm i j o v0 fp (Ne.symm ne) hΓ h1 k1 c hcp).2 y w fq e2 hw ho
    refine ⟨tin F H fp, rv, ?_⟩
    cases r with
    | ok d =>
      intro v fr F' H' gr ow nd hfr
      obtain ⟨g2, n2⟩ := lent hf gr
      have q : match flR t d with
        | .ok d => ∀ v fp F' H', Grow F H F' H' → Own g F' H' v ⟨t, d, none⟩ fp → fp.Nodup → (∀ c ∈ fp, H c = none ∧ F' c = none) → Q v H'
        | .ex c fs => ∀ cls od F' H', Grow F H F' H' → Rf g b b.cx F' σ H' → ExOk g c fs cls od F' → b.W cls od σ H'
        | .no => False := q
      unfold flR at q
      by_cases z : flO t d = true
      · rw [if_pos z] at q
        refine q v fr _ H' g2 (ow.flat n2 z) nd fun c hc => ⟨(hfr c hc).1, ?_⟩
        by_cases w : c ∈ fp
        · exact wo_in w
        · rw [wo_out w]
          exact (hfr c hc).2
      · rw [if_neg z] at q
        exact q.elim
    | ex c fs =>
      intro cls od F' H' gr r1 ok
      obtain ⟨g2, n2⟩ := lent hf gr
      exact q cls od _ H' g2 (rf.grow g2).cx (ok.flat n2)
    | no => exact q
/-- the place of a list of one's own is known -/
theorem b_pin {i : Nat} {s : Sh} {xs : D} {sts : List Stmt} {m : Fl β τ} (hrest : ∀ a, PSs X sts (tS g b Γb (Γ.set i (some (.m ⟨.l s, xs, some a⟩))) m Γn)) (hΓ : Γ[i]? = some (some (.m ⟨.l s, xs, none⟩)) := by rfl) (hc : (b.cx[i]?).join = none := by rfl) :
    PSs X sts (tS g b Γb Γ (if isL xs = true then m else .no) Γn) := by
  by_cases q : isL xs = true
  · rw [if_pos q]
    refine PSs.imp (PSs.ex hrest) fun Ds σ H h => ?_
    obtain ⟨F, rf, h⟩ := h
    obtain ⟨ov, h1, h2⟩ := rf.at_ i _ hΓ
    cases ov with
    | none => exact h2.elim
    | some v0 =>
      obtain ⟨fp, k1, k2, k3⟩ := h2.mOf
      have k1' := k1
      cases k1 with
      | z z1 _ =>
        cases xs with
        | list _ => cases z1
        | _ => cases q
      | @l a vs _ _ _ fr ho ha hk =>
        refine ⟨a, F, ?_, h⟩
        exact rf.chg1 (H' := H) (F' := F) hΓ h1 k1' (fun c o e _ => e) (Sub.refl _) rf.gr.fh (fun _ _ z _ => z) (.l (fun c e => by cases e; rfl) ha hk) k2 (fun c9 hc9 => ⟨(k3 c9 hc9).1, (k3 c9 hc9).2, .inr hc9⟩) hc
  · rw [if_neg q]
    exact b_no
/-- the place is forgotten -/
theorem b_unpin {i : Nat} {s : Sh} {xs : D} {a : Addr} {sts : List Stmt} {m : Fl β τ} (hrest : PSs X sts (tS g b Γb (Γ.set i (some (.m ⟨s, xs, none⟩))) m Γn)) (hΓ : Γ[i]? = some (some (.m ⟨s, xs, some a⟩)) := by rfl) (hc : (b.cx[i]?).join = none := by rfl) :
    PSs X sts (tS g b Γb Γ m Γn) := PSs.imp hrest fun Ds σ H h => by
  obtain ⟨F, rf, h⟩ := h
  refine ⟨F, ?_, h⟩
  obtain ⟨ov, h1, h2⟩ := rf.at_ i _ hΓ
  cases ov with
  | none => exact h2.elim
  | some v0 =>
    obtain ⟨fp, k1, k2, k3⟩ := h2.mOf
    exact rf.chg1 (H' := H) (F' := F) hΓ h1 k1 (fun c o e _ => e) (Sub.refl _) rf.gr.fh (fun _ _ z _ => z) k1.noI k2 (fun c9 hc9 => ⟨(k3 c9 hc9).1, (k3 c9 hc9).2, .inr hc9⟩) hc
/-- the items of a list -/
def itL2 {β τ : Type} (x : D) (k : List D → Fl β τ) : Fl β τ := match x with
  | .list xs => k xs
  | _ => .no
/-- for x in ys, ys a list of one's own that stays as it is -/
theorem b_forO {i i2 : Nat} {px py : Pos} {a : Addr} {X0 : D} {t0 : τ} {Γh : τ → Ctx} {f : D → τ → Fl τ τ} {k : τ → Fl β υ} {Γn : υ → Ctx}
    (hbody : ∀ (F1 : Hp) (d : D) (t : τ), PSs X body (tS g (b.at_ F1) Γh ((Γh t).set i (some (.v d))) (f d t) Γh)) (hrest : ∀ t, PSs X rest (tS g b Γb (Γh t) (k t) Γn))
    (hp : PassesOwn (model X.prog X.w) X.A X.env X.xe) (hN : X.N.Nodup) (hΓ : Γ[i2]? = some (some (.m ⟨.l .d, X0, some a⟩)) := by rfl) (hΓh : ∀ t, (Γh t)[i2]? = some (some (.m ⟨.l .d, X0, some a⟩)) := by intro _; rfl) (hN2 : X.N[i2]? = some y := by rfl)
    (hv : Vis X.env.scope y := by first | exact Or.inl rfl | exact Or.inr (Or.inl rfl) | exact Or.inr (Or.inr rfl)) (hd : (y == ("__debug__" : Str)) = false := by decide) (hcd : (y == ("__classdict__" : Str)) = false := by decide)
    (h0 : Le (Γh t0) Γ := by repeat (first | exact Le.nil | apply Le.same | apply Le.none)) (hcx : ∀ t, Le b.cx (Γh t) := by intro _; repeat (first | exact Le.nil | apply Le.same | apply Le.none)) (hc0 : (b.cx[i]?).join = none := by rfl)
    (hi : X.N[i]? = some x := by rfl) (hx : Loc X.env.scope x := by first | exact Or.inl rfl | exact Or.inr rfl) (hf : X.fn x = true ∨ X.env.scope.names.lookup x = some .local := by first | exact .inl rfl | exact .inr rfl)
    (hc : X.calm = true := by rfl) (hs : ∀ x, foldedSetIterable (.Name y py) X.env x = pure x := by intro _; rfl) :
    PSs X (.For (.Name x px) (.Name y py) body [] pos :: rest) (tS g b Γb Γ (itL2 X0 fun xs => (loopF xs t0 f).bind k) Γn) := by
  refine PSs.impI (pss_cons (ps_for (tb := fun Ds σ H => ∃ (F1 : Hp) (d : D) (t : τ), tS g (b.at_ F1) Γh ((Γh t).set i (some (.v d))) (f d t) Γh Ds σ H) hp hc (pi_list (pe_var hN2 hv hd hcd)) (PG.impI (pg_name hN hi hx hf)) (PSs.ex fun F1 => PSs.ex fun d => PSs.ex fun t => hbody F1 d t) hs) (PSs.ex fun t => hrest t)) fun Ds σ H hl h => ?_
  obtain ⟨F, rf, h⟩ := h
  have hiN := (List.getElem?_eq_some_iff.mp hi).1
  obtain ⟨ov, h1, h2⟩ := rf.at_ i2 _ hΓ
  obtain ⟨xs, rfl⟩ : ∃ xs, X0 = .list xs := by
    cases X0 with
    | list xs => exact ⟨xs, rfl⟩
    | _ => exact h.elim
  have h : EndS g b Γb Γn ((loopF xs t0 f).bind k) Ds := h
  have own : ∀ {b : Bs} {Δ : Ctx} {F' : Hp} {σ' : L2.St} {H' : Hp}, Rf g b Δ F' σ' H' → Δ[i2]? = some (some (.m ⟨.l .d, .list xs, some a⟩)) → ∃ vs, H' a = some (.lst vs) ∧ EncL g F' vs xs := fun r e => by
    obtain ⟨ov, q1, q2⟩ := r.at_ i2 _ e
    cases ov with
    | none => exact q2.elim
    | some v =>
      obtain ⟨fp, k1, _, _⟩ := q2.mOf
      cases k1 with
      | l ho ha hk =>
        have e2 := ho a rfl
        subst e2
        exact ⟨_, ha, hk.toEnc.1⟩
  cases ov with
  | none => exact h2.elim
  | some v0 =>
    obtain ⟨fp, k1, k2, k3⟩ := h2.mOf
    have ev := k1.at_ (.inl ⟨_, rfl⟩)
    subst ev
    obtain ⟨vs0, ha0, hk0⟩ := own rf hΓ
    refine ⟨.ref a, h1, a, rfl, ⟨vs0, SqL.of ha0⟩, ?_⟩
    refine ⟨fun j m σ' H' => m = xs.length - j ∧ j ≤ xs.length ∧ ∃ t F', Rf g (b.at_ F) (Γh t) F' σ' H' ∧ (loopF (xs.drop j) t f : Fl β τ) = loopF xs t0 f, ⟨xs.length, by simp, Nat.zero_le _, t0, F, (rf.down (F1 := F)).weak h0 (hcx t0), by rw [List.drop_zero]⟩, ?_⟩
    rintro j m σ' H' ⟨rfl, hj, t, F', r1, eL⟩
    obtain ⟨vs, ha, hk⟩ := own r1 (hΓh t)
    by_cases hlt : j < xs.length
    · obtain ⟨d, hd⟩ : ∃ d, xs[j]? = some d := ⟨xs[j], List.getElem?_eq_getElem hlt⟩
      obtain ⟨v, hv1, hv2⟩ := hk.get hd
      refine .inr ⟨⟨vs, v, SqL.of ha, hv1⟩, fun σ2 H2 => ∃ t F', Rf g (b.at_ F) (Γh t) F' σ2 H2 ∧ (loopF (xs.drop (j + 1)) t f : Fl β τ) = loopF xs t0 f, fun σ2 H2 q => ⟨xs.length - (j + 1), by omega, rfl, hlt, q⟩, fun w H'' hv hl' => ?_⟩
      obtain ⟨rfl, hall⟩ := hv
      have e2 := hall vs (SqL.of ha)
      rw [hv1] at e2
      cases e2
      have dr : xs.drop j = d :: xs.drop (j + 1) := by
        rw [List.drop_eq_getElem_cons hlt]
        have e2 := List.getElem?_eq_getElem hlt
        rw [e2] at hd
        rw [Option.some.inj hd]
      refine ⟨F, d, t, F', r1.setv hv2 hc0 (by rw [hl']; exact hiN), ?_⟩
      have eL2 : (loopF (d :: xs.drop (j + 1)) t f : Fl β τ) = loopF xs t0 f := by rw [← dr]; exact eL
      rw [loopF] at eL2
      cases ef : f d t with
      | nx t' =>
        rw [ef] at eL2
        exact fun F2 σ2 H2 r2 => ⟨t', F2, r2, eL2⟩
      | ct t' =>
        rw [ef] at eL2
        exact fun F2 σ2 H2 r2 => ⟨t', F2, r2, eL2⟩
      | bk t' =>
        rw [ef] at eL2
        have e2 : (.nx t' : Fl β τ) = loopF xs t0 f := eL2
        rw [← e2] at h
        exact fun F2 σ2 H2 r2 => ⟨t', F2, r2.up rf.gr, h⟩
      | rt d2 =>
        rw [ef] at eL2
        have e2 : (.rt d2 : Fl β τ) = loopF xs t0 f := eL2
        rw [← e2] at h
        exact fun v F2 H2 gr2 en2 => h v F2 H2 (rf.gr.base gr2) en2
      | ex c fs =>
        rw [ef] at eL2
        have e2 : (.ex c fs : Fl β τ) = loopF xs t0 f := eL2
        rw [← e2] at h
        exact fun cls od F2 σ2 H2 r2 ok => h cls od F2 σ2 H2 (r2.up rf.gr) ok
      | no =>
        rw [ef] at eL2
        have e2 : (.no : Fl β τ) = loopF xs t0 f := eL2
        rw [← e2] at h
        exact h
    · have ej : j = xs.length := by omega
      subst ej
      refine .inl ⟨⟨vs, SqL.of ha, by rw [hk.len]; exact Nat.le_refl _⟩, t, F', r1.up rf.gr, ?_⟩
      rw [List.drop_length] at eL
      have e2 : (.nx t : Fl β τ) = loopF xs t0 f := eL
      rw [← e2] at h
      exact h
end
theorem len_own {d : D} {rs : Res (List D)} {n : Nat} (h : ∀ ds, rs = .ok ds → ds.length = n) : ∀ ds : List D, (rs.bind fun xs => .ok (d :: xs)) = .ok ds → ds.length = n + 1 := fun ds q => by
  cases rs with
  | ok xs =>
    have q : Res.ok (d :: xs) = .ok ds := q
    cases q
    exact congrArg (· + 1) (h xs rfl)
  | ex c fs => cases q
  | no => cases q
end Mi
namespace Mi
open L2 PySem PySem.Spec PyProof.Rows
end Mi
namespace Mi
open L2 PySem PySem.Spec PyProof.Rows
section
variable {X : Cx} {g : Gm} {b : Bs} {Γ : Ctx} {tg iter : Expr} {pos py : Pos} {rx : Res (List D × List D)} {x : Str} {us : Us} {β τ υ : Type} {Γb : β → Ctx} {Γn : υ → Ctx} {rest body : List Stmt}
/-- for x in such a call of one list: body; rest -/
theorem b_forC1 {i : Nat} {t0 : D → τ} {Γh : τ → Ctx} {f : D → τ → Fl τ τ} {k : D → τ → Fl β υ} (hS : SrcC X g b Γ us (.Name x py) iter rx)
    (hbody : ∀ (F1 : Hp) (d : D) (t : τ), PSs X body (tS g (b.at_ F1) Γh ((Γh t).set i (some (.v d))) (f d t) Γh)) (hrest : ∀ y t, PSs X rest (tS g b Γb (Γh t) (k y t) Γn))
    (hp : PassesOwn (model X.prog X.w) X.A X.env X.xe) (hN : X.N.Nodup)
    (h0 : ∀ y, Le (Γh (t0 y)) (setMs Γ us [y]) := by intro _; repeat (first | exact Le.nil | apply Le.same | apply Le.none)) (hcx : ∀ t, Le b.cx (Γh t) := by intro _; repeat (first | exact Le.nil | apply Le.same | apply Le.none)) (hc0 : (b.cx[i]?).join = none := by rfl)
    (hi : X.N[i]? = some x := by rfl) (hx : Loc X.env.scope x := by first | exact Or.inl rfl | exact Or.inr rfl) (hf : X.fn x = true ∨ X.env.scope.names.lookup x = some .local := by first | exact .inl rfl | exact .inr rfl)
    (hc : X.calm = true := by rfl) (hs : ∀ x, foldedSetIterable iter X.env x = pure x := by intro _; rfl) :
    PSs X (.For (.Name x py) iter body [] pos :: rest) (tS g b Γb Γ (rx.bindF fun p => nz1 .no p.2 fun y => (loopF p.1 (t0 y) f).bind (k y)) Γn) := by
  let rx2 : Res (List D × List D) := rx.bind fun p => nz1 .no p.2 fun y => .ok (p.1, [y])
  have hS2 : SrcC X g b Γ us (.Name x py) iter rx2 := by
    obtain ⟨wi, hw, hr⟩ := hS.ex
    refine ⟨wi, hw, fun σ H R h => hr σ H R ?_⟩
    obtain ⟨F, rf, h⟩ := h
    refine ⟨F, rf, ?_⟩
    cases rx with
    | no => exact h
    | ex c fs => exact h
    | ok p =>
      obtain ⟨xs, zs⟩ := p
      rcases zs with _ | ⟨a, _ | ⟨c, zs⟩⟩
      · exact (show False from h).elim
      · exact h
      · exact (show False from h).elim
  have main := b_forC (β := β) (Γb := Γb) (Γn := Γn) (pos := pos) (rest := rest) (t0 := fun zs => match zs with | [y] => t0 y | _ => t0 .none) (k := fun zs => match zs with | [y] => k y | _ => fun _ => .no) (f := f) hS2 hbody (fun zs t => by
    rcases zs with _ | ⟨a, _ | ⟨c, zs⟩⟩
    · exact b_no
    · exact hrest a t
    · exact b_no) hp hN (fun zs ⟨xs, e⟩ => by
      have e : (rx.bind fun p => nz1 .no p.2 fun y => .ok (p.1, [y])) = .ok (xs, zs) := e
      cases rx with
      | no => cases e
      | ex c fs => cases e
      | ok p =>
        obtain ⟨ws, us⟩ := p
        rcases us with _ | ⟨a, _ | ⟨c, us⟩⟩
        · cases e
        · cases e
          exact h0 a
        · cases e) hcx hc0 hi hx hf hc hs
  have eq : (rx2.bindF fun p => (loopF p.1 ((fun zs => match zs with | [y] => t0 y | _ => t0 .none : List D → τ) p.2) f).bind ((fun zs => match zs with | [y] => k y | _ => fun _ => .no : List D → τ → Fl β υ) p.2)) = rx.bindF fun p => nz1 .no p.2 fun y => (loopF p.1 (t0 y) f).bind (k y) := by
    cases rx with
    | no => rfl
    | ex c fs => rfl
    | ok p =>
      obtain ⟨xs, zs⟩ := p
      rcases zs with _ | ⟨a, _ | ⟨c, zs⟩⟩ <;> rfl
  rw [← eq]
  exact main
end
end Mi
namespace Mi
open L2 PySem PySem.Spec PyProof.Rows
/-- what is one's own among the arguments -/
def partsM : List Sh → List D → List D
  | .d :: ms, _ :: ds => partsM ms ds
  | _ :: ms, d :: ds => d :: partsM ms ds
  | _, _ => []
section
variable {g : Gm} {F F' H H' : Hp}
theorem ArgsM.lst : ∀ {ms : List Sh} {vs : List V} {ds : List D} {fp : List Addr}, ArgsM g F H ms vs ds fp → ∀ c ∈ fp, ∃ u, H c = some (mo u)
  | _, _, _, _, .nil, c, hc => nomatch hc
  | _, _, _, _, .cons o k, c, hc => by
    rcases List.mem_append.mp hc with h | h
    · exact o.lst c h
    · exact k.lst c h
theorem ArgsM.fin (s : Sub F F') : ∀ {ms : List Sh} {vs : List V} {ds : List D} {fp : List Addr}, (∀ s ∈ ms, s = .d ∨ OwS s) → ArgsM g F H ms vs ds fp → (∀ c ∈ fp, H' c = H c) → OwnsF g F' H' ms vs (partsM ms ds) fp
  | _, _, _, _, _, .nil, _ => .nil
  | s0 :: ms, v :: vs, d :: ds, _, hs, .cons (fp := f1) (fq := f2) o k, hc => by
    have ih := ArgsM.fin s (fun s h => hs s (List.mem_cons_of_mem _ h)) k fun c h => hc c (List.mem_append_right _ h)
    rcases hs s0 List.mem_cons_self with rfl | h
    · cases o with
      | d _ => exact .d ih
    · have e : partsM (s0 :: ms) (d :: ds) = d :: partsM ms ds := by
        rcases h with ⟨t, rfl⟩ | ⟨c, t, rfl⟩ <;> rfl
      rw [e]
      exact .m h (o.keep s fun c h => hc c (List.mem_append_left _ h)) ih
end
theorem FnR.or {P : Program} {w : World} {K : PySem.W.Frag} {mg : Str → Option Value} {base : Heap} {CX : CXT} {k : Nat} {f : Addr} {s1 s2 sp : Sp} (F1 : FnR P w K mg base CX k f s1) (F2 : FnR P w K mg base CX k f s2) (h : ∀ vs H Q E, sp vs H Q E → s1 vs H Q E ∨ s2 vs H Q E) : FnR P w K mg base CX k f sp := fun A outer s H us vs Q E hr e0 r hs => by
  rcases h vs H Q E hs with q | q
  · exact F1 A outer s H us vs Q E hr e0 r q
  · exact F2 A outer s H us vs Q E hr e0 r q
end Mi
namespace Mi
open L2 PySem PySem.Spec PyProof.Rows
end Mi
namespace NS
open L2 Mi PySem PySem.Spec PyProof.Rows
abbrev topS (i : Nat) : Stmt := PySem.Challenge.pw_onehandparts_k54_islands.main.body.getD i (.Pass ⟨0, 0, 0, 0⟩)
abbrev inCls (st : Stmt) (j : Nat) : Stmt := (match st with
  | .ClassDef (body := body) .. => body
  | _ => []).getD j (.Pass ⟨0, 0, 0, 0⟩)
def tab : List (Str × Kd × List Str × List Nat) := [("Heap", .dict, ["links", "marked"], []), ("BadObject", .exc, ["number"], []), ("Fault", .exc, ["number"], [])]
def gm (K : PySem.W.Frag) (w : World) : Gm := ⟨K, ciT K tab, w⟩
def file : Str := "/claim/cut.py"
def xtab : List (Str × List Str) := [("BadObject", ["number"]), ("Fault", ["number"])]
def fns : List He5.DefA := [
  ⟨fun K => (He.ma K (He.ga K "Heap") "__init__"), "__init__", "Heap.__init__", defArgs (inCls (topS 6) 0), defBody (inCls (topS 6) 0), defScope (inCls (topS 6) 0), [], []⟩,
  ⟨fun K => (He.ga K "_law_draws"), "_law_draws", "_law_draws", defArgs (topS 9), defBody (topS 9), defScope (topS 9), [], []⟩,
  ⟨fun K => (He.ma K (He.ga K "Heap") "check"), "check", "Heap.check", defArgs (inCls (topS 6) 2), defBody (inCls (topS 6) 2), defScope (inCls (topS 6) 2), [], []⟩,
  ⟨fun K => (He.ma K (He.ga K "Heap") "reach"), "reach", "Heap.reach", defArgs (inCls (topS 6) 6), defBody (inCls (topS 6) 6), defScope (inCls (topS 6) 6), [], []⟩,
  ⟨fun K => (He.ma K (He.ga K "Heap") "touch"), "touch", "Heap.touch", defArgs (inCls (topS 6) 8), defBody (inCls (topS 6) 8), defScope (inCls (topS 6) 8), [], []⟩,
  ⟨fun K => (He.ma K (He.ga K "Heap") "hand"), "hand", "Heap.hand", defArgs (inCls (topS 6) 9), defBody (inCls (topS 6) 9), defScope (inCls (topS 6) 9), [], []⟩,
  ⟨fun K => (He.ma K (He.ga K "Heap") "make"), "make", "Heap.make", defArgs (inCls (topS 6) 1), defBody (inCls (topS 6) 1), defScope (inCls (topS 6) 1), [], []⟩,
  ⟨fun K => (He.ga K "_law_grown"), "_law_grown", "_law_grown", defArgs (topS 13), defBody (topS 13), defScope (topS 13), [], []⟩,
  ⟨fun K => (He.ga K "_law_numbers"), "_law_numbers", "_law_numbers", defArgs (topS 11), defBody (topS 11), defScope (topS 11), [], []⟩,
  ⟨fun K => (He.ga K "spread"), "spread", "spread", defArgs (topS 7), defBody (topS 7), defScope (topS 7), [], []⟩,
  ⟨fun K => (He.ma K (He.ga K "Heap") "islands"), "islands", "Heap.islands", defArgs (inCls (topS 6) 10), defBody (inCls (topS 6) 10), defScope (inCls (topS 6) 10), [], []⟩,
  ⟨fun K => (He.ga K "_law_as_due"), "_law_as_due", "_law_as_due", defArgs (topS 12), defBody (topS 12), defScope (topS 12), [], []⟩,
  ⟨fun K => (He.ga K "_law_at"), "_law_at", "_law_at", defArgs (topS 10), defBody (topS 10), defScope (topS 10), [], []⟩,
  ⟨fun K => (He.ma K (He.ga K "Heap") "put"), "put", "Heap.put", defArgs (inCls (topS 6) 3), defBody (inCls (topS 6) 3), defScope (inCls (topS 6) 3), [], []⟩,
  ⟨fun K => (He.ma K (He.ga K "Heap") "twin"), "twin", "Heap.twin", defArgs (inCls (topS 6) 11), defBody (inCls (topS 6) 11), defScope (inCls (topS 6) 11), [], []⟩,
  ⟨fun K => (He.ma K (He.ga K "Heap") "cut"), "cut", "Heap.cut", defArgs (inCls (topS 6) 4), defBody (inCls (topS 6) 4), defScope (inCls (topS 6) 4), [], []⟩,
  ⟨fun K => (He.ga K "law"), "law", "law", defArgs (topS 14), defBody (topS 14), defScope (topS 14), [], []⟩]
def fa : List He.Fa := [.free "bool", .free "int", .free "isinstance", .free "len", .free "list", .free "min", .free "range", .free "super", .glo "_law_draws", .glo "_law_grown", .glo "_law_numbers", .glo "spread", .glo "_law_as_due", .glo "_law_at", .glo "law", .glo "Heap", .mkr "Heap", .meth "Heap" "check", .meth "Heap" "reach", .meth "Heap" "touch", .meth "Heap" "hand", .meth "Heap" "make", .meth "Heap" "islands", .meth "Heap" "put", .meth "Heap" "twin", .meth "Heap" "cut", .glo "BadObject", .glo "Fault"]
def exB (K : PySem.W.Frag) : Bool := (fa.all fun f => f.ok K) && ((tab.all fun q => ciOk K q.1 q.2.1 q.2.2.1 q.2.2.2) && (xtab.all fun q => errB K q.1 file q.2.reverse && fsB q.1 q.2 tab))
def fxs : List DefS := [⟨fun K => (He.ma K (He.ga K "BadObject") "__init__"), "__init__", "BadObject.__init__", defArgs (inCls (topS 3) 0), defBody (inCls (topS 3) 0), defScope (inCls (topS 3) 0)⟩, ⟨fun K => (He.ma K (He.ga K "Fault") "__init__"), "__init__", "Fault.__init__", defArgs (inCls (topS 4) 0), defBody (inCls (topS 4) 0), defScope (inCls (topS 4) 0)⟩]
def tabs : List He.Tab := []
abbrev RR : PySem.W.OpenRow := PySem.W.OpenLaw.row PySem.Challenge.rw_onehandparts_k54_islands
abbrev hk : PySem.W.Hook := hookMX 6 exB fns fxs tabs
def ob (s : PySem.W.SharedT) : AlX := obsMXG 6 exB fns fxs tabs (HandSHeadRun.getT s)
theorem ob_eq (s : PySem.W.SharedT) : ob s = hk.obs s.abs := obsMXG_eq (HandSHeadRun.getT_eq s)
def loose : List PySem.Str := (["_wall", "HandError", "BadObject", "Fault", "Heap", "spread", "_law_draws", "_law_at", "_law_numbers", "_law_as_due", "_law_grown"] : List PySem.Str)
theorem run (w : World) : HandSHeadRun.RunEq RR (PySem.W.view RR.prog [14]) hk ob 20000 loose w := by
  intro os
  kernel_rfl
end NS
namespace NS
open L2 Mi PySem PySem.Spec PyProof.Rows
def o_Heap___init__ : Fl Empty D := ((((Res.ok [])).bind fun x1 => (ofO (mkL x1)).bind fun ys => .ok (.list ys)).bindF fun f2 => setD (addFD (.dict [(.none, .str "Heap")]) "links" f2) fun m3 => ((((((Res.ok [])).bind fun x4 => ofO (mkL x4))).bind fun x5 => .ok (.list x5)).bindF fun f6 => setD (addFD m3 "marked" f6) fun m7 => (Fl.nx m7)))
def m_Heap : List D → Res D
  | [] => ansO (o_Heap___init__ )
  | _ => .no
def o__law_draws (a__law_script : D) : Fl Empty Unit := ((((Res.ok [])).bind fun x9 => ofO (mkL x9)).bindF fun l__law_row_8 => ((((((Res.ok (.int 63))).bind fun x11 => ((((Res.ok a__law_script)).bind fun x10 => ofO (lenD x10))).bind fun x12 => ofO (minD x11 x12))).bind fun x13 => ofO (rng1 x13)).bindF fun xs => (loopF xs (l__law_row_8 : List D) (fun v__law_k_15 (t14 : List D) => ((((((Res.ok a__law_script)).bind fun x16 => ((Res.ok v__law_k_15)).bind fun x17 => ofO (itemD x16 x17))).bind fun x18 => ofO (intD x18)).bindF fun v__law_cell_19 => ((Res.ok (.int 0)).bindF fun v__law_below_20 => ((((((Res.ok v__law_cell_19)).bind fun x21 => ((Res.ok (.int 0))).bind fun x22 => ofO (ltB x21 x22)).bindF fun k => if k = true then ((((Res.ok (.int 0))).bind fun x27 => ((Res.ok v__law_cell_19)).bind fun x28 => ofO (subD x27 x28)).bindF fun v__law_cell_29 => ((Res.ok (.int 1)).bindF fun v__law_below_30 => (Fl.nx (v__law_cell_29, v__law_below_30)))) else (Fl.nx (v__law_cell_19, v__law_below_20))) : Fl _ (D × D)).bind fun (t31 : D × D) => ((((((Res.ok t31.1)).bind fun x34 => ((((Res.ok (.int 10))).bind fun x32 => ((Res.ok (.int 18))).bind fun x33 => ofO (powD x32 x33))).bind fun x35 => ofO (geB x34 x35)).bindF fun k => if k = true then ((((Res.ok (.int 60))).bind fun x97 => ofO (rng1 x97)).bindF fun xs => (loopF xs ((t14, t31.1) : List D × D) (fun v__law_j_99 (t98 : List D × D) => ((((((Res.ok t98.2)).bind fun x100 => ((Res.ok (.int 0))).bind fun x101 => ofO (gtB x100 x101)).bindF fun k => if k = true then ((((((Res.ok t98.2)).bind fun x109 => ofO (intD x109))).bind fun x110 => ((Res.ok (.int 1000000))).bind fun x111 => ofO (modD x110 x111)).bindF fun e112 => if t98.1.length < cap then ((((Res.ok t98.2)).bind fun x113 => ((Res.ok (.int 1000000))).bind fun x114 => ofO (fdivD x113 x114)).bindF fun v__law_cell_115 => (Fl.nx ((t98.1 ++ [e112]), v__law_cell_115))) else .no) else (Fl.nx (t98.1, t98.2))) : Fl _ (List D × D)).bind fun (t116 : List D × D) => (Fl.nx (t116.1, t116.2))))).bind fun (t117 : List D × D) => (Fl.nx (t117.1, t117.2))) else ((((((((((((((Res.ok t31.1)).bind fun x118 => ((Res.ok (.int 5))).bind fun x119 => ofO (addD x118 x119))).bind fun x120 => ((Res.ok (.int 48271))).bind fun x121 => ofO (mulD x120 x121))).bind fun x130 => ((((((((Res.ok v__law_k_15)).bind fun x122 => ((Res.ok (.int 1))).bind fun x123 => ofO (addD x122 x123))).bind fun x126 => ((((Res.ok v__law_k_15)).bind fun x124 => ((Res.ok (.int 7))).bind fun x125 => ofO (addD x124 x125))).bind fun x127 => ofO (mulD x126 x127))).bind fun x128 => ((Res.ok (.int 69621))).bind fun x129 => ofO (mulD x128 x129))).bind fun x131 => ofO (addD x130 x131))).bind fun x134 => ((((Res.ok t31.2)).bind fun x132 => ((Res.ok (.int 40692))).bind fun x133 => ofO (mulD x132 x133))).bind fun x135 => ofO (addD x134 x135))).bind fun x136 => ofO (intD x136))).bind fun x137 => ((Res.ok (.int 2147483647))).bind fun x138 => ofO (modD x137 x138)).bindF fun v__law_mixed_139 => ((((((((((Res.ok v__law_mixed_139)).bind fun x140 => ((Res.ok v__law_mixed_139)).bind fun x141 => ofO (mulD x140 x141))).bind fun x142 => ((Res.ok t31.1)).bind fun x143 => ofO (addD x142 x143))).bind fun x144 => ofO (intD x144))).bind fun x145 => ((Res.ok (.int 2147483629))).bind fun x146 => ofO (modD x145 x146)).bindF fun v__law_mixed_147 => ((((((((((((Res.ok v__law_mixed_147)).bind fun x148 => ((Res.ok (.int 16807))).bind fun x149 => ofO (mulD x148 x149))).bind fun x150 => ((Res.ok v__law_k_15)).bind fun x151 => ofO (addD x150 x151))).bind fun x152 => ofO (intD x152))).bind fun x153 => ((Res.ok (.int 2147483587))).bind fun x154 => ofO (modD x153 x154))).bind fun x155 => ((Res.ok (.int 1000000))).bind fun x156 => ofO (modD x155 x156)).bindF fun e157 => if t14.length < cap then (Fl.nx ((t14 ++ [e157]), t31.1)) else .no)))) : Fl _ (List D × D)).bind fun (t158 : List D × D) => (Fl.nx t158.1))))))).bind fun (t159 : List D) => ((Res.ok (.list t159)).bindF fun x160 => Fl.rt x160)))
def m__law_draws : List D → Res D
  | [a__law_script] => (o__law_draws a__law_script).res
  | _ => .no
def o_Heap_check (a_self a_number : D) : Fl Empty Unit := ((((Res.ok (.int 0)).bind fun x163 => (Res.ok a_number).bind fun x164 => (ofO (leB x163 x164)).bind fun k => if k = true then (((((Res.ok a_self)).bind fun x161 => ofO (attrD x161 "links"))).bind fun x162 => ofO (lenD x162)).bind fun x165 => ofO (ltB x164 x165) else .ok false).bind fun k => .ok (!k)).bindF fun k => if k = true then (((((Res.ok a_number)).bind fun x166 => ((Res.ok [])).bind fun x167 => .ok (x166 :: x167)).bindF fun ds168 => errX "BadObject" 1 ds168)).up else (Fl.nx ()))
def m_Heap_check : List D → Res D
  | [a_self, a_number] => (o_Heap_check a_self a_number).res
  | _ => .no
def o_Heap_reach (a_self a_number : D) : Fl Empty (List D) := (((Res.ok a_self).bind fun x169 => if isC "Heap" x169 = true then ((((Res.ok a_number)).bind fun x170 => ((Res.ok [])).bind fun x171 => .ok (x170 :: x171))).bind fun x172 => m_Heap_check (x169 :: x172) else .no).bindF fun _ => ((((((((((Res.ok a_self)).bind fun x174 => ofO (attrD x174 "links"))).bind fun x175 => ofO (itemsD x175))).bind fun x177 => lcC x177 (fun v176 => (Res.ok true)) (fun v176 => (Res.ok (.bool false))))).bind fun x178 => .ok (.list x178)).bindF fun m_found_173 => ((Res.ok (.bool true)).bindF fun e179 => (Res.ok (m_found_173, id)).bindF fun p180 => (Res.ok a_number).bindF fun x181 => setD (setU p180 x181 e179) fun m182 => ((((((((Res.ok a_number)).bind fun x184 => ((Res.ok [])).bind fun x185 => .ok (x184 :: x185))).bind fun x186 => ofO (mkL x186))).bind fun x187 => .ok (.list x187)).bindF fun m_left_183 => ((whileF (fun (t188 : D × D) => (((((Res.ok t188.2)).bind fun x189 => ofO (lenD x189))).bind fun x190 => ((Res.ok (.int 0))).bind fun x191 => ofO (gtB x190 x191))) (fun (t188 : D × D) => ((((((Res.ok a_self)).bind fun x196 => ofO (attrD x196 "links")).bind fun x197 => ((Res.ok (t188.2, id)).bind fun p194 => (ofO (popU p194)).bind fun x195 => .ok (x195.1, [x195.2])).bind fun x198 => (ofO (itemD x197 x198.1)).bind fun d => .ok (d, x198.2)).bind fun x222 => (ofO (itL x222.1)).bind fun xs223 => .ok (xs223, x222.2)).bindF fun p221 => nz1 .no p221.2 fun z199 => (loopF p221.1 ((t188.1, z199) : D × D) (fun v_part_201 (t200 : D × D) => (((((((((Res.ok (t200.1, id))).bind fun x202 => ((Res.ok v_part_201)).bind fun x203 => (ofO (ixU x202 x203)).bind fun q => .ok q.1)).bind fun x204 => ofO (asB x204)).bind fun k => .ok (!k)).bindF fun k => if k = true then ((Res.ok (.bool true)).bindF fun e212 => (Res.ok (t200.1, id)).bindF fun p213 => (Res.ok v_part_201).bindF fun x214 => setD (setU p213 x214 e212) fun m215 => ((Res.ok (t200.2, id)).bindF fun p217 => if isL p217.1 = true then (Res.ok v_part_201).bindF fun e216 => setD (appU p217 e216) fun m218 => (Fl.nx (m215, m218)) else .no)) else (Fl.nx (t200.1, t200.2))) : Fl _ (D × D)).bind fun (t219 : D × D) => (Fl.nx (t219.1, t219.2))))).bind fun (t220 : D × D) => (Fl.nx (t220.1, t220.2)))) fuelW ((m182, m_left_183) : D × D)).bind fun (t224 : D × D) => ((((((((((Res.ok t224.1)).bind fun x225 => ofO (lenD x225))).bind fun x226 => ofO (rng1 x226))).bind fun x231 => lcC x231 (fun v227 => (((((Res.ok (t224.1, id))).bind fun x228 => ((Res.ok v227)).bind fun x229 => (ofO (ixU x228 x229)).bind fun q => .ok q.1)).bind fun x230 => ofO (asB x230))) (fun v227 => (Res.ok v227)))).bind fun x232 => .ok (.list x232)).bindF fun x233 => Fl.rt (.tuple (x233 :: []))))))))
def m_Heap_reach : List D → Res D
  | [a_self, a_number] => if fitsM [.d, .d] [a_self, a_number] = true then resM 0 (o_Heap_reach a_self a_number) else .no
  | _ => .no
def md_Heap_reach (ds : List D) : Res D := (m_Heap_reach ds).bind outN
def o_Heap_touch (a_self a_number : D) : Fl Empty Unit := (((((Res.ok a_self).bind fun x234 => if isC "Heap" x234 = true then ((((Res.ok a_number)).bind fun x235 => ((Res.ok [])).bind fun x236 => .ok (x235 :: x236))).bind fun x237 => md_Heap_reach (x234 :: x237) else .no)).bind fun x238 => ofO (itemsD x238)).bindF fun xs => (loopF xs (() : Unit) (fun v_other_240 (t239 : Unit) => ((((((((Res.ok a_self)).bind fun x241 => ofO (attrD x241 "marked"))).bind fun x242 => ((Res.ok v_other_240)).bind fun x243 => ofO (itemD x242 x243))).bind fun x244 => ofO (asB x244)).bindF fun k => if k = true then (((((Res.ok v_other_240)).bind fun x245 => ((Res.ok [])).bind fun x246 => .ok (x245 :: x246)).bindF fun ds247 => errX "Fault" 1 ds247)).up else (Fl.nx ())))).bind fun (t248 : Unit) => (Fl.nx ()))
def m_Heap_touch : List D → Res D
  | [a_self, a_number] => (o_Heap_touch a_self a_number).res
  | _ => .no
def o_Heap_hand (a_self a_number : D) : Fl Empty (List D) := ((if isC "Heap" a_self = true then ((((Res.ok a_number)).bind fun x249 => ((Res.ok [])).bind fun x250 => .ok (x249 :: x250))).bind fun x251 => ((liftM m_Heap_touch (a_self :: x251)).bind outN).bind (flR .d) else .no).bindF fun _ => ((((if isC "Heap" a_self = true then ((((Res.ok a_number)).bind fun x252 => ((Res.ok [])).bind fun x253 => .ok (x252 :: x253))).bind fun x254 => ((m_Heap_reach (a_self :: x254)).bind outN).bind (flR (.l .d)) else .no)).bind fun x255 => ofO (itemsD x255)).bindF fun xs => (loopF xs (a_self : D) (fun v_other_257 (t256 : D) => ((Res.ok (.bool true)).bindF fun e258 => ((Res.ok (t256, id)).bind fun p => ofO (fldU p "marked")).bindF fun p259 => (Res.ok v_other_257).bindF fun x260 => setD (setU p259 x260 e258) fun m261 => (Fl.nx m261)))).bind fun (t262 : D) => (Fl.nx [t262])))
def m_Heap_hand : List D → Res D
  | [a_self, a_number] => if fitsM [(.o "Heap" (.f "links" (.l (.l .d)) (.f "marked" (.l .d) .d))), .d] [a_self, a_number] = true then resM 1 (o_Heap_hand a_self a_number) else .no
  | _ => .no
def o_Heap_make (a_self : D) : Fl Empty (List D) := (((Res.ok (a_self, id)).bind fun p => ofO (fldU p "links")).bindF fun p266 => if isL p266.1 = true then (((((Res.ok [])).bind fun x263 => ofO (mkL x263))).bind fun x264 => .ok (.list x264)).bindF fun e265 => setD (appU p266 e265) fun m267 => (((Res.ok (m267, id)).bind fun p => ofO (fldU p "marked")).bindF fun p269 => if isL p269.1 = true then (Res.ok (.bool false)).bindF fun e268 => setD (appU p269 e268) fun m270 => ((((((((Res.ok m270)).bind fun x271 => ofO (attrD x271 "links"))).bind fun x272 => ofO (lenD x272))).bind fun x273 => ((Res.ok (.int 1))).bind fun x274 => ofO (subD x273 x274)).bindF fun x275 => Fl.rt (.tuple (x275 :: [m270]))) else .no) else .no)
def m_Heap_make : List D → Res D
  | [a_self] => if fitsM [(.o "Heap" (.f "links" (.l (.l .d)) (.f "marked" (.l .d) .d)))] [a_self] = true then resM 1 (o_Heap_make a_self) else .no
  | _ => .no
def o__law_grown (a__law_holds : D) : Fl Empty (List D) := ((((((Res.ok a__law_holds)).bind fun x277 => ofO (itemsD x277))).bind fun x296 => (lcC x296 (fun v278 => (Res.ok true)) (fun v278 => (((((Res.ok v278)).bind fun x283 => ((((((((Res.ok (.bool false))).bind fun x279 => ((Res.ok [])).bind fun x280 => .ok (x279 :: x280))).bind fun x281 => ofO (mkL x281))).bind fun x282 => .ok (.list x282))).bind fun x284 => addR x283 x284)).bind fun x285 => .ok (.list x285)))).bind fun ys => .ok (.list ys)).bindF fun m__law_grown_here_276 => ((Res.ok (m__law_grown_here_276, id)).bindF fun p294 => if isL p294.1 = true then (((((((((((Res.ok a__law_holds)).bind fun x286 => ofO (lenD x286))).bind fun x287 => ((Res.ok (.int 1))).bind fun x288 => ofO (addD x287 x288))).bind fun x289 => ofO (rng1 x289))).bind fun x291 => lcC x291 (fun v290 => (Res.ok true)) (fun v290 => (Res.ok (.bool false))))).bind fun x292 => .ok (.list x292)).bindF fun e293 => setD (appU p294 e293) fun m295 => (Fl.rt (.tuple [m295])) else .no))
def m__law_grown : List D → Res D
  | [a__law_holds] => if fitsM [.d] [a__law_holds] = true then resM 0 (o__law_grown a__law_holds) else .no
  | _ => .no
def o__law_numbers (a__law_holds : D) : Fl Empty (List D) := ((((Res.ok a__law_holds)).bind fun x297 => ofO (lenD x297)).bindF fun v__law_many_298 => ((((((Res.ok v__law_many_298)).bind fun x300 => ofO (rng1 x300))).bind fun x372 => (lcC x372 (fun v301 => (Res.ok true)) (fun v301 => (Res.ok v301))).bind fun ys => .ok (.list ys)).bindF fun m__law_least_299 => ((((Res.ok v__law_many_298)).bind fun x302 => ofO (rng1 x302)).bindF fun xs => (loopF xs (m__law_least_299 : D) (fun v__law_turn_304 (t303 : D) => ((((Res.ok v__law_many_298)).bind fun x305 => ofO (rng1 x305)).bindF fun xs => (loopF xs (t303 : D) (fun v__law_j_307 (t306 : D) => ((((Res.ok v__law_many_298)).bind fun x308 => ofO (rng1 x308)).bindF fun xs => (loopF xs (t306 : D) (fun v__law_k_310 (t309 : D) => ((((((((((Res.ok a__law_holds)).bind fun x311 => ((Res.ok v__law_j_307)).bind fun x312 => ofO (itemD x311 x312))).bind fun x313 => ((Res.ok v__law_k_310)).bind fun x314 => ofO (itemD x313 x314))).bind fun x315 => ofO (asB x315)).bindF fun k => if k = true then ((((((((Res.ok (t309, id))).bind fun x333 => ((Res.ok v__law_j_307)).bind fun x334 => (ofO (ixU x333 x334)).bind fun q => .ok q.1)).bind fun x335 => ofO (intD x335))).bind fun x339 => ((((((Res.ok (t309, id))).bind fun x336 => ((Res.ok v__law_k_310)).bind fun x337 => (ofO (ixU x336 x337)).bind fun q => .ok q.1)).bind fun x338 => ofO (intD x338))).bind fun x340 => ofO (minD x339 x340)).bindF fun v__law_low_341 => ((Res.ok v__law_low_341).bindF fun e342 => (Res.ok (t309, id)).bindF fun p343 => (Res.ok v__law_j_307).bindF fun x344 => setD (setU p343 x344 e342) fun m345 => ((Res.ok v__law_low_341).bindF fun e346 => (Res.ok (m345, id)).bindF fun p347 => (Res.ok v__law_k_310).bindF fun x348 => setD (setU p347 x348 e346) fun m349 => (Fl.nx m349)))) else (Fl.nx t309)) : Fl _ (D)).bind fun (t350 : D) => (Fl.nx t350)))).bind fun (t351 : D) => (Fl.nx t351)))).bind fun (t352 : D) => (Fl.nx t352)))).bind fun (t353 : D) => ((((Res.ok [])).bind fun x355 => ofO (mkL x355)).bindF fun l__law_seen_354 => ((((Res.ok t353)).bind fun x356 => ofO (itemsD x356)).bindF fun xs => (loopF xs (l__law_seen_354 : List D) (fun v__law_x_358 (t357 : List D) => ((((((Res.ok v__law_x_358)).bind fun x359 => ((Res.ok (.list t357))).bind fun x360 => ofO (ninB x359 x360)).bindF fun k => if k = true then ((Res.ok v__law_x_358).bindF fun e362 => if t357.length < cap then (Fl.nx (t357 ++ [e362])) else .no) else (Fl.nx t357)) : Fl _ (List D)).bind fun (t363 : List D) => (Fl.nx t363)))).bind fun (t364 : List D) => ((((((((Res.ok t353)).bind fun x365 => ofO (itemsD x365))).bind fun x369 => lcC x369 (fun v366 => (Res.ok true)) (fun v366 => ((Res.ok (.list t364)).bind fun x367 => if Mi.tyB x367 = "list" then ((Res.ok v366)).bind fun x368 => ofO (indexD x367 x368) else .no)))).bind fun x370 => .ok (.list x370)).bindF fun x371 => Fl.rt (.tuple (x371 :: []))))))))
def m__law_numbers : List D → Res D
  | [a__law_holds] => if fitsM [.d] [a__law_holds] = true then resM 0 (o__law_numbers a__law_holds) else .no
  | _ => .no
def md__law_numbers (ds : List D) : Res D := (m__law_numbers ds).bind outN
def o_spread (a_near a_numbers a_first a_number : D) : Fl Empty (List D) := ((Res.ok a_number).bindF fun e373 => (Res.ok (a_numbers, id)).bindF fun p374 => (Res.ok a_first).bindF fun x375 => setD (setU p374 x375 e373) fun m376 => ((((((((Res.ok a_first)).bind fun x378 => ((Res.ok [])).bind fun x379 => .ok (x378 :: x379))).bind fun x380 => ofO (mkL x380))).bind fun x381 => .ok (.list x381)).bindF fun m_left_377 => ((whileF (fun (t382 : D × D) => (((((Res.ok t382.2)).bind fun x383 => ofO (lenD x383))).bind fun x384 => ((Res.ok (.int 0))).bind fun x385 => ofO (gtB x384 x385))) (fun (t382 : D × D) => ((((Res.ok a_near).bind fun x390 => ((Res.ok (t382.2, id)).bind fun p388 => (ofO (popU p388)).bind fun x389 => .ok (x389.1, [x389.2])).bind fun x391 => (ofO (itemD x390 x391.1)).bind fun d => .ok (d, x391.2)).bind fun x416 => (ofO (itL x416.1)).bind fun xs417 => .ok (xs417, x416.2)).bindF fun p415 => nz1 .no p415.2 fun z392 => (loopF p415.1 ((t382.1, z392) : D × D) (fun v_other_394 (t393 : D × D) => ((((((((Res.ok (t393.1, id))).bind fun x395 => ((Res.ok v_other_394)).bind fun x396 => (ofO (ixU x395 x396)).bind fun q => .ok q.1)).bind fun x397 => ((Res.ok (.int 0))).bind fun x398 => ofO (ltB x397 x398)).bindF fun k => if k = true then ((Res.ok a_number).bindF fun e406 => (Res.ok (t393.1, id)).bindF fun p407 => (Res.ok v_other_394).bindF fun x408 => setD (setU p407 x408 e406) fun m409 => ((Res.ok (t393.2, id)).bindF fun p411 => if isL p411.1 = true then (Res.ok v_other_394).bindF fun e410 => setD (appU p411 e410) fun m412 => (Fl.nx (m409, m412)) else .no)) else (Fl.nx (t393.1, t393.2))) : Fl _ (D × D)).bind fun (t413 : D × D) => (Fl.nx (t413.1, t413.2))))).bind fun (t414 : D × D) => (Fl.nx (t414.1, t414.2)))) fuelW ((m376, m_left_377) : D × D)).bind fun (t418 : D × D) => (Fl.nx [t418.1]))))
def m_spread : List D → Res D
  | [a_near, a_numbers, a_first, a_number] => if fitsM [.d, (.l .d), .d, .d] [a_near, a_numbers, a_first, a_number] = true then resM 1 (o_spread a_near a_numbers a_first a_number) else .no
  | _ => .no
def o_Heap_islands (a_self : D) : Fl Empty (List D) := ((((((((Res.ok a_self)).bind fun x420 => ofO (attrD x420 "links"))).bind fun x421 => ofO (itemsD x421))).bind fun x485 => (lcC x485 (fun v422 => (Res.ok true)) (fun v422 => (((((Res.ok v422)).bind fun x423 => listR x423)).bind fun x424 => .ok (.list x424)))).bind fun ys => .ok (.list ys)).bindF fun m_near_419 => ((((((((Res.ok a_self)).bind fun x425 => ofO (attrD x425 "links"))).bind fun x426 => ofO (lenD x426))).bind fun x427 => ofO (rng1 x427)).bindF fun xs => (loopF xs (m_near_419 : D) (fun v_holder_429 (t428 : D) => ((((((((Res.ok a_self)).bind fun x430 => ofO (attrD x430 "links"))).bind fun x431 => ((Res.ok v_holder_429)).bind fun x432 => ofO (itemD x431 x432))).bind fun x433 => ofO (itemsD x433)).bindF fun xs => (loopF xs (t428 : D) (fun v_part_435 (t434 : D) => ((((Res.ok (t434, id))).bind fun x436 => ((Res.ok v_part_435)).bind fun x437 => ofO (ixU x436 x437)).bindF fun p439 => if isL p439.1 = true then (Res.ok v_holder_429).bindF fun e438 => setD (appU p439 e438) fun m440 => (Fl.nx m440) else .no))).bind fun (t441 : D) => (Fl.nx t441)))).bind fun (t442 : D) => ((((((Res.ok t442)).bind fun x444 => ofO (itemsD x444))).bind fun x484 => (lcC x484 (fun v445 => (Res.ok true)) (fun v445 => (((Res.ok (.int 1))).bind fun x446 => ofO (negD x446)))).bind fun ys => .ok (.list ys)).bindF fun m_numbers_443 => ((Res.ok (.int 0)).bindF fun v_count_447 => ((((((Res.ok t442)).bind fun x448 => ofO (lenD x448))).bind fun x449 => ofO (rng1 x449)).bindF fun xs => (loopF xs ((m_numbers_443, v_count_447) : D × D) (fun v_first_451 (t450 : D × D) => ((((((((Res.ok (t450.1, id))).bind fun x452 => ((Res.ok v_first_451)).bind fun x453 => (ofO (ixU x452 x453)).bind fun q => .ok q.1)).bind fun x454 => ((Res.ok (.int 0))).bind fun x455 => ofO (ltB x454 x455)).bindF fun k => if k = true then ((((((Res.ok t442)).bind fun x474 => ((((((Res.ok v_first_451)).bind fun x471 => ((((Res.ok t450.2)).bind fun x469 => ((Res.ok [])).bind fun x470 => .ok (x469 :: x470))).bind fun x472 => .ok (x471 :: x472))).bind fun x473 => .ok (t450.1 :: x473))).bind fun x475 => .ok (x474 :: x475))).bind fun x476 => (m_spread x476).bind outM).bindF (curry2 fun _ zs478 => nz1 .no zs478 fun z479 => ((Res.ok (.int 1)).bindF fun x480 => (ofO (augA t450.2 x480)).bindF fun v_count_481 => (Fl.nx (z479, v_count_481))))) else (Fl.nx (t450.1, t450.2))) : Fl _ (D × D)).bind fun (t482 : D × D) => (Fl.nx (t482.1, t482.2))))).bind fun (t483 : D × D) => (Fl.rt (.tuple [t483.1])))))))
def m_Heap_islands : List D → Res D
  | [a_self] => if fitsM [.d] [a_self] = true then resM 0 (o_Heap_islands a_self) else .no
  | _ => .no
def md_Heap_islands (ds : List D) : Res D := (m_Heap_islands ds).bind outN
def o__law_as_due (a__law_heap a__law_holds : D) : Fl Empty Unit := ((((((Res.ok a__law_holds)).bind fun x486 => ((Res.ok [])).bind fun x487 => .ok (x486 :: x487))).bind fun x488 => md__law_numbers x488).bindF fun v__law_due_489 => (((Res.ok a__law_heap).bind fun x491 => if isC "Heap" x491 = true then (m_Heap_islands [x491]).bind outN else .no).bindF fun m__law_told_490 => ((((((Res.ok m__law_told_490)).bind fun x492 => ofO (isiT "list" x492)).bind fun k => .ok (!k)).bind fun k => if k = true then .ok true else (((Res.ok m__law_told_490)).bind fun x493 => ((Res.ok v__law_due_489)).bind fun x494 => ofO (neB x493 x494))).bindF fun k => if k = true then (((Res.ok (.bool false)).bindF fun x495 => Fl.rt x495)).up else (if isL m__law_told_490 = true then itL2 m__law_told_490 fun xs => (loopF xs (() : Unit) (fun v__law_x_498 (t497 : Unit) => ((((((Res.ok v__law_x_498)).bind fun x499 => ofO (isiT "int" x499)).bind fun k => .ok (!k)).bind fun k => if k = true then .ok true else (((Res.ok v__law_x_498)).bind fun x500 => ofO (isiT "bool" x500))).bindF fun k => if k = true then (((Res.ok (.bool false)).bindF fun x501 => Fl.rt x501)).up else (Fl.nx ())))).bind fun (t502 : Unit) => ((Res.ok (m__law_told_490, id)).bindF fun p504 => if isL p504.1 = true then (Res.ok (.int 7)).bindF fun e503 => setD (appU p504 e503) fun m505 => ((((((((Res.ok v__law_due_489)).bind fun x506 => ofO (lenD x506))).bind fun x507 => ((Res.ok (.int 0))).bind fun x508 => ofO (gtB x507 x508)).bindF fun k => if k = true then ((Res.ok (.int 5)).bindF fun e513 => (Res.ok (m505, id)).bindF fun p514 => (Res.ok (.int 0)).bindF fun x515 => setD (setU p514 x515 e513) fun m516 => (Fl.nx m516)) else (Fl.nx m505)) : Fl _ (D)).bind fun (t517 : D) => (((((Res.ok a__law_heap).bind fun x518 => if isC "Heap" x518 = true then md_Heap_islands [x518] else .no)).bind fun x519 => ((Res.ok v__law_due_489)).bind fun x520 => (ofO (eqB x519 x520)).bind fun k => .ok (.bool k)).bindF fun x521 => Fl.rt x521)) else .no) else .no))))
def m__law_as_due : List D → Res D
  | [a__law_heap, a__law_holds] => (o__law_as_due a__law_heap a__law_holds).res
  | _ => .no
def o__law_at (a__law_row a__law_k : D) : Fl Empty Unit := ((((Res.ok a__law_k)).bind fun x523 => ((((Res.ok a__law_row)).bind fun x522 => ofO (lenD x522))).bind fun x524 => ofO (ltB x523 x524)).bindF fun k => if k = true then (((((Res.ok a__law_row)).bind fun x525 => ((Res.ok a__law_k)).bind fun x526 => ofO (itemD x525 x526)).bindF fun x527 => Fl.rt x527)).up else ((Res.ok (.int 0)).bindF fun x528 => Fl.rt x528))
def m__law_at : List D → Res D
  | [a__law_row, a__law_k] => (o__law_at a__law_row a__law_k).res
  | _ => .no
def o_Heap_put (a_self a_holder a_part : D) : Fl Empty (List D) := ((if isC "Heap" a_self = true then ((((Res.ok a_holder)).bind fun x529 => ((Res.ok [])).bind fun x530 => .ok (x529 :: x530))).bind fun x531 => ((liftM m_Heap_check (a_self :: x531)).bind outN).bind (flR .d) else .no).bindF fun _ => ((if isC "Heap" a_self = true then ((((Res.ok a_part)).bind fun x532 => ((Res.ok [])).bind fun x533 => .ok (x532 :: x533))).bind fun x534 => ((liftM m_Heap_check (a_self :: x534)).bind outN).bind (flR .d) else .no).bindF fun _ => (if (fldU (a_self, id) "links").isSome = true then (Res.ok a_holder).bindF fun x537 => aliK (aliJ a_self "links" x537) fun j535 => ((Res.ok (.int 0)).bindF fun v_at_538 => ((whileF (fun (t539 : D) => ((((Res.ok t539)).bind fun x541 => (((((ofO (aliU a_self "links" j535)).bind fun p => .ok p.1)).bind fun x540 => ofO (lenD x540))).bind fun x542 => ofO (ltB x541 x542)).bind fun k => if k = true then (((((ofO (aliU a_self "links" j535))).bind fun x543 => ((Res.ok t539)).bind fun x544 => (ofO (ixU x543 x544)).bind fun q => .ok q.1)).bind fun x545 => ((Res.ok a_part)).bind fun x546 => ofO (ltB x545 x546)) else .ok false)) (fun (t539 : D) => ((Res.ok (.int 1)).bindF fun x547 => (ofO (augA t539 x547)).bindF fun v_at_548 => (Fl.nx v_at_548))) fuelW (v_at_538 : D)).bind fun (t549 : D) => (((((((Res.ok t549)).bind fun x551 => (((((ofO (aliU a_self "links" j535)).bind fun p => .ok p.1)).bind fun x550 => ofO (lenD x550))).bind fun x552 => ofO (eqB x551 x552)).bind fun k => if k = true then .ok true else (((((ofO (aliU a_self "links" j535))).bind fun x553 => ((Res.ok t549)).bind fun x554 => (ofO (ixU x553 x554)).bind fun q => .ok q.1)).bind fun x555 => ((Res.ok a_part)).bind fun x556 => ofO (neB x555 x556))).bindF fun k => if k = true then ((ofO (aliU a_self "links" j535)).bindF fun p562 => if isL p562.1 = true then (Res.ok t549).bindF fun x564 => (Res.ok a_part).bindF fun e561 => setD (insU p562 x564 e561) fun m563 => (Fl.nx m563) else .no) else (Fl.nx a_self)) : Fl _ (D)).bind fun (t565 : D) => (Fl.nx [t565])))) else .no)))
def m_Heap_put : List D → Res D
  | [a_self, a_holder, a_part] => if fitsM [(.o "Heap" (.f "links" (.l (.l .d)) (.f "marked" (.l .d) .d))), .d, .d] [a_self, a_holder, a_part] = true then resM 1 (o_Heap_put a_self a_holder a_part) else .no
  | _ => .no
def o_Heap_twin (a_self : D) : Fl Empty (List D) := ((m_Heap []).bindF fun m_other_566 => ((((((((Res.ok a_self)).bind fun x567 => ofO (attrD x567 "links"))).bind fun x568 => ofO (itemsD x568))).bind fun x572 => (lcC x572 (fun v569 => (Res.ok true)) (fun v569 => (((((Res.ok v569)).bind fun x570 => listR x570)).bind fun x571 => .ok (.list x571)))).bind fun ys => .ok (.list ys)).bindF fun f573 => setD (addFD m_other_566 "links" f573) fun m574 => ((((((((Res.ok a_self)).bind fun x575 => ofO (attrD x575 "marked"))).bind fun x576 => listR x576)).bind fun x577 => .ok (.list x577)).bindF fun f578 => setD (addFD m574 "marked" f578) fun m579 => (Fl.rt (.tuple [m579])))))
def m_Heap_twin : List D → Res D
  | [a_self] => if fitsM [.d] [a_self] = true then resM 0 (o_Heap_twin a_self) else .no
  | _ => .no
def o_Heap_cut (a_self a_holder a_part : D) : Fl Empty (List D) := ((if isC "Heap" a_self = true then ((((Res.ok a_holder)).bind fun x580 => ((Res.ok [])).bind fun x581 => .ok (x580 :: x581))).bind fun x582 => ((liftM m_Heap_check (a_self :: x582)).bind outN).bind (flR .d) else .no).bindF fun _ => ((if isC "Heap" a_self = true then ((((Res.ok a_part)).bind fun x583 => ((Res.ok [])).bind fun x584 => .ok (x583 :: x584))).bind fun x585 => ((liftM m_Heap_check (a_self :: x585)).bind outN).bind (flR .d) else .no).bindF fun _ => (((((((((((((Res.ok a_self)).bind fun x586 => ofO (attrD x586 "links"))).bind fun x587 => ((Res.ok a_holder)).bind fun x588 => ofO (itemD x587 x588))).bind fun x589 => ofO (itemsD x589))).bind fun x593 => lcC x593 (fun v590 => (((Res.ok v590)).bind fun x591 => ((Res.ok a_part)).bind fun x592 => ofO (neB x591 x592))) (fun v590 => (Res.ok v590)))).bind fun x594 => .ok (.list x594)).bind (flR (.l .d))).bindF fun e595 => ((Res.ok (a_self, id)).bind fun p => ofO (fldU p "links")).bindF fun p596 => (Res.ok a_holder).bindF fun x597 => setD (setU p596 x597 e595) fun m598 => (Fl.nx [m598]))))
def m_Heap_cut : List D → Res D
  | [a_self, a_holder, a_part] => if fitsM [(.o "Heap" (.f "links" (.l (.l .d)) (.f "marked" (.l .d) .d))), .d, .d] [a_self, a_holder, a_part] = true then resM 1 (o_Heap_cut a_self a_holder a_part) else .no
  | _ => .no
def o_law (a__law_script : D) : Fl Empty Unit := ((((((Res.ok a__law_script)).bind fun x599 => ((Res.ok [])).bind fun x600 => .ok (x599 :: x600))).bind fun x601 => m__law_draws x601).bindF fun v__law_row_602 => ((((((((((Res.ok v__law_row_602)).bind fun x605 => ((((Res.ok (.int 0))).bind fun x603 => ((Res.ok [])).bind fun x604 => .ok (x603 :: x604))).bind fun x606 => .ok (x605 :: x606))).bind fun x607 => m__law_at x607)).bind fun x608 => ofO (intD x608))).bind fun x609 => ((Res.ok (.int 9))).bind fun x610 => ofO (modD x609 x610)).bindF fun v__law_many_611 => ((m_Heap []).bindF fun m__law_heap_612 => ((((Res.ok [])).bind fun x614 => (ofO (mkL x614)).bind fun ys => .ok (.list ys)).bindF fun m__law_holds_613 => ((((Res.ok v__law_many_611)).bind fun x615 => ofO (rng1 x615)).bindF fun xs => (loopF xs ((m__law_heap_612, m__law_holds_613) : D × D) (fun v__law_k_617 (t616 : D × D) => ((if isC "Heap" t616.1 = true then (m_Heap_make [t616.1]).bind outM else .no).bindF (curry2 fun _ zs619 => nz1 .no zs619 fun z620 => ((((((Res.ok [])).bind fun x622 => .ok (t616.2 :: x622))).bind fun x623 => ((m__law_grown x623).bind outN).bind (flR (.l (.l .d)))).bindF fun m__law_holds_621 => (Fl.nx (z620, m__law_holds_621))))))).bind fun (t624 : D × D) => ((((((((((((Res.ok v__law_row_602)).bind fun x627 => ((((Res.ok (.int 1))).bind fun x625 => ((Res.ok [])).bind fun x626 => .ok (x625 :: x626))).bind fun x628 => .ok (x627 :: x628))).bind fun x629 => m__law_at x629)).bind fun x630 => ofO (intD x630))).bind fun x631 => ((Res.ok (.int 13))).bind fun x632 => ofO (modD x631 x632))).bind fun x633 => ofO (rng1 x633)).bindF fun xs => (loopF xs ((t624.1, t624.2) : D × D) (fun v__law_k_635 (t634 : D × D) => ((((((((Res.ok v__law_row_602)).bind fun x640 => ((((((Res.ok (.int 2))).bind fun x636 => ((Res.ok v__law_k_635)).bind fun x637 => ofO (addD x636 x637))).bind fun x638 => ((Res.ok [])).bind fun x639 => .ok (x638 :: x639))).bind fun x641 => .ok (x640 :: x641))).bind fun x642 => m__law_at x642)).bind fun x643 => ofO (intD x643)).bindF fun v__law_draw_644 => ((((((Res.ok v__law_many_611)).bind fun x645 => ((Res.ok (.int 0))).bind fun x646 => ofO (gtB x645 x646)).bindF fun k => if k = true then ((Res.ok (.bool true)).bindF fun e681 => (((Res.ok (t634.2, id))).bind fun x675 => ((((Res.ok v__law_draw_644)).bind fun x673 => ((Res.ok v__law_many_611)).bind fun x674 => ofO (modD x673 x674))).bind fun x676 => ofO (ixU x675 x676)).bindF fun p682 => (((((Res.ok v__law_draw_644)).bind fun x677 => ((Res.ok (.int 10))).bind fun x678 => ofO (fdivD x677 x678))).bind fun x679 => ((Res.ok v__law_many_611)).bind fun x680 => ofO (modD x679 x680)).bindF fun x683 => setD (setU p682 x683 e681) fun m684 => ((if isC "Heap" t634.1 = true then ((((((Res.ok v__law_draw_644)).bind fun x685 => ((Res.ok v__law_many_611)).bind fun x686 => ofO (modD x685 x686))).bind fun x693 => ((((((((Res.ok v__law_draw_644)).bind fun x687 => ((Res.ok (.int 10))).bind fun x688 => ofO (fdivD x687 x688))).bind fun x689 => ((Res.ok v__law_many_611)).bind fun x690 => ofO (modD x689 x690))).bind fun x691 => ((Res.ok [])).bind fun x692 => .ok (x691 :: x692))).bind fun x694 => .ok (x693 :: x694))).bind fun x695 => (m_Heap_put (t634.1 :: x695)).bind outM else .no).bindF (curry2 fun _ zs697 => nz1 .no zs697 fun z698 => (Fl.nx (z698, m684))))) else (Fl.nx (t634.1, t634.2))) : Fl _ (D × D)).bind fun (t699 : D × D) => (Fl.nx (t699.1, t699.2)))))).bind fun (t700 : D × D) => (((((((((((Res.ok [])).bind fun x701 => .ok (t700.2 :: x701))).bind fun x702 => .ok (t700.1 :: x702))).bind fun x703 => ((liftM m__law_as_due x703).bind outN).bind (flR .d))).bind fun x704 => ofO (asB x704)).bind fun k => .ok (!k)).bindF fun k => if k = true then (((Res.ok (.bool false)).bindF fun x705 => Fl.rt x705)).up else ((((Res.ok (.int 6))).bind fun x706 => ofO (rng1 x706)).bindF fun xs => (loopF xs ((v__law_many_611, t700.1, t700.2) : D × D × D) (fun v__law_k_708 (t707 : D × D × D) => ((((((((Res.ok v__law_row_602)).bind fun x713 => ((((((Res.ok (.int 15))).bind fun x709 => ((Res.ok v__law_k_708)).bind fun x710 => ofO (addD x709 x710))).bind fun x711 => ((Res.ok [])).bind fun x712 => .ok (x711 :: x712))).bind fun x714 => .ok (x713 :: x714))).bind fun x715 => m__law_at x715)).bind fun x716 => ofO (intD x716)).bindF fun v__law_draw_717 => ((((Res.ok t707.2.2)).bind fun x718 => ofO (lenD x718)).bindF fun v__law_many_719 => (((((((Res.ok v__law_many_719)).bind fun x720 => ((Res.ok (.int 0))).bind fun x721 => ofO (eqB x720 x721)).bind fun k => if k = true then .ok true else (((((Res.ok v__law_draw_717)).bind fun x722 => ((Res.ok (.int 5))).bind fun x723 => ofO (modD x722 x723))).bind fun x724 => ((Res.ok (.int 0))).bind fun x725 => ofO (eqB x724 x725))).bindF fun k => if k = true then ((if isC "Heap" t707.2.1 = true then (m_Heap_make [t707.2.1]).bind outM else .no).bindF (curry2 fun _ zs858 => nz1 .no zs858 fun z859 => ((((((Res.ok [])).bind fun x861 => .ok (t707.2.2 :: x861))).bind fun x862 => ((m__law_grown x862).bind outN).bind (flR (.l (.l .d)))).bindF fun m__law_holds_860 => (Fl.nx (z859, m__law_holds_860))))) else ((((((((Res.ok v__law_draw_717)).bind fun x863 => ((Res.ok (.int 5))).bind fun x864 => ofO (modD x863 x864))).bind fun x865 => ((Res.ok (.int 3))).bind fun x866 => ofO (ltB x865 x866)).bindF fun k => if k = true then ((Res.ok (.bool true)).bindF fun e937 => (((Res.ok (t707.2.2, id))).bind fun x931 => ((((((Res.ok v__law_draw_717)).bind fun x927 => ((Res.ok (.int 5))).bind fun x928 => ofO (fdivD x927 x928))).bind fun x929 => ((Res.ok v__law_many_719)).bind fun x930 => ofO (modD x929 x930))).bind fun x932 => ofO (ixU x931 x932)).bindF fun p938 => (((((Res.ok v__law_draw_717)).bind fun x933 => ((Res.ok (.int 50))).bind fun x934 => ofO (fdivD x933 x934))).bind fun x935 => ((Res.ok v__law_many_719)).bind fun x936 => ofO (modD x935 x936)).bindF fun x939 => setD (setU p938 x939 e937) fun m940 => ((if isC "Heap" t707.2.1 = true then ((((((((Res.ok v__law_draw_717)).bind fun x941 => ((Res.ok (.int 5))).bind fun x942 => ofO (fdivD x941 x942))).bind fun x943 => ((Res.ok v__law_many_719)).bind fun x944 => ofO (modD x943 x944))).bind fun x951 => ((((((((Res.ok v__law_draw_717)).bind fun x945 => ((Res.ok (.int 50))).bind fun x946 => ofO (fdivD x945 x946))).bind fun x947 => ((Res.ok v__law_many_719)).bind fun x948 => ofO (modD x947 x948))).bind fun x949 => ((Res.ok [])).bind fun x950 => .ok (x949 :: x950))).bind fun x952 => .ok (x951 :: x952))).bind fun x953 => (m_Heap_put (t707.2.1 :: x953)).bind outM else .no).bindF (curry2 fun _ zs955 => nz1 .no zs955 fun z956 => (Fl.nx (z956, m940))))) else ((Res.ok (.bool false)).bindF fun e967 => (((Res.ok (t707.2.2, id))).bind fun x961 => ((((((Res.ok v__law_draw_717)).bind fun x957 => ((Res.ok (.int 5))).bind fun x958 => ofO (fdivD x957 x958))).bind fun x959 => ((Res.ok v__law_many_719)).bind fun x960 => ofO (modD x959 x960))).bind fun x962 => ofO (ixU x961 x962)).bindF fun p968 => (((((Res.ok v__law_draw_717)).bind fun x963 => ((Res.ok (.int 50))).bind fun x964 => ofO (fdivD x963 x964))).bind fun x965 => ((Res.ok v__law_many_719)).bind fun x966 => ofO (modD x965 x966)).bindF fun x969 => setD (setU p968 x969 e967) fun m970 => ((if isC "Heap" t707.2.1 = true then ((((((((Res.ok v__law_draw_717)).bind fun x971 => ((Res.ok (.int 5))).bind fun x972 => ofO (fdivD x971 x972))).bind fun x973 => ((Res.ok v__law_many_719)).bind fun x974 => ofO (modD x973 x974))).bind fun x981 => ((((((((Res.ok v__law_draw_717)).bind fun x975 => ((Res.ok (.int 50))).bind fun x976 => ofO (fdivD x975 x976))).bind fun x977 => ((Res.ok v__law_many_719)).bind fun x978 => ofO (modD x977 x978))).bind fun x979 => ((Res.ok [])).bind fun x980 => .ok (x979 :: x980))).bind fun x982 => .ok (x981 :: x982))).bind fun x983 => (m_Heap_cut (t707.2.1 :: x983)).bind outM else .no).bindF (curry2 fun _ zs985 => nz1 .no zs985 fun z986 => (Fl.nx (z986, m970)))))) : Fl _ (D × D)).bind fun (t987 : D × D) => (Fl.nx (t987.1, t987.2)))) : Fl _ (D × D)).bind fun (t988 : D × D) => (((((((((((Res.ok [])).bind fun x989 => .ok (t988.2 :: x989))).bind fun x990 => .ok (t988.1 :: x990))).bind fun x991 => ((liftM m__law_as_due x991).bind outN).bind (flR .d))).bind fun x992 => ofO (asB x992)).bind fun k => .ok (!k)).bindF fun k => if k = true then (((Res.ok (.bool false)).bindF fun x993 => Fl.rt x993)).up else (Fl.nx (v__law_many_719, t988.1, t988.2)))))))).bind fun (t994 : D × D × D) => ((if isC "Heap" t994.2.1 = true then ((((((((((((Res.ok v__law_row_602)).bind fun x997 => ((((Res.ok (.int 21))).bind fun x995 => ((Res.ok [])).bind fun x996 => .ok (x995 :: x996))).bind fun x998 => .ok (x997 :: x998))).bind fun x999 => m__law_at x999)).bind fun x1000 => ofO (intD x1000))).bind fun x1002 => ((((Res.ok t994.2.2)).bind fun x1001 => ofO (lenD x1001))).bind fun x1003 => ofO (modD x1002 x1003))).bind fun x1004 => ((Res.ok [])).bind fun x1005 => .ok (x1004 :: x1005))).bind fun x1006 => (m_Heap_hand (t994.2.1 :: x1006)).bind outM else .no).bindF (curry2 fun _ zs1008 => nz1 .no zs1008 fun z1009 => (((((((((Res.ok t994.2.2)).bind fun x1010 => ((Res.ok [])).bind fun x1011 => .ok (x1010 :: x1011))).bind fun x1012 => .ok (z1009 :: x1012))).bind fun x1013 => ((liftM m__law_as_due x1013).bind outN).bind (flR .d)).bind fun x1019 => (ofO (asB x1019)).bind fun k => if k = true then (((((if isC "Heap" z1009 = true then ((m_Heap_twin [z1009]).bind outN).bind (flR (.o "Heap" (.f "links" (.l (.l .d)) (.f "marked" (.l .d) .d)))) else .no)).bind fun x1016 => ((((Res.ok t994.2.2)).bind fun x1014 => ((Res.ok [])).bind fun x1015 => .ok (x1014 :: x1015))).bind fun x1017 => .ok (x1016 :: x1017))).bind fun x1018 => m__law_as_due x1018) else .ok (.bool false)).bindF fun x1020 => Fl.rt x1020)))))))))))
def m_law : List D → Res D
  | [a__law_script] => (o_law a__law_script).res
  | _ => .no
structure TX (P : Program) (w : World) (K : PySem.W.Frag) (mg : Str → Option Value) : Prop where
  n_bool : mg "bool" = none
  n_int : mg "int" = none
  n_isinstance : mg "isinstance" = none
  n_len : mg "len" = none
  n_list : mg "list" = none
  n_min : mg "min" = none
  n_range : mg "range" = none
  n_super : mg "super" = none
  ge_BadObject : mg "BadObject" = some (.ref (He.ga K "BadObject"))
  fe_BadObject : ∃ fd, FunS K "__init__" "BadObject.__init__" (defArgs (inCls (topS 3) 0)) (defBody (inCls (topS 3) 0)) (defScope (inCls (topS 3) 0)) (He.ma K (He.ga K "BadObject") "__init__") (ccOf K (He.ma K (He.ga K "BadObject") "__init__")) fd
  eb_BadObject : ErrF K (He.ga K "BadObject") (He.ma K (He.ga K "BadObject") "__init__") (ccOf K (He.ma K (He.ga K "BadObject") "__init__")) file ["number"]
  ge_Fault : mg "Fault" = some (.ref (He.ga K "Fault"))
  fe_Fault : ∃ fd, FunS K "__init__" "Fault.__init__" (defArgs (inCls (topS 4) 0)) (defBody (inCls (topS 4) 0)) (defScope (inCls (topS 4) 0)) (He.ma K (He.ga K "Fault") "__init__") (ccOf K (He.ma K (He.ga K "Fault") "__init__")) fd
  eb_Fault : ErrF K (He.ga K "Fault") (He.ma K (He.ga K "Fault") "__init__") (ccOf K (He.ma K (He.ga K "Fault") "__init__")) file ["number"]
  sp : SupP P file
  xf : XfT (gm K w) xtab
  co : CisOk (gm K w)
  mk_Heap : mg "Heap" = some (.ref (He.ga K "Heap")) ∧ Mk K (He.ga K "Heap") (He.ma K (He.ga K "Heap") "__init__")
  f_Heap___init__ : ∃ fd, FunD K "__init__" "Heap.__init__" (defArgs (inCls (topS 6) 0)) (defBody (inCls (topS 6) 0)) (defScope (inCls (topS 6) 0)) [] [] (He.ma K (He.ga K "Heap") "__init__") fd
  g__law_draws : mg "_law_draws" = some (.ref (He.ga K "_law_draws"))
  f__law_draws : ∃ fd, FunD K "_law_draws" "_law_draws" (defArgs (topS 9)) (defBody (topS 9)) (defScope (topS 9)) [] [] (He.ga K "_law_draws") fd
  h_Heap_check : Meth K (He.ga K "Heap") "check" (He.ma K (He.ga K "Heap") "check")
  f_Heap_check : ∃ fd, FunD K "check" "Heap.check" (defArgs (inCls (topS 6) 2)) (defBody (inCls (topS 6) 2)) (defScope (inCls (topS 6) 2)) [] [] (He.ma K (He.ga K "Heap") "check") fd
  h_Heap_reach : Meth K (He.ga K "Heap") "reach" (He.ma K (He.ga K "Heap") "reach")
  f_Heap_reach : ∃ fd, FunD K "reach" "Heap.reach" (defArgs (inCls (topS 6) 6)) (defBody (inCls (topS 6) 6)) (defScope (inCls (topS 6) 6)) [] [] (He.ma K (He.ga K "Heap") "reach") fd
  h_Heap_touch : Meth K (He.ga K "Heap") "touch" (He.ma K (He.ga K "Heap") "touch")
  f_Heap_touch : ∃ fd, FunD K "touch" "Heap.touch" (defArgs (inCls (topS 6) 8)) (defBody (inCls (topS 6) 8)) (defScope (inCls (topS 6) 8)) [] [] (He.ma K (He.ga K "Heap") "touch") fd
  h_Heap_hand : Meth K (He.ga K "Heap") "hand" (He.ma K (He.ga K "Heap") "hand")
  f_Heap_hand : ∃ fd, FunD K "hand" "Heap.hand" (defArgs (inCls (topS 6) 9)) (defBody (inCls (topS 6) 9)) (defScope (inCls (topS 6) 9)) [] [] (He.ma K (He.ga K "Heap") "hand") fd
  h_Heap_make : Meth K (He.ga K "Heap") "make" (He.ma K (He.ga K "Heap") "make")
  f_Heap_make : ∃ fd, FunD K "make" "Heap.make" (defArgs (inCls (topS 6) 1)) (defBody (inCls (topS 6) 1)) (defScope (inCls (topS 6) 1)) [] [] (He.ma K (He.ga K "Heap") "make") fd
  g__law_grown : mg "_law_grown" = some (.ref (He.ga K "_law_grown"))
  f__law_grown : ∃ fd, FunD K "_law_grown" "_law_grown" (defArgs (topS 13)) (defBody (topS 13)) (defScope (topS 13)) [] [] (He.ga K "_law_grown") fd
  g__law_numbers : mg "_law_numbers" = some (.ref (He.ga K "_law_numbers"))
  f__law_numbers : ∃ fd, FunD K "_law_numbers" "_law_numbers" (defArgs (topS 11)) (defBody (topS 11)) (defScope (topS 11)) [] [] (He.ga K "_law_numbers") fd
  g_spread : mg "spread" = some (.ref (He.ga K "spread"))
  f_spread : ∃ fd, FunD K "spread" "spread" (defArgs (topS 7)) (defBody (topS 7)) (defScope (topS 7)) [] [] (He.ga K "spread") fd
  h_Heap_islands : Meth K (He.ga K "Heap") "islands" (He.ma K (He.ga K "Heap") "islands")
  f_Heap_islands : ∃ fd, FunD K "islands" "Heap.islands" (defArgs (inCls (topS 6) 10)) (defBody (inCls (topS 6) 10)) (defScope (inCls (topS 6) 10)) [] [] (He.ma K (He.ga K "Heap") "islands") fd
  g__law_as_due : mg "_law_as_due" = some (.ref (He.ga K "_law_as_due"))
  f__law_as_due : ∃ fd, FunD K "_law_as_due" "_law_as_due" (defArgs (topS 12)) (defBody (topS 12)) (defScope (topS 12)) [] [] (He.ga K "_law_as_due") fd
  g__law_at : mg "_law_at" = some (.ref (He.ga K "_law_at"))
  f__law_at : ∃ fd, FunD K "_law_at" "_law_at" (defArgs (topS 10)) (defBody (topS 10)) (defScope (topS 10)) [] [] (He.ga K "_law_at") fd
  h_Heap_put : Meth K (He.ga K "Heap") "put" (He.ma K (He.ga K "Heap") "put")
  f_Heap_put : ∃ fd, FunD K "put" "Heap.put" (defArgs (inCls (topS 6) 3)) (defBody (inCls (topS 6) 3)) (defScope (inCls (topS 6) 3)) [] [] (He.ma K (He.ga K "Heap") "put") fd
  h_Heap_twin : Meth K (He.ga K "Heap") "twin" (He.ma K (He.ga K "Heap") "twin")
  f_Heap_twin : ∃ fd, FunD K "twin" "Heap.twin" (defArgs (inCls (topS 6) 11)) (defBody (inCls (topS 6) 11)) (defScope (inCls (topS 6) 11)) [] [] (He.ma K (He.ga K "Heap") "twin") fd
  h_Heap_cut : Meth K (He.ga K "Heap") "cut" (He.ma K (He.ga K "Heap") "cut")
  f_Heap_cut : ∃ fd, FunD K "cut" "Heap.cut" (defArgs (inCls (topS 6) 4)) (defBody (inCls (topS 6) 4)) (defScope (inCls (topS 6) 4)) [] [] (He.ma K (He.ga K "Heap") "cut") fd
  g_law : mg "law" = some (.ref (He.ga K "law"))
  f_law : ∃ fd, FunD K "law" "law" (defArgs (topS 14)) (defBody (topS 14)) (defScope (topS 14)) [] [] (He.ga K "law") fd
theorem ci_Heap {K : PySem.W.Frag} {w : World} : (gm K w).ci "Heap" = some ⟨He.ga K "Heap", .dict, ["links", "marked"], []⟩ := by
  show ciT K tab "Heap" = _
  unfold tab
  unfold ciT
  rw [if_pos rfl]
theorem ci_BadObject {K : PySem.W.Frag} {w : World} : (gm K w).ci "BadObject" = some ⟨He.ga K "BadObject", .exc, ["number"], []⟩ := by
  show ciT K tab "BadObject" = _
  unfold tab
  unfold ciT
  rw [if_neg (by decide)]
  unfold ciT
  rw [if_pos rfl]
theorem ci_Fault {K : PySem.W.Frag} {w : World} : (gm K w).ci "Fault" = some ⟨He.ga K "Fault", .exc, ["number"], []⟩ := by
  show ciT K tab "Fault" = _
  unfold tab
  unfold ciT
  rw [if_neg (by decide)]
  unfold ciT
  rw [if_neg (by decide)]
  unfold ciT
  rw [if_pos rfl]
section
variable {P : Program} {w : World} {K : PySem.W.Frag} {mg : Str → Option Value} {base : Heap}
theorem se_BadObject : ScS ["self", "number"] ["self", "number"] (defScope (inCls (topS 3) 0)) := ⟨rfl, rfl, rfl, by decide +kernel, rfl, by decide +kernel, by decide +kernel, rfl, by decide +kernel, by decide +kernel⟩
theorem okx_BadObject (T : TX P w K mg) {fd : FuncData} (F : FunS K "__init__" "BadObject.__init__" (defArgs (inCls (topS 3) 0)) (defBody (inCls (topS 3) 0)) (defScope (inCls (topS 3) 0)) (He.ma K (He.ga K "BadObject") "__init__") (ccOf K (He.ma K (He.ga K "BadObject") "__init__")) fd) : FnOk P w (gm K w).K mg base (L2.CX P w) 1 (He.ma K (He.ga K "BadObject") "__init__") fd ["self", "number"] (spX (He.ga K "BadObject") ["number"]) :=
  errx_fn (N := ["self", "number"]) T.eb_BadObject F se_BadObject (by decide) (by decide) fun cd A outer s H E hcd => psa_super (fd := fd) (self := "self") (hcd ▸ T.eb_BadObject.supK F T.sp ⟨_, rfl, rfl⟩) T.eb_BadObject.oex (show PSs _ _ (tStores K [("number", 1)]) from (pss_cons (ps_ost (pe_var rfl (Or.inl rfl)) (pe_var rfl (Or.inl rfl))) pss_nil)) T.n_super rfl rfl rfl rfl rfl (Or.inl rfl) (by decide) T.eb_BadObject.mro T.eb_BadObject.sup T.eb_BadObject.sub
theorem exr_BadObject (T : TX P w K mg) : ErrX P w (gm K w) mg base "BadObject" 1 1 :=
  let ⟨fd, F⟩ := T.fe_BadObject
  errX_of (g := gm K w) (self := "self") ci_BadObject T.ge_BadObject T.eb_BadObject F (okx_BadObject T F) rfl (fun _ _ _ _ _ _ us hl => match us, hl with
    | [_, _], _ => rfl)
theorem se_Fault : ScS ["self", "number"] ["self", "number"] (defScope (inCls (topS 4) 0)) := ⟨rfl, rfl, rfl, by decide +kernel, rfl, by decide +kernel, by decide +kernel, rfl, by decide +kernel, by decide +kernel⟩
theorem okx_Fault (T : TX P w K mg) {fd : FuncData} (F : FunS K "__init__" "Fault.__init__" (defArgs (inCls (topS 4) 0)) (defBody (inCls (topS 4) 0)) (defScope (inCls (topS 4) 0)) (He.ma K (He.ga K "Fault") "__init__") (ccOf K (He.ma K (He.ga K "Fault") "__init__")) fd) : FnOk P w (gm K w).K mg base (L2.CX P w) 1 (He.ma K (He.ga K "Fault") "__init__") fd ["self", "number"] (spX (He.ga K "Fault") ["number"]) :=
  errx_fn (N := ["self", "number"]) T.eb_Fault F se_Fault (by decide) (by decide) fun cd A outer s H E hcd => psa_super (fd := fd) (self := "self") (hcd ▸ T.eb_Fault.supK F T.sp ⟨_, rfl, rfl⟩) T.eb_Fault.oex (show PSs _ _ (tStores K [("number", 1)]) from (pss_cons (ps_ost (pe_var rfl (Or.inl rfl)) (pe_var rfl (Or.inl rfl))) pss_nil)) T.n_super rfl rfl rfl rfl rfl (Or.inl rfl) (by decide) T.eb_Fault.mro T.eb_Fault.sup T.eb_Fault.sub
theorem exr_Fault (T : TX P w K mg) : ErrX P w (gm K w) mg base "Fault" 1 1 :=
  let ⟨fd, F⟩ := T.fe_Fault
  errX_of (g := gm K w) (self := "self") ci_Fault T.ge_Fault T.eb_Fault F (okx_Fault T F) rfl (fun _ _ _ _ _ _ us hl => match us, hl with
    | [_, _], _ => rfl)
theorem sc_Heap___init__ : FnScope ["self"] ["self"] (defScope (inCls (topS 6) 0)) := ⟨rfl, rfl, rfl, by decide +kernel, rfl, by decide +kernel, by decide +kernel⟩
theorem ok_Heap___init__ (T : TX P w K mg) : ∃ fd, FunD K "__init__" "Heap.__init__" (defArgs (inCls (topS 6) 0)) (defBody (inCls (topS 6) 0)) (defScope (inCls (topS 6) 0)) [] [] (He.ma K (He.ga K "Heap") "__init__") fd ∧ FnOk P w K mg base (L2.CX P w) 1 (He.ma K (He.ga K "Heap") "__init__") fd ["self"] (spIO (gm K w) ⟨He.ga K "Heap", .dict, ["links", "marked"], []⟩ "Heap" (.f "links" (.l (.l .d)) (.f "marked" (.l .d) .d)) m_Heap) := by
  obtain ⟨fd, F⟩ := T.f_Heap___init__
  have co := T.co
  have S := sc_Heap___init__
  refine ⟨fd, F, initO_ok (g := gm K w) (c := "Heap") (t := (.f "links" (.l (.l .d)) (.f "marked" (.l .d) .d))) (o := fun ds => match ds with
    | [] => o_Heap___init__ 
    | _ => .no) ci_Heap rfl F S (fun ds hl => match ds, hl with
    | [], _ => rfl) (fun ds hl => ?_) (fun cdv A outer s H H0 F0 E a0 ds sd hl => ?_)⟩
  · unfold m_Heap
    split
    · exact absurd rfl hl
    · rfl
  · match ds, hl with
    | [], _ =>
      have hr := sd.hr
      have tk := sd.tk
      have hu := sd.hu
      have hu1 := sd.hu1
      have po := sd.po
      show PSs _ _ (tS _ _ _ _ (o_Heap___init__ ) _)
      delta o_Heap___init__
      exact (b_norm (Γ' := [some (.m ⟨(.o "Heap" .d), (.dict [(.none, .str "Heap")]), some a0⟩)]) (b_attrO (i := 0) (s0 := .d) (s1 := (.f "links" (.l (.l .d)) .d)) (X0 := (.dict [(.none, .str "Heap")])) co ci_Heap (nm_lst am_nil) (fun m3 => (b_norm (Γ' := [some (.m ⟨(.o "Heap" (.f "links" (.l (.l .d)) .d)), m3, some a0⟩)]) (b_attrO (i := 0) (s0 := (.f "links" (.l (.l .d)) .d)) (s1 := (.f "links" (.l (.l .d)) (.f "marked" (.l .d) .d))) (X0 := m3) co ci_Heap (nm_n (n_lst a_nil)) (fun m7 => b_nil) (by repeat (first | exact PutSh.new | exact PutSh.here | refine PutSh.there (by decide) ?_)) (List.mem_of_getElem? (i := 1) rfl) (by decide +kernel)))) (by repeat (first | exact PutSh.new | exact PutSh.here | refine PutSh.there (by decide) ?_)) (List.mem_of_getElem? (i := 0) rfl) (by decide +kernel)))
theorem mo_Heap (T : TX P w K mg) : MakeO P w (gm K w) mg base "Heap" 1 (.f "links" (.l (.l .d)) (.f "marked" (.l .d) .d)) m_Heap := by
  obtain ⟨fd, F, Fn⟩ := ok_Heap___init__ (P := P) (w := w) (base := base) T
  obtain ⟨g1, M⟩ := T.mk_Heap
  exact makeO0 ci_Heap g1 M Fn (F.bindsN fun _ _ _ _ _ _ us hl => match us, hl with
    | [_], _ => rfl) rfl
theorem sc__law_draws : FnScope ["_law_script", "_law_row", "_law_k", "_law_cell", "_law_below", "_law_j", "_law_mixed"] ["_law_script"] (defScope (topS 9)) := ⟨rfl, rfl, rfl, by decide +kernel, rfl, by decide +kernel, by decide +kernel⟩
theorem okf__law_draws (T : TX P w K mg) {fd : FuncData} (F : FunD K "_law_draws" "_law_draws" (defArgs (topS 9)) (defBody (topS 9)) (defScope (topS 9)) [] [] (He.ga K "_law_draws") fd) : FnOk P w (gm K w).K mg base (L2.CX P w) 1 (He.ga K "_law_draws") fd ["_law_script"] (spD (gm K w) m__law_draws) := by
  have co := T.co
  have S := sc__law_draws
  refine def_ok (g := gm K w) (o := fun ds => match ds with
    | [a__law_script] => o__law_draws a__law_script
    | _ => .no) F S (fun ds hl => match ds, hl with
    | [_], _ => rfl) (fun ds hl => ?_) (fun cdv A outer s H F0 E ds sd hl => ?_)
  · unfold m__law_draws
    split
    · exact absurd rfl hl
    · rfl
  · match ds, hl with
    | [a__law_script], _ =>
      have hr := sd.hr
      have tk := sd.tk
      have hu := sd.hu
      have hu1 := sd.hu1
      have po := sd.po
      show PSs _ _ (tS _ _ _ _ (o__law_draws a__law_script) _)
      delta o__law_draws
      exact (b_norm (Γ' := [some (.v a__law_script), none, none, none, none, none, none]) (b_setn (i := 1) (n_lst a_nil) (fun l__law_row_8 _ => (b_norm (Γ' := [some (.v a__law_script), some (.l l__law_row_8), none, none, none, none, none]) (b_for (i := 2) (t0 := l__law_row_8) (Γh := fun (t14 : List D) => [some (.v a__law_script), some (.l t14), none, none, none, none, none]) (src_range1 (e_min e_int (e_b1 c_len (toR (e_var (i := 0))) T.n_len) T.n_min) T.n_range) (fun _ v__law_k_15 t14 => (b_norm (Γ' := [some (.v a__law_script), some (.l t14), some (.v v__law_k_15), none, none, none, none]) (b_set (i := 3) (e_t1 c_int (toR (e_ix (e_var (i := 0)) (e_var (i := 2)))) T.n_int) (fun v__law_cell_19 _ => (b_norm (Γ' := [some (.v a__law_script), some (.l t14), some (.v v__law_k_15), some (.v v__law_cell_19), none, none, none]) (b_set (i := 4) e_int (fun v__law_below_20 _ => (b_norm (Γ' := [some (.v a__law_script), some (.l t14), some (.v v__law_k_15), some (.v v__law_cell_19), some (.v v__law_below_20), none, none]) (b_if (Γ1 := fun (t31 : D × D) => [some (.v a__law_script), some (.l t14), some (.v v__law_k_15), some (.v t31.1), some (.v t31.2), none, none]) (t_cmp o_lt (toR (e_var (i := 3))) (toR e_int)) (fun _ => (b_norm (Γ' := [some (.v a__law_script), some (.l t14), some (.v v__law_k_15), some (.v v__law_cell_19), some (.v v__law_below_20), none, none]) (b_set (i := 3) (e_op o_sub e_int (e_var (i := 3))) (fun v__law_cell_29 _ => (b_norm (Γ' := [some (.v a__law_script), some (.l t14), some (.v v__law_k_15), some (.v v__law_cell_29), some (.v v__law_below_20), none, none]) (b_set (i := 4) e_int (fun v__law_below_30 _ => b_nil) S.nd))) S.nd))) (fun _ => b_nil) (fun t31 => (b_norm (Γ' := [some (.v a__law_script), some (.l t14), some (.v v__law_k_15), some (.v t31.1), some (.v t31.2), none, none]) (b_if (Γ1 := fun (t158 : List D × D) => [some (.v a__law_script), some (.l t158.1), some (.v v__law_k_15), some (.v t158.2), some (.v t31.2), none, none]) (t_cmp o_ge (toR (e_var (i := 3))) (toR (e_op o_pow e_int e_int))) (fun _ => (b_norm (Γ' := [some (.v a__law_script), some (.l t14), some (.v v__law_k_15), some (.v t31.1), some (.v t31.2), none, none]) (b_for (i := 5) (t0 := (t14, t31.1)) (Γh := fun (t98 : List D × D) => [some (.v a__law_script), some (.l t98.1), some (.v v__law_k_15), some (.v t98.2), some (.v t31.2), none, none]) (src_range1 e_int T.n_range) (fun _ v__law_j_99 t98 => (b_norm (Γ' := [some (.v a__law_script), some (.l t98.1), some (.v v__law_k_15), some (.v t98.2), some (.v t31.2), some (.v v__law_j_99), none]) (b_if (Γ1 := fun (t116 : List D × D) => [some (.v a__law_script), some (.l t116.1), some (.v v__law_k_15), some (.v t116.2), some (.v t31.2), some (.v v__law_j_99), none]) (t_cmp o_gt (toR (e_var (i := 3))) (toR e_int)) (fun _ => (b_norm (Γ' := [some (.v a__law_script), some (.l t98.1), some (.v v__law_k_15), some (.v t98.2), some (.v t31.2), some (.v v__law_j_99), none]) (b_app (i := 1) (e_op o_mod (e_t1 c_int (toR (e_var (i := 3))) T.n_int) e_int) (fun e112 _ _ => (b_norm (Γ' := [some (.v a__law_script), some (.l (t98.1 ++ [e112])), some (.v v__law_k_15), some (.v t98.2), some (.v t31.2), some (.v v__law_j_99), none]) (b_set (i := 3) (e_op o_fdiv (e_var (i := 3)) e_int) (fun v__law_cell_115 _ => b_nil) S.nd)))))) (fun _ => b_nil) (fun t116 => b_nil)))) (fun t117 => b_nil) po S.nd))) (fun _ => (b_norm (Γ' := [some (.v a__law_script), some (.l t14), some (.v v__law_k_15), some (.v t31.1), some (.v t31.2), none, none]) (b_set (i := 6) (e_op o_mod (e_t1 c_int (toR (e_op o_add (e_op o_add (e_op o_mul (e_op o_add (e_var (i := 3)) e_int) e_int) (e_op o_mul (e_op o_mul (e_op o_add (e_var (i := 2)) e_int) (e_op o_add (e_var (i := 2)) e_int)) e_int)) (e_op o_mul (e_var (i := 4)) e_int))) T.n_int) e_int) (fun v__law_mixed_139 _ => (b_norm (Γ' := [some (.v a__law_script), some (.l t14), some (.v v__law_k_15), some (.v t31.1), some (.v t31.2), none, some (.v v__law_mixed_139)]) (b_set (i := 6) (e_op o_mod (e_t1 c_int (toR (e_op o_add (e_op o_mul (e_var (i := 6)) (e_var (i := 6))) (e_var (i := 3)))) T.n_int) e_int) (fun v__law_mixed_147 _ => (b_norm (Γ' := [some (.v a__law_script), some (.l t14), some (.v v__law_k_15), some (.v t31.1), some (.v t31.2), none, some (.v v__law_mixed_147)]) (b_app (i := 1) (e_op o_mod (e_op o_mod (e_t1 c_int (toR (e_op o_add (e_op o_mul (e_var (i := 6)) e_int) (e_var (i := 2)))) T.n_int) e_int) e_int) (fun e157 _ _ => b_nil)))) S.nd))) S.nd))) (fun t158 => b_nil))))))) S.nd))) S.nd))) (fun t159 => (b_norm (Γ' := [some (.v a__law_script), some (.l t159), none, none, none, none, none]) (b_frz (i := 1) (b_ret (e_var (i := 1)))))) po S.nd))) S.nd))
theorem ok__law_draws (T : TX P w K mg) : DefT P w (gm K w) mg base "_law_draws" 1 m__law_draws :=
  let ⟨fd, F⟩ := T.f__law_draws
  ⟨⟨_, fd, ["_law_script"], okf__law_draws T F, T.g__law_draws, F.kp, F.bindsN fun _ _ _ _ _ _ us hl => match us, hl with
    | [_], _ => rfl⟩⟩
theorem sc_Heap_check : FnScope ["self", "number"] ["self", "number"] (defScope (inCls (topS 6) 2)) := ⟨rfl, rfl, rfl, by decide +kernel, rfl, by decide +kernel, by decide +kernel⟩
theorem okf_Heap_check (T : TX P w K mg) {fd : FuncData} (F : FunD K "check" "Heap.check" (defArgs (inCls (topS 6) 2)) (defBody (inCls (topS 6) 2)) (defScope (inCls (topS 6) 2)) [] [] (He.ma K (He.ga K "Heap") "check") fd) : FnOk P w (gm K w).K mg base (L2.CX P w) 3 (He.ma K (He.ga K "Heap") "check") fd ["self", "number"] (spD (gm K w) m_Heap_check) := by
  have co := T.co
  have S := sc_Heap_check
  have EX_BadObject : ErrX P w (gm K w) mg base "BadObject" 1 1 := exr_BadObject T
  refine def_ok (g := gm K w) (o := fun ds => match ds with
    | [a_self, a_number] => o_Heap_check a_self a_number
    | _ => .no) F S (fun ds hl => match ds, hl with
    | [_, _], _ => rfl) (fun ds hl => ?_) (fun cdv A outer s H F0 E ds sd hl => ?_)
  · unfold m_Heap_check
    split
    · exact absurd rfl hl
    · rfl
  · match ds, hl with
    | [a_self, a_number], _ =>
      have hr := sd.hr
      have tk := sd.tk
      have hu := sd.hu
      have hu1 := sd.hu1
      have po := sd.po
      show PSs _ _ (tS _ _ _ _ (o_Heap_check a_self a_number) _)
      delta o_Heap_check
      exact (b_norm (Γ' := [some (.v a_self), some (.v a_number)]) (b_ifr (t_not (t_chain o_le o_lt (toR e_int) (toR (e_var (i := 1))) (toR (e_b1 c_len (toR (e_attr (e_var (i := 0)) co)) T.n_len)))) (fun _ => (b_norm (Γ' := [some (.v a_self), some (.v a_number)]) (b_raiseX EX_BadObject hr tk (a_cons (e_var (i := 1)) a_nil)))) (fun _ => b_nil)))
theorem ok_Heap_check (T : TX P w K mg) : MethR P w (gm K w) mg base "Heap" "check" 3 m_Heap_check :=
  let ⟨fd, F⟩ := T.f_Heap_check
  MethT.raw ⟨⟨_, _, fd, ["self", "number"], ci_Heap, T.h_Heap_check, okf_Heap_check T F, (F.bindsN fun _ _ _ _ _ _ us hl => match us, hl with
    | [_, _], _ => rfl), (fun _ => (by decide : ∀ f ∈ (["links", "marked"] : List Str), ¬ f = "check")), (fun z => nomatch z)⟩⟩
theorem sc_Heap_reach : FnScope ["self", "number", "found", "left", "part", "_", "other"] ["self", "number"] (defScope (inCls (topS 6) 6)) := ⟨rfl, rfl, rfl, by decide +kernel, rfl, by decide +kernel, by decide +kernel⟩
theorem okf_Heap_reach (T : TX P w K mg) {fd : FuncData} (F : FunD K "reach" "Heap.reach" (defArgs (inCls (topS 6) 6)) (defBody (inCls (topS 6) 6)) (defScope (inCls (topS 6) 6)) [] [] (He.ma K (He.ga K "Heap") "reach") fd) : FnOk P w (gm K w).K mg base (L2.CX P w) 4 (He.ma K (He.ga K "Heap") "reach") fd ["self", "number"] (spM (gm K w) [.d, .d] (.l .d) m_Heap_reach) := by
  have co := T.co
  have S := sc_Heap_reach
  have M_Heap_check : MethR P w (gm K w) mg base "Heap" "check" 3 m_Heap_check := ok_Heap_check T
  refine defM_ok (g := gm K w) (ms := [.d, .d]) (sr := (.l .d)) (o := fun ds => match ds with
    | [a_self, a_number] => o_Heap_reach a_self a_number
    | _ => .no) F S rfl (fun ds hf => ?_) (fun ds hf => ?_) (fun cdv A outer s H H0 F0 E vs ds sd hl hv hvl => ?_)
  · match ds, fitsM_len hf, hf with
    | [_, _], _, hf => exact if_pos (e := Res.no) hf
  · unfold m_Heap_reach
    split
    · exact if_neg hf
    · rfl
  · match vs, hvl, hv, ds, hl with
    | [v0, v1], _, hv, [a_self, a_number], _ =>
      have hr := sd.hr
      have tk := sd.tk
      have hu := sd.hu
      have hu1 := sd.hu1
      have po := sd.po
      show PSs _ _ (tS _ _ _ _ (o_Heap_reach a_self a_number) _)
      delta o_Heap_reach
      exact (b_norm (Γ' := [some (.v a_self), some (.v a_number), none, none, none, none, none]) (b_expr (e_methR M_Heap_check co hr tk (e_var (i := 0)) (a_cons (e_var (i := 1)) a_nil)) (fun _ => (b_norm (Γ' := [some (.v a_self), some (.v a_number), none, none, none, none, none]) (b_setM (i := 2) (nm_n (n_lc (i := 5) [("_", 5)] (src_val (e_attr (e_var (i := 0)) co)) (fun _ _ _ _ _ _ => p_nil) (fun _ _ _ _ _ _ => e_bl) S.nd)) (fun m_found_173 => (b_norm (Γ' := [some (.v a_self), some (.v a_number), some (.m ⟨(.l .d), m_found_173, none⟩), none, none, none, none]) (b_setP (i := 2) (o := ⟨(.l .d), m_found_173, none⟩) (nm_d e_bl) (p_m (i := 2) (o := ⟨(.l .d), m_found_173, none⟩)) (e_var (i := 1)) (fun m182 => (b_norm (Γ' := [some (.v a_self), some (.v a_number), some (.m ⟨(.l .d), m182, none⟩), none, none, none, none]) (b_setM (i := 3) (nm_n (n_lst (a_cons (e_var (i := 1)) a_nil))) (fun m_left_183 => (b_norm (Γ' := [some (.v a_self), some (.v a_number), some (.m ⟨(.l .d), m182, none⟩), some (.m ⟨(.l .d), m_left_183, none⟩), none, none, none]) (b_while (t0 := ((m182, m_left_183) : D × D)) (Γh := fun (t188 : D × D) => [some (.v a_self), some (.v a_number), some (.m ⟨(.l .d), t188.1, none⟩), some (.m ⟨(.l .d), t188.2, none⟩), none, none, none]) (fun _ t188 => (t_cmp o_gt (toR (e_b1 c_len (r_m (i := 3) (o := ⟨(.l .d), t188.2, none⟩)) T.n_len)) (toR e_int))) (fun _ t188 => (b_norm (Γ' := [some (.v a_self), some (.v a_number), some (.m ⟨(.l .d), t188.1, none⟩), some (.m ⟨(.l .d), t188.2, none⟩), none, none, none]) (b_forC1 (i := 4) (t0 := fun z199 => ((t188.1, z199) : D × D)) (Γh := fun (t200 : D × D) => [some (.v a_self), some (.v a_number), some (.m ⟨(.l .d), t200.1, none⟩), some (.m ⟨(.l .d), t200.2, none⟩), none, none, none]) (srcC_val (e_ixC (e_attr (e_var (i := 0)) co) (e_popP (i := 3) (o := ⟨(.l .d), t188.2, none⟩) (p_m (i := 3) (o := ⟨(.l .d), t188.2, none⟩))))) (fun _ v_part_201 t200 => (b_norm (Γ' := [some (.v a_self), some (.v a_number), some (.m ⟨(.l .d), t200.1, none⟩), some (.m ⟨(.l .d), t200.2, none⟩), some (.v v_part_201), none, none]) (b_if (Γ1 := fun (t219 : D × D) => [some (.v a_self), some (.v a_number), some (.m ⟨(.l .d), t219.1, none⟩), some (.m ⟨(.l .d), t219.2, none⟩), some (.v v_part_201), none, none]) (t_not (t_val (e_pix (p_m (i := 2) (o := ⟨(.l .d), t200.1, none⟩)) (e_var (i := 4))))) (fun _ => (b_norm (Γ' := [some (.v a_self), some (.v a_number), some (.m ⟨(.l .d), t200.1, none⟩), some (.m ⟨(.l .d), t200.2, none⟩), some (.v v_part_201), none, none]) (b_setP (i := 2) (o := ⟨(.l .d), t200.1, none⟩) (nm_d e_bl) (p_m (i := 2) (o := ⟨(.l .d), t200.1, none⟩)) (e_var (i := 4)) (fun m215 => (b_norm (Γ' := [some (.v a_self), some (.v a_number), some (.m ⟨(.l .d), m215, none⟩), some (.m ⟨(.l .d), t200.2, none⟩), some (.v v_part_201), none, none]) (b_appP (i := 3) (o := ⟨(.l .d), t200.2, none⟩) (p_m (i := 3) (o := ⟨(.l .d), t200.2, none⟩)) (nm_d (e_var (i := 4))) (fun m218 => b_nil))))))) (fun _ => b_nil) (fun t219 => b_nil)))) (fun z199 t220 => b_nil) po S.nd))) (fun t224 => (b_norm (Γ' := [some (.v a_self), some (.v a_number), some (.m ⟨(.l .d), t224.1, none⟩), some (.m ⟨(.l .d), t224.2, none⟩), none, none, none]) (b_retM (ms := [.d, .d]) (vs := [v0, v1]) (nm_n (n_lc (i := 6) [("other", 6)] (src_range1 (e_b1 c_len (r_m (i := 2) (o := ⟨(.l .d), t224.1, none⟩)) T.n_len) T.n_range) (fun _ _ _ _ _ _ => (p_one (t_val (e_pix (p_m (i := 2) (o := ⟨(.l .d), t224.1, none⟩)) (e_var (i := 6)))))) (fun _ _ _ _ _ _ => (e_var (i := 6))) S.nd))))) po))) S.nd)))))) S.nd)))))
theorem ok_Heap_reach (T : TX P w K mg) : MethM P w (gm K w) mg base "Heap" "reach" 4 [.d, .d] (.l .d) m_Heap_reach :=
  let ⟨fd, F⟩ := T.f_Heap_reach
  MethM.of ci_Heap T.h_Heap_reach (okf_Heap_reach T F) (F.bindsN fun _ _ _ _ _ _ us hl => match us, hl with
    | [_, _], _ => rfl) (fun _ => (by decide : ∀ f ∈ (["links", "marked"] : List Str), ¬ f = "reach")) (fun z => nomatch z)
theorem okd_Heap_reach (T : TX P w K mg) : MethR P w (gm K w) mg base "Heap" "reach" 4 md_Heap_reach := by
  obtain ⟨i, f, h1, h2, Fn, h3, h4⟩ := (ok_Heap_reach (P := P) (w := w) (base := base) T).ex
  have hn : ∀ ds, m_Heap_reach ds = .no ∨ ds.length = 2 := fun ds => by
    unfold m_Heap_reach
    split
    · exact .inr rfl
    · exact .inl rfl
  exact ⟨⟨i, f, h1, h2, FnR.imp (sp' := spD (gm K w) md_Heap_reach) Fn fun vs H Q E h => spD_ofM (fun ds p h => (hn ds).elim (fun e => by rw [h] at e; cases e) fun e => e) (by intro s hs; simp only [List.mem_cons, List.not_mem_nil, or_false, or_self] at hs; exact hs) h (fun ds c fs h => (hn ds).elim (fun e => by rw [h] at e; cases e) fun e => e), h3, h4⟩⟩
theorem sc_Heap_touch : FnScope ["self", "number", "other"] ["self", "number"] (defScope (inCls (topS 6) 8)) := ⟨rfl, rfl, rfl, by decide +kernel, rfl, by decide +kernel, by decide +kernel⟩
theorem okf_Heap_touch (T : TX P w K mg) {fd : FuncData} (F : FunD K "touch" "Heap.touch" (defArgs (inCls (topS 6) 8)) (defBody (inCls (topS 6) 8)) (defScope (inCls (topS 6) 8)) [] [] (He.ma K (He.ga K "Heap") "touch") fd) : FnOk P w (gm K w).K mg base (L2.CX P w) 5 (He.ma K (He.ga K "Heap") "touch") fd ["self", "number"] (spD (gm K w) m_Heap_touch) := by
  have co := T.co
  have S := sc_Heap_touch
  have EX_Fault : ErrX P w (gm K w) mg base "Fault" 1 1 := exr_Fault T
  have M_Heap_reach : MethR P w (gm K w) mg base "Heap" "reach" 4 md_Heap_reach := okd_Heap_reach T
  refine def_ok (g := gm K w) (o := fun ds => match ds with
    | [a_self, a_number] => o_Heap_touch a_self a_number
    | _ => .no) F S (fun ds hl => match ds, hl with
    | [_, _], _ => rfl) (fun ds hl => ?_) (fun cdv A outer s H F0 E ds sd hl => ?_)
  · unfold m_Heap_touch
    split
    · exact absurd rfl hl
    · rfl
  · match ds, hl with
    | [a_self, a_number], _ =>
      have hr := sd.hr
      have tk := sd.tk
      have hu := sd.hu
      have hu1 := sd.hu1
      have po := sd.po
      show PSs _ _ (tS _ _ _ _ (o_Heap_touch a_self a_number) _)
      delta o_Heap_touch
      exact (b_norm (Γ' := [some (.v a_self), some (.v a_number), none]) (b_for (i := 2) (t0 := ()) (Γh := fun (t239 : Unit) => [some (.v a_self), some (.v a_number), none]) (src_val (e_methR M_Heap_reach co hr tk (e_var (i := 0)) (a_cons (e_var (i := 1)) a_nil))) (fun _ v_other_240 t239 => (b_norm (Γ' := [some (.v a_self), some (.v a_number), some (.v v_other_240)]) (b_ifr (t_val (e_ix (e_attr (e_var (i := 0)) co) (e_var (i := 2)))) (fun _ => (b_norm (Γ' := [some (.v a_self), some (.v a_number), some (.v v_other_240)]) (b_raiseX EX_Fault hr tk (a_cons (e_var (i := 2)) a_nil)))) (fun _ => b_nil)))) (fun t248 => b_nil) po S.nd))
theorem ok_Heap_touch (T : TX P w K mg) : MethR P w (gm K w) mg base "Heap" "touch" 5 m_Heap_touch :=
  let ⟨fd, F⟩ := T.f_Heap_touch
  MethT.raw ⟨⟨_, _, fd, ["self", "number"], ci_Heap, T.h_Heap_touch, okf_Heap_touch T F, (F.bindsN fun _ _ _ _ _ _ us hl => match us, hl with
    | [_, _], _ => rfl), (fun _ => (by decide : ∀ f ∈ (["links", "marked"] : List Str), ¬ f = "touch")), (fun z => nomatch z)⟩⟩
theorem sc_Heap_hand : FnScope ["self", "number", "other"] ["self", "number"] (defScope (inCls (topS 6) 9)) := ⟨rfl, rfl, rfl, by decide +kernel, rfl, by decide +kernel, by decide +kernel⟩
theorem okf_Heap_hand (T : TX P w K mg) {fd : FuncData} (F : FunD K "hand" "Heap.hand" (defArgs (inCls (topS 6) 9)) (defBody (inCls (topS 6) 9)) (defScope (inCls (topS 6) 9)) [] [] (He.ma K (He.ga K "Heap") "hand") fd) : FnOk P w (gm K w).K mg base (L2.CX P w) 6 (He.ma K (He.ga K "Heap") "hand") fd ["self", "number"] (spM (gm K w) [(.o "Heap" (.f "links" (.l (.l .d)) (.f "marked" (.l .d) .d))), .d] .d m_Heap_hand) := by
  have co := T.co
  have S := sc_Heap_hand
  have MM_Heap_reach : MethM P w (gm K w) mg base "Heap" "reach" 4 [.d, .d] (.l .d) m_Heap_reach := ok_Heap_reach T
  have M_Heap_touch : MethR P w (gm K w) mg base "Heap" "touch" 5 m_Heap_touch := ok_Heap_touch T
  refine defM_ok (g := gm K w) (ms := [(.o "Heap" (.f "links" (.l (.l .d)) (.f "marked" (.l .d) .d))), .d]) (sr := .d) (o := fun ds => match ds with
    | [a_self, a_number] => o_Heap_hand a_self a_number
    | _ => .no) F S rfl (fun ds hf => ?_) (fun ds hf => ?_) (fun cdv A outer s H H0 F0 E vs ds sd hl hv hvl => ?_)
  · match ds, fitsM_len hf, hf with
    | [_, _], _, hf => exact if_pos (e := Res.no) hf
  · unfold m_Heap_hand
    split
    · exact if_neg hf
    · rfl
  · match vs, hvl, hv, ds, hl with
    | [v0, v1], _, hv, [a_self, a_number], _ =>
      obtain ⟨ad0, e0⟩ := hv 0 _ rfl (by first | exact .inl ⟨_, rfl⟩ | exact .inr ⟨_, _, rfl⟩)
      cases (show v0 = V.ref ad0 from Option.some.inj e0)
      have hr := sd.hr
      have tk := sd.tk
      have hu := sd.hu
      have hu1 := sd.hu1
      have po := sd.po
      show PSs _ _ (tS _ _ _ _ (o_Heap_hand a_self a_number) _)
      delta o_Heap_hand
      exact (b_norm (Γ' := [some (.m ⟨(.o "Heap" (.f "links" (.l (.l .d)) (.f "marked" (.l .d) .d))), a_self, some ad0⟩), some (.v a_number), none]) (b_expr (e_nm (nm_methL (i := 0) (o := ⟨(.o "Heap" (.f "links" (.l (.l .d)) (.f "marked" (.l .d) .d))), a_self, some ad0⟩) (cx := []) (MethM.ofR (ms := [.d, .d]) M_Heap_touch ) co hr tk (ao_d (e_var (i := 1)) ao_nil) (by repeat (first | exact UsOk.nil | apply UsOk.d | refine UsOk.m rfl rfl (by first | exact .inl ⟨_, rfl⟩ | exact .inr ⟨_, _, rfl⟩) (by decide) ?_)) (fun ds h => congrArg (· + 1) ((len_cons len_nil) ds h)))) (fun _ => (b_norm (Γ' := [some (.m ⟨(.o "Heap" (.f "links" (.l (.l .d)) (.f "marked" (.l .d) .d))), a_self, some ad0⟩), some (.v a_number), none]) (b_for (i := 2) (t0 := a_self) (Γh := fun (t256 : D) => [some (.m ⟨(.o "Heap" (.f "links" (.l (.l .d)) (.f "marked" (.l .d) .d))), t256, some ad0⟩), some (.v a_number), none]) (src_val (e_nmF (nm_methL (i := 0) (o := ⟨(.o "Heap" (.f "links" (.l (.l .d)) (.f "marked" (.l .d) .d))), a_self, some ad0⟩) (cx := []) MM_Heap_reach co hr tk (ao_d (e_var (i := 1)) ao_nil) (by repeat (first | exact UsOk.nil | apply UsOk.d | refine UsOk.m rfl rfl (by first | exact .inl ⟨_, rfl⟩ | exact .inr ⟨_, _, rfl⟩) (by decide) ?_)) (fun ds h => congrArg (· + 1) ((len_cons len_nil) ds h))))) (fun _ v_other_257 t256 => (b_norm (Γ' := [some (.m ⟨(.o "Heap" (.f "links" (.l (.l .d)) (.f "marked" (.l .d) .d))), t256, some ad0⟩), some (.v a_number), some (.v v_other_257)]) (b_setP (i := 0) (o := ⟨(.o "Heap" (.f "links" (.l (.l .d)) (.f "marked" (.l .d) .d))), t256, some ad0⟩) (nm_d e_bl) (p_g (g_fld (f := "marked") (g_m (i := 0) (o := ⟨(.o "Heap" (.f "links" (.l (.l .d)) (.f "marked" (.l .d) .d))), t256, some ad0⟩)) co)) (e_var (i := 2)) (fun m261 => b_nil)))) (fun t262 => b_nil) po S.nd)))))
theorem ok_Heap_hand (T : TX P w K mg) : MethM P w (gm K w) mg base "Heap" "hand" 6 [(.o "Heap" (.f "links" (.l (.l .d)) (.f "marked" (.l .d) .d))), .d] .d m_Heap_hand :=
  let ⟨fd, F⟩ := T.f_Heap_hand
  MethM.of ci_Heap T.h_Heap_hand (okf_Heap_hand T F) (F.bindsN fun _ _ _ _ _ _ us hl => match us, hl with
    | [_, _], _ => rfl) (fun _ => (by decide : ∀ f ∈ (["links", "marked"] : List Str), ¬ f = "hand")) (fun z => nomatch z)
theorem sc_Heap_make : FnScope ["self"] ["self"] (defScope (inCls (topS 6) 1)) := ⟨rfl, rfl, rfl, by decide +kernel, rfl, by decide +kernel, by decide +kernel⟩
theorem okf_Heap_make (T : TX P w K mg) {fd : FuncData} (F : FunD K "make" "Heap.make" (defArgs (inCls (topS 6) 1)) (defBody (inCls (topS 6) 1)) (defScope (inCls (topS 6) 1)) [] [] (He.ma K (He.ga K "Heap") "make") fd) : FnOk P w (gm K w).K mg base (L2.CX P w) 1 (He.ma K (He.ga K "Heap") "make") fd ["self"] (spM (gm K w) [(.o "Heap" (.f "links" (.l (.l .d)) (.f "marked" (.l .d) .d)))] .d m_Heap_make) := by
  have co := T.co
  have S := sc_Heap_make
  refine defM_ok (g := gm K w) (ms := [(.o "Heap" (.f "links" (.l (.l .d)) (.f "marked" (.l .d) .d)))]) (sr := .d) (o := fun ds => match ds with
    | [a_self] => o_Heap_make a_self
    | _ => .no) F S rfl (fun ds hf => ?_) (fun ds hf => ?_) (fun cdv A outer s H H0 F0 E vs ds sd hl hv hvl => ?_)
  · match ds, fitsM_len hf, hf with
    | [_], _, hf => exact if_pos (e := Res.no) hf
  · unfold m_Heap_make
    split
    · exact if_neg hf
    · rfl
  · match vs, hvl, hv, ds, hl with
    | [v0], _, hv, [a_self], _ =>
      obtain ⟨ad0, e0⟩ := hv 0 _ rfl (by first | exact .inl ⟨_, rfl⟩ | exact .inr ⟨_, _, rfl⟩)
      cases (show v0 = V.ref ad0 from Option.some.inj e0)
      have hr := sd.hr
      have tk := sd.tk
      have hu := sd.hu
      have hu1 := sd.hu1
      have po := sd.po
      show PSs _ _ (tS _ _ _ _ (o_Heap_make a_self) _)
      delta o_Heap_make
      exact (b_norm (Γ' := [some (.m ⟨(.o "Heap" (.f "links" (.l (.l .d)) (.f "marked" (.l .d) .d))), a_self, some ad0⟩)]) (b_appP (i := 0) (o := ⟨(.o "Heap" (.f "links" (.l (.l .d)) (.f "marked" (.l .d) .d))), a_self, some ad0⟩) (p_g (g_fld (f := "links") (g_m (i := 0) (o := ⟨(.o "Heap" (.f "links" (.l (.l .d)) (.f "marked" (.l .d) .d))), a_self, some ad0⟩)) co)) (nm_n (n_lst a_nil)) (fun m267 => (b_norm (Γ' := [some (.m ⟨(.o "Heap" (.f "links" (.l (.l .d)) (.f "marked" (.l .d) .d))), m267, some ad0⟩)]) (b_appP (i := 0) (o := ⟨(.o "Heap" (.f "links" (.l (.l .d)) (.f "marked" (.l .d) .d))), m267, some ad0⟩) (p_g (g_fld (f := "marked") (g_m (i := 0) (o := ⟨(.o "Heap" (.f "links" (.l (.l .d)) (.f "marked" (.l .d) .d))), m267, some ad0⟩)) co)) (nm_d e_bl) (fun m270 => (b_norm (Γ' := [some (.m ⟨(.o "Heap" (.f "links" (.l (.l .d)) (.f "marked" (.l .d) .d))), m270, some ad0⟩)]) (b_retM (ms := [(.o "Heap" (.f "links" (.l (.l .d)) (.f "marked" (.l .d) .d)))]) (vs := [.ref ad0]) (nm_d (e_op o_sub (e_b1 c_len (r_fld (r_m (i := 0) (o := ⟨(.o "Heap" (.f "links" (.l (.l .d)) (.f "marked" (.l .d) .d))), m270, some ad0⟩)) co) T.n_len) e_int))))))))))
theorem ok_Heap_make (T : TX P w K mg) : MethM P w (gm K w) mg base "Heap" "make" 1 [(.o "Heap" (.f "links" (.l (.l .d)) (.f "marked" (.l .d) .d)))] .d m_Heap_make :=
  let ⟨fd, F⟩ := T.f_Heap_make
  MethM.of ci_Heap T.h_Heap_make (okf_Heap_make T F) (F.bindsN fun _ _ _ _ _ _ us hl => match us, hl with
    | [_], _ => rfl) (fun _ => (by decide : ∀ f ∈ (["links", "marked"] : List Str), ¬ f = "make")) (fun z => nomatch z)
theorem sc__law_grown : FnScope ["_law_holds", "_law_grown_here", "_law_one", "_law_k"] ["_law_holds"] (defScope (topS 13)) := ⟨rfl, rfl, rfl, by decide +kernel, rfl, by decide +kernel, by decide +kernel⟩
theorem okf__law_grown (T : TX P w K mg) {fd : FuncData} (F : FunD K "_law_grown" "_law_grown" (defArgs (topS 13)) (defBody (topS 13)) (defScope (topS 13)) [] [] (He.ga K "_law_grown") fd) : FnOk P w (gm K w).K mg base (L2.CX P w) 1 (He.ga K "_law_grown") fd ["_law_holds"] (spM (gm K w) [.d] (.l (.l .d)) m__law_grown) := by
  have co := T.co
  have S := sc__law_grown
  refine defM_ok (g := gm K w) (ms := [.d]) (sr := (.l (.l .d))) (o := fun ds => match ds with
    | [a__law_holds] => o__law_grown a__law_holds
    | _ => .no) F S rfl (fun ds hf => ?_) (fun ds hf => ?_) (fun cdv A outer s H H0 F0 E vs ds sd hl hv hvl => ?_)
  · match ds, fitsM_len hf, hf with
    | [_], _, hf => exact if_pos (e := Res.no) hf
  · unfold m__law_grown
    split
    · exact if_neg hf
    · rfl
  · match vs, hvl, hv, ds, hl with
    | [v0], _, hv, [a__law_holds], _ =>
      have hr := sd.hr
      have tk := sd.tk
      have hu := sd.hu
      have hu1 := sd.hu1
      have po := sd.po
      show PSs _ _ (tS _ _ _ _ (o__law_grown a__law_holds) _)
      delta o__law_grown
      exact (b_norm (Γ' := [some (.v a__law_holds), none, none, none]) (b_setMLc (i := 2) (i2 := 1) [("_law_one", 2)] (src_val (e_var (i := 0))) (fun _ _ _ _ _ _ => p_nil) (fun _ _ _ _ _ _ => (nm_n (n_addL (e_var (i := 2)) (ofN (n_lst (a_cons e_bl a_nil)))))) (fun m__law_grown_here_276 => (b_norm (Γ' := [some (.v a__law_holds), some (.m ⟨(.l (.l .d)), m__law_grown_here_276, none⟩), none, none]) (b_appP (i := 1) (o := ⟨(.l (.l .d)), m__law_grown_here_276, none⟩) (p_m (i := 1) (o := ⟨(.l (.l .d)), m__law_grown_here_276, none⟩)) (nm_n (n_lc (i := 3) [("_law_k", 3)] (src_range1 (e_op o_add (e_b1 c_len (toR (e_var (i := 0))) T.n_len) e_int) T.n_range) (fun _ _ _ _ _ _ => p_nil) (fun _ _ _ _ _ _ => e_bl) S.nd)) (fun m295 => (b_norm (Γ' := [some (.v a__law_holds), some (.m ⟨(.l (.l .d)), m295, none⟩), none, none]) (b_retMV (i := 1) (o := ⟨(.l (.l .d)), m295, none⟩) (ms := [.d]) (vs := [v0]))))))) S.nd))
theorem ok__law_grown (T : TX P w K mg) : DefM P w (gm K w) mg base "_law_grown" 1 [.d] (.l (.l .d)) m__law_grown :=
  let ⟨fd, F⟩ := T.f__law_grown
  DefM.of T.g__law_grown F.kp (okf__law_grown T F) (F.bindsN fun _ _ _ _ _ _ us hl => match us, hl with
    | [_], _ => rfl)
theorem sc__law_numbers : FnScope ["_law_holds", "_law_many", "_law_least", "_law_turn", "_law_j", "_law_k", "_law_low", "_law_seen", "_law_x"] ["_law_holds"] (defScope (topS 11)) := ⟨rfl, rfl, rfl, by decide +kernel, rfl, by decide +kernel, by decide +kernel⟩
theorem okf__law_numbers (T : TX P w K mg) {fd : FuncData} (F : FunD K "_law_numbers" "_law_numbers" (defArgs (topS 11)) (defBody (topS 11)) (defScope (topS 11)) [] [] (He.ga K "_law_numbers") fd) : FnOk P w (gm K w).K mg base (L2.CX P w) 1 (He.ga K "_law_numbers") fd ["_law_holds"] (spM (gm K w) [.d] (.l .d) m__law_numbers) := by
  have co := T.co
  have S := sc__law_numbers
  refine defM_ok (g := gm K w) (ms := [.d]) (sr := (.l .d)) (o := fun ds => match ds with
    | [a__law_holds] => o__law_numbers a__law_holds
    | _ => .no) F S rfl (fun ds hf => ?_) (fun ds hf => ?_) (fun cdv A outer s H H0 F0 E vs ds sd hl hv hvl => ?_)
  · match ds, fitsM_len hf, hf with
    | [_], _, hf => exact if_pos (e := Res.no) hf
  · unfold m__law_numbers
    split
    · exact if_neg hf
    · rfl
  · match vs, hvl, hv, ds, hl with
    | [v0], _, hv, [a__law_holds], _ =>
      have hr := sd.hr
      have tk := sd.tk
      have hu := sd.hu
      have hu1 := sd.hu1
      have po := sd.po
      show PSs _ _ (tS _ _ _ _ (o__law_numbers a__law_holds) _)
      delta o__law_numbers
      exact (b_norm (Γ' := [some (.v a__law_holds), none, none, none, none, none, none, none, none]) (b_set (i := 1) (e_b1 c_len (toR (e_var (i := 0))) T.n_len) (fun v__law_many_298 _ => (b_norm (Γ' := [some (.v a__law_holds), some (.v v__law_many_298), none, none, none, none, none, none, none]) (b_setMLc (i := 5) (i2 := 2) [("_law_k", 5)] (src_range1 (e_var (i := 1)) T.n_range) (fun _ _ _ _ _ _ => p_nil) (fun _ _ _ _ _ _ => (nm_d (e_var (i := 5)))) (fun m__law_least_299 => (b_norm (Γ' := [some (.v a__law_holds), some (.v v__law_many_298), some (.m ⟨(.l .d), m__law_least_299, none⟩), none, none, none, none, none, none]) (b_for (i := 3) (t0 := m__law_least_299) (Γh := fun (t303 : D) => [some (.v a__law_holds), some (.v v__law_many_298), some (.m ⟨(.l .d), t303, none⟩), none, none, none, none, none, none]) (src_range1 (e_var (i := 1)) T.n_range) (fun _ v__law_turn_304 t303 => (b_norm (Γ' := [some (.v a__law_holds), some (.v v__law_many_298), some (.m ⟨(.l .d), t303, none⟩), some (.v v__law_turn_304), none, none, none, none, none]) (b_for (i := 4) (t0 := t303) (Γh := fun (t306 : D) => [some (.v a__law_holds), some (.v v__law_many_298), some (.m ⟨(.l .d), t306, none⟩), some (.v v__law_turn_304), none, none, none, none, none]) (src_range1 (e_var (i := 1)) T.n_range) (fun _ v__law_j_307 t306 => (b_norm (Γ' := [some (.v a__law_holds), some (.v v__law_many_298), some (.m ⟨(.l .d), t306, none⟩), some (.v v__law_turn_304), some (.v v__law_j_307), none, none, none, none]) (b_for (i := 5) (t0 := t306) (Γh := fun (t309 : D) => [some (.v a__law_holds), some (.v v__law_many_298), some (.m ⟨(.l .d), t309, none⟩), some (.v v__law_turn_304), some (.v v__law_j_307), none, none, none, none]) (src_range1 (e_var (i := 1)) T.n_range) (fun _ v__law_k_310 t309 => (b_norm (Γ' := [some (.v a__law_holds), some (.v v__law_many_298), some (.m ⟨(.l .d), t309, none⟩), some (.v v__law_turn_304), some (.v v__law_j_307), some (.v v__law_k_310), none, none, none]) (b_if (Γ1 := fun (t350 : D) => [some (.v a__law_holds), some (.v v__law_many_298), some (.m ⟨(.l .d), t350, none⟩), some (.v v__law_turn_304), some (.v v__law_j_307), some (.v v__law_k_310), none, none, none]) (t_val (e_ix (e_ix (e_var (i := 0)) (e_var (i := 4))) (e_var (i := 5)))) (fun _ => (b_norm (Γ' := [some (.v a__law_holds), some (.v v__law_many_298), some (.m ⟨(.l .d), t309, none⟩), some (.v v__law_turn_304), some (.v v__law_j_307), some (.v v__law_k_310), none, none, none]) (b_set (i := 6) (e_min (e_t1 c_int (toR (e_pix (p_m (i := 2) (o := ⟨(.l .d), t309, none⟩)) (e_var (i := 4)))) T.n_int) (e_t1 c_int (toR (e_pix (p_m (i := 2) (o := ⟨(.l .d), t309, none⟩)) (e_var (i := 5)))) T.n_int) T.n_min) (fun v__law_low_341 _ => (b_norm (Γ' := [some (.v a__law_holds), some (.v v__law_many_298), some (.m ⟨(.l .d), t309, none⟩), some (.v v__law_turn_304), some (.v v__law_j_307), some (.v v__law_k_310), some (.v v__law_low_341), none, none]) (b_setP (i := 2) (o := ⟨(.l .d), t309, none⟩) (nm_d (e_var (i := 6))) (p_m (i := 2) (o := ⟨(.l .d), t309, none⟩)) (e_var (i := 4)) (fun m345 => (b_norm (Γ' := [some (.v a__law_holds), some (.v v__law_many_298), some (.m ⟨(.l .d), m345, none⟩), some (.v v__law_turn_304), some (.v v__law_j_307), some (.v v__law_k_310), some (.v v__law_low_341), none, none]) (b_setP (i := 2) (o := ⟨(.l .d), m345, none⟩) (nm_d (e_var (i := 6))) (p_m (i := 2) (o := ⟨(.l .d), m345, none⟩)) (e_var (i := 5)) (fun m349 => b_nil))))))) S.nd))) (fun _ => b_nil) (fun t350 => b_nil)))) (fun t351 => b_nil) po S.nd))) (fun t352 => b_nil) po S.nd))) (fun t353 => (b_norm (Γ' := [some (.v a__law_holds), some (.v v__law_many_298), some (.m ⟨(.l .d), t353, none⟩), none, none, none, none, none, none]) (b_setn (i := 7) (n_lst a_nil) (fun l__law_seen_354 _ => (b_norm (Γ' := [some (.v a__law_holds), some (.v v__law_many_298), some (.m ⟨(.l .d), t353, none⟩), none, none, none, none, some (.l l__law_seen_354), none]) (b_frzM (i := 2) (o := ⟨(.l .d), t353, none⟩) (b_for (i := 8) (t0 := l__law_seen_354) (Γh := fun (t357 : List D) => [some (.v a__law_holds), some (.v v__law_many_298), some (.v t353), none, none, none, none, some (.l t357), none]) (src_val (e_var (i := 2))) (fun _ v__law_x_358 t357 => (b_norm (Γ' := [some (.v a__law_holds), some (.v v__law_many_298), some (.v t353), none, none, none, none, some (.l t357), some (.v v__law_x_358)]) (b_if (Γ1 := fun (t363 : List D) => [some (.v a__law_holds), some (.v v__law_many_298), some (.v t353), none, none, none, none, some (.l t363), some (.v v__law_x_358)]) (t_cmp (o_nin hu) (toR (e_var (i := 8))) (r_own (i := 7))) (fun _ => (b_norm (Γ' := [some (.v a__law_holds), some (.v v__law_many_298), some (.v t353), none, none, none, none, some (.l t357), some (.v v__law_x_358)]) (b_app (i := 7) (e_var (i := 8)) (fun e362 _ _ => b_nil)))) (fun _ => b_nil) (fun t363 => b_nil)))) (fun t364 => (b_norm (Γ' := [some (.v a__law_holds), some (.v v__law_many_298), some (.v t353), none, none, none, none, some (.l t364), none]) (b_retM (ms := [.d]) (vs := [v0]) (nm_n (n_lc (i := 8) [("_law_x", 8)] (src_val (e_var (i := 2))) (fun _ _ _ _ _ _ => p_nil) (fun _ _ _ _ _ _ => (e_lindex hu1 (r_own (i := 7)) (toR (e_var (i := 8))))) S.nd))))) po S.nd)))) S.nd))) po S.nd))) S.nd))) S.nd))
theorem okd__law_numbers (T : TX P w K mg) : DefT P w (gm K w) mg base "_law_numbers" 1 md__law_numbers := by
  obtain ⟨fd, F⟩ := T.f__law_numbers
  refine ⟨⟨_, fd, ["_law_holds"], ?_, T.g__law_numbers, F.kp, F.bindsN fun _ _ _ _ _ _ us hl => match us, hl with
    | [_], _ => rfl⟩⟩
  have hn : ∀ ds, m__law_numbers ds = .no ∨ ds.length = 1 := fun ds => by
    unfold m__law_numbers
    split
    · exact .inr rfl
    · exact .inl rfl
  exact FnOk.imp (okf__law_numbers T F) fun vs H Q E h => spD_ofM (fun ds p h => (hn ds).elim (fun e => by rw [h] at e; cases e) fun e => e) (by intro s hs; simp only [List.mem_cons, List.not_mem_nil, or_false, or_self] at hs; exact hs) h (fun ds c fs h => (hn ds).elim (fun e => by rw [h] at e; cases e) fun e => e)
theorem sc_spread : FnScope ["near", "numbers", "first", "number", "left", "other"] ["near", "numbers", "first", "number"] (defScope (topS 7)) := ⟨rfl, rfl, rfl, by decide +kernel, rfl, by decide +kernel, by decide +kernel⟩
theorem okf_spread (T : TX P w K mg) {fd : FuncData} (F : FunD K "spread" "spread" (defArgs (topS 7)) (defBody (topS 7)) (defScope (topS 7)) [] [] (He.ga K "spread") fd) : FnOk P w (gm K w).K mg base (L2.CX P w) 1 (He.ga K "spread") fd ["near", "numbers", "first", "number"] (spM (gm K w) [.d, (.l .d), .d, .d] .d m_spread) := by
  have co := T.co
  have S := sc_spread
  refine defM_ok (g := gm K w) (ms := [.d, (.l .d), .d, .d]) (sr := .d) (o := fun ds => match ds with
    | [a_near, a_numbers, a_first, a_number] => o_spread a_near a_numbers a_first a_number
    | _ => .no) F S rfl (fun ds hf => ?_) (fun ds hf => ?_) (fun cdv A outer s H H0 F0 E vs ds sd hl hv hvl => ?_)
  · match ds, fitsM_len hf, hf with
    | [_, _, _, _], _, hf => exact if_pos (e := Res.no) hf
  · unfold m_spread
    split
    · exact if_neg hf
    · rfl
  · match vs, hvl, hv, ds, hl with
    | [v0, v1, v2, v3], _, hv, [a_near, a_numbers, a_first, a_number], _ =>
      obtain ⟨ad1, e1⟩ := hv 1 _ rfl (by first | exact .inl ⟨_, rfl⟩ | exact .inr ⟨_, _, rfl⟩)
      cases (show v1 = V.ref ad1 from Option.some.inj e1)
      have hr := sd.hr
      have tk := sd.tk
      have hu := sd.hu
      have hu1 := sd.hu1
      have po := sd.po
      show PSs _ _ (tS _ _ _ _ (o_spread a_near a_numbers a_first a_number) _)
      delta o_spread
      exact (b_norm (Γ' := [some (.v a_near), some (.m ⟨(.l .d), a_numbers, some ad1⟩), some (.v a_first), some (.v a_number), none, none]) (b_setP (i := 1) (o := ⟨(.l .d), a_numbers, some ad1⟩) (nm_d (e_var (i := 3))) (p_m (i := 1) (o := ⟨(.l .d), a_numbers, some ad1⟩)) (e_var (i := 2)) (fun m376 => (b_norm (Γ' := [some (.v a_near), some (.m ⟨(.l .d), m376, some ad1⟩), some (.v a_first), some (.v a_number), none, none]) (b_setM (i := 4) (nm_n (n_lst (a_cons (e_var (i := 2)) a_nil))) (fun m_left_377 => (b_norm (Γ' := [some (.v a_near), some (.m ⟨(.l .d), m376, some ad1⟩), some (.v a_first), some (.v a_number), some (.m ⟨(.l .d), m_left_377, none⟩), none]) (b_while (t0 := ((m376, m_left_377) : D × D)) (Γh := fun (t382 : D × D) => [some (.v a_near), some (.m ⟨(.l .d), t382.1, some ad1⟩), some (.v a_first), some (.v a_number), some (.m ⟨(.l .d), t382.2, none⟩), none]) (fun _ t382 => (t_cmp o_gt (toR (e_b1 c_len (r_m (i := 4) (o := ⟨(.l .d), t382.2, none⟩)) T.n_len)) (toR e_int))) (fun _ t382 => (b_norm (Γ' := [some (.v a_near), some (.m ⟨(.l .d), t382.1, some ad1⟩), some (.v a_first), some (.v a_number), some (.m ⟨(.l .d), t382.2, none⟩), none]) (b_forC1 (i := 5) (t0 := fun z392 => ((t382.1, z392) : D × D)) (Γh := fun (t393 : D × D) => [some (.v a_near), some (.m ⟨(.l .d), t393.1, some ad1⟩), some (.v a_first), some (.v a_number), some (.m ⟨(.l .d), t393.2, none⟩), none]) (srcC_val (e_ixC (e_var (i := 0)) (e_popP (i := 4) (o := ⟨(.l .d), t382.2, none⟩) (p_m (i := 4) (o := ⟨(.l .d), t382.2, none⟩))))) (fun _ v_other_394 t393 => (b_norm (Γ' := [some (.v a_near), some (.m ⟨(.l .d), t393.1, some ad1⟩), some (.v a_first), some (.v a_number), some (.m ⟨(.l .d), t393.2, none⟩), some (.v v_other_394)]) (b_if (Γ1 := fun (t413 : D × D) => [some (.v a_near), some (.m ⟨(.l .d), t413.1, some ad1⟩), some (.v a_first), some (.v a_number), some (.m ⟨(.l .d), t413.2, none⟩), some (.v v_other_394)]) (t_cmp o_lt (toR (e_pix (p_m (i := 1) (o := ⟨(.l .d), t393.1, some ad1⟩)) (e_var (i := 5)))) (toR e_int)) (fun _ => (b_norm (Γ' := [some (.v a_near), some (.m ⟨(.l .d), t393.1, some ad1⟩), some (.v a_first), some (.v a_number), some (.m ⟨(.l .d), t393.2, none⟩), some (.v v_other_394)]) (b_setP (i := 1) (o := ⟨(.l .d), t393.1, some ad1⟩) (nm_d (e_var (i := 3))) (p_m (i := 1) (o := ⟨(.l .d), t393.1, some ad1⟩)) (e_var (i := 5)) (fun m409 => (b_norm (Γ' := [some (.v a_near), some (.m ⟨(.l .d), m409, some ad1⟩), some (.v a_first), some (.v a_number), some (.m ⟨(.l .d), t393.2, none⟩), some (.v v_other_394)]) (b_appP (i := 4) (o := ⟨(.l .d), t393.2, none⟩) (p_m (i := 4) (o := ⟨(.l .d), t393.2, none⟩)) (nm_d (e_var (i := 5))) (fun m412 => b_nil))))))) (fun _ => b_nil) (fun t413 => b_nil)))) (fun z392 t414 => b_nil) po S.nd))) (fun t418 => b_nil) po))) S.nd)))))
theorem ok_spread (T : TX P w K mg) : DefM P w (gm K w) mg base "spread" 1 [.d, (.l .d), .d, .d] .d m_spread :=
  let ⟨fd, F⟩ := T.f_spread
  DefM.of T.g_spread F.kp (okf_spread T F) (F.bindsN fun _ _ _ _ _ _ us hl => match us, hl with
    | [_, _, _, _], _ => rfl)
theorem sc_Heap_islands : FnScope ["self", "near", "holder", "part", "numbers", "count", "first", "row", "_"] ["self"] (defScope (inCls (topS 6) 10)) := ⟨rfl, rfl, rfl, by decide +kernel, rfl, by decide +kernel, by decide +kernel⟩
theorem okf_Heap_islands (T : TX P w K mg) {fd : FuncData} (F : FunD K "islands" "Heap.islands" (defArgs (inCls (topS 6) 10)) (defBody (inCls (topS 6) 10)) (defScope (inCls (topS 6) 10)) [] [] (He.ma K (He.ga K "Heap") "islands") fd) : FnOk P w (gm K w).K mg base (L2.CX P w) 2 (He.ma K (He.ga K "Heap") "islands") fd ["self"] (spM (gm K w) [.d] (.l .d) m_Heap_islands) := by
  have co := T.co
  have S := sc_Heap_islands
  have DM_spread : DefM P w (gm K w) mg base "spread" 1 [.d, (.l .d), .d, .d] .d m_spread := ok_spread T
  refine defM_ok (g := gm K w) (ms := [.d]) (sr := (.l .d)) (o := fun ds => match ds with
    | [a_self] => o_Heap_islands a_self
    | _ => .no) F S rfl (fun ds hf => ?_) (fun ds hf => ?_) (fun cdv A outer s H H0 F0 E vs ds sd hl hv hvl => ?_)
  · match ds, fitsM_len hf, hf with
    | [_], _, hf => exact if_pos (e := Res.no) hf
  · unfold m_Heap_islands
    split
    · exact if_neg hf
    · rfl
  · match vs, hvl, hv, ds, hl with
    | [v0], _, hv, [a_self], _ =>
      have hr := sd.hr
      have tk := sd.tk
      have hu := sd.hu
      have hu1 := sd.hu1
      have po := sd.po
      show PSs _ _ (tS _ _ _ _ (o_Heap_islands a_self) _)
      delta o_Heap_islands
      exact (b_norm (Γ' := [some (.v a_self), none, none, none, none, none, none, none, none]) (b_setMLc (i := 7) (i2 := 1) [("row", 7)] (src_val (e_attr (e_var (i := 0)) co)) (fun _ _ _ _ _ _ => p_nil) (fun _ _ _ _ _ _ => (nm_n (n_list (e_var (i := 7)) T.n_list))) (fun m_near_419 => (b_norm (Γ' := [some (.v a_self), some (.m ⟨(.l (.l .d)), m_near_419, none⟩), none, none, none, none, none, none, none]) (b_for (i := 2) (t0 := m_near_419) (Γh := fun (t428 : D) => [some (.v a_self), some (.m ⟨(.l (.l .d)), t428, none⟩), none, none, none, none, none, none, none]) (src_range1 (e_b1 c_len (toR (e_attr (e_var (i := 0)) co)) T.n_len) T.n_range) (fun _ v_holder_429 t428 => (b_norm (Γ' := [some (.v a_self), some (.m ⟨(.l (.l .d)), t428, none⟩), some (.v v_holder_429), none, none, none, none, none, none]) (b_for (i := 3) (t0 := t428) (Γh := fun (t434 : D) => [some (.v a_self), some (.m ⟨(.l (.l .d)), t434, none⟩), some (.v v_holder_429), none, none, none, none, none, none]) (src_val (e_ix (e_attr (e_var (i := 0)) co) (e_var (i := 2)))) (fun _ v_part_435 t434 => (b_norm (Γ' := [some (.v a_self), some (.m ⟨(.l (.l .d)), t434, none⟩), some (.v v_holder_429), some (.v v_part_435), none, none, none, none, none]) (b_appP (i := 1) (o := ⟨(.l (.l .d)), t434, none⟩) (p_ix (p_m (i := 1) (o := ⟨(.l (.l .d)), t434, none⟩)) (e_var (i := 3))) (nm_d (e_var (i := 2))) (fun m440 => b_nil)))) (fun t441 => b_nil) po S.nd))) (fun t442 => (b_norm (Γ' := [some (.v a_self), some (.m ⟨(.l (.l .d)), t442, none⟩), none, none, none, none, none, none, none]) (b_frzM (i := 1) (o := ⟨(.l (.l .d)), t442, none⟩) (b_setMLc (i := 8) (i2 := 4) [("_", 8)] (src_val (e_var (i := 1))) (fun _ _ _ _ _ _ => p_nil) (fun _ _ _ _ _ _ => (nm_d (e_neg e_int))) (fun m_numbers_443 => (b_norm (Γ' := [some (.v a_self), some (.v t442), none, none, some (.m ⟨(.l .d), m_numbers_443, none⟩), none, none, none, none]) (b_set (i := 5) e_int (fun v_count_447 _ => (b_norm (Γ' := [some (.v a_self), some (.v t442), none, none, some (.m ⟨(.l .d), m_numbers_443, none⟩), some (.v v_count_447), none, none, none]) (b_for (i := 6) (t0 := (m_numbers_443, v_count_447)) (Γh := fun (t450 : D × D) => [some (.v a_self), some (.v t442), none, none, some (.m ⟨(.l .d), t450.1, none⟩), some (.v t450.2), none, none, none]) (src_range1 (e_b1 c_len (toR (e_var (i := 1))) T.n_len) T.n_range) (fun _ v_first_451 t450 => (b_norm (Γ' := [some (.v a_self), some (.v t442), none, none, some (.m ⟨(.l .d), t450.1, none⟩), some (.v t450.2), some (.v v_first_451), none, none]) (b_if (Γ1 := fun (t482 : D × D) => [some (.v a_self), some (.v t442), none, none, some (.m ⟨(.l .d), t482.1, none⟩), some (.v t482.2), some (.v v_first_451), none, none]) (t_cmp o_lt (toR (e_pix (p_m (i := 4) (o := ⟨(.l .d), t450.1, none⟩)) (e_var (i := 6)))) (toR e_int)) (fun _ => (b_norm (Γ' := [some (.v a_self), some (.v t442), none, none, some (.m ⟨(.l .d), t450.1, none⟩), some (.v t450.2), some (.v v_first_451), none, none]) (b_exprC (e_callC DM_spread hr tk (ao_d (e_var (i := 1)) (ao_m (i := 4) (o := ⟨(.l .d), t450.1, none⟩) (ao_d (e_var (i := 6)) (ao_d (e_var (i := 5)) ao_nil))))) (fun _ zs478 => b_nz1 (Γ := fun zs => setMs [some (.v a_self), some (.v t442), none, none, some (.m ⟨(.l .d), t450.1, none⟩), some (.v t450.2), some (.v v_first_451), none, none] [none, some (4, ⟨(.l .d), t450.1, none⟩), none, none] zs) (zs := zs478) (fun z479 => (b_norm (Γ' := [some (.v a_self), some (.v t442), none, none, some (.m ⟨(.l .d), z479, none⟩), some (.v t450.2), some (.v v_first_451), none, none]) (b_augA (i := 5) (d := t450.2) e_int (fun v_count_481 => b_nil) S.nd))))))) (fun _ => b_nil) (fun t482 => b_nil)))) (fun t483 => (b_norm (Γ' := [some (.v a_self), some (.v t442), none, none, some (.m ⟨(.l .d), t483.1, none⟩), some (.v t483.2), none, none, none]) (b_retMV (i := 4) (o := ⟨(.l .d), t483.1, none⟩) (ms := [.d]) (vs := [v0])))) po S.nd))) S.nd))) S.nd)))) po S.nd))) S.nd))
theorem ok_Heap_islands (T : TX P w K mg) : MethM P w (gm K w) mg base "Heap" "islands" 2 [.d] (.l .d) m_Heap_islands :=
  let ⟨fd, F⟩ := T.f_Heap_islands
  MethM.of ci_Heap T.h_Heap_islands (okf_Heap_islands T F) (F.bindsN fun _ _ _ _ _ _ us hl => match us, hl with
    | [_], _ => rfl) (fun _ => (by decide : ∀ f ∈ (["links", "marked"] : List Str), ¬ f = "islands")) (fun z => nomatch z)
theorem okd_Heap_islands (T : TX P w K mg) : MethR P w (gm K w) mg base "Heap" "islands" 2 md_Heap_islands := by
  obtain ⟨i, f, h1, h2, Fn, h3, h4⟩ := (ok_Heap_islands (P := P) (w := w) (base := base) T).ex
  have hn : ∀ ds, m_Heap_islands ds = .no ∨ ds.length = 1 := fun ds => by
    unfold m_Heap_islands
    split
    · exact .inr rfl
    · exact .inl rfl
  exact ⟨⟨i, f, h1, h2, FnR.imp (sp' := spD (gm K w) md_Heap_islands) Fn fun vs H Q E h => spD_ofM (fun ds p h => (hn ds).elim (fun e => by rw [h] at e; cases e) fun e => e) (by intro s hs; simp only [List.mem_cons, List.not_mem_nil, or_false, or_self] at hs; exact hs) h (fun ds c fs h => (hn ds).elim (fun e => by rw [h] at e; cases e) fun e => e), h3, h4⟩⟩
theorem sc__law_as_due : FnScope ["_law_heap", "_law_holds", "_law_due", "_law_told", "_law_x"] ["_law_heap", "_law_holds"] (defScope (topS 12)) := ⟨rfl, rfl, rfl, by decide +kernel, rfl, by decide +kernel, by decide +kernel⟩
theorem okf__law_as_due (T : TX P w K mg) {fd : FuncData} (F : FunD K "_law_as_due" "_law_as_due" (defArgs (topS 12)) (defBody (topS 12)) (defScope (topS 12)) [] [] (He.ga K "_law_as_due") fd) : FnOk P w (gm K w).K mg base (L2.CX P w) 3 (He.ga K "_law_as_due") fd ["_law_heap", "_law_holds"] (spD (gm K w) m__law_as_due) := by
  have co := T.co
  have S := sc__law_as_due
  have D__law_numbers : DefT P w (gm K w) mg base "_law_numbers" 1 md__law_numbers := okd__law_numbers T
  have MM_Heap_islands : MethM P w (gm K w) mg base "Heap" "islands" 2 [.d] (.l .d) m_Heap_islands := ok_Heap_islands T
  have M_Heap_islands : MethR P w (gm K w) mg base "Heap" "islands" 2 md_Heap_islands := okd_Heap_islands T
  refine def_ok (g := gm K w) (o := fun ds => match ds with
    | [a__law_heap, a__law_holds] => o__law_as_due a__law_heap a__law_holds
    | _ => .no) F S (fun ds hl => match ds, hl with
    | [_, _], _ => rfl) (fun ds hl => ?_) (fun cdv A outer s H F0 E ds sd hl => ?_)
  · unfold m__law_as_due
    split
    · exact absurd rfl hl
    · rfl
  · match ds, hl with
    | [a__law_heap, a__law_holds], _ =>
      have hr := sd.hr
      have tk := sd.tk
      have hu := sd.hu
      have hu1 := sd.hu1
      have po := sd.po
      show PSs _ _ (tS _ _ _ _ (o__law_as_due a__law_heap a__law_holds) _)
      delta o__law_as_due
      exact (b_norm (Γ' := [some (.v a__law_heap), some (.v a__law_holds), none, none, none]) (b_set (i := 2) (e_call D__law_numbers hr tk (a_cons (e_var (i := 1)) a_nil)) (fun v__law_due_489 _ => (b_norm (Γ' := [some (.v a__law_heap), some (.v a__law_holds), some (.v v__law_due_489), none, none]) (b_setM (i := 3) (nm_meth0 MM_Heap_islands co hr tk (e_var (i := 0))) (fun m__law_told_490 => (b_norm (Γ' := [some (.v a__law_heap), some (.v a__law_holds), some (.v v__law_due_489), some (.m ⟨(.l .d), m__law_told_490, none⟩), none]) (b_ifr (PW.pt (w_or (t_not (t_isi (T := "list") (r_m (i := 3) (o := ⟨(.l .d), m__law_told_490, none⟩)) T.n_isinstance T.n_list)) (w_or1 (t_cmp (o_ne hu) (r_m (i := 3) (o := ⟨(.l .d), m__law_told_490, none⟩)) (toR (e_var (i := 2))))))) (fun _ => (b_norm (Γ' := [some (.v a__law_heap), some (.v a__law_holds), some (.v v__law_due_489), some (.m ⟨(.l .d), m__law_told_490, none⟩), none]) (b_ret e_bl))) (fun _ => (b_norm (Γ' := [some (.v a__law_heap), some (.v a__law_holds), some (.v v__law_due_489), some (.m ⟨(.l .d), m__law_told_490, none⟩), none]) (b_pin (i := 3) (fun pl496 => (b_forO (i := 4) (i2 := 3) (t0 := ()) (Γh := fun (t497 : Unit) => [some (.v a__law_heap), some (.v a__law_holds), some (.v v__law_due_489), some (.m ⟨(.l .d), m__law_told_490, some pl496⟩), none]) (fun _ v__law_x_498 t497 => (b_norm (Γ' := [some (.v a__law_heap), some (.v a__law_holds), some (.v v__law_due_489), some (.m ⟨(.l .d), m__law_told_490, some pl496⟩), some (.v v__law_x_498)]) (b_ifr (PW.pt (w_or (t_not (t_isi (T := "int") (toR (e_var (i := 4))) T.n_isinstance T.n_int)) (w_or1 (t_isi (T := "bool") (toR (e_var (i := 4))) T.n_isinstance T.n_bool)))) (fun _ => (b_norm (Γ' := [some (.v a__law_heap), some (.v a__law_holds), some (.v v__law_due_489), some (.m ⟨(.l .d), m__law_told_490, some pl496⟩), some (.v v__law_x_498)]) (b_ret e_bl))) (fun _ => b_nil)))) (fun t502 => (b_unpin (i := 3) (b_norm (Γ' := [some (.v a__law_heap), some (.v a__law_holds), some (.v v__law_due_489), some (.m ⟨(.l .d), m__law_told_490, none⟩), none]) (b_appP (i := 3) (o := ⟨(.l .d), m__law_told_490, none⟩) (p_m (i := 3) (o := ⟨(.l .d), m__law_told_490, none⟩)) (nm_d e_int) (fun m505 => (b_norm (Γ' := [some (.v a__law_heap), some (.v a__law_holds), some (.v v__law_due_489), some (.m ⟨(.l .d), m505, none⟩), none]) (b_if (Γ1 := fun (t517 : D) => [some (.v a__law_heap), some (.v a__law_holds), some (.v v__law_due_489), some (.v t517), none]) (t_cmp o_gt (toR (e_b1 c_len (toR (e_var (i := 2))) T.n_len)) (toR e_int)) (fun _ => (b_norm (Γ' := [some (.v a__law_heap), some (.v a__law_holds), some (.v v__law_due_489), some (.m ⟨(.l .d), m505, none⟩), none]) (b_setP (i := 3) (o := ⟨(.l .d), m505, none⟩) (nm_d e_int) (p_m (i := 3) (o := ⟨(.l .d), m505, none⟩)) e_int (fun m516 => (b_frzM (i := 3) (o := ⟨(.l .d), m516, none⟩) b_nil))))) (fun _ => (b_frzM (i := 3) (o := ⟨(.l .d), m505, none⟩) b_nil)) (fun t517 => (b_norm (Γ' := [some (.v a__law_heap), some (.v a__law_holds), some (.v v__law_due_489), some (.v t517), none]) (b_ret (e_cmp (o_eq hu) (toR (e_methR0 M_Heap_islands co hr tk (e_var (i := 0)))) (toR (e_var (i := 2)))))))))))))) po S.nd)))))))) S.nd))) S.nd))
theorem ok__law_as_due (T : TX P w K mg) : DefT P w (gm K w) mg base "_law_as_due" 3 m__law_as_due :=
  let ⟨fd, F⟩ := T.f__law_as_due
  ⟨⟨_, fd, ["_law_heap", "_law_holds"], okf__law_as_due T F, T.g__law_as_due, F.kp, F.bindsN fun _ _ _ _ _ _ us hl => match us, hl with
    | [_, _], _ => rfl⟩⟩
theorem sc__law_at : FnScope ["_law_row", "_law_k"] ["_law_row", "_law_k"] (defScope (topS 10)) := ⟨rfl, rfl, rfl, by decide +kernel, rfl, by decide +kernel, by decide +kernel⟩
theorem okf__law_at (T : TX P w K mg) {fd : FuncData} (F : FunD K "_law_at" "_law_at" (defArgs (topS 10)) (defBody (topS 10)) (defScope (topS 10)) [] [] (He.ga K "_law_at") fd) : FnOk P w (gm K w).K mg base (L2.CX P w) 1 (He.ga K "_law_at") fd ["_law_row", "_law_k"] (spD (gm K w) m__law_at) := by
  have co := T.co
  have S := sc__law_at
  refine def_ok (g := gm K w) (o := fun ds => match ds with
    | [a__law_row, a__law_k] => o__law_at a__law_row a__law_k
    | _ => .no) F S (fun ds hl => match ds, hl with
    | [_, _], _ => rfl) (fun ds hl => ?_) (fun cdv A outer s H F0 E ds sd hl => ?_)
  · unfold m__law_at
    split
    · exact absurd rfl hl
    · rfl
  · match ds, hl with
    | [a__law_row, a__law_k], _ =>
      have hr := sd.hr
      have tk := sd.tk
      have hu := sd.hu
      have hu1 := sd.hu1
      have po := sd.po
      show PSs _ _ (tS _ _ _ _ (o__law_at a__law_row a__law_k) _)
      delta o__law_at
      exact (b_norm (Γ' := [some (.v a__law_row), some (.v a__law_k)]) (b_ifr (t_cmp o_lt (toR (e_var (i := 1))) (toR (e_b1 c_len (toR (e_var (i := 0))) T.n_len))) (fun _ => (b_norm (Γ' := [some (.v a__law_row), some (.v a__law_k)]) (b_ret (e_ix (e_var (i := 0)) (e_var (i := 1)))))) (fun _ => (b_norm (Γ' := [some (.v a__law_row), some (.v a__law_k)]) (b_ret e_int)))))
theorem ok__law_at (T : TX P w K mg) : DefT P w (gm K w) mg base "_law_at" 1 m__law_at :=
  let ⟨fd, F⟩ := T.f__law_at
  ⟨⟨_, fd, ["_law_row", "_law_k"], okf__law_at T F, T.g__law_at, F.kp, F.bindsN fun _ _ _ _ _ _ us hl => match us, hl with
    | [_, _], _ => rfl⟩⟩
theorem sc_Heap_put : FnScope ["self", "holder", "part", "row", "at"] ["self", "holder", "part"] (defScope (inCls (topS 6) 3)) := ⟨rfl, rfl, rfl, by decide +kernel, rfl, by decide +kernel, by decide +kernel⟩
theorem okf_Heap_put (T : TX P w K mg) {fd : FuncData} (F : FunD K "put" "Heap.put" (defArgs (inCls (topS 6) 3)) (defBody (inCls (topS 6) 3)) (defScope (inCls (topS 6) 3)) [] [] (He.ma K (He.ga K "Heap") "put") fd) : FnOk P w (gm K w).K mg base (L2.CX P w) 4 (He.ma K (He.ga K "Heap") "put") fd ["self", "holder", "part"] (spM (gm K w) [(.o "Heap" (.f "links" (.l (.l .d)) (.f "marked" (.l .d) .d))), .d, .d] .d m_Heap_put) := by
  have co := T.co
  have S := sc_Heap_put
  have M_Heap_check : MethR P w (gm K w) mg base "Heap" "check" 3 m_Heap_check := ok_Heap_check T
  refine defM_ok (g := gm K w) (ms := [(.o "Heap" (.f "links" (.l (.l .d)) (.f "marked" (.l .d) .d))), .d, .d]) (sr := .d) (o := fun ds => match ds with
    | [a_self, a_holder, a_part] => o_Heap_put a_self a_holder a_part
    | _ => .no) F S rfl (fun ds hf => ?_) (fun ds hf => ?_) (fun cdv A outer s H H0 F0 E vs ds sd hl hv hvl => ?_)
  · match ds, fitsM_len hf, hf with
    | [_, _, _], _, hf => exact if_pos (e := Res.no) hf
  · unfold m_Heap_put
    split
    · exact if_neg hf
    · rfl
  · match vs, hvl, hv, ds, hl with
    | [v0, v1, v2], _, hv, [a_self, a_holder, a_part], _ =>
      obtain ⟨ad0, e0⟩ := hv 0 _ rfl (by first | exact .inl ⟨_, rfl⟩ | exact .inr ⟨_, _, rfl⟩)
      cases (show v0 = V.ref ad0 from Option.some.inj e0)
      have hr := sd.hr
      have tk := sd.tk
      have hu := sd.hu
      have hu1 := sd.hu1
      have po := sd.po
      show PSs _ _ (tS _ _ _ _ (o_Heap_put a_self a_holder a_part) _)
      delta o_Heap_put
      exact (b_norm (Γ' := [some (.m ⟨(.o "Heap" (.f "links" (.l (.l .d)) (.f "marked" (.l .d) .d))), a_self, some ad0⟩), some (.v a_holder), some (.v a_part), none, none]) (b_expr (e_nm (nm_methL (i := 0) (o := ⟨(.o "Heap" (.f "links" (.l (.l .d)) (.f "marked" (.l .d) .d))), a_self, some ad0⟩) (cx := []) (MethM.ofR (ms := [.d, .d]) M_Heap_check ) co hr tk (ao_d (e_var (i := 1)) ao_nil) (by repeat (first | exact UsOk.nil | apply UsOk.d | refine UsOk.m rfl rfl (by first | exact .inl ⟨_, rfl⟩ | exact .inr ⟨_, _, rfl⟩) (by decide) ?_)) (fun ds h => congrArg (· + 1) ((len_cons len_nil) ds h)))) (fun _ => (b_norm (Γ' := [some (.m ⟨(.o "Heap" (.f "links" (.l (.l .d)) (.f "marked" (.l .d) .d))), a_self, some ad0⟩), some (.v a_holder), some (.v a_part), none, none]) (b_expr (e_nm (nm_methL (i := 0) (o := ⟨(.o "Heap" (.f "links" (.l (.l .d)) (.f "marked" (.l .d) .d))), a_self, some ad0⟩) (cx := []) (MethM.ofR (ms := [.d, .d]) M_Heap_check ) co hr tk (ao_d (e_var (i := 2)) ao_nil) (by repeat (first | exact UsOk.nil | apply UsOk.d | refine UsOk.m rfl rfl (by first | exact .inl ⟨_, rfl⟩ | exact .inr ⟨_, _, rfl⟩) (by decide) ?_)) (fun ds h => congrArg (· + 1) ((len_cons len_nil) ds h)))) (fun _ => (b_norm (Γ' := [some (.m ⟨(.o "Heap" (.f "links" (.l (.l .d)) (.f "marked" (.l .d) .d))), a_self, some ad0⟩), some (.v a_holder), some (.v a_part), none, none]) (b_alias (i := 0) (i2 := 3) (f := "links") (X0 := a_self) (s0 := (.f "links" (.l (.l .d)) (.f "marked" (.l .d) .d))) (s1 := fun j535 pl536 => (.f "links" (.p j535 pl536 (.l .d)) (.f "marked" (.l .d) .d))) co (e_var (i := 1)) (fun _ _ => (by repeat (first | exact RepSh.here | refine RepSh.there (by decide) ?_))) rfl (fun j535 pl536 => (b_norm (Γ' := [some (.m ⟨(.o "Heap" (.f "links" (.p j535 pl536 (.l .d)) (.f "marked" (.l .d) .d))), a_self, some ad0⟩), some (.v a_holder), some (.v a_part), some (.x pl536), none]) (b_set (i := 4) e_int (fun v_at_538 _ => (b_norm (Γ' := [some (.m ⟨(.o "Heap" (.f "links" (.p j535 pl536 (.l .d)) (.f "marked" (.l .d) .d))), a_self, some ad0⟩), some (.v a_holder), some (.v a_part), some (.x pl536), some (.v v_at_538)]) (b_while (t0 := (v_at_538 : D)) (Γh := fun (t539 : D) => [some (.m ⟨(.o "Heap" (.f "links" (.p j535 pl536 (.l .d)) (.f "marked" (.l .d) .d))), a_self, some ad0⟩), some (.v a_holder), some (.v a_part), some (.x pl536), some (.v t539)]) (fun _ t539 => (PW.pt (w_and (t_cmp o_lt (toR (e_var (i := 4))) (toR (e_b1 c_len (r_g (g_alias (i := 0) (i2 := 3) (f := "links") (j := j535) (a := pl536) (c := "Heap") (s1 := (.f "links" (.p j535 pl536 (.l .d)) (.f "marked" (.l .d) .d))) (s := (.l .d)) (X0 := a_self) (oo := some ad0))) T.n_len))) (w_and1 (t_cmp o_lt (toR (e_pix (p_g (g_alias (i := 0) (i2 := 3) (f := "links") (j := j535) (a := pl536) (c := "Heap") (s1 := (.f "links" (.p j535 pl536 (.l .d)) (.f "marked" (.l .d) .d))) (s := (.l .d)) (X0 := a_self) (oo := some ad0))) (e_var (i := 4)))) (toR (e_var (i := 2)))))))) (fun _ t539 => (b_norm (Γ' := [some (.m ⟨(.o "Heap" (.f "links" (.p j535 pl536 (.l .d)) (.f "marked" (.l .d) .d))), a_self, some ad0⟩), some (.v a_holder), some (.v a_part), some (.x pl536), some (.v t539)]) (b_augA (i := 4) (d := t539) e_int (fun v_at_548 => b_nil) S.nd))) (fun t549 => (b_norm (Γ' := [some (.m ⟨(.o "Heap" (.f "links" (.p j535 pl536 (.l .d)) (.f "marked" (.l .d) .d))), a_self, some ad0⟩), some (.v a_holder), some (.v a_part), some (.x pl536), some (.v t549)]) (b_if (Γ1 := fun (t565 : D) => [some (.m ⟨(.o "Heap" (.f "links" (.p j535 pl536 (.l .d)) (.f "marked" (.l .d) .d))), t565, some ad0⟩), some (.v a_holder), some (.v a_part), some (.x pl536), some (.v t549)]) (PW.pt (w_or (t_cmp (o_eq hu) (toR (e_var (i := 4))) (toR (e_b1 c_len (r_g (g_alias (i := 0) (i2 := 3) (f := "links") (j := j535) (a := pl536) (c := "Heap") (s1 := (.f "links" (.p j535 pl536 (.l .d)) (.f "marked" (.l .d) .d))) (s := (.l .d)) (X0 := a_self) (oo := some ad0))) T.n_len))) (w_or1 (t_cmp (o_ne hu) (toR (e_pix (p_g (g_alias (i := 0) (i2 := 3) (f := "links") (j := j535) (a := pl536) (c := "Heap") (s1 := (.f "links" (.p j535 pl536 (.l .d)) (.f "marked" (.l .d) .d))) (s := (.l .d)) (X0 := a_self) (oo := some ad0))) (e_var (i := 4)))) (toR (e_var (i := 2))))))) (fun _ => (b_norm (Γ' := [some (.m ⟨(.o "Heap" (.f "links" (.p j535 pl536 (.l .d)) (.f "marked" (.l .d) .d))), a_self, some ad0⟩), some (.v a_holder), some (.v a_part), some (.x pl536), some (.v t549)]) (b_insP (i := 0) (o := ⟨(.o "Heap" (.f "links" (.p j535 pl536 (.l .d)) (.f "marked" (.l .d) .d))), a_self, some ad0⟩) (p_g (g_alias (i := 0) (i2 := 3) (f := "links") (j := j535) (a := pl536) (c := "Heap") (s1 := (.f "links" (.p j535 pl536 (.l .d)) (.f "marked" (.l .d) .d))) (s := (.l .d)) (X0 := a_self) (oo := some ad0))) (e_var (i := 4)) (e_var (i := 2)) (fun m563 => b_nil)))) (fun _ => b_nil) (fun t565 => (b_unali (i := 0) (f := "links") (s0 := (.f "links" (.l (.l .d)) (.f "marked" (.l .d) .d))) (s1 := (.f "links" (.p j535 pl536 (.l .d)) (.f "marked" (.l .d) .d))) (by repeat (first | exact RepSh.here | refine RepSh.there (by decide) ?_)) b_nil))))) po))) S.nd))) S.nd))))))))
theorem ok_Heap_put (T : TX P w K mg) : MethM P w (gm K w) mg base "Heap" "put" 4 [(.o "Heap" (.f "links" (.l (.l .d)) (.f "marked" (.l .d) .d))), .d, .d] .d m_Heap_put :=
  let ⟨fd, F⟩ := T.f_Heap_put
  MethM.of ci_Heap T.h_Heap_put (okf_Heap_put T F) (F.bindsN fun _ _ _ _ _ _ us hl => match us, hl with
    | [_, _, _], _ => rfl) (fun _ => (by decide : ∀ f ∈ (["links", "marked"] : List Str), ¬ f = "put")) (fun z => nomatch z)
theorem sc_Heap_twin : FnScope ["self", "other", "row"] ["self"] (defScope (inCls (topS 6) 11)) := ⟨rfl, rfl, rfl, by decide +kernel, rfl, by decide +kernel, by decide +kernel⟩
theorem okf_Heap_twin (T : TX P w K mg) {fd : FuncData} (F : FunD K "twin" "Heap.twin" (defArgs (inCls (topS 6) 11)) (defBody (inCls (topS 6) 11)) (defScope (inCls (topS 6) 11)) [] [] (He.ma K (He.ga K "Heap") "twin") fd) : FnOk P w (gm K w).K mg base (L2.CX P w) 3 (He.ma K (He.ga K "Heap") "twin") fd ["self"] (spM (gm K w) [.d] (.o "Heap" (.f "links" (.l (.l .d)) (.f "marked" (.l .d) .d))) m_Heap_twin) := by
  have co := T.co
  have S := sc_Heap_twin
  have MO_Heap : MakeO P w (gm K w) mg base "Heap" 1 (.f "links" (.l (.l .d)) (.f "marked" (.l .d) .d)) m_Heap := mo_Heap T
  refine defM_ok (g := gm K w) (ms := [.d]) (sr := (.o "Heap" (.f "links" (.l (.l .d)) (.f "marked" (.l .d) .d)))) (o := fun ds => match ds with
    | [a_self] => o_Heap_twin a_self
    | _ => .no) F S rfl (fun ds hf => ?_) (fun ds hf => ?_) (fun cdv A outer s H H0 F0 E vs ds sd hl hv hvl => ?_)
  · match ds, fitsM_len hf, hf with
    | [_], _, hf => exact if_pos (e := Res.no) hf
  · unfold m_Heap_twin
    split
    · exact if_neg hf
    · rfl
  · match vs, hvl, hv, ds, hl with
    | [v0], _, hv, [a_self], _ =>
      have hr := sd.hr
      have tk := sd.tk
      have hu := sd.hu
      have hu1 := sd.hu1
      have po := sd.po
      show PSs _ _ (tS _ _ _ _ (o_Heap_twin a_self) _)
      delta o_Heap_twin
      exact (b_norm (Γ' := [some (.v a_self), none, none]) (b_setM (i := 1) (nm_makeO MO_Heap hr tk) (fun m_other_566 => (b_norm (Γ' := [some (.v a_self), some (.m ⟨(.o "Heap" (.f "links" (.l (.l .d)) (.f "marked" (.l .d) .d))), m_other_566, none⟩), none]) (b_attrO (i := 1) (s0 := (.f "links" (.l (.l .d)) (.f "marked" (.l .d) .d))) (s1 := (.f "links" (.l (.l .d)) (.f "marked" (.l .d) .d))) (X0 := m_other_566) co ci_Heap (nm_lc (i := 2) [("row", 2)] (src_val (e_attr (e_var (i := 0)) co)) (fun _ _ _ _ _ _ => p_nil) (fun _ _ _ _ _ _ => (nm_n (n_list (e_var (i := 2)) T.n_list))) S.nd) (fun m574 => (b_norm (Γ' := [some (.v a_self), some (.m ⟨(.o "Heap" (.f "links" (.l (.l .d)) (.f "marked" (.l .d) .d))), m574, none⟩), none]) (b_attrO (i := 1) (s0 := (.f "links" (.l (.l .d)) (.f "marked" (.l .d) .d))) (s1 := (.f "links" (.l (.l .d)) (.f "marked" (.l .d) .d))) (X0 := m574) co ci_Heap (nm_n (n_list (e_attr (e_var (i := 0)) co) T.n_list)) (fun m579 => (b_norm (Γ' := [some (.v a_self), some (.m ⟨(.o "Heap" (.f "links" (.l (.l .d)) (.f "marked" (.l .d) .d))), m579, none⟩), none]) (b_retMV (i := 1) (o := ⟨(.o "Heap" (.f "links" (.l (.l .d)) (.f "marked" (.l .d) .d))), m579, none⟩) (ms := [.d]) (vs := [v0])))) (by repeat (first | exact PutSh.new | exact PutSh.here | refine PutSh.there (by decide) ?_)) (List.mem_of_getElem? (i := 1) rfl) (by decide +kernel)))) (by repeat (first | exact PutSh.new | exact PutSh.here | refine PutSh.there (by decide) ?_)) (List.mem_of_getElem? (i := 0) rfl) (by decide +kernel)))) S.nd))
theorem ok_Heap_twin (T : TX P w K mg) : MethM P w (gm K w) mg base "Heap" "twin" 3 [.d] (.o "Heap" (.f "links" (.l (.l .d)) (.f "marked" (.l .d) .d))) m_Heap_twin :=
  let ⟨fd, F⟩ := T.f_Heap_twin
  MethM.of ci_Heap T.h_Heap_twin (okf_Heap_twin T F) (F.bindsN fun _ _ _ _ _ _ us hl => match us, hl with
    | [_], _ => rfl) (fun _ => (by decide : ∀ f ∈ (["links", "marked"] : List Str), ¬ f = "twin")) (fun z => nomatch z)
theorem sc_Heap_cut : FnScope ["self", "holder", "part", "other"] ["self", "holder", "part"] (defScope (inCls (topS 6) 4)) := ⟨rfl, rfl, rfl, by decide +kernel, rfl, by decide +kernel, by decide +kernel⟩
theorem okf_Heap_cut (T : TX P w K mg) {fd : FuncData} (F : FunD K "cut" "Heap.cut" (defArgs (inCls (topS 6) 4)) (defBody (inCls (topS 6) 4)) (defScope (inCls (topS 6) 4)) [] [] (He.ma K (He.ga K "Heap") "cut") fd) : FnOk P w (gm K w).K mg base (L2.CX P w) 4 (He.ma K (He.ga K "Heap") "cut") fd ["self", "holder", "part"] (spM (gm K w) [(.o "Heap" (.f "links" (.l (.l .d)) (.f "marked" (.l .d) .d))), .d, .d] .d m_Heap_cut) := by
  have co := T.co
  have S := sc_Heap_cut
  have M_Heap_check : MethR P w (gm K w) mg base "Heap" "check" 3 m_Heap_check := ok_Heap_check T
  refine defM_ok (g := gm K w) (ms := [(.o "Heap" (.f "links" (.l (.l .d)) (.f "marked" (.l .d) .d))), .d, .d]) (sr := .d) (o := fun ds => match ds with
    | [a_self, a_holder, a_part] => o_Heap_cut a_self a_holder a_part
    | _ => .no) F S rfl (fun ds hf => ?_) (fun ds hf => ?_) (fun cdv A outer s H H0 F0 E vs ds sd hl hv hvl => ?_)
  · match ds, fitsM_len hf, hf with
    | [_, _, _], _, hf => exact if_pos (e := Res.no) hf
  · unfold m_Heap_cut
    split
    · exact if_neg hf
    · rfl
  · match vs, hvl, hv, ds, hl with
    | [v0, v1, v2], _, hv, [a_self, a_holder, a_part], _ =>
      obtain ⟨ad0, e0⟩ := hv 0 _ rfl (by first | exact .inl ⟨_, rfl⟩ | exact .inr ⟨_, _, rfl⟩)
      cases (show v0 = V.ref ad0 from Option.some.inj e0)
      have hr := sd.hr
      have tk := sd.tk
      have hu := sd.hu
      have hu1 := sd.hu1
      have po := sd.po
      show PSs _ _ (tS _ _ _ _ (o_Heap_cut a_self a_holder a_part) _)
      delta o_Heap_cut
      exact (b_norm (Γ' := [some (.m ⟨(.o "Heap" (.f "links" (.l (.l .d)) (.f "marked" (.l .d) .d))), a_self, some ad0⟩), some (.v a_holder), some (.v a_part), none]) (b_expr (e_nm (nm_methL (i := 0) (o := ⟨(.o "Heap" (.f "links" (.l (.l .d)) (.f "marked" (.l .d) .d))), a_self, some ad0⟩) (cx := []) (MethM.ofR (ms := [.d, .d]) M_Heap_check ) co hr tk (ao_d (e_var (i := 1)) ao_nil) (by repeat (first | exact UsOk.nil | apply UsOk.d | refine UsOk.m rfl rfl (by first | exact .inl ⟨_, rfl⟩ | exact .inr ⟨_, _, rfl⟩) (by decide) ?_)) (fun ds h => congrArg (· + 1) ((len_cons len_nil) ds h)))) (fun _ => (b_norm (Γ' := [some (.m ⟨(.o "Heap" (.f "links" (.l (.l .d)) (.f "marked" (.l .d) .d))), a_self, some ad0⟩), some (.v a_holder), some (.v a_part), none]) (b_expr (e_nm (nm_methL (i := 0) (o := ⟨(.o "Heap" (.f "links" (.l (.l .d)) (.f "marked" (.l .d) .d))), a_self, some ad0⟩) (cx := []) (MethM.ofR (ms := [.d, .d]) M_Heap_check ) co hr tk (ao_d (e_var (i := 2)) ao_nil) (by repeat (first | exact UsOk.nil | apply UsOk.d | refine UsOk.m rfl rfl (by first | exact .inl ⟨_, rfl⟩ | exact .inr ⟨_, _, rfl⟩) (by decide) ?_)) (fun ds h => congrArg (· + 1) ((len_cons len_nil) ds h)))) (fun _ => (b_norm (Γ' := [some (.m ⟨(.o "Heap" (.f "links" (.l (.l .d)) (.f "marked" (.l .d) .d))), a_self, some ad0⟩), some (.v a_holder), some (.v a_part), none]) (b_setP (i := 0) (o := ⟨(.o "Heap" (.f "links" (.l (.l .d)) (.f "marked" (.l .d) .d))), a_self, some ad0⟩) (nm_lend (i := 0) (o := ⟨(.o "Heap" (.f "links" (.l (.l .d)) (.f "marked" (.l .d) .d))), a_self, some ad0⟩) (nm_n (n_lc (i := 3) [("other", 3)] (src_val (e_ix (e_attr (e_var (i := 0)) co) (e_var (i := 1)))) (fun _ _ _ _ _ _ => (p_one (t_cmp (o_ne hu) (toR (e_var (i := 3))) (toR (e_var (i := 2)))))) (fun _ _ _ _ _ _ => (e_var (i := 3))) S.nd))) (p_g (g_fld (f := "links") (g_m (i := 0) (o := ⟨(.o "Heap" (.f "links" (.l (.l .d)) (.f "marked" (.l .d) .d))), a_self, some ad0⟩)) co)) (e_var (i := 1)) (fun m598 => b_nil)))))))))
theorem ok_Heap_cut (T : TX P w K mg) : MethM P w (gm K w) mg base "Heap" "cut" 4 [(.o "Heap" (.f "links" (.l (.l .d)) (.f "marked" (.l .d) .d))), .d, .d] .d m_Heap_cut :=
  let ⟨fd, F⟩ := T.f_Heap_cut
  MethM.of ci_Heap T.h_Heap_cut (okf_Heap_cut T F) (F.bindsN fun _ _ _ _ _ _ us hl => match us, hl with
    | [_, _, _], _ => rfl) (fun _ => (by decide : ∀ f ∈ (["links", "marked"] : List Str), ¬ f = "cut")) (fun z => nomatch z)
theorem sc_law : FnScope ["_law_script", "_law_row", "_law_many", "_law_heap", "_law_holds", "_law_k", "_law_draw"] ["_law_script"] (defScope (topS 14)) := ⟨rfl, rfl, rfl, by decide +kernel, rfl, by decide +kernel, by decide +kernel⟩
theorem okf_law (T : TX P w K mg) {fd : FuncData} (F : FunD K "law" "law" (defArgs (topS 14)) (defBody (topS 14)) (defScope (topS 14)) [] [] (He.ga K "law") fd) : FnOk P w (gm K w).K mg base (L2.CX P w) 7 (He.ga K "law") fd ["_law_script"] (spD (gm K w) m_law) := by
  have co := T.co
  have S := sc_law
  have MO_Heap : MakeO P w (gm K w) mg base "Heap" 1 (.f "links" (.l (.l .d)) (.f "marked" (.l .d) .d)) m_Heap := mo_Heap T
  have D__law_draws : DefT P w (gm K w) mg base "_law_draws" 1 m__law_draws := ok__law_draws T
  have MM_Heap_hand : MethM P w (gm K w) mg base "Heap" "hand" 6 [(.o "Heap" (.f "links" (.l (.l .d)) (.f "marked" (.l .d) .d))), .d] .d m_Heap_hand := ok_Heap_hand T
  have MM_Heap_make : MethM P w (gm K w) mg base "Heap" "make" 1 [(.o "Heap" (.f "links" (.l (.l .d)) (.f "marked" (.l .d) .d)))] .d m_Heap_make := ok_Heap_make T
  have DM__law_grown : DefM P w (gm K w) mg base "_law_grown" 1 [.d] (.l (.l .d)) m__law_grown := ok__law_grown T
  have D__law_as_due : DefT P w (gm K w) mg base "_law_as_due" 3 m__law_as_due := ok__law_as_due T
  have D__law_at : DefT P w (gm K w) mg base "_law_at" 1 m__law_at := ok__law_at T
  have MM_Heap_put : MethM P w (gm K w) mg base "Heap" "put" 4 [(.o "Heap" (.f "links" (.l (.l .d)) (.f "marked" (.l .d) .d))), .d, .d] .d m_Heap_put := ok_Heap_put T
  have MM_Heap_twin : MethM P w (gm K w) mg base "Heap" "twin" 3 [.d] (.o "Heap" (.f "links" (.l (.l .d)) (.f "marked" (.l .d) .d))) m_Heap_twin := ok_Heap_twin T
  have MM_Heap_cut : MethM P w (gm K w) mg base "Heap" "cut" 4 [(.o "Heap" (.f "links" (.l (.l .d)) (.f "marked" (.l .d) .d))), .d, .d] .d m_Heap_cut := ok_Heap_cut T
  refine def_ok (g := gm K w) (o := fun ds => match ds with
    | [a__law_script] => o_law a__law_script
    | _ => .no) F S (fun ds hl => match ds, hl with
    | [_], _ => rfl) (fun ds hl => ?_) (fun cdv A outer s H F0 E ds sd hl => ?_)
  · unfold m_law
    split
    · exact absurd rfl hl
    · rfl
  · match ds, hl with
    | [a__law_script], _ =>
      have hr := sd.hr
      have tk := sd.tk
      have hu := sd.hu
      have hu1 := sd.hu1
      have po := sd.po
      show PSs _ _ (tS _ _ _ _ (o_law a__law_script) _)
      delta o_law
      exact (b_norm (Γ' := [some (.v a__law_script), none, none, none, none, none, none]) (b_set (i := 1) (e_call D__law_draws hr tk (a_cons (e_var (i := 0)) a_nil)) (fun v__law_row_602 _ => (b_norm (Γ' := [some (.v a__law_script), some (.v v__law_row_602), none, none, none, none, none]) (b_set (i := 2) (e_op o_mod (e_t1 c_int (toR (e_call D__law_at hr tk (a_cons (e_var (i := 1)) (a_cons e_int a_nil)))) T.n_int) e_int) (fun v__law_many_611 _ => (b_norm (Γ' := [some (.v a__law_script), some (.v v__law_row_602), some (.v v__law_many_611), none, none, none, none]) (b_setM (i := 3) (nm_makeO MO_Heap hr tk) (fun m__law_heap_612 => (b_norm (Γ' := [some (.v a__law_script), some (.v v__law_row_602), some (.v v__law_many_611), some (.m ⟨(.o "Heap" (.f "links" (.l (.l .d)) (.f "marked" (.l .d) .d))), m__law_heap_612, none⟩), none, none, none]) (b_setM (i := 4) (nm_lst am_nil) (fun m__law_holds_613 => (b_norm (Γ' := [some (.v a__law_script), some (.v v__law_row_602), some (.v v__law_many_611), some (.m ⟨(.o "Heap" (.f "links" (.l (.l .d)) (.f "marked" (.l .d) .d))), m__law_heap_612, none⟩), some (.m ⟨(.l (.l .d)), m__law_holds_613, none⟩), none, none]) (b_for (i := 5) (t0 := (m__law_heap_612, m__law_holds_613)) (Γh := fun (t616 : D × D) => [some (.v a__law_script), some (.v v__law_row_602), some (.v v__law_many_611), some (.m ⟨(.o "Heap" (.f "links" (.l (.l .d)) (.f "marked" (.l .d) .d))), t616.1, none⟩), some (.m ⟨(.l (.l .d)), t616.2, none⟩), none, none]) (src_range1 (e_var (i := 2)) T.n_range) (fun _ v__law_k_617 t616 => (b_norm (Γ' := [some (.v a__law_script), some (.v v__law_row_602), some (.v v__law_many_611), some (.m ⟨(.o "Heap" (.f "links" (.l (.l .d)) (.f "marked" (.l .d) .d))), t616.1, none⟩), some (.m ⟨(.l (.l .d)), t616.2, none⟩), some (.v v__law_k_617), none]) (b_exprC (e_methO0 (i := 3) (o := ⟨(.o "Heap" (.f "links" (.l (.l .d)) (.f "marked" (.l .d) .d))), t616.1, none⟩) MM_Heap_make co hr tk) (fun _ zs619 => b_nz1 (Γ := fun zs => setMs [some (.v a__law_script), some (.v v__law_row_602), some (.v v__law_many_611), some (.m ⟨(.o "Heap" (.f "links" (.l (.l .d)) (.f "marked" (.l .d) .d))), t616.1, none⟩), some (.m ⟨(.l (.l .d)), t616.2, none⟩), some (.v v__law_k_617), none] [some (3, ⟨(.o "Heap" (.f "links" (.l (.l .d)) (.f "marked" (.l .d) .d))), t616.1, none⟩)] zs) (zs := zs619) (fun z620 => (b_norm (Γ' := [some (.v a__law_script), some (.v v__law_row_602), some (.v v__law_many_611), some (.m ⟨(.o "Heap" (.f "links" (.l (.l .d)) (.f "marked" (.l .d) .d))), z620, none⟩), some (.m ⟨(.l (.l .d)), t616.2, none⟩), some (.v v__law_k_617), none]) (b_setM (i := 4) (nm_callL (cx := []) DM__law_grown hr tk (ao_m (i := 4) (o := ⟨(.l (.l .d)), t616.2, none⟩) ao_nil) (by repeat (first | exact UsOk.nil | apply UsOk.d | refine UsOk.m rfl rfl (by first | exact .inl ⟨_, rfl⟩ | exact .inr ⟨_, _, rfl⟩) (by decide) ?_)) (len_own len_nil)) (fun m__law_holds_621 => b_nil) S.nd))))))) (fun t624 => (b_norm (Γ' := [some (.v a__law_script), some (.v v__law_row_602), some (.v v__law_many_611), some (.m ⟨(.o "Heap" (.f "links" (.l (.l .d)) (.f "marked" (.l .d) .d))), t624.1, none⟩), some (.m ⟨(.l (.l .d)), t624.2, none⟩), none, none]) (b_for (i := 5) (t0 := (t624.1, t624.2)) (Γh := fun (t634 : D × D) => [some (.v a__law_script), some (.v v__law_row_602), some (.v v__law_many_611), some (.m ⟨(.o "Heap" (.f "links" (.l (.l .d)) (.f "marked" (.l .d) .d))), t634.1, none⟩), some (.m ⟨(.l (.l .d)), t634.2, none⟩), none, none]) (src_range1 (e_op o_mod (e_t1 c_int (toR (e_call D__law_at hr tk (a_cons (e_var (i := 1)) (a_cons e_int a_nil)))) T.n_int) e_int) T.n_range) (fun _ v__law_k_635 t634 => (b_norm (Γ' := [some (.v a__law_script), some (.v v__law_row_602), some (.v v__law_many_611), some (.m ⟨(.o "Heap" (.f "links" (.l (.l .d)) (.f "marked" (.l .d) .d))), t634.1, none⟩), some (.m ⟨(.l (.l .d)), t634.2, none⟩), some (.v v__law_k_635), none]) (b_set (i := 6) (e_t1 c_int (toR (e_call D__law_at hr tk (a_cons (e_var (i := 1)) (a_cons (e_op o_add e_int (e_var (i := 5))) a_nil)))) T.n_int) (fun v__law_draw_644 _ => (b_norm (Γ' := [some (.v a__law_script), some (.v v__law_row_602), some (.v v__law_many_611), some (.m ⟨(.o "Heap" (.f "links" (.l (.l .d)) (.f "marked" (.l .d) .d))), t634.1, none⟩), some (.m ⟨(.l (.l .d)), t634.2, none⟩), some (.v v__law_k_635), some (.v v__law_draw_644)]) (b_if (Γ1 := fun (t699 : D × D) => [some (.v a__law_script), some (.v v__law_row_602), some (.v v__law_many_611), some (.m ⟨(.o "Heap" (.f "links" (.l (.l .d)) (.f "marked" (.l .d) .d))), t699.1, none⟩), some (.m ⟨(.l (.l .d)), t699.2, none⟩), some (.v v__law_k_635), some (.v v__law_draw_644)]) (t_cmp o_gt (toR (e_var (i := 2))) (toR e_int)) (fun _ => (b_norm (Γ' := [some (.v a__law_script), some (.v v__law_row_602), some (.v v__law_many_611), some (.m ⟨(.o "Heap" (.f "links" (.l (.l .d)) (.f "marked" (.l .d) .d))), t634.1, none⟩), some (.m ⟨(.l (.l .d)), t634.2, none⟩), some (.v v__law_k_635), some (.v v__law_draw_644)]) (b_setP (i := 4) (o := ⟨(.l (.l .d)), t634.2, none⟩) (nm_d e_bl) (p_ix (p_m (i := 4) (o := ⟨(.l (.l .d)), t634.2, none⟩)) (e_op o_mod (e_var (i := 6)) (e_var (i := 2)))) (e_op o_mod (e_op o_fdiv (e_var (i := 6)) e_int) (e_var (i := 2))) (fun m684 => (b_norm (Γ' := [some (.v a__law_script), some (.v v__law_row_602), some (.v v__law_many_611), some (.m ⟨(.o "Heap" (.f "links" (.l (.l .d)) (.f "marked" (.l .d) .d))), t634.1, none⟩), some (.m ⟨(.l (.l .d)), m684, none⟩), some (.v v__law_k_635), some (.v v__law_draw_644)]) (b_exprC (e_methO (i := 3) (o := ⟨(.o "Heap" (.f "links" (.l (.l .d)) (.f "marked" (.l .d) .d))), t634.1, none⟩) MM_Heap_put co hr tk (ao_d (e_op o_mod (e_var (i := 6)) (e_var (i := 2))) (ao_d (e_op o_mod (e_op o_fdiv (e_var (i := 6)) e_int) (e_var (i := 2))) ao_nil))) (fun _ zs697 => b_nz1 (Γ := fun zs => setMs [some (.v a__law_script), some (.v v__law_row_602), some (.v v__law_many_611), some (.m ⟨(.o "Heap" (.f "links" (.l (.l .d)) (.f "marked" (.l .d) .d))), t634.1, none⟩), some (.m ⟨(.l (.l .d)), m684, none⟩), some (.v v__law_k_635), some (.v v__law_draw_644)] [some (3, ⟨(.o "Heap" (.f "links" (.l (.l .d)) (.f "marked" (.l .d) .d))), t634.1, none⟩), none, none] zs) (zs := zs697) (fun z698 => b_nil)))))))) (fun _ => b_nil) (fun t699 => b_nil)))) S.nd))) (fun t700 => (b_norm (Γ' := [some (.v a__law_script), some (.v v__law_row_602), some (.v v__law_many_611), some (.m ⟨(.o "Heap" (.f "links" (.l (.l .d)) (.f "marked" (.l .d) .d))), t700.1, none⟩), some (.m ⟨(.l (.l .d)), t700.2, none⟩), none, none]) (b_ifr (t_not (t_val (e_nm (nm_callL (cx := []) (DefM.ofD (ms := [.d, .d]) D__law_as_due ) hr tk (ao_m (i := 3) (o := ⟨(.o "Heap" (.f "links" (.l (.l .d)) (.f "marked" (.l .d) .d))), t700.1, none⟩) (ao_m (i := 4) (o := ⟨(.l (.l .d)), t700.2, none⟩) ao_nil)) (by repeat (first | exact UsOk.nil | apply UsOk.d | refine UsOk.m rfl rfl (by first | exact .inl ⟨_, rfl⟩ | exact .inr ⟨_, _, rfl⟩) (by decide) ?_)) (len_own (len_own len_nil)))))) (fun _ => (b_norm (Γ' := [some (.v a__law_script), some (.v v__law_row_602), some (.v v__law_many_611), some (.m ⟨(.o "Heap" (.f "links" (.l (.l .d)) (.f "marked" (.l .d) .d))), t700.1, none⟩), some (.m ⟨(.l (.l .d)), t700.2, none⟩), none, none]) (b_ret e_bl))) (fun _ => (b_norm (Γ' := [some (.v a__law_script), some (.v v__law_row_602), some (.v v__law_many_611), some (.m ⟨(.o "Heap" (.f "links" (.l (.l .d)) (.f "marked" (.l .d) .d))), t700.1, none⟩), some (.m ⟨(.l (.l .d)), t700.2, none⟩), none, none]) (b_for (i := 5) (t0 := (v__law_many_611, t700.1, t700.2)) (Γh := fun (t707 : D × D × D) => [some (.v a__law_script), some (.v v__law_row_602), some (.v t707.1), some (.m ⟨(.o "Heap" (.f "links" (.l (.l .d)) (.f "marked" (.l .d) .d))), t707.2.1, none⟩), some (.m ⟨(.l (.l .d)), t707.2.2, none⟩), none, none]) (src_range1 e_int T.n_range) (fun _ v__law_k_708 t707 => (b_norm (Γ' := [some (.v a__law_script), some (.v v__law_row_602), some (.v t707.1), some (.m ⟨(.o "Heap" (.f "links" (.l (.l .d)) (.f "marked" (.l .d) .d))), t707.2.1, none⟩), some (.m ⟨(.l (.l .d)), t707.2.2, none⟩), some (.v v__law_k_708), none]) (b_set (i := 6) (e_t1 c_int (toR (e_call D__law_at hr tk (a_cons (e_var (i := 1)) (a_cons (e_op o_add e_int (e_var (i := 5))) a_nil)))) T.n_int) (fun v__law_draw_717 _ => (b_norm (Γ' := [some (.v a__law_script), some (.v v__law_row_602), some (.v t707.1), some (.m ⟨(.o "Heap" (.f "links" (.l (.l .d)) (.f "marked" (.l .d) .d))), t707.2.1, none⟩), some (.m ⟨(.l (.l .d)), t707.2.2, none⟩), some (.v v__law_k_708), some (.v v__law_draw_717)]) (b_set (i := 2) (e_b1 c_len (r_m (i := 4) (o := ⟨(.l (.l .d)), t707.2.2, none⟩)) T.n_len) (fun v__law_many_719 _ => (b_norm (Γ' := [some (.v a__law_script), some (.v v__law_row_602), some (.v v__law_many_719), some (.m ⟨(.o "Heap" (.f "links" (.l (.l .d)) (.f "marked" (.l .d) .d))), t707.2.1, none⟩), some (.m ⟨(.l (.l .d)), t707.2.2, none⟩), some (.v v__law_k_708), some (.v v__law_draw_717)]) (b_if (Γ1 := fun (t988 : D × D) => [some (.v a__law_script), some (.v v__law_row_602), some (.v v__law_many_719), some (.m ⟨(.o "Heap" (.f "links" (.l (.l .d)) (.f "marked" (.l .d) .d))), t988.1, none⟩), some (.m ⟨(.l (.l .d)), t988.2, none⟩), some (.v v__law_k_708), some (.v v__law_draw_717)]) (PW.pt (w_or (t_cmp (o_eq hu) (toR (e_var (i := 2))) (toR e_int)) (w_or1 (t_cmp (o_eq hu) (toR (e_op o_mod (e_var (i := 6)) e_int)) (toR e_int))))) (fun _ => (b_norm (Γ' := [some (.v a__law_script), some (.v v__law_row_602), some (.v v__law_many_719), some (.m ⟨(.o "Heap" (.f "links" (.l (.l .d)) (.f "marked" (.l .d) .d))), t707.2.1, none⟩), some (.m ⟨(.l (.l .d)), t707.2.2, none⟩), some (.v v__law_k_708), some (.v v__law_draw_717)]) (b_exprC (e_methO0 (i := 3) (o := ⟨(.o "Heap" (.f "links" (.l (.l .d)) (.f "marked" (.l .d) .d))), t707.2.1, none⟩) MM_Heap_make co hr tk) (fun _ zs858 => b_nz1 (Γ := fun zs => setMs [some (.v a__law_script), some (.v v__law_row_602), some (.v v__law_many_719), some (.m ⟨(.o "Heap" (.f "links" (.l (.l .d)) (.f "marked" (.l .d) .d))), t707.2.1, none⟩), some (.m ⟨(.l (.l .d)), t707.2.2, none⟩), some (.v v__law_k_708), some (.v v__law_draw_717)] [some (3, ⟨(.o "Heap" (.f "links" (.l (.l .d)) (.f "marked" (.l .d) .d))), t707.2.1, none⟩)] zs) (zs := zs858) (fun z859 => (b_norm (Γ' := [some (.v a__law_script), some (.v v__law_row_602), some (.v v__law_many_719), some (.m ⟨(.o "Heap" (.f "links" (.l (.l .d)) (.f "marked" (.l .d) .d))), z859, none⟩), some (.m ⟨(.l (.l .d)), t707.2.2, none⟩), some (.v v__law_k_708), some (.v v__law_draw_717)]) (b_setM (i := 4) (nm_callL (cx := []) DM__law_grown hr tk (ao_m (i := 4) (o := ⟨(.l (.l .d)), t707.2.2, none⟩) ao_nil) (by repeat (first | exact UsOk.nil | apply UsOk.d | refine UsOk.m rfl rfl (by first | exact .inl ⟨_, rfl⟩ | exact .inr ⟨_, _, rfl⟩) (by decide) ?_)) (len_own len_nil)) (fun m__law_holds_860 => b_nil) S.nd))))))) (fun _ => (b_norm (Γ' := [some (.v a__law_script), some (.v v__law_row_602), some (.v v__law_many_719), some (.m ⟨(.o "Heap" (.f "links" (.l (.l .d)) (.f "marked" (.l .d) .d))), t707.2.1, none⟩), some (.m ⟨(.l (.l .d)), t707.2.2, none⟩), some (.v v__law_k_708), some (.v v__law_draw_717)]) (b_if (Γ1 := fun (t987 : D × D) => [some (.v a__law_script), some (.v v__law_row_602), some (.v v__law_many_719), some (.m ⟨(.o "Heap" (.f "links" (.l (.l .d)) (.f "marked" (.l .d) .d))), t987.1, none⟩), some (.m ⟨(.l (.l .d)), t987.2, none⟩), some (.v v__law_k_708), some (.v v__law_draw_717)]) (t_cmp o_lt (toR (e_op o_mod (e_var (i := 6)) e_int)) (toR e_int)) (fun _ => (b_norm (Γ' := [some (.v a__law_script), some (.v v__law_row_602), some (.v v__law_many_719), some (.m ⟨(.o "Heap" (.f "links" (.l (.l .d)) (.f "marked" (.l .d) .d))), t707.2.1, none⟩), some (.m ⟨(.l (.l .d)), t707.2.2, none⟩), some (.v v__law_k_708), some (.v v__law_draw_717)]) (b_setP (i := 4) (o := ⟨(.l (.l .d)), t707.2.2, none⟩) (nm_d e_bl) (p_ix (p_m (i := 4) (o := ⟨(.l (.l .d)), t707.2.2, none⟩)) (e_op o_mod (e_op o_fdiv (e_var (i := 6)) e_int) (e_var (i := 2)))) (e_op o_mod (e_op o_fdiv (e_var (i := 6)) e_int) (e_var (i := 2))) (fun m940 => (b_norm (Γ' := [some (.v a__law_script), some (.v v__law_row_602), some (.v v__law_many_719), some (.m ⟨(.o "Heap" (.f "links" (.l (.l .d)) (.f "marked" (.l .d) .d))), t707.2.1, none⟩), some (.m ⟨(.l (.l .d)), m940, none⟩), some (.v v__law_k_708), some (.v v__law_draw_717)]) (b_exprC (e_methO (i := 3) (o := ⟨(.o "Heap" (.f "links" (.l (.l .d)) (.f "marked" (.l .d) .d))), t707.2.1, none⟩) MM_Heap_put co hr tk (ao_d (e_op o_mod (e_op o_fdiv (e_var (i := 6)) e_int) (e_var (i := 2))) (ao_d (e_op o_mod (e_op o_fdiv (e_var (i := 6)) e_int) (e_var (i := 2))) ao_nil))) (fun _ zs955 => b_nz1 (Γ := fun zs => setMs [some (.v a__law_script), some (.v v__law_row_602), some (.v v__law_many_719), some (.m ⟨(.o "Heap" (.f "links" (.l (.l .d)) (.f "marked" (.l .d) .d))), t707.2.1, none⟩), some (.m ⟨(.l (.l .d)), m940, none⟩), some (.v v__law_k_708), some (.v v__law_draw_717)] [some (3, ⟨(.o "Heap" (.f "links" (.l (.l .d)) (.f "marked" (.l .d) .d))), t707.2.1, none⟩), none, none] zs) (zs := zs955) (fun z956 => b_nil)))))))) (fun _ => (b_norm (Γ' := [some (.v a__law_script), some (.v v__law_row_602), some (.v v__law_many_719), some (.m ⟨(.o "Heap" (.f "links" (.l (.l .d)) (.f "marked" (.l .d) .d))), t707.2.1, none⟩), some (.m ⟨(.l (.l .d)), t707.2.2, none⟩), some (.v v__law_k_708), some (.v v__law_draw_717)]) (b_setP (i := 4) (o := ⟨(.l (.l .d)), t707.2.2, none⟩) (nm_d e_bl) (p_ix (p_m (i := 4) (o := ⟨(.l (.l .d)), t707.2.2, none⟩)) (e_op o_mod (e_op o_fdiv (e_var (i := 6)) e_int) (e_var (i := 2)))) (e_op o_mod (e_op o_fdiv (e_var (i := 6)) e_int) (e_var (i := 2))) (fun m970 => (b_norm (Γ' := [some (.v a__law_script), some (.v v__law_row_602), some (.v v__law_many_719), some (.m ⟨(.o "Heap" (.f "links" (.l (.l .d)) (.f "marked" (.l .d) .d))), t707.2.1, none⟩), some (.m ⟨(.l (.l .d)), m970, none⟩), some (.v v__law_k_708), some (.v v__law_draw_717)]) (b_exprC (e_methO (i := 3) (o := ⟨(.o "Heap" (.f "links" (.l (.l .d)) (.f "marked" (.l .d) .d))), t707.2.1, none⟩) MM_Heap_cut co hr tk (ao_d (e_op o_mod (e_op o_fdiv (e_var (i := 6)) e_int) (e_var (i := 2))) (ao_d (e_op o_mod (e_op o_fdiv (e_var (i := 6)) e_int) (e_var (i := 2))) ao_nil))) (fun _ zs985 => b_nz1 (Γ := fun zs => setMs [some (.v a__law_script), some (.v v__law_row_602), some (.v v__law_many_719), some (.m ⟨(.o "Heap" (.f "links" (.l (.l .d)) (.f "marked" (.l .d) .d))), t707.2.1, none⟩), some (.m ⟨(.l (.l .d)), m970, none⟩), some (.v v__law_k_708), some (.v v__law_draw_717)] [some (3, ⟨(.o "Heap" (.f "links" (.l (.l .d)) (.f "marked" (.l .d) .d))), t707.2.1, none⟩), none, none] zs) (zs := zs985) (fun z986 => b_nil)))))))) (fun t987 => b_nil)))) (fun t988 => (b_norm (Γ' := [some (.v a__law_script), some (.v v__law_row_602), some (.v v__law_many_719), some (.m ⟨(.o "Heap" (.f "links" (.l (.l .d)) (.f "marked" (.l .d) .d))), t988.1, none⟩), some (.m ⟨(.l (.l .d)), t988.2, none⟩), some (.v v__law_k_708), some (.v v__law_draw_717)]) (b_ifr (t_not (t_val (e_nm (nm_callL (cx := []) (DefM.ofD (ms := [.d, .d]) D__law_as_due ) hr tk (ao_m (i := 3) (o := ⟨(.o "Heap" (.f "links" (.l (.l .d)) (.f "marked" (.l .d) .d))), t988.1, none⟩) (ao_m (i := 4) (o := ⟨(.l (.l .d)), t988.2, none⟩) ao_nil)) (by repeat (first | exact UsOk.nil | apply UsOk.d | refine UsOk.m rfl rfl (by first | exact .inl ⟨_, rfl⟩ | exact .inr ⟨_, _, rfl⟩) (by decide) ?_)) (len_own (len_own len_nil)))))) (fun _ => (b_norm (Γ' := [some (.v a__law_script), some (.v v__law_row_602), some (.v v__law_many_719), some (.m ⟨(.o "Heap" (.f "links" (.l (.l .d)) (.f "marked" (.l .d) .d))), t988.1, none⟩), some (.m ⟨(.l (.l .d)), t988.2, none⟩), some (.v v__law_k_708), some (.v v__law_draw_717)]) (b_ret e_bl))) (fun _ => b_nil))))))) S.nd))) S.nd))) (fun t994 => (b_norm (Γ' := [some (.v a__law_script), some (.v v__law_row_602), some (.v t994.1), some (.m ⟨(.o "Heap" (.f "links" (.l (.l .d)) (.f "marked" (.l .d) .d))), t994.2.1, none⟩), some (.m ⟨(.l (.l .d)), t994.2.2, none⟩), none, none]) (b_exprC (e_methO (i := 3) (o := ⟨(.o "Heap" (.f "links" (.l (.l .d)) (.f "marked" (.l .d) .d))), t994.2.1, none⟩) MM_Heap_hand co hr tk (ao_d (e_op o_mod (e_t1 c_int (toR (e_call D__law_at hr tk (a_cons (e_var (i := 1)) (a_cons e_int a_nil)))) T.n_int) (e_b1 c_len (r_m (i := 4) (o := ⟨(.l (.l .d)), t994.2.2, none⟩)) T.n_len)) ao_nil)) (fun _ zs1008 => b_nz1 (Γ := fun zs => setMs [some (.v a__law_script), some (.v v__law_row_602), some (.v t994.1), some (.m ⟨(.o "Heap" (.f "links" (.l (.l .d)) (.f "marked" (.l .d) .d))), t994.2.1, none⟩), some (.m ⟨(.l (.l .d)), t994.2.2, none⟩), none, none] [some (3, ⟨(.o "Heap" (.f "links" (.l (.l .d)) (.f "marked" (.l .d) .d))), t994.2.1, none⟩), none] zs) (zs := zs1008) (fun z1009 => (b_norm (Γ' := [some (.v a__law_script), some (.v v__law_row_602), some (.v t994.1), some (.m ⟨(.o "Heap" (.f "links" (.l (.l .d)) (.f "marked" (.l .d) .d))), z1009, none⟩), some (.m ⟨(.l (.l .d)), t994.2.2, none⟩), none, none]) (b_frzM (i := 4) (o := ⟨(.l (.l .d)), t994.2.2, none⟩) (b_ret (v_and (e_nm (nm_callL (cx := []) (DefM.ofD (ms := [.d, .d]) D__law_as_due ) hr tk (ao_m (i := 3) (o := ⟨(.o "Heap" (.f "links" (.l (.l .d)) (.f "marked" (.l .d) .d))), z1009, none⟩) (ao_d (e_var (i := 4)) ao_nil)) (by repeat (first | exact UsOk.nil | apply UsOk.d | refine UsOk.m rfl rfl (by first | exact .inl ⟨_, rfl⟩ | exact .inr ⟨_, _, rfl⟩) (by decide) ?_)) (len_own (len_cons len_nil)))) (v_one (e_call D__law_as_due hr tk (a_cons (e_nmF (nm_methL0 (i := 3) (o := ⟨(.o "Heap" (.f "links" (.l (.l .d)) (.f "marked" (.l .d) .d))), z1009, none⟩) (cx := []) MM_Heap_twin co hr tk (by repeat (first | exact UsOk.nil | apply UsOk.d | refine UsOk.m rfl rfl (by first | exact .inl ⟨_, rfl⟩ | exact .inr ⟨_, _, rfl⟩) (by decide) ?_)))) (a_cons (e_var (i := 4)) a_nil))))))))))))) po S.nd)))))) po S.nd))) po S.nd))) S.nd))) S.nd))) S.nd))) S.nd))
end
end NS
namespace Pu
open PySem Mi L2
abbrev iL (xs : List Int) : List D := xs.map PyData.int
theorem bi (a b : Int) : (a == b) = decide (a = b) := by
  by_cases h : a = b <;> simp [h]
theorem addD_int (a b : Int) : addD (.int a) (.int b) = some (.int (a + b)) := rfl
theorem subD_int (a b : Int) : subD (.int a) (.int b) = some (.int (a - b)) := rfl
theorem modD_int (a b : Int) : modD (.int a) (.int b) = if 0 < b then some (.int (a % b)) else none := by
  simp [modD, iiO]
theorem fdivD_int (a b : Int) : fdivD (.int a) (.int b) = if 0 < b ∧ b.natAbs < 2 ^ 200 then some (.int (a / b)) else none := by
  simp [fdivD, iiO]
theorem mulD_int (a b : Int) : mulD (.int a) (.int b) = if a.natAbs < 2 ^ 200 ∧ b.natAbs < 2 ^ 200 then some (.int (a * b)) else none := by
  simp [mulD, iiO]
theorem powD_int (a b : Int) : powD (.int a) (.int b) = if 0 ≤ b ∧ b ≤ 1000 ∧ a.natAbs < 2 ^ 64 then some (.int (a ^ b.toNat)) else none := by
  simp [powD, iiO]
theorem small200 {a : Int} (h : -1000000000000000000000000000000 < a) (h2 : a < 1000000000000000000000000000000) : a.natAbs < 2 ^ 200 := by
  have h3 : a.natAbs < 1000000000000000000000000000000 := by omega
  exact Nat.lt_of_lt_of_le h3 (by decide)
theorem modD_ok {a b : Int} (h : 0 < b) : modD (.int a) (.int b) = some (.int (a % b)) := by
  rw [modD_int, if_pos h]
theorem fdivD_ok {a b : Int} (h : 0 < b) (h2 : b < 1000000000000000000000000000000) : fdivD (.int a) (.int b) = some (.int (a / b)) := by
  rw [fdivD_int, if_pos ⟨h, small200 (by omega) h2⟩]
theorem mulD_ok {a b : Int} (h : -1000000000000000000000000000000 < a) (h2 : a < 1000000000000000000000000000000) (h3 : -1000000000000000000000000000000 < b) (h4 : b < 1000000000000000000000000000000) : mulD (.int a) (.int b) = some (.int (a * b)) := by
  rw [mulD_int, if_pos ⟨small200 h h2, small200 h3 h4⟩]
theorem ltB_int (a b : Int) : ltB (.int a) (.int b) = some (decide (a < b)) := rfl
theorem leB_int (a b : Int) : leB (.int a) (.int b) = some (decide (a ≤ b)) := rfl
theorem gtB_int (a b : Int) : gtB (.int a) (.int b) = some (decide (b < a)) := rfl
theorem geB_int (a b : Int) : geB (.int a) (.int b) = some (decide (b ≤ a)) := rfl
theorem eqB_int (a b : Int) : eqB (.int a) (.int b) = some (decide (a = b)) := by
  have h : eqOk (.int a) (.int b) = true := rfl
  unfold eqB
  rw [if_pos h, PyData.eqv, bi]
theorem neB_int (a b : Int) : neB (.int a) (.int b) = some (!decide (a = b)) := by
  have h : eqOk (.int a) (.int b) = true := rfl
  unfold neB
  rw [if_pos h, PyData.eqv, bi]
theorem eqB_bool (a b : Bool) : eqB (.bool a) (.bool b) = some (a == b) := by
  have h : eqOk (.bool a) (.bool b) = true := rfl
  unfold eqB
  rw [if_pos h, PyData.eqv]
theorem neB_bool (a b : Bool) : neB (.bool a) (.bool b) = some (!(a == b)) := by
  have h : eqOk (.bool a) (.bool b) = true := rfl
  unfold neB
  rw [if_pos h, PyData.eqv]
theorem eqB_str (a b : Str) : eqB (.str a) (.str b) = some (decide (a = b)) := by
  have h : eqOk (.str a) (.str b) = true := rfl
  unfold eqB
  rw [if_pos h, PyData.eqv]
  congr 1
theorem neB_str (a b : Str) : neB (.str a) (.str b) = some (!decide (a = b)) := by
  have h : eqOk (.str a) (.str b) = true := rfl
  unfold neB
  rw [if_pos h, PyData.eqv]
  congr 1
theorem plain_iL : ∀ xs : List Int, PyData.plainAll (iL xs) = true
  | [] => rfl
  | x :: xs => by
    show (PyData.plain (.int x) && PyData.plainAll (iL xs)) = true
    rw [plain_iL xs]
    rfl
theorem eqvAll_iL : ∀ xs ys : List Int, PyData.eqvAll (iL xs) (iL ys) = decide (xs = ys)
  | [], [] => rfl
  | [], _ :: _ => rfl
  | _ :: _, [] => rfl
  | x :: xs, y :: ys => by
    show (PyData.eqv (.int x) (.int y) && PyData.eqvAll (iL xs) (iL ys)) = _
    rw [eqvAll_iL xs ys, PyData.eqv, bi]
    simp
theorem depth_iL : ∀ xs : List Int, PyData.depthAll (iL xs) ≤ 2
  | [] => by decide
  | x :: xs => by
    have h : PyData.depthAll (iL (x :: xs)) = max (PyData.depth (.int x)) (PyData.depthAll (iL xs)) := rfl
    rw [h]
    exact Nat.max_le.mpr ⟨Nat.le_of_ble_eq_true rfl, depth_iL xs⟩
theorem eqB_lI (xs ys : List Int) : eqB (.list (iL xs)) (.list (iL ys)) = some (decide (xs = ys)) := by
  have h : eqOk (.list (iL xs)) (.list (iL ys)) = true := by
    have d := depth_iL xs
    have e : PyData.depth (.list (iL xs)) = PyData.depthAll (iL xs) + 1 := rfl
    simp [eqOk, PyData.plain, plain_iL, e]
    omega
  unfold eqB
  rw [if_pos h, PyData.eqv, eqvAll_iL]
theorem neB_lI (xs ys : List Int) : neB (.list (iL xs)) (.list (iL ys)) = some (!decide (xs = ys)) := by
  have h : eqOk (.list (iL xs)) (.list (iL ys)) = true := by
    have d := depth_iL xs
    have e : PyData.depth (.list (iL xs)) = PyData.depthAll (iL xs) + 1 := rfl
    simp [eqOk, PyData.plain, plain_iL, e]
    omega
  unfold neB
  rw [if_pos h, PyData.eqv, eqvAll_iL]
theorem inOk_iL (x : Int) (xs : List Int) : inOk (.int x) (iL xs) = true := by
  have e : PyData.depth (.int x) = 0 ∨ PyData.depth (.int x) = 1 := by first | exact .inl rfl | exact .inr rfl
  have p : PyData.plain (.int x) = true := rfl
  simp only [inOk, p, plain_iL, Bool.and_self, Bool.true_and, Bool.or_eq_true, decide_eq_true_eq]
  omega
theorem memD_iL (x : Int) (xs : List Int) : memD (.int x) (iL xs) = decide (x ∈ xs) := by
  induction xs with
  | nil => rfl
  | cons y ys ih =>
    have h : memD (.int x) (iL (y :: ys)) = (PyData.eqv (.int y) (.int x) || memD (.int x) (iL ys)) := rfl
    rw [h, ih, PyData.eqv, bi]
    by_cases q : y = x
    · simp [q]
    · simp [q, Ne.symm q]
theorem ninB_lI (x : Int) (xs : List Int) : ninB (.int x) (.list (iL xs)) = some (!decide (x ∈ xs)) := by
  show (if inOk (.int x) (iL xs) = true then some (!memD (.int x) (iL xs)) else none) = _
  rw [if_pos (inOk_iL x xs), memD_iL]
theorem place_iL (x : Int) (xs : List Int) (h : x ∈ xs) : SeqAt.dataPlace (iL xs) (.int x) = some (xs.idxOf x) := by
  unfold SeqAt.dataPlace
  induction xs with
  | nil => cases h
  | cons y ys ih =>
    show List.findIdx? _ (PyData.int y :: iL ys) = _
    rw [List.findIdx?_cons, PyData.eqv, List.idxOf_cons]
    by_cases q : y = x
    · simp [q]
    · have hm : x ∈ ys := by
        rcases List.mem_cons.mp h with z | z
        · exact absurd z.symm q
        · exact z
      rw [ih hm]
      have b : (y == x) = false := by simpa using q
      simp [b]
theorem index_lI (x : Int) (xs : List Int) (h : x ∈ xs) (z : xs.length ≤ cap) : indexD (.list (iL xs)) (.int x) = some (.int (xs.idxOf x : Nat)) := by
  show (if inOk (.int x) (iL xs) = true ∧ (iL xs).length ≤ cap then (SeqAt.dataPlace (iL xs) (.int x)).map fun j => PyData.int (j : Nat) else none) = _
  rw [if_pos ⟨inOk_iL x xs, by simpa using z⟩, place_iL x xs h]
  rfl
theorem lenD_l (xs : List D) : lenD (.list xs) = some (.int xs.length) := rfl
theorem lenD_t (xs : List D) : lenD (.tuple xs) = some (.int xs.length) := rfl
theorem at_nat {xs : List D} {j : Nat} {d : D} (h : xs[j]? = some d) : atI xs (j : Int) = some d := L2.atI_nat h
theorem item_lI {xs : List Int} {j : Nat} {x : Int} (h : xs[j]? = some x) : itemD (.list (iL xs)) (.int (j : Nat)) = some (.int x) := at_nat (by rw [List.getElem?_map, h]; rfl)
theorem mkL_nil : mkL [] = some [] := rfl
theorem loop_at {β τ : Type} {f : D → τ → Fl τ τ} (P : Nat → τ → Prop) : ∀ (xs : List D) (i : Nat) (t : τ), P i t → (∀ (j : Nat) (x : D) (t : τ), xs[j]? = some x → P (i + j) t → ∃ t', (f x t = .nx t' ∨ f x t = .ct t') ∧ P (i + j + 1) t') →
    ∃ t', (loopF xs t f : Fl β τ) = .nx t' ∧ P (i + xs.length) t'
  | [], i, t, h, _ => ⟨t, rfl, h⟩
  | x :: xs, i, t, h, hs => by
    obtain ⟨t1, e1, p1⟩ := hs 0 x t rfl h
    obtain ⟨t2, e2, p2⟩ := loop_at (β := β) P xs (i + 1) t1 p1 fun j y u hy hp => by
      obtain ⟨t', a, b⟩ := hs (j + 1) y u (by simpa using hy) (by rw [show i + (j + 1) = i + 1 + j by omega]; exact hp)
      exact ⟨t', a, by rw [show i + 1 + j + 1 = i + (j + 1) + 1 by omega]; exact b⟩
    refine ⟨t2, ?_, by rw [List.length_cons, show i + (xs.length + 1) = i + 1 + xs.length by omega]; exact p2⟩
    rw [loopF]
    rcases e1 with e1 | e1 <;> rw [e1] <;> exact e2
theorem loop_ok {β τ : Type} {f : D → τ → Fl τ τ} {xs : List D} {t : τ} (P : Nat → τ → Prop) (h : P 0 t) (hs : ∀ (j : Nat) (x : D) (t : τ), xs[j]? = some x → P j t → ∃ t', (f x t = .nx t' ∨ f x t = .ct t') ∧ P (j + 1) t') :
    ∃ t', (loopF xs t f : Fl β τ) = .nx t' ∧ P xs.length t' := by
  obtain ⟨t', e, p⟩ := loop_at (β := β) P xs 0 t h fun j x t hx hp => by
    rw [Nat.zero_add] at hp
    rw [Nat.zero_add]
    exact hs j x t hx hp
  exact ⟨t', e, by rw [Nat.zero_add] at p; exact p⟩
theorem lc_all {xs : List D} {c : D → Res Bool} {f : D → Res D} {g : D → D} (hz : xs.length ≤ cap) (hc : ∀ x ∈ xs, c x = .ok true) (hf : ∀ x ∈ xs, f x = .ok (g x)) : lcC xs c f = .ok (xs.map g) := by
  unfold lcC
  rw [if_pos hz]
  clear hz
  induction xs with
  | nil => rfl
  | cons x xs ih =>
    rw [lcF, hc x (by simp)]
    show (match f x with
      | .ok y => (lcF xs c f).bind fun ys => .ok (y :: ys)
      | _ => .no) = _
    rw [hf x (by simp)]
    show (lcF xs c f).bind _ = _
    rw [ih (fun y hy => hc y (by simp [hy])) fun y hy => hf y (by simp [hy])]
    rfl
theorem lc_some {xs : List D} {c : D → Res Bool} {f : D → Res D} {p : D → Bool} {g : D → D} (hz : xs.length ≤ cap) (hc : ∀ x ∈ xs, c x = .ok (p x)) (hf : ∀ x ∈ xs, p x = true → f x = .ok (g x)) : lcC xs c f = .ok ((xs.filter p).map g) := by
  unfold lcC
  rw [if_pos hz]
  clear hz
  induction xs with
  | nil => rfl
  | cons x xs ih =>
    have ih2 := ih (fun y hy => hc y (by simp [hy])) fun y hy => hf y (by simp [hy])
    rw [lcF, hc x (by simp)]
    cases q : p x with
    | false =>
      show lcF xs c f = _
      rw [ih2, List.filter_cons_of_neg (by simp [q])]
    | true =>
      show (match f x with
        | .ok y => (lcF xs c f).bind fun ys => .ok (y :: ys)
        | _ => .no) = _
      rw [hf x (by simp) q]
      show (lcF xs c f).bind _ = _
      rw [ih2, List.filter_cons_of_pos q]
      rfl
theorem rng1_nat (n : Nat) (h : n < 2 ^ 62) : rng1 (.int (n : Nat)) = some (rngL 0 n) := by
  unfold rng1
  have h2 : (n : Int) < 2 ^ 62 ∧ -(2 ^ 62) ≤ (n : Int) := by omega
  simp only [h2, and_self, if_true, Int.toNat_natCast]
theorem rng_at {lo : Int} {n j : Nat} {x : D} (h : (rngL lo n)[j]? = some x) : j < n ∧ x = .int (lo + (j : Nat)) := by
  have hj : j < n := by
    have := (List.getElem?_eq_some_iff.mp h).1
    rwa [rngL_len] at this
  rw [rngL_get hj] at h
  exact ⟨hj, (Option.some.inj h).symm⟩
def Nx {β τ : Type} (r : Fl β τ) (P : τ → Prop) : Prop := ∃ t, r = .nx t ∧ P t
def Rt {β τ : Type} (r : Fl β τ) (P : D → Prop) : Prop := ∃ d, r = .rt d ∧ P d
def Ok {α : Type} (r : Res α) (P : α → Prop) : Prop := ∃ a, r = .ok a ∧ P a
section
variable {α β τ υ ω : Type}
theorem Nx.bind {r : Fl β τ} {k : τ → Fl β υ} {P : τ → Prop} {Q : υ → Prop} (h : Nx r P) (hk : ∀ t, P t → Nx (k t) Q) : Nx (r.bind k) Q := by
  obtain ⟨t, e, p⟩ := h
  rw [e]
  exact hk t p
theorem Rt.bind {r : Fl β τ} {k : τ → Fl β υ} {P : τ → Prop} {Q : D → Prop} (h : Nx r P) (hk : ∀ t, P t → Rt (k t) Q) : Rt (r.bind k) Q := by
  obtain ⟨t, e, p⟩ := h
  rw [e]
  exact hk t p
theorem Nx.bindF {r : Res α} {k : α → Fl β τ} {P : α → Prop} {Q : τ → Prop} (h : Ok r P) (hk : ∀ t, P t → Nx (k t) Q) : Nx (r.bindF k) Q := by
  obtain ⟨t, e, p⟩ := h
  rw [e]
  exact hk t p
theorem Rt.bindF {r : Res α} {k : α → Fl β τ} {P : α → Prop} {Q : D → Prop} (h : Ok r P) (hk : ∀ t, P t → Rt (k t) Q) : Rt (r.bindF k) Q := by
  obtain ⟨t, e, p⟩ := h
  rw [e]
  exact hk t p
theorem Nx.mk {t : τ} {P : τ → Prop} (h : P t) : Nx (.nx t : Fl β τ) P := ⟨t, rfl, h⟩
theorem Rt.mk {d : D} {P : D → Prop} (h : P d) : Rt (.rt d : Fl β τ) P := ⟨d, rfl, h⟩
theorem Ok.mk {a : α} {P : α → Prop} (h : P a) : Ok (.ok a) P := ⟨a, rfl, h⟩
theorem Nx.imp {r : Fl β τ} {P Q : τ → Prop} (h : Nx r P) (k : ∀ t, P t → Q t) : Nx r Q := let ⟨t, e, p⟩ := h; ⟨t, e, k t p⟩
theorem Nx.loop {f : D → τ → Fl τ τ} {xs : List D} {t : τ} (P : Nat → τ → Prop) (h : P 0 t) (hs : ∀ (j : Nat) (x : D) (t : τ), xs[j]? = some x → P j t → Nx (f x t) (P (j + 1))) : Nx (loopF xs t f : Fl β τ) (P xs.length) :=
  loop_ok P h fun j x t hx hp => let ⟨t', e, p⟩ := hs j x t hx hp; ⟨t', .inl e, p⟩
theorem Rt.res {r : Fl Empty Unit} {P : D → Prop} (h : Rt r P) : ∃ d, r.res = .ok d ∧ P d := let ⟨d, e, p⟩ := h; ⟨d, by rw [e]; rfl, p⟩
end
end Pu
namespace Pu
open PySem Mi L2
def cstep (s : List Int × List Int) (l : Int) : List Int × List Int := if l = 0 then (s.1, s.2 ++ [0]) else if l ∈ s.1 then (s.1, s.2 ++ [((s.1.idxOf l : Nat) : Int) + 1]) else (s.1 ++ [l], s.2 ++ [(((s.1 ++ [l]).idxOf l : Nat) : Int) + 1])
def canonP (ls : List Int) : List Int := (ls.foldl cstep ([], [])).2
/-- two rows of labels that say the same: the labels at the same places correspond one to one, 0 to 0 -/
def Eqv (ls ms : List Int) : Prop := ∃ R : Int → Int → Prop, (∀ a b c d, R a b → R c d → (a = c ↔ b = d)) ∧ R 0 0 ∧ ls.length = ms.length ∧ ∀ i, i < ls.length → R (ls.getD i 0) (ms.getD i 0)
theorem Eqv.refl (ls : List Int) : Eqv ls ls := ⟨fun a b => a = b, fun a b c d h1 h2 => by subst h1; subst h2; exact Iff.rfl, rfl, rfl, fun _ _ => rfl⟩
theorem Eqv.symm {ls ms : List Int} (h : Eqv ls ms) : Eqv ms ls := by
  obtain ⟨R, p, z, l, r⟩ := h
  exact ⟨fun a b => R b a, fun a b c d h1 h2 => (p b a d c h1 h2).symm, z, l.symm, fun i hi => r i (by omega)⟩
theorem Eqv.trans {ls ms ns : List Int} (h : Eqv ls ms) (k : Eqv ms ns) : Eqv ls ns := by
  obtain ⟨R, p, z, l, r⟩ := h
  obtain ⟨S, p2, z2, l2, r2⟩ := k
  refine ⟨fun a c => ∃ b, R a b ∧ S b c, fun a b c d h1 h2 => ?_, ⟨0, z, z2⟩, l.trans l2, fun i hi => ⟨_, r i hi, r2 i (by omega)⟩⟩
  obtain ⟨m1, x1, y1⟩ := h1
  obtain ⟨m2, x2, y2⟩ := h2
  exact (p _ _ _ _ x1 x2).trans (p2 _ _ _ _ y1 y2)
theorem Eqv.len {ls ms : List Int} (h : Eqv ls ms) : ls.length = ms.length := by
  obtain ⟨R, p, z, l, r⟩ := h
  exact l
theorem Eqv.tie {ls ms : List Int} (h : Eqv ls ms) {i j : Nat} (hi : i < ls.length) (hj : j < ls.length) : ls.getD i 0 = ls.getD j 0 ↔ ms.getD i 0 = ms.getD j 0 := by
  obtain ⟨R, p, z, l, r⟩ := h
  exact p _ _ _ _ (r i hi) (r j hj)
theorem Eqv.zero {ls ms : List Int} (h : Eqv ls ms) {i : Nat} (hi : i < ls.length) : ls.getD i 0 = 0 ↔ ms.getD i 0 = 0 := by
  obtain ⟨R, p, z, l, r⟩ := h
  exact p _ _ _ _ (r i hi) z
theorem Eqv.mk' {ls ms : List Int} (l : ls.length = ms.length) (t : ∀ i j, i < ls.length → j < ls.length → (ls.getD i 0 = ls.getD j 0 ↔ ms.getD i 0 = ms.getD j 0)) (z : ∀ i, i < ls.length → (ls.getD i 0 = 0 ↔ ms.getD i 0 = 0)) : Eqv ls ms := by
  refine ⟨fun a b => (a = 0 ∧ b = 0) ∨ ∃ i, i < ls.length ∧ a = ls.getD i 0 ∧ b = ms.getD i 0, fun a b c d h1 h2 => ?_, .inl ⟨rfl, rfl⟩, l, fun i hi => .inr ⟨i, hi, rfl, rfl⟩⟩
  rcases h1 with ⟨rfl, rfl⟩ | ⟨i, hi, rfl, rfl⟩
  · rcases h2 with ⟨rfl, rfl⟩ | ⟨j, hj, rfl, rfl⟩
    · simp
    · rw [eq_comm, z j hj, eq_comm]
  · rcases h2 with ⟨rfl, rfl⟩ | ⟨j, hj, rfl, rfl⟩
    · exact z i hi
    · exact t i j hi hj
theorem getD_map (f : Int → Int) (ls : List Int) {i : Nat} (hi : i < ls.length) : (ls.map f).getD i 0 = f (ls.getD i 0) := by
  rw [List.getD_eq_getElem?_getD, List.getD_eq_getElem?_getD, List.getElem?_map, List.getElem?_eq_getElem hi]
  rfl
theorem getD_set (ls : List Int) (i k : Nat) (v : Int) (hk : k < ls.length) : (ls.set i v).getD k 0 = if i = k then v else ls.getD k 0 := by
  rw [List.getD_eq_getElem?_getD, List.getElem?_set, List.getD_eq_getElem?_getD]
  by_cases e : i = k
  · subst e
    simp [hk]
  · simp [e]
theorem Eqv.set {ls ms : List Int} (h : Eqv ls ms) (i : Nat) (v w : Int) (t : ∀ k, k < ls.length → k ≠ i → (ls.getD k 0 = v ↔ ms.getD k 0 = w)) (z : v = 0 ↔ w = 0) : Eqv (ls.set i v) (ms.set i w) := by
  have l := h.len
  refine Eqv.mk' (by simp [l]) (fun a b ha hb => ?_) fun a ha => ?_
  · rw [List.length_set] at ha hb
    rw [getD_set _ _ _ _ ha, getD_set _ _ _ _ hb, getD_set _ _ _ _ (by omega), getD_set _ _ _ _ (by omega)]
    by_cases e1 : i = a
    · by_cases e2 : i = b
      · rw [if_pos e1, if_pos e2, if_pos e1, if_pos e2]
        simp
      · rw [if_pos e1, if_neg e2, if_pos e1, if_neg e2, eq_comm, t b hb (Ne.symm e2), eq_comm]
    · by_cases e2 : i = b
      · rw [if_neg e1, if_pos e2, if_neg e1, if_pos e2, t a ha (Ne.symm e1)]
      · rw [if_neg e1, if_neg e2, if_neg e1, if_neg e2]
        exact h.tie ha hb
  · rw [List.length_set] at ha
    rw [getD_set _ _ _ _ ha, getD_set _ _ _ _ (by omega)]
    by_cases e1 : i = a
    · rw [if_pos e1, if_pos e1]
      exact z
    · rw [if_neg e1, if_neg e1]
      exact h.zero ha
theorem Eqv.map {ls ms : List Int} (h : Eqv ls ms) (f g : Int → Int) (hf : ∀ i j, i < ls.length → j < ls.length → (f (ls.getD i 0) = f (ls.getD j 0) ↔ g (ms.getD i 0) = g (ms.getD j 0))) (hz : ∀ i, i < ls.length → (f (ls.getD i 0) = 0 ↔ g (ms.getD i 0) = 0)) : Eqv (ls.map f) (ms.map g) := by
  have l := h.len
  refine Eqv.mk' (by simp [l]) (fun a b ha hb => ?_) fun a ha => ?_
  · rw [List.length_map] at ha hb
    rw [getD_map _ _ ha, getD_map _ _ hb, getD_map _ _ (by omega), getD_map _ _ (by omega)]
    exact hf a b ha hb
  · rw [List.length_map] at ha
    rw [getD_map _ _ ha, getD_map _ _ (by omega)]
    exact hz a ha
/-- the class of goes joins the class of stays -/
def joinP (ls : List Int) (stays goes : Int) : List Int := ls.map fun l => if l = goes then stays else l
theorem Eqv.join {ls ms : List Int} (h : Eqv ls ms) {i j i2 j2 : Nat} (hi : i < ls.length) (hj : j < ls.length) (hs : (i2 = i ∧ j2 = j) ∨ (i2 = j ∧ j2 = i)) (z1 : ls.getD j 0 = 0 → ls.getD i 0 = 0) (z2 : ms.getD j2 0 = 0 → ms.getD i2 0 = 0) :
    Eqv (joinP ls (ls.getD i 0) (ls.getD j 0)) (joinP ms (ms.getD i2 0) (ms.getD j2 0)) := by
  refine h.map _ _ (fun a b ha hb => ?_) fun a ha => ?_
  · have t1 := h.tie ha hb
    have ai := h.tie ha hi
    have aj := h.tie ha hj
    have bi := h.tie hb hi
    have bj := h.tie hb hj
    have ij := h.tie hi hj
    generalize ls.getD a 0 = x at *
    generalize ls.getD b 0 = y at *
    generalize ls.getD i 0 = c at *
    generalize ls.getD j 0 = d at *
    rcases hs with ⟨rfl, rfl⟩ | ⟨rfl, rfl⟩ <;> grind
  · have ai := h.tie ha hi
    have aj := h.tie ha hj
    have za := h.zero ha
    have zi := h.zero hi
    have zj := h.zero hj
    have ij := h.tie hi hj
    rcases hs with ⟨rfl, rfl⟩ | ⟨rfl, rfl⟩ <;> grind
section
variable {β τ υ α : Type}
def NR (r : Fl β τ) (P : τ → Prop) (Q : D → Prop) : Prop := (∃ t, r = .nx t ∧ P t) ∨ ∃ d, r = .rt d ∧ Q d
theorem NR.nx {t : τ} {P : τ → Prop} {Q : D → Prop} (h : P t) : NR (.nx t : Fl β τ) P Q := .inl ⟨t, rfl, h⟩
theorem NR.rt {d : D} {P : τ → Prop} {Q : D → Prop} (h : Q d) : NR (.rt d : Fl β τ) P Q := .inr ⟨d, rfl, h⟩
theorem NR.bind {r : Fl β τ} {k : τ → Fl β υ} {P : τ → Prop} {P' : υ → Prop} {Q : D → Prop} (h : NR r P Q) (hk : ∀ t, P t → NR (k t) P' Q) : NR (r.bind k) P' Q := by
  rcases h with ⟨t, e, p⟩ | ⟨d, e, q⟩
  · rw [e]
    exact hk t p
  · rw [e]
    exact .inr ⟨d, rfl, q⟩
theorem NR.imp {r : Fl β τ} {P P' : τ → Prop} {Q Q' : D → Prop} (h : NR r P Q) (h1 : ∀ t, P t → P' t) (h2 : ∀ d, Q d → Q' d) : NR r P' Q' := by
  rcases h with ⟨t, e, p⟩ | ⟨d, e, q⟩
  · exact .inl ⟨t, e, h1 t p⟩
  · exact .inr ⟨d, e, h2 d q⟩
theorem NR.bindF {r : Res α} {k : α → Fl β τ} {R : α → Prop} {P : τ → Prop} {Q : D → Prop} (h : Ok r R) (hk : ∀ t, R t → NR (k t) P Q) : NR (r.bindF k) P Q := by
  obtain ⟨t, e, p⟩ := h
  rw [e]
  exact hk t p
end
/-- each tie and each away place of the one is one of the other -/
def Finer (xs ys : List Int) : Prop := ∀ i, i < xs.length → (xs.getD i 0 = 0 → ys.getD i 0 = 0) ∧ ∀ j, j < i → xs.getD j 0 = xs.getD i 0 → ys.getD j 0 = ys.getD i 0
theorem Finer.tie {xs ys : List Int} (h : Finer xs ys) {i j : Nat} (hi : i < xs.length) (hj : j < xs.length) (e : xs.getD i 0 = xs.getD j 0) : ys.getD i 0 = ys.getD j 0 := by
  rcases Nat.lt_trichotomy i j with q | q | q
  · exact (h j hj).2 i q e
  · subst q
    rfl
  · exact ((h i hi).2 j q e.symm).symm
theorem Finer.of {xs ys : List Int} (h1 : ∀ i, i < xs.length → xs.getD i 0 = 0 → ys.getD i 0 = 0) (h2 : ∀ i j, i < xs.length → j < xs.length → xs.getD i 0 = xs.getD j 0 → ys.getD i 0 = ys.getD j 0) : Finer xs ys := fun i hi => ⟨h1 i hi, fun j hj e => h2 j i (by omega) hi e⟩
theorem Finer.eqv {xs ys zs ws : List Int} (h : Finer xs ys) (l : ys.length = xs.length) (a : Eqv xs zs) (b : Eqv ys ws) : Finer zs ws := by
  have la := a.len
  refine Finer.of (fun i hi e => ?_) fun i j hi hj e => ?_
  · exact (b.zero (by omega)).mp ((h i (by omega)).1 ((a.zero (by omega)).mpr e))
  · exact (b.tie (by omega) (by omega)).mp (h.tie (by omega) (by omega) ((a.tie (by omega) (by omega)).mpr e))
theorem Finer.refl (xs : List Int) : Finer xs xs := fun _ _ => ⟨fun e => e, fun _ _ e => e⟩
theorem Finer.trans {xs ys zs : List Int} (h : Finer xs ys) (k : Finer ys zs) (l : ys.length = xs.length) : Finer xs zs :=
  Finer.of (fun i hi e => (k i (by omega)).1 ((h i hi).1 e)) fun i j hi hj e => k.tie (by omega) (by omega) (h.tie hi hj e)
def Good (xs ys : List Int) : Prop := ∀ i, i < xs.length → ys.getD i 0 ≠ 0 → xs.getD i 0 ≠ 0 ∧ ∀ j, j < xs.length → ys.getD j 0 ≠ 0 → xs.getD i 0 = xs.getD j 0 → ys.getD i 0 = ys.getD j 0
theorem Good.eqv {xs ys zs ws : List Int} (h : Good xs ys) (l : ys.length = xs.length) (a : Eqv xs zs) (b : Eqv ys ws) : Good zs ws := fun i hi e => by
  have la := a.len
  have zi := b.zero (i := i) (by omega)
  have ai := a.zero (i := i) (by omega)
  obtain ⟨h1, h2⟩ := h i (by omega) fun z => e (zi.mp z)
  refine ⟨fun z => h1 (ai.mpr z), fun j hj f q => ?_⟩
  have zj := b.zero (i := j) (by omega)
  exact (b.tie (by omega) (by omega)).mp (h2 j (by omega) (fun z => f (zj.mp z)) ((a.tie (by omega) (by omega)).mpr q))
theorem Good.refl (xs : List Int) : Good xs xs := fun _ _ e => ⟨e, fun _ _ _ q => q⟩
theorem Good.trans {xs ys zs : List Int} (h : Good xs ys) (k : Good ys zs) (l : ys.length = xs.length) : Good xs zs := fun i hi e => by
  obtain ⟨k1, k2⟩ := k i (by omega) e
  obtain ⟨h1, h2⟩ := h i hi k1
  refine ⟨h1, fun j hj f q => ?_⟩
  obtain ⟨m1, _⟩ := k j (by omega) f
  exact k2 j (by omega) f (h2 j hj m1 q)
theorem Good.anti {xs ys : List Int} (h : Good xs ys) (k : Good ys xs) (l : ys.length = xs.length) : Eqv xs ys := by
  have zz : ∀ i, i < xs.length → (xs.getD i 0 = 0 ↔ ys.getD i 0 = 0) := fun i hi => by
    constructor
    · intro z
      exact Classical.byContradiction fun w => (h i hi w).1 z
    · intro z
      exact Classical.byContradiction fun w => (k i (by omega) w).1 z
  refine Eqv.mk' l.symm (fun i j hi hj => ?_) zz
  by_cases q : xs.getD i 0 = 0
  · have q2 := (zz i hi).mp q
    rw [q, q2, eq_comm, zz j hj, eq_comm]
  · by_cases r : xs.getD j 0 = 0
    · have r2 := (zz j hj).mp r
      rw [r, r2]
      exact zz i hi
    · have q2 : ys.getD i 0 ≠ 0 := fun z => q ((zz i hi).mpr z)
      have r2 : ys.getD j 0 ≠ 0 := fun z => r ((zz j hj).mpr z)
      exact ⟨fun e => (h i hi q2).2 j hj r2 e, fun e => (k i (by omega) q).2 j (by omega) r e⟩
theorem Finer.good {xs ys : List Int} (h : Finer xs ys) : Good xs ys := fun i hi e => ⟨fun z => e ((h i hi).1 z), fun j hj _ q => h.tie hi hj q⟩
theorem Rt.up {β τ : Type} {r : Fl β Empty} {Q : D → Prop} (h : Rt r Q) : Rt (r.up : Fl β τ) Q := by
  obtain ⟨d, e, q⟩ := h
  rw [e]
  exact ⟨d, rfl, q⟩
end Pu
namespace Pu
open PySem Mi L2 Builtin.Str
/-- a text by its signs -/
def tx (cs : List Nat) : Str := ⟨cs.toArray⟩
theorem tx_of (z : Str) : tx z.cps.toList = z := by
  cases z
  simp [tx]
end Pu
namespace Pu
open PySem Mi L2 Builtin.Str
/-- a text of one sign -/
def mk1 (m : Nat) : Str := tx [m]
/-- a text of marks -/
def okM (m : Nat) : Prop := m = 33 ∨ m = 45 ∨ (97 ≤ m ∧ m ≤ 122)
def labM (m k : Nat) : Int := if m = 33 then 0 else if m = 45 then 27 + (k : Nat) else (m : Int) - 96
def labs (ms : List Nat) : List Int := (List.range ms.length).map fun k => labM (ms.getD k 0) k
theorem labs_len (ms : List Nat) : (labs ms).length = ms.length := by simp [labs]
theorem labs_at {ms : List Nat} {k : Nat} (h : k < ms.length) : (labs ms).getD k 0 = labM (ms.getD k 0) k := by
  unfold labs
  rw [List.getD_eq_getElem?_getD, List.getElem?_map, List.getElem?_range h]
  rfl
/-- these marks say that partition -/
structure MK (ms : List Nat) (ls : List Int) : Prop where
  l : ms.length = ls.length
  ok : ∀ k, k < ls.length → okM (ms.getD k 0)
  z : ∀ k, k < ls.length → (ms.getD k 0 = 33 ↔ ls.getD k 0 = 0)
  one : ∀ k, k < ls.length → ms.getD k 0 = 45 → ∀ j, j < ls.length → ls.getD j 0 = ls.getD k 0 → j = k
  tie : ∀ j k, j < ls.length → k < ls.length → 97 ≤ ms.getD j 0 → 97 ≤ ms.getD k 0 → (ms.getD j 0 = ms.getD k 0 ↔ ls.getD j 0 = ls.getD k 0)
theorem MK.eqv {ms : List Nat} {ls : List Int} (h : MK ms ls) : Eqv (labs ms) ls := by
  have hl := h.l
  refine Eqv.mk' (by rw [labs_len]; exact h.l) (fun i j hi hj => ?_) fun i hi => ?_
  · rw [labs_len] at hi hj
    rw [labs_at hi, labs_at hj]
    have oi := h.ok i (by omega)
    have oj := h.ok j (by omega)
    have zi := h.z i (by omega)
    have zj := h.z j (by omega)
    have ni := fun e q => h.one i (by omega) e j (by omega) q
    have nj := fun e q => h.one j (by omega) e i (by omega) q
    have t := h.tie i j (by omega) (by omega)
    have same : i = j → ms.getD i 0 = ms.getD j 0 ∧ ls.getD i 0 = ls.getD j 0 := by
      rintro rfl
      exact ⟨rfl, rfl⟩
    generalize ms.getD i 0 = a at *
    generalize ms.getD j 0 = b at *
    generalize ls.getD i 0 = x at *
    generalize ls.getD j 0 = y at *
    unfold labM
    unfold okM at oi oj
    by_cases a1 : a = 33
    · have x0 := zi.mp a1
      subst x0
      rw [if_pos a1]
      by_cases b1 : b = 33
      · rw [if_pos b1, zj.mp b1]
      · rw [if_neg b1]
        have y0 : ¬ y = 0 := fun z => b1 (zj.mpr z)
        constructor
        · intro e
          split at e <;> omega
        · exact fun e => absurd e.symm y0
    · have x0 : ¬ x = 0 := fun z => a1 (zi.mpr z)
      rw [if_neg a1]
      by_cases b1 : b = 33
      · have y0 := zj.mp b1
        subst y0
        rw [if_pos b1]
        constructor
        · intro e
          split at e <;> omega
        · exact fun e => absurd e x0
      · rw [if_neg b1]
        by_cases a2 : a = 45
        · rw [if_pos a2]
          constructor
          · intro e
            by_cases b2 : b = 45
            · rw [if_pos b2] at e
              exact (same (by omega)).2
            · exact False.elim (by rw [if_neg b2] at e; omega)
          · intro e
            have ij := ni a2 e.symm
            rw [if_pos (by rw [← (same ij.symm).1]; exact a2), ij]
        · rw [if_neg a2]
          by_cases b2 : b = 45
          · rw [if_pos b2]
            constructor
            · intro e
              omega
            · intro e
              exact absurd ((same (nj b2 e)).1.trans b2) a2
          · rw [if_neg b2]
            have ha : 97 ≤ a := by
              rcases oi with w | w | w
              · exact absurd w a1
              · exact absurd w a2
              · exact w.1
            have hb : 97 ≤ b := by
              rcases oj with w | w | w
              · exact absurd w b1
              · exact absurd w b2
              · exact w.1
            have t := t ha hb
            clear zi zj ni nj same oi oj
            constructor
            · intro e
              exact t.mp (by omega)
            · intro e
              rw [t.mpr e]
  · rw [labs_len] at hi
    rw [labs_at hi]
    have oi := h.ok i (by omega)
    have zi := h.z i (by omega)
    generalize ms.getD i 0 = a at *
    unfold labM
    unfold okM at oi
    rw [← zi]
    constructor
    · intro e
      split at e
      · assumption
      · split at e <;> omega
    · exact fun e => if_pos e
end Pu
namespace Pu
open PySem Mi L2
/-- the least partition above cs that has what is asked -/
structure UpTo (req : List Int → Prop) (cs zs : List Int) : Prop where
  l : zs.length = cs.length
  f : Finer cs zs
  r : req zs
  m : ∀ ab : List Int, ab.length = cs.length → Finer cs ab → req ab → Finer zs ab
theorem UpTo.imp {r1 r2 : List Int → Prop} {cs zs : List Int} (h : UpTo r1 cs zs) (e : ∀ z : List Int, z.length = cs.length → (r1 z ↔ r2 z)) : UpTo r2 cs zs := ⟨h.l, h.f, (e zs h.l).mp h.r, fun ab l f r => h.m ab l f ((e ab l).mpr r)⟩
theorem UpTo.eqv {r : List Int → Prop} {as bs xs ys : List Int} (h : UpTo r as xs) (k : UpTo r bs ys) (e : Eqv as bs) : Eqv xs ys := by
  have l := e.len
  have f1 : Finer xs ys := h.m ys (k.l.trans l.symm) (k.f.eqv k.l e.symm (Eqv.refl _)) k.r
  have f2 : Finer ys xs := k.m xs (h.l.trans l) (h.f.eqv h.l e (Eqv.refl _)) h.r
  exact f1.good.anti f2.good (k.l.trans (l.symm.trans h.l.symm))
/-- what a call by these labels asks -/
def SigReq (ls : List Int) (size : Nat) (sp : List Nat) (z : List Int) : Prop := (∀ a b, a < size → b < size → ls.getD a 0 = ls.getD b 0 → z.getD (sp.getD a 0) 0 = z.getD (sp.getD b 0) 0) ∧ ∀ a, a < size → ls.getD a 0 = 0 → z.getD (sp.getD a 0) 0 = 0
section
variable {ms : List Nat} {ls : List Int} {size : Nat} {sp : List Nat} {cs xs ys : List Int}
/-- the demand of a call: every argument is here, what is handed is tied with no other one -/
def CallOk (M sp : List Nat) (ys : List Int) : Prop := (∀ a, a < M.length → ys.getD (sp.getD a 0) 0 ≠ 0) ∧ ∀ k o, k < M.length → o < M.length → M.getD k 0 = 33 → o ≠ k → ys.getD (sp.getD o 0) 0 ≠ ys.getD (sp.getD k 0) 0
theorem CallOk.good {M : List Nat} (c : CallOk M sp ys) (h : Good xs ys) (l : ys.length = xs.length) (hp : ∀ a, a < M.length → sp.getD a 0 < xs.length) : CallOk M sp xs :=
  ⟨fun a ha => (h _ (hp a ha) (c.1 a ha)).1, fun k o hk ho m ne e => c.2 k o hk ho m ne ((h _ (hp o ho) (c.1 o ho)).2 _ (hp k hk) (c.1 k hk) e)⟩
theorem SigReq.up {ls' : List Int} {z : List Int} (f : Finer ls ls') (hs : size ≤ ls.length) (h : SigReq ls' size sp z) : SigReq ls size sp z :=
  ⟨fun a b ha hb e => h.1 a b ha hb (f.tie (by omega) (by omega) e), fun a ha e => h.2 a ha ((f a (by omega)).1 e)⟩
end
end Pu
namespace Pu
open PySem Mi L2
/-- a block: its first statement and the rest -/
inductive Bk where
  | nil
  | s (d : D) (r : Bk)
  | i (a b r : Bk)
  | l (b r : Bk)
namespace Bk
def size : Bk → Nat
  | nil => 0
  | s _ r => 1 + r.size
  | i a b r => 1 + a.size + b.size + r.size
  | l b r => 1 + b.size + r.size
abbrev ifD : D := .tuple [.str "if"]
abbrev loopD : D := .tuple [.str "loop"]
/-- the block as it is passed -/
def enc : Bk → List D
  | nil => []
  | s d r => d :: r.enc
  | i a b r => .tuple [.str "if", .tuple a.enc, .tuple b.enc] :: r.enc
  | l b r => .tuple [.str "loop", .tuple b.enc] :: r.enc
/-- the statements of the places -/
def flat : Bk → List D
  | nil => []
  | s d r => d :: r.flat
  | i a b r => ifD :: (a.flat ++ (b.flat ++ r.flat))
  | l b r => loopD :: (b.flat ++ r.flat)
theorem flat_len : ∀ b : Bk, b.flat.length = b.size
  | nil => rfl
  | s d r => by simp [flat, size, flat_len r]; omega
  | i a b r => by simp [flat, size, flat_len a, flat_len b, flat_len r]; omega
  | l b r => by simp [flat, size, flat_len b, flat_len r]; omega
/-- the first place of a block at p, behind which comes f -/
def fst : Bk → Nat → Nat → Nat
  | nil, _, f => f
  | _, p, _ => p
/-- the successors of the places -/
def nx : Bk → Nat → Nat → List (List Nat)
  | nil, _, _ => []
  | s _ r, p, f => [r.fst (p + 1) f] :: r.nx (p + 1) f
  | i a b r, p, f => [a.fst (p + 1) (r.fst (p + 1 + a.size + b.size) f), b.fst (p + 1 + a.size) (r.fst (p + 1 + a.size + b.size) f)] ::
      (a.nx (p + 1) (r.fst (p + 1 + a.size + b.size) f) ++ (b.nx (p + 1 + a.size) (r.fst (p + 1 + a.size + b.size) f) ++ r.nx (p + 1 + a.size + b.size) f))
  | l b r, p, f => [b.fst (p + 1) p, r.fst (p + 1 + b.size) f] :: (b.nx (p + 1) p ++ r.nx (p + 1 + b.size) f)
theorem nx_len : ∀ (b : Bk) (p f : Nat), (b.nx p f).length = b.size
  | nil, _, _ => rfl
  | s d r, p, f => by simp [nx, size, nx_len r]; omega
  | i a b r, p, f => by simp [nx, size, nx_len a, nx_len b, nx_len r]; omega
  | l b r, p, f => by simp [nx, size, nx_len b, nx_len r]; omega
def edge : Bk → Nat → Nat → Nat → Nat → Prop
  | nil, _, _, _, _ => False
  | s _ r, p, f, x, y => (x = p ∧ y = r.fst (p + 1) f) ∨ r.edge (p + 1) f x y
  | i a b r, p, f, x, y => (x = p ∧ (y = a.fst (p + 1) (r.fst (p + 1 + a.size + b.size) f) ∨ y = b.fst (p + 1 + a.size) (r.fst (p + 1 + a.size + b.size) f))) ∨
      a.edge (p + 1) (r.fst (p + 1 + a.size + b.size) f) x y ∨ b.edge (p + 1 + a.size) (r.fst (p + 1 + a.size + b.size) f) x y ∨ r.edge (p + 1 + a.size + b.size) f x y
  | l b r, p, f, x, y => (x = p ∧ (y = b.fst (p + 1) p ∨ y = r.fst (p + 1 + b.size) f)) ∨ b.edge (p + 1) p x y ∨ r.edge (p + 1 + b.size) f x y
/-- every simple statement keeps q -/
def All (q : D → Prop) : Bk → Prop
  | nil => True
  | s d r => q d ∧ r.All q
  | i a b r => a.All q ∧ b.All q ∧ r.All q
  | l b r => b.All q ∧ r.All q
end Bk
abbrev nL (L : List Nat) : List D := L.map fun j => PyData.int (j : Nat)
/-- v behind each of the places of L -/
def appA (v : Nat) (N : List (List Nat)) (L : List Nat) : List (List Nat) := L.foldl (fun N i => N.modify i (· ++ [v])) N
theorem appA_cons (v : Nat) (N : List (List Nat)) (i : Nat) (L : List Nat) : appA v N (i :: L) = appA v (N.modify i (· ++ [v])) L := rfl
theorem appA_len (v : Nat) : ∀ (L : List Nat) (N : List (List Nat)), (appA v N L).length = N.length
  | [], _ => rfl
  | i :: L, N => by rw [appA_cons, appA_len v L, List.length_modify]
theorem mod_getD {α : Type} (N : List (List α)) (i x : Nat) (h : i < N.length) (f : List α → List α) : (N.modify i f).getD x [] = if i = x then f (N.getD x []) else N.getD x [] := by
  rw [List.getD_eq_getElem?_getD, List.getElem?_modify, List.getD_eq_getElem?_getD]
  by_cases q : i = x
  · subst q
    rw [if_pos rfl, List.getElem?_eq_getElem h]
    simp
  · rw [if_neg q]
    simp [q]
theorem appA_mem (v : Nat) : ∀ (L : List Nat) (N : List (List Nat)), (∀ i ∈ L, i < N.length) → ∀ x y, y ∈ (appA v N L).getD x [] ↔ (y ∈ N.getD x [] ∨ (x ∈ L ∧ y = v))
  | [], N, _, x, y => by simp [appA]
  | i :: L, N, h, x, y => by
    rw [appA_cons, appA_mem v L _ (fun j hj => by rw [List.length_modify]; exact h j (by simp [hj])), mod_getD _ _ _ (h i (by simp))]
    by_cases q : i = x
    · subst q
      rw [if_pos rfl]
      simp only [List.mem_append, List.mem_singleton]
      constructor
      · rintro ((a | a) | ⟨_, a⟩)
        · exact .inl a
        · exact .inr ⟨by simp, a⟩
        · exact .inr ⟨by simp, a⟩
      · rintro (a | ⟨_, a⟩)
        · exact .inl (.inl a)
        · exact .inl (.inr a)
    · rw [if_neg q]
      simp only [List.mem_cons, Ne.symm q, false_or]
theorem appA_cnt (v : Nat) : ∀ (L : List Nat) (N : List (List Nat)), (∀ i ∈ L, i < N.length) → ∀ x, ((appA v N L).getD x []).length = (N.getD x []).length + L.count x
  | [], N, _, x => by simp [appA]
  | i :: L, N, h, x => by
    rw [appA_cons, appA_cnt v L _ (fun j hj => by rw [List.length_modify]; exact h j (by simp [hj])), mod_getD _ _ _ (h i (by simp)), List.count_cons]
    by_cases q : i = x
    · subst q
      simp
      omega
    · rw [if_neg q]
      simp [q]
/-- a block was laid behind N, L -/
structure Laid (b : Bk) (p : Nat) (N : List (List Nat)) (L : List Nat) (N' : List (List Nat)) (L' : List Nat) : Prop where
  len : N'.length = p + b.size
  lt : ∀ i ∈ L', i < p + b.size
  ed : ∀ f x y, (y ∈ N'.getD x [] ∨ (x ∈ L' ∧ y = f)) ↔ ((y ∈ N.getD x [] ∨ (x ∈ L ∧ y = b.fst p f)) ∨ b.edge p f x y)
  ct : ∀ x, (N'.getD x []).length + L'.count x ≤ if x < p then (N.getD x []).length + L.count x else 2
  ln : L'.length ≤ max L.length (2 * b.size)
/-- .. as a branch of the place c -/
structure Brch (b : Bk) (c p : Nat) (N : List (List Nat)) (N' : List (List Nat)) (L' : List Nat) : Prop where
  len : N'.length = p + b.size
  lt : ∀ i ∈ L', i < p + b.size
  ed : ∀ f x y, (y ∈ N'.getD x [] ∨ (x ∈ L' ∧ y = f)) ↔ ((y ∈ N.getD x [] ∨ (x = c ∧ y = b.fst p f)) ∨ b.edge p f x y)
  ct : ∀ x, (N'.getD x []).length + L'.count x ≤ if x < p then (N.getD x []).length + (if x = c then 1 else 0) else 2
  ln : L'.length ≤ 1 + 2 * b.size
theorem Brch.nil (c p : Nat) (N : List (List Nat)) (h : N.length = p) (hc : c < p) : Brch .nil c p N N [c] := by
  refine ⟨h, ?_, fun f x y => ?_, fun x => ?_, by simp⟩
  · simp
    omega
  · simp [Bk.fst, Bk.edge]
  · rw [List.count_singleton]
    by_cases q : x < p
    · rw [if_pos q]
      by_cases z : x = c
      · simp [z]
      · simp [z, Ne.symm z]
    · rw [if_neg q, List.getD_eq_getElem?_getD, List.getElem?_eq_none (by omega)]
      simp
      split <;> omega
theorem Brch.of {b : Bk} {c p : Nat} {N N' : List (List Nat)} {L' : List Nat} (h : N.length = p) (hc : c < p) (hb : b.size ≠ 0) (l : Laid b p (N.modify c (· ++ [p])) [] N' L') : Brch b c p N N' L' := by
  have ef : ∀ f, b.fst p f = p := fun f => by
    cases b with
    | nil => exact absurd rfl hb
    | s => rfl
    | i => rfl
    | l => rfl
  refine ⟨l.len, l.lt, fun f x y => ?_, fun x => ?_, by have := l.ln; simp [-List.getD_eq_getElem?_getD] at this; omega⟩
  · rw [l.ed f x y, mod_getD _ _ _ (by omega), ef]
    by_cases q : c = x
    · subst q
      simp
    · rw [if_neg q]
      simp [Ne.symm q]
  · have := l.ct x
    by_cases q : x < p
    · rw [if_pos q] at this ⊢
      rw [mod_getD _ _ _ (by omega)] at this
      by_cases z : c = x
      · subst z
        simp [-List.getD_eq_getElem?_getD] at this ⊢
        omega
      · rw [if_neg z] at this
        simp [-List.getD_eq_getElem?_getD, Ne.symm z] at this ⊢
        omega
    · rw [if_neg q] at this ⊢
      exact this
theorem app1_getD {α : Type} (N : List (List α)) (x : Nat) : (N ++ [[]]).getD x [] = N.getD x [] := by
  rw [List.getD_eq_getElem?_getD, List.getD_eq_getElem?_getD]
  by_cases q : x < N.length
  · rw [List.getElem?_append_left q]
  · rw [List.getElem?_append_right (by omega), List.getElem?_eq_none (l := N) (by omega)]
    cases h : x - N.length with
    | zero => rfl
    | succ n => rfl
theorem Laid.nil {p : Nat} {N : List (List Nat)} {L : List Nat} (h : N.length = p) (hl : ∀ i ∈ L, i < p) (hc : ∀ x, (N.getD x []).length + L.count x ≤ 2) : Laid .nil p N L N L := by
  refine ⟨h, hl, fun f x y => by simp [Bk.fst, Bk.edge], fun x => ?_, by simp [Bk.size]⟩
  split
  · exact Nat.le_refl _
  · exact hc x
/-- one statement, then the rest -/
theorem Laid.s {d : D} {r : Bk} {p : Nat} {N N' : List (List Nat)} {L L' : List Nat} (h : N.length = p) (hl : ∀ i ∈ L, i < p) (l : Laid r (p + 1) (appA p N L ++ [[]]) [p] N' L') : Laid (.s d r) p N L N' L' := by
  refine ⟨by rw [l.len]; simp [Bk.size]; omega, fun i hi => by have := l.lt i hi; simp [Bk.size]; omega, fun f x y => ?_, fun x => ?_, by have := l.ln; simp [-List.getD_eq_getElem?_getD, Bk.size] at this ⊢; omega⟩
  · rw [l.ed f x y, app1_getD, appA_mem p L N (by rw [h]; exact hl)]
    simp only [Bk.edge, Bk.fst, List.mem_singleton]
    constructor
    · rintro ((q | q) | q)
      · exact .inl q
      · exact .inr (.inl q)
      · exact .inr (.inr q)
    · rintro (q | q | q)
      · exact .inl (.inl q)
      · exact .inl (.inr q)
      · exact .inr q
  · have := l.ct x
    rw [app1_getD, appA_cnt p L N (by rw [h]; exact hl), List.count_singleton] at this
    by_cases q : x < p
    · rw [if_pos q]
      rw [if_pos (by omega)] at this
      have z : ¬ p = x := by omega
      simp [-List.getD_eq_getElem?_getD, z] at this
      exact this
    · rw [if_neg q]
      by_cases z : x = p
      · subst z
        have n0 : (N.getD x []).length = 0 := by
          rw [List.getD_eq_getElem?_getD, List.getElem?_eq_none (by omega)]
          rfl
        have c0 : L.count x = 0 := List.count_eq_zero.mpr fun m => by have := hl x m; omega
        rw [if_pos (by omega), n0, c0, if_pos (by simp)] at this
        omega
      · rw [if_neg (by omega)] at this
        exact this
theorem Laid.i {a b r : Bk} {p : Nat} {N N1 N2 N' : List (List Nat)} {L La Lb L' : List Nat} (h : N.length = p) (hl : ∀ i ∈ L, i < p) (ha : Brch a p (p + 1) (appA p N L ++ [[]]) N1 La) (hb : Brch b p (p + 1 + a.size) N1 N2 Lb)
    (l : Laid r (p + 1 + a.size + b.size) N2 (La ++ Lb) N' L') : Laid (.i a b r) p N L N' L' := by
  refine ⟨by rw [l.len]; simp [Bk.size]; omega, fun i hi => by have := l.lt i hi; simp [Bk.size]; omega, fun f x y => ?_, fun x => ?_, ?_⟩
  · have e1 := l.ed f x y
    have e2 := hb.ed (r.fst (p + 1 + a.size + b.size) f) x y
    have e3 := ha.ed (r.fst (p + 1 + a.size + b.size) f) x y
    rw [app1_getD, appA_mem p L N (by rw [h]; exact hl)] at e3
    simp only [Bk.edge, Bk.fst]
    rw [e1]
    simp only [List.mem_append]
    constructor
    · rintro ((q | ⟨q | q, z⟩) | q)
      · rcases e2.mp (.inl q) with (q2 | q2) | q2
        · rcases e3.mp (.inl q2) with (q3 | q3) | q3
          · exact .inl q3
          · exact .inr (.inl ⟨q3.1, .inl q3.2⟩)
          · exact .inr (.inr (.inl q3))
        · exact .inr (.inl ⟨q2.1, .inr q2.2⟩)
        · exact .inr (.inr (.inr (.inl q2)))
      · rcases e3.mp (.inr ⟨q, z⟩) with (q3 | q3) | q3
        · exact .inl q3
        · exact .inr (.inl ⟨q3.1, .inl q3.2⟩)
        · exact .inr (.inr (.inl q3))
      · rcases e2.mp (.inr ⟨q, z⟩) with (q2 | q2) | q2
        · rcases e3.mp (.inl q2) with (q3 | q3) | q3
          · exact .inl q3
          · exact .inr (.inl ⟨q3.1, .inl q3.2⟩)
          · exact .inr (.inr (.inl q3))
        · exact .inr (.inl ⟨q2.1, .inr q2.2⟩)
        · exact .inr (.inr (.inr (.inl q2)))
      · exact .inr (.inr (.inr (.inr q)))
    · have k1 : (y ∈ N1.getD x [] ∨ (x ∈ La ∧ y = r.fst (p + 1 + a.size + b.size) f)) → ((y ∈ N2.getD x [] ∨ ((x ∈ La ∨ x ∈ Lb) ∧ y = r.fst (p + 1 + a.size + b.size) f)) ∨ r.edge (p + 1 + a.size + b.size) f x y) := by
        rintro (q | ⟨q, z⟩)
        · rcases e2.mpr (.inl (.inl q)) with q2 | ⟨q2, z⟩
          · exact .inl (.inl q2)
          · exact .inl (.inr ⟨.inr q2, z⟩)
        · exact .inl (.inr ⟨.inl q, z⟩)
      have k2 : (y ∈ N2.getD x [] ∨ (x ∈ Lb ∧ y = r.fst (p + 1 + a.size + b.size) f)) → ((y ∈ N2.getD x [] ∨ ((x ∈ La ∨ x ∈ Lb) ∧ y = r.fst (p + 1 + a.size + b.size) f)) ∨ r.edge (p + 1 + a.size + b.size) f x y) := by
        rintro (q | ⟨q, z⟩)
        · exact .inl (.inl q)
        · exact .inl (.inr ⟨.inr q, z⟩)
      rintro (q | ⟨q, z | z⟩ | q | q | q)
      · exact k1 (e3.mpr (.inl (.inl q)))
      · exact k1 (e3.mpr (.inl (.inr ⟨q, z⟩)))
      · exact k2 (e2.mpr (.inl (.inr ⟨q, z⟩)))
      · exact k1 (e3.mpr (.inr q))
      · exact k2 (e2.mpr (.inr q))
      · exact .inr q
  · have c1 := l.ct x
    have c2 := hb.ct x
    have c3 := ha.ct x
    rw [app1_getD, appA_cnt p L N (by rw [h]; exact hl)] at c3
    rw [List.count_append] at c1
    have z0 : ¬ x < p → (N.getD x []).length = 0 := fun q => by
      rw [List.getD_eq_getElem?_getD, List.getElem?_eq_none (by omega)]
      rfl
    have z1 : ¬ x < p → L.count x = 0 := fun q => List.count_eq_zero.mpr fun m => by have := hl x m; omega
    have z2 : ¬ x < p + 1 + a.size → La.count x = 0 := fun q => List.count_eq_zero.mpr fun m => by have := ha.lt x m; omega
    by_cases q : x < p
    · rw [if_pos q]
      rw [if_pos (by omega)] at c1 c2 c3
      have z : ¬ x = p := by omega
      rw [if_neg z] at c2 c3
      omega
    · have y0 := z0 q
      have y1 := z1 q
      rw [if_neg q]
      by_cases q1 : x < p + 1
      · have z : x = p := by omega
        rw [if_pos (by omega)] at c1 c2 c3
        rw [if_pos z] at c2 c3
        omega
      · have z : ¬ x = p := by omega
        rw [if_neg q1] at c3
        by_cases q2 : x < p + 1 + a.size
        · rw [if_pos (by omega)] at c1 c2
          rw [if_neg z] at c2
          omega
        · have y2 := z2 q2
          rw [if_neg q2] at c2
          by_cases q3 : x < p + 1 + a.size + b.size
          · rw [if_pos q3] at c1
            omega
          · rw [if_neg q3] at c1
            omega
  · have h1 := l.ln
    have h2 := ha.ln
    have h3 := hb.ln
    simp only [List.length_append] at h1
    simp only [Bk.size]
    omega
theorem Laid.l {b r : Bk} {p : Nat} {N N1 N' : List (List Nat)} {L Lb L' : List Nat} (h : N.length = p) (hl : ∀ i ∈ L, i < p) (hb : Brch b p (p + 1) (appA p N L ++ [[]]) N1 Lb)
    (l : Laid r (p + 1 + b.size) (appA p N1 Lb) [p] N' L') : Laid (.l b r) p N L N' L' := by
  have lt1 : ∀ i ∈ Lb, i < N1.length := by rw [hb.len]; exact hb.lt
  refine ⟨by rw [l.len]; simp [Bk.size]; omega, fun i hi => by have := l.lt i hi; simp [Bk.size]; omega, fun f x y => ?_, fun x => ?_, ?_⟩
  · have e1 := l.ed f x y
    have e2 := hb.ed p x y
    rw [app1_getD, appA_mem p L N (by rw [h]; exact hl)] at e2
    rw [appA_mem p Lb N1 lt1, e2] at e1
    simp only [Bk.edge, Bk.fst]
    rw [e1]
    simp only [List.mem_singleton]
    constructor
    · rintro ((((q | q) | q) | q) | q)
      · exact .inl q
      · exact .inr (.inl ⟨q.1, .inl q.2⟩)
      · exact .inr (.inr (.inl q))
      · exact .inr (.inl ⟨q.1, .inr q.2⟩)
      · exact .inr (.inr (.inr q))
    · rintro (q | ⟨q, z | z⟩ | q | q)
      · exact .inl (.inl (.inl (.inl q)))
      · exact .inl (.inl (.inl (.inr ⟨q, z⟩)))
      · exact .inl (.inr ⟨q, z⟩)
      · exact .inl (.inl (.inr q))
      · exact .inr q
  · have c1 := l.ct x
    have c2 := hb.ct x
    rw [app1_getD, appA_cnt p L N (by rw [h]; exact hl)] at c2
    rw [appA_cnt p Lb N1 lt1, List.count_singleton] at c1
    have z0 : ¬ x < p → (N.getD x []).length = 0 := fun q => by
      rw [List.getD_eq_getElem?_getD, List.getElem?_eq_none (by omega)]
      rfl
    have z1 : ¬ x < p → L.count x = 0 := fun q => List.count_eq_zero.mpr fun m => by have := hl x m; omega
    by_cases q : x < p
    · rw [if_pos q]
      rw [if_pos (by omega)] at c1 c2
      have z : ¬ x = p := by omega
      rw [if_neg z] at c2
      have z3 : ¬ p = x := by omega
      simp [-List.getD_eq_getElem?_getD, z3] at c1
      omega
    · have y0 := z0 q
      have y1 := z1 q
      rw [if_neg q]
      by_cases q1 : x < p + 1
      · have z : x = p := by omega
        rw [if_pos (by omega)] at c1 c2
        rw [if_pos z] at c2
        subst z
        simp [-List.getD_eq_getElem?_getD] at c1
        omega
      · have z3 : ¬ p = x := by omega
        rw [if_neg q1] at c2
        by_cases q3 : x < p + 1 + b.size
        · rw [if_pos q3] at c1
          simp [-List.getD_eq_getElem?_getD, z3] at c1
          omega
        · rw [if_neg q3] at c1
          omega
  · have h1 := l.ln
    simp at h1
    simp only [Bk.size]
    omega
structure LayOk (N : List (List Nat)) (L : List Nat) (p : Nat) : Prop where
  len : N.length = p
  lt : ∀ i ∈ L, i < p
  ct : ∀ x, (N.getD x []).length + L.count x ≤ 2
theorem getD_out {α : Type} {N : List (List α)} {x : Nat} (h : N.length ≤ x) : N.getD x [] = [] := by
  rw [List.getD_eq_getElem?_getD, List.getElem?_eq_none h]
  rfl
theorem LayOk.mod {N : List (List Nat)} {p c : Nat} (h : LayOk N [] p) (hc : c < p) (h1 : (N.getD c []).length ≤ 1) : LayOk (N.modify c (· ++ [p])) [] p := by
  refine ⟨by rw [List.length_modify]; exact h.len, h.lt, fun x => ?_⟩
  rw [mod_getD _ _ _ (by rw [h.len]; exact hc)]
  have z := h.ct x
  by_cases q : c = x
  · subst q
    rw [if_pos rfl]
    simp [-List.getD_eq_getElem?_getD]
    omega
  · rw [if_neg q]
    exact z
section
variable {N : List (List Nat)} {L : List Nat} {p : Nat}
theorem LayOk.cnt0 (h : LayOk N L p) {x : Nat} (q : ¬ x < p) : L.count x = 0 := List.count_eq_zero.mpr fun m => by have := h.lt x m; omega
theorem LayOk.app (h : LayOk N L p) (x : Nat) : ((appA p N L ++ [[]]).getD x []).length = (N.getD x []).length + L.count x := by
  rw [app1_getD, appA_cnt p L N (by rw [h.len]; exact h.lt)]
theorem LayOk.start (h : LayOk N L p) : LayOk (appA p N L ++ [[]]) [] (p + 1) := by
  refine ⟨by simp [appA_len, h.len], fun i hi => (by cases hi), fun x => ?_⟩
  rw [h.app]
  have := h.ct x
  simp [-List.getD_eq_getElem?_getD]
  omega
theorem LayOk.one (h : LayOk N L p) : LayOk (appA p N L ++ [[]]) [p] (p + 1) := by
  refine ⟨by simp [appA_len, h.len], fun i hi => by rw [List.mem_singleton.mp hi]; omega, fun x => ?_⟩
  rw [h.app]
  have := h.ct x
  by_cases q : x = p
  · subst q
    rw [h.cnt0 (by omega), getD_out (by rw [h.len]; exact Nat.le_refl _)]
    simp
  · have z : ¬ p = x := fun e => q e.symm
    rw [List.count_singleton]
    simp [-List.getD_eq_getElem?_getD, z]
    omega
end
end Pu
namespace Pu
open PySem Mi L2
/-- the successors of a place, in order -/
def Bk.succ (b : Bk) (x : Nat) : List Nat := (List.range (b.size + 1)).filter fun j => decide (j ∈ (b.nx 0 b.size).getD x [])
end Pu
namespace Pu
open PySem Mi L2
end Pu
namespace Pu
open PySem Mi L2
end Pu
namespace Pu
open PySem Mi L2
structure Tr where
  st : D
  ar : Int
  sd : Nat
  dp : Nat
namespace Bk
def tree : Bk → Nat → Int → Nat → Nat → List Tr
  | nil, _, _, _, _ => []
  | s d r, p, ar, sd, dep => ⟨d, ar, sd, dep⟩ :: r.tree (p + 1) ar sd dep
  | i a b r, p, ar, sd, dep => ⟨ifD, ar, sd, dep⟩ :: (a.tree (p + 1) (p : Nat) 0 (dep + 1) ++ (b.tree (p + 1 + a.size) (p : Nat) 1 (dep + 1) ++ r.tree (p + 1 + a.size + b.size) ar sd dep))
  | l b r, p, ar, sd, dep => ⟨loopD, ar, sd, dep⟩ :: (b.tree (p + 1) (p : Nat) 0 (dep + 1) ++ r.tree (p + 1 + b.size) ar sd dep)
theorem tree_len : ∀ (b : Bk) (p : Nat) (ar : Int) (sd dep : Nat), (b.tree p ar sd dep).length = b.size
  | nil, _, _, _, _ => rfl
  | s d r, p, ar, sd, dep => by simp [tree, size, tree_len r]; omega
  | i a b r, p, ar, sd, dep => by simp [tree, size, tree_len a, tree_len b, tree_len r]; omega
  | l b r, p, ar, sd, dep => by simp [tree, size, tree_len b, tree_len r]; omega
/-- one statement alone -/
inductive One (q : D → Prop) : D → Bk → Prop
  | s {d : D} (h : q d) : One q d (.s d .nil)
  | i : One q ifD (.i .nil .nil .nil)
  | l : One q loopD (.l .nil .nil)
theorem One.tree {q : D → Prop} {d : D} {o : Bk} (h : One q d o) (p : Nat) (ar : Int) (sd dep : Nat) : o.tree p ar sd dep = [⟨d, ar, sd, dep⟩] := by
  cases h <;> rfl
theorem One.size {q : D → Prop} {d : D} {o : Bk} (h : One q d o) : o.size = 1 := by cases h <;> rfl
theorem One.all {q : D → Prop} {d : D} {o : Bk} (h : One q d o) : o.All q := by
  cases h with
  | s h => exact ⟨h, trivial⟩
  | i => exact ⟨trivial, trivial, trivial⟩
  | l => exact ⟨trivial, trivial⟩
/-- what is gathered: the blocks of each place, the block at the top -/
structure Gat where
  inn : List (List D × List D)
  top : List D
def Gat.at_ (g : Gat) (k : Nat) : List D × List D := g.inn.getD k ([], [])
/-- a statement ahead of a block -/
def Gat.put (g : Gat) (ar : Int) (sd : Nat) (xs : List D) : Gat := if ar < 0 then ⟨g.inn, xs ++ g.top⟩ else ⟨g.inn.modify ar.toNat fun q => if sd = 0 then (xs ++ q.1, q.2) else (q.1, xs ++ q.2), g.top⟩
/-- the block was put ahead, the places p to e may have changed -/
structure Put (g g' : Gat) (ar : Int) (sd p e : Nat) (xs : List D) : Prop where
  len : g'.inn.length = g.inn.length
  top : g'.top = if ar < 0 then xs ++ g.top else g.top
  at_ : ∀ k, k < p ∨ e ≤ k → g'.at_ k = if (k : Int) = ar then (if sd = 0 then (xs ++ (g.at_ k).1, (g.at_ k).2) else ((g.at_ k).1, xs ++ (g.at_ k).2)) else g.at_ k
theorem Gat.put_at (g : Gat) (ar : Int) (sd : Nat) (xs : List D) (k : Nat) (h : ar < g.inn.length) : (g.put ar sd xs).at_ k = if (k : Int) = ar then (if sd = 0 then (xs ++ (g.at_ k).1, (g.at_ k).2) else ((g.at_ k).1, xs ++ (g.at_ k).2)) else g.at_ k := by
  unfold Gat.put
  by_cases q : ar < 0
  · rw [if_pos q, if_neg (by omega)]
    rfl
  · rw [if_neg q]
    unfold Gat.at_
    simp only []
    rw [List.getD_eq_getElem?_getD, List.getElem?_modify, List.getD_eq_getElem?_getD]
    by_cases e : (k : Int) = ar
    · have e2 : ar.toNat = k := by omega
      rw [if_pos e, e2]
      have hk : k < g.inn.length := by omega
      rw [List.getElem?_eq_getElem hk]
      simp
    · have e2 : ¬ ar.toNat = k := by omega
      rw [if_neg e]
      simp [e2]
theorem Gat.put_top (g : Gat) (ar : Int) (sd : Nat) (xs : List D) : (g.put ar sd xs).top = if ar < 0 then xs ++ g.top else g.top := by
  unfold Gat.put
  split <;> rfl
theorem Put.refl (g : Gat) (ar : Int) (sd p : Nat) : Put g g ar sd p p [] := by
  refine ⟨rfl, by simp, fun k _ => ?_⟩
  split
  · split <;> rfl
  · rfl
theorem ifD_ne_loopD : (ifD : D) ≠ loopD := by
  intro k
  injection k with k
  injection k with k
  injection k with k
  revert k
  decide
/-- what follows each place -/
def fo : Bk → Nat → Nat → List Nat
  | nil, _, _ => []
  | s _ r, p, f => r.fst (p + 1) f :: r.fo (p + 1) f
  | i a b r, p, f => r.fst (p + 1 + a.size + b.size) f :: (a.fo (p + 1) (r.fst (p + 1 + a.size + b.size) f) ++ (b.fo (p + 1 + a.size) (r.fst (p + 1 + a.size + b.size) f) ++ r.fo (p + 1 + a.size + b.size) f))
  | l b r, p, f => r.fst (p + 1 + b.size) f :: (b.fo (p + 1) p ++ r.fo (p + 1 + b.size) f)
theorem fo_len : ∀ (b : Bk) (p f : Nat), (b.fo p f).length = b.size
  | nil, _, _ => rfl
  | s d r, p, f => by simp [fo, size, fo_len r]; omega
  | i a b r, p, f => by simp [fo, size, fo_len a, fo_len b, fo_len r]; omega
  | l b r, p, f => by simp [fo, size, fo_len b, fo_len r]; omega
/-- the first row of a block among rows from q on -/
def sr : List Tr → Nat → Int → Nat → Nat → Nat
  | [], _, _, _, oth => oth
  | t :: ts, q, ar, sd, oth => if t.ar = ar ∧ t.sd = sd then q else sr ts (q + 1) ar sd oth
theorem sr_app : ∀ (xs ys : List Tr) (q : Nat) (ar : Int) (sd oth : Nat), (∀ t ∈ xs, ¬ (t.ar = ar ∧ t.sd = sd)) → sr (xs ++ ys) q ar sd oth = sr ys (q + xs.length) ar sd oth
  | [], ys, q, ar, sd, oth, _ => rfl
  | x :: xs, ys, q, ar, sd, oth, h => by
    show (if x.ar = ar ∧ x.sd = sd then q else sr (xs ++ ys) (q + 1) ar sd oth) = _
    rw [if_neg (h x (by simp)), sr_app xs ys (q + 1) ar sd oth fun t ht => h t (by simp [ht])]
    simp only [List.length_cons]
    rw [show q + 1 + xs.length = q + (xs.length + 1) by omega]
theorem sr_none (xs : List Tr) (q : Nat) (ar : Int) (sd oth : Nat) (h : ∀ t ∈ xs, ¬ (t.ar = ar ∧ t.sd = sd)) : sr xs q ar sd oth = oth := by
  have e := sr_app xs [] q ar sd oth h
  rw [List.append_nil] at e
  exact e
theorem tree_ar : ∀ (b : Bk) (p : Nat) (ar : Int) (sd dep : Nat) (t : Tr), t ∈ b.tree p ar sd dep → (t.ar = ar ∧ t.sd = sd) ∨ ((p : Nat) ≤ t.ar ∧ t.ar < (p + b.size : Nat))
  | nil, _, _, _, _, t, h => by cases h
  | s d r, p, ar, sd, dep, t, h => by
    simp only [Bk.tree, List.mem_cons] at h
    simp only [size]
    rcases h with rfl | h
    · exact .inl ⟨rfl, rfl⟩
    · rcases tree_ar r _ _ _ _ t h with q | q
      · exact .inl q
      · exact .inr (by omega)
  | i a b r, p, ar, sd, dep, t, h => by
    simp only [Bk.tree, List.mem_cons, List.mem_append] at h
    simp only [size]
    rcases h with rfl | h | h | h
    · exact .inl ⟨rfl, rfl⟩
    · rcases tree_ar a _ _ _ _ t h with q | q <;> exact .inr (by omega)
    · rcases tree_ar b _ _ _ _ t h with q | q <;> exact .inr (by omega)
    · rcases tree_ar r _ _ _ _ t h with q | q
      · exact .inl q
      · exact .inr (by omega)
  | l b r, p, ar, sd, dep, t, h => by
    simp only [Bk.tree, List.mem_cons, List.mem_append] at h
    simp only [size]
    rcases h with rfl | h | h
    · exact .inl ⟨rfl, rfl⟩
    · rcases tree_ar b _ _ _ _ t h with q | q <;> exact .inr (by omega)
    · rcases tree_ar r _ _ _ _ t h with q | q
      · exact .inl q
      · exact .inr (by omega)
theorem sr_block (b : Bk) (q : Nat) (ar : Int) (sd dep oth : Nat) (post : List Tr) (h : ∀ t ∈ post, ¬ (t.ar = ar ∧ t.sd = sd)) : sr (b.tree q ar sd dep ++ post) q ar sd oth = b.fst q oth := by
  cases b with
  | nil => exact sr_none post q ar sd oth h
  | s d r => exact if_pos ⟨rfl, rfl⟩
  | i a b r => exact if_pos ⟨rfl, rfl⟩
  | l b r => exact if_pos ⟨rfl, rfl⟩
open Classical in
/-- what follows a block -/
noncomputable def othOf (T : List Tr) (n : Nat) (F : List Nat) (ar : Int) : Nat := if ar < 0 then n else if ((T[ar.toNat]?).map (·.st)) = some ifD then F.getD ar.toNat 0 else ar.toNat
open Classical in
/-- how the law reckons a place -/
structure Loc (T : List Tr) (n : Nat) (F : List Nat) (X : List (List Nat)) (k : Nat) : Prop where
  ok : ∃ t, T[k]? = some t ∧ F.getD k 0 = sr (T.drop (k + 1)) (k + 1) t.ar t.sd (othOf T n F t.ar) ∧
    X.getD k [] = if t.st = ifD then [sr (T.drop (k + 1)) (k + 1) (k : Nat) 0 (F.getD k 0), sr (T.drop (k + 1)) (k + 1) (k : Nat) 1 (F.getD k 0)] else if t.st = loopD then [sr (T.drop (k + 1)) (k + 1) (k : Nat) 0 k, F.getD k 0] else [F.getD k 0]
theorem drop_cons {α : Type} {T : List α} {p : Nat} {x : α} {xs : List α} (h : T.drop p = x :: xs) : T[p]? = some x ∧ T.drop (p + 1) = xs := by
  refine ⟨?_, ?_⟩
  · have e := List.getElem?_drop (xs := T) (i := p) (j := 0)
    rw [h] at e
    simpa using e.symm
  · rw [← List.drop_drop, h]
    rfl
theorem drop_app {α : Type} {T : List α} {p n : Nat} {xs ys : List α} (h : T.drop p = xs ++ ys) (hn : xs.length = n) : T.drop (p + n) = ys := by
  rw [← List.drop_drop, h, ← hn, List.drop_left]
theorem loc {T : List Tr} {n : Nat} {F : List Nat} {X : List (List Nat)} : ∀ (b : Bk) (p : Nat) (ar : Int) (sd dep f : Nat) (post : List Tr), b.All (fun d => d ≠ ifD ∧ d ≠ loopD) → T.drop p = b.tree p ar sd dep ++ post → ar < (p : Nat) → (∀ j, j < b.size → F.getD (p + j) 0 = (b.fo p f).getD j 0) →
    (∀ j, j < b.size → X.getD (p + j) [] = (b.nx p f).getD j []) → f = othOf T n F ar → (∀ t ∈ post, ¬ (t.ar = ar ∧ t.sd = sd)) → (∀ t ∈ post, ¬ ((p : Nat) ≤ t.ar ∧ t.ar < (p + b.size : Nat))) → ∀ k, p ≤ k → k < p + b.size → Loc T n F X k
  | nil, p, ar, sd, dep, f, post, _, _, _, _, _, _, _, _, k, h1, h2 => by simp only [size] at h2; omega
  | s d r, p, ar, sd, dep, f, post, ha, hT, hp, hF, hX, hf, g1, g2, k, h1, h2 => by
    simp only [size] at h2 hF hX g2
    obtain ⟨t1, t2⟩ := drop_cons hT
    by_cases q : k = p
    · subst q
      have f0 := hF 0 (by omega)
      have x0 := hX 0 (by omega)
      rw [Nat.add_zero] at f0 x0
      have f0 : F.getD k 0 = r.fst (k + 1) f := f0
      have x0 : X.getD k [] = [r.fst (k + 1) f] := x0
      refine ⟨⟨d, ar, sd, dep⟩, t1, ?_, ?_⟩
      · rw [t2, f0, hf]
        exact (sr_block r (k + 1) ar sd dep _ post g1).symm
      · rw [x0, f0, if_neg ha.1.1, if_neg ha.1.2]
    · refine loc r (p + 1) ar sd dep f post ha.2 t2 (by omega) (fun j hj => ?_) (fun j hj => ?_) hf g1 (fun t ht => ?_) k (by omega) (by omega)
      · have e := hF (j + 1) (by omega)
        rw [show p + (j + 1) = p + 1 + j by omega] at e
        exact e
      · have e := hX (j + 1) (by omega)
        rw [show p + (j + 1) = p + 1 + j by omega] at e
        exact e
      · have := g2 t ht
        omega
  | i a b r, p, ar, sd, dep, f, post, ha, hT, hp, hF, hX, hf, g1, g2, k, h1, h2 => by
    simp only [size] at h2 hF hX g2
    obtain ⟨t1, t2⟩ := drop_cons hT
    have t2 : T.drop (p + 1) = a.tree (p + 1) (p : Nat) 0 (dep + 1) ++ (b.tree (p + 1 + a.size) (p : Nat) 1 (dep + 1) ++ (r.tree (p + 1 + a.size + b.size) ar sd dep ++ post)) := by
      rw [t2]
      show (a.tree (p + 1) (p : Nat) 0 (dep + 1) ++ (b.tree (p + 1 + a.size) (p : Nat) 1 (dep + 1) ++ r.tree (p + 1 + a.size + b.size) ar sd dep)) ++ post = _
      simp only [List.append_assoc]
    have t3 := drop_app t2 (tree_len _ _ _ _ _)
    have t4 := drop_app t3 (tree_len _ _ _ _ _)
    generalize hg : r.fst (p + 1 + a.size + b.size) f = g
    have f0 : F.getD p 0 = g := by
      have := hF 0 (by omega)
      rw [← hg]
      exact this
    have x0 : X.getD p [] = [a.fst (p + 1) g, b.fst (p + 1 + a.size) g] := by
      have := hX 0 (by omega)
      rw [← hg]
      exact this
    have og : g = othOf T n F (p : Nat) := by
      unfold othOf
      rw [if_neg (show ¬ ((p : Nat) : Int) < 0 by omega), Int.toNat_natCast, t1, if_pos (show Option.map (fun x : Tr => x.st) (some ⟨ifD, ar, sd, dep⟩) = some ifD from rfl), f0]
    have na : ∀ t ∈ a.tree (p + 1) (p : Nat) 0 (dep + 1), ¬ (t.ar = ar ∧ t.sd = sd) := fun t ht => by
      rcases tree_ar a _ _ _ _ t ht with q | q <;> omega
    have nb : ∀ t ∈ b.tree (p + 1 + a.size) (p : Nat) 1 (dep + 1), ¬ (t.ar = ar ∧ t.sd = sd) := fun t ht => by
      rcases tree_ar b _ _ _ _ t ht with q | q <;> omega
    by_cases q : k = p
    · subst q
      refine ⟨⟨ifD, ar, sd, dep⟩, t1, ?_, ?_⟩
      · rw [f0, t2, sr_app _ _ _ _ _ _ na, tree_len, sr_app _ _ _ _ _ _ nb, tree_len, ← hf, sr_block r _ ar sd dep _ post g1, hg]
      · rw [x0, f0, if_pos rfl, t2, sr_block a _ _ _ _ _ _ (fun t ht => by
          simp only [List.mem_append] at ht
          rcases ht with ht | ht | ht
          · rcases tree_ar b _ _ _ _ t ht with q | q <;> omega
          · rcases tree_ar r _ _ _ _ t ht with q | q <;> omega
          · have := g2 t ht
            omega), sr_app _ _ _ _ _ _ (fun t ht => by
          rcases tree_ar a _ _ _ _ t ht with q | q <;> omega), tree_len, sr_block b _ _ _ _ _ _ (fun t ht => by
          simp only [List.mem_append] at ht
          rcases ht with ht | ht
          · rcases tree_ar r _ _ _ _ t ht with q | q <;> omega
          · have := g2 t ht
            omega)]
    · have eF : ∀ j, j < a.size + b.size + r.size → F.getD (p + 1 + j) 0 = (a.fo (p + 1) g ++ (b.fo (p + 1 + a.size) g ++ r.fo (p + 1 + a.size + b.size) f)).getD j 0 := fun j hj => by
        have e := hF (j + 1) (by omega)
        rw [show p + (j + 1) = p + 1 + j by omega] at e
        rw [e, ← hg]
        rfl
      have eX : ∀ j, j < a.size + b.size + r.size → X.getD (p + 1 + j) [] = (a.nx (p + 1) g ++ (b.nx (p + 1 + a.size) g ++ r.nx (p + 1 + a.size + b.size) f)).getD j [] := fun j hj => by
        have e := hX (j + 1) (by omega)
        rw [show p + (j + 1) = p + 1 + j by omega] at e
        rw [e, ← hg]
        rfl
      by_cases qa : k < p + 1 + a.size
      · refine loc a (p + 1) (p : Nat) 0 (dep + 1) g _ ha.1 t2 (by omega) (fun j hj => ?_) (fun j hj => ?_) og (fun t ht => ?_) (fun t ht => ?_) k (by omega) (by omega)
        · rw [eF j (by omega), List.getD_eq_getElem?_getD, List.getD_eq_getElem?_getD, List.getElem?_append_left (by rw [fo_len]; exact hj)]
        · rw [eX j (by omega), List.getD_eq_getElem?_getD, List.getD_eq_getElem?_getD, List.getElem?_append_left (by rw [nx_len]; exact hj)]
        · simp only [List.mem_append] at ht
          rcases ht with ht | ht | ht
          · rcases tree_ar b _ _ _ _ t ht with q | q <;> omega
          · rcases tree_ar r _ _ _ _ t ht with q | q <;> omega
          · have := g2 t ht
            omega
        · simp only [List.mem_append] at ht
          rcases ht with ht | ht | ht
          · rcases tree_ar b _ _ _ _ t ht with q | q <;> omega
          · rcases tree_ar r _ _ _ _ t ht with q | q <;> omega
          · have := g2 t ht
            omega
      · by_cases qb : k < p + 1 + a.size + b.size
        · refine loc b (p + 1 + a.size) (p : Nat) 1 (dep + 1) g _ ha.2.1 t3 (by omega) (fun j hj => ?_) (fun j hj => ?_) og (fun t ht => ?_) (fun t ht => ?_) k (by omega) (by omega)
          · rw [show p + 1 + a.size + j = p + 1 + (a.size + j) by omega, eF _ (by omega), List.getD_eq_getElem?_getD, List.getD_eq_getElem?_getD, List.getElem?_append_right (by rw [fo_len]; omega), fo_len, Nat.add_sub_cancel_left, List.getElem?_append_left (by rw [fo_len]; exact hj)]
          · rw [show p + 1 + a.size + j = p + 1 + (a.size + j) by omega, eX _ (by omega), List.getD_eq_getElem?_getD, List.getD_eq_getElem?_getD, List.getElem?_append_right (by rw [nx_len]; omega), nx_len, Nat.add_sub_cancel_left, List.getElem?_append_left (by rw [nx_len]; exact hj)]
          · simp only [List.mem_append] at ht
            rcases ht with ht | ht
            · rcases tree_ar r _ _ _ _ t ht with q | q <;> omega
            · have := g2 t ht
              omega
          · simp only [List.mem_append] at ht
            rcases ht with ht | ht
            · rcases tree_ar r _ _ _ _ t ht with q | q <;> omega
            · have := g2 t ht
              omega
        · refine loc r (p + 1 + a.size + b.size) ar sd dep f _ ha.2.2 t4 (by omega) (fun j hj => ?_) (fun j hj => ?_) hf g1 (fun t ht => ?_) k (by omega) (by omega)
          · rw [show p + 1 + a.size + b.size + j = p + 1 + (a.size + (b.size + j)) by omega, eF _ (by omega), List.getD_eq_getElem?_getD, List.getD_eq_getElem?_getD, List.getElem?_append_right (by rw [fo_len]; omega), fo_len, Nat.add_sub_cancel_left, List.getElem?_append_right (by rw [fo_len]; omega), fo_len, Nat.add_sub_cancel_left]
          · rw [show p + 1 + a.size + b.size + j = p + 1 + (a.size + (b.size + j)) by omega, eX _ (by omega), List.getD_eq_getElem?_getD, List.getD_eq_getElem?_getD, List.getElem?_append_right (by rw [nx_len]; omega), nx_len, Nat.add_sub_cancel_left, List.getElem?_append_right (by rw [nx_len]; omega), nx_len, Nat.add_sub_cancel_left]
          · have := g2 t ht
            omega
  | l b r, p, ar, sd, dep, f, post, ha, hT, hp, hF, hX, hf, g1, g2, k, h1, h2 => by
    simp only [size] at h2 hF hX g2
    obtain ⟨t1, t2⟩ := drop_cons hT
    have t2 : T.drop (p + 1) = b.tree (p + 1) (p : Nat) 0 (dep + 1) ++ (r.tree (p + 1 + b.size) ar sd dep ++ post) := by
      rw [t2]
      show (b.tree (p + 1) (p : Nat) 0 (dep + 1) ++ r.tree (p + 1 + b.size) ar sd dep) ++ post = _
      simp only [List.append_assoc]
    have t4 := drop_app t2 (tree_len _ _ _ _ _)
    have f0 : F.getD p 0 = r.fst (p + 1 + b.size) f := hF 0 (by omega)
    have x0 : X.getD p [] = [b.fst (p + 1) p, r.fst (p + 1 + b.size) f] := hX 0 (by omega)
    have og : p = othOf T n F (p : Nat) := by
      unfold othOf
      rw [if_neg (show ¬ ((p : Nat) : Int) < 0 by omega), Int.toNat_natCast, t1, if_neg (show ¬ Option.map (fun x : Tr => x.st) (some ⟨loopD, ar, sd, dep⟩) = some ifD from fun z => ifD_ne_loopD (Option.some.inj z).symm)]
    have nb : ∀ t ∈ b.tree (p + 1) (p : Nat) 0 (dep + 1), ¬ (t.ar = ar ∧ t.sd = sd) := fun t ht => by
      rcases tree_ar b _ _ _ _ t ht with q | q <;> omega
    by_cases q : k = p
    · subst q
      refine ⟨⟨loopD, ar, sd, dep⟩, t1, ?_, ?_⟩
      · rw [f0, t2, sr_app _ _ _ _ _ _ nb, tree_len, ← hf, sr_block r _ ar sd dep _ post g1]
      · rw [x0, f0, if_neg (fun z => ifD_ne_loopD z.symm), if_pos rfl, t2, sr_block b _ _ _ _ _ _ (fun t ht => by
          simp only [List.mem_append] at ht
          rcases ht with ht | ht
          · rcases tree_ar r _ _ _ _ t ht with q | q <;> omega
          · have := g2 t ht
            omega)]
    · have eF : ∀ j, j < b.size + r.size → F.getD (p + 1 + j) 0 = (b.fo (p + 1) p ++ r.fo (p + 1 + b.size) f).getD j 0 := fun j hj => by
        have e := hF (j + 1) (by omega)
        rw [show p + (j + 1) = p + 1 + j by omega] at e
        rw [e]
        rfl
      have eX : ∀ j, j < b.size + r.size → X.getD (p + 1 + j) [] = (b.nx (p + 1) p ++ r.nx (p + 1 + b.size) f).getD j [] := fun j hj => by
        have e := hX (j + 1) (by omega)
        rw [show p + (j + 1) = p + 1 + j by omega] at e
        rw [e]
        rfl
      by_cases qb : k < p + 1 + b.size
      · refine loc b (p + 1) (p : Nat) 0 (dep + 1) p _ ha.1 t2 (by omega) (fun j hj => ?_) (fun j hj => ?_) og (fun t ht => ?_) (fun t ht => ?_) k (by omega) (by omega)
        · rw [eF j (by omega), List.getD_eq_getElem?_getD, List.getD_eq_getElem?_getD, List.getElem?_append_left (by rw [fo_len]; exact hj)]
        · rw [eX j (by omega), List.getD_eq_getElem?_getD, List.getD_eq_getElem?_getD, List.getElem?_append_left (by rw [nx_len]; exact hj)]
        · simp only [List.mem_append] at ht
          rcases ht with ht | ht
          · rcases tree_ar r _ _ _ _ t ht with q | q <;> omega
          · have := g2 t ht
            omega
        · simp only [List.mem_append] at ht
          rcases ht with ht | ht
          · rcases tree_ar r _ _ _ _ t ht with q | q <;> omega
          · have := g2 t ht
            omega
      · refine loc r (p + 1 + b.size) ar sd dep f _ ha.2 t4 (by omega) (fun j hj => ?_) (fun j hj => ?_) hf g1 (fun t ht => ?_) k (by omega) (by omega)
        · rw [show p + 1 + b.size + j = p + 1 + (b.size + j) by omega, eF _ (by omega), List.getD_eq_getElem?_getD, List.getD_eq_getElem?_getD, List.getElem?_append_right (by rw [fo_len]; omega), fo_len, Nat.add_sub_cancel_left]
        · rw [show p + 1 + b.size + j = p + 1 + (b.size + j) by omega, eX _ (by omega), List.getD_eq_getElem?_getD, List.getD_eq_getElem?_getD, List.getElem?_append_right (by rw [nx_len]; omega), nx_len, Nat.add_sub_cancel_left]
        · have := g2 t ht
          omega
/-- no list is longer than j -/
structure GLen (g : Gat) (j : Nat) : Prop where
  top : g.top.length ≤ j
  inn : ∀ k, (g.at_ k).1.length ≤ j ∧ (g.at_ k).2.length ≤ j
theorem GLen.put {g : Gat} {j : Nat} (h : GLen g j) {ar : Int} {sd : Nat} {x : D} (ha : ar < g.inn.length) : GLen (g.put ar sd [x]) (j + 1) := by
  refine ⟨?_, fun k => ?_⟩
  · rw [Gat.put_top]
    have := h.top
    split
    · simp
      omega
    · omega
  · rw [Gat.put_at _ _ _ _ _ ha]
    have := h.inn k
    split
    · split
      · simp
        omega
      · simp
        omega
    · omega
end Bk
end Pu
namespace Pu
open PySem Mi L2
end Pu
namespace Pu
open PySem Mi L2
namespace Bk
/-- the statements of the places from p on are those that f tells -/
def Agree (f : Nat → D) (b : Bk) (p x : Nat) : Prop := ∀ j d, p + j < x → b.flat[j]? = some d → f (p + j) = d
theorem Agree.s {f : Nat → D} {d : D} {r : Bk} {p x : Nat} (h : Agree f (s d r) p x) : (p < x → f p = d) ∧ Agree f r (p + 1) x := by
  refine ⟨fun q => h 0 d (by omega) rfl, fun j e hj he => ?_⟩
  have := h (j + 1) e (by omega) (by simpa [flat] using he)
  rw [show p + 1 + j = p + (j + 1) by omega]
  exact this
theorem Agree.i {f : Nat → D} {a b r : Bk} {p x : Nat} (h : Agree f (i a b r) p x) : (p < x → f p = ifD) ∧ Agree f a (p + 1) x ∧ Agree f b (p + 1 + a.size) x ∧ Agree f r (p + 1 + a.size + b.size) x := by
  have la := flat_len a
  have lb := flat_len b
  refine ⟨fun q => h 0 _ (by omega) rfl, fun j e hj he => ?_, fun j e hj he => ?_, fun j e hj he => ?_⟩
  · have hl := (List.getElem?_eq_some_iff.mp he).1
    have := h (j + 1) e (by omega) (by
      show (a.flat ++ (b.flat ++ r.flat))[j]? = some e
      rw [List.getElem?_append_left hl]
      exact he)
    rw [show p + 1 + j = p + (j + 1) by omega]
    exact this
  · have hl := (List.getElem?_eq_some_iff.mp he).1
    have := h (a.size + j + 1) e (by omega) (by
      show (a.flat ++ (b.flat ++ r.flat))[a.size + j]? = some e
      rw [List.getElem?_append_right (by omega), la, Nat.add_sub_cancel_left, List.getElem?_append_left hl]
      exact he)
    rw [show p + 1 + a.size + j = p + (a.size + j + 1) by omega]
    exact this
  · have := h (a.size + b.size + j + 1) e (by omega) (by
      show (a.flat ++ (b.flat ++ r.flat))[a.size + b.size + j]? = some e
      rw [List.getElem?_append_right (by omega), List.getElem?_append_right (by omega), la, lb, show a.size + b.size + j - a.size - b.size = j by omega]
      exact he)
    rw [show p + 1 + a.size + b.size + j = p + (a.size + b.size + j + 1) by omega]
    exact this
theorem Agree.l {f : Nat → D} {b r : Bk} {p x : Nat} (h : Agree f (l b r) p x) : (p < x → f p = loopD) ∧ Agree f b (p + 1) x ∧ Agree f r (p + 1 + b.size) x := by
  have lb := flat_len b
  refine ⟨fun q => h 0 _ (by omega) rfl, fun j e hj he => ?_, fun j e hj he => ?_⟩
  · have hl := (List.getElem?_eq_some_iff.mp he).1
    have := h (j + 1) e (by omega) (by
      show (b.flat ++ r.flat)[j]? = some e
      rw [List.getElem?_append_left hl]
      exact he)
    rw [show p + 1 + j = p + (j + 1) by omega]
    exact this
  · have := h (b.size + j + 1) e (by omega) (by
      show (b.flat ++ r.flat)[b.size + j]? = some e
      rw [List.getElem?_append_right (by omega), lb, Nat.add_sub_cancel_left]
      exact he)
    rw [show p + 1 + b.size + j = p + (b.size + j + 1) by omega]
    exact this
end Bk
end Pu
namespace Pu
open Mi L2 PySem
namespace Bk
def app : Bk → Bk → Bk
  | nil, c => c
  | s d r, c => s d (r.app c)
  | i a b r, c => i a b (r.app c)
  | l b r, c => l b (r.app c)
end Bk
/-- an open statement: a loop, an if in its first block, an if in its second one -/
inductive Fr where
  | lp (b : Bk)
  | th (a : Bk)
  | el (a b : Bk)
namespace Fr
def size : Fr → Nat
  | lp b => b.size
  | th a => a.size
  | el a b => a.size + b.size
/-- behind a block of the innermost open statement -/
def put (c : Bk) : Fr → Fr
  | lp b => lp (b.app c)
  | th a => th (a.app c)
  | el a b => el a (b.app c)
end Fr
/-- the block of a statement alone -/
def Bk.one (d : D) : Bk := .s d .nil
def NE {β τ : Type} (r : Fl β τ) (P : τ → Prop) (Q : Str → List D → Prop) : Prop := (∃ t, r = .nx t ∧ P t) ∨ ∃ c e, r = .ex c e ∧ Q c e
section
variable {β τ υ : Type}
theorem NE.nx {t : τ} {P : τ → Prop} {Q : Str → List D → Prop} (h : P t) : NE (.nx t : Fl β τ) P Q := .inl ⟨t, rfl, h⟩
theorem NE.ex {c : Str} {e : List D} {P : τ → Prop} {Q : Str → List D → Prop} (h : Q c e) : NE (.ex c e : Fl β τ) P Q := .inr ⟨c, e, rfl, h⟩
theorem NE.of {r : Fl β τ} {P : τ → Prop} {Q : Str → List D → Prop} (h : Nx r P) : NE r P Q := let ⟨t, e, p⟩ := h; .inl ⟨t, e, p⟩
theorem NE.bind {r : Fl β τ} {k : τ → Fl β υ} {P : τ → Prop} {P' : υ → Prop} {Q : Str → List D → Prop} (h : NE r P Q) (hk : ∀ t, P t → NE (k t) P' Q) : NE (r.bind k) P' Q := by
  rcases h with ⟨t, rfl, p⟩ | ⟨c, e, rfl, q⟩
  · exact hk t p
  · exact .inr ⟨c, e, rfl, q⟩
end
end Pu
namespace NS
open Pu Mi L2 PySem
theorem p_at (row : List Int) (k : Nat) : m__law_at [.list (iL row), .int (k : Nat)] = .ok (.int (row.getD k 0)) := by
  show (o__law_at _ _).res = _
  unfold o__law_at
  simp -implicitDefEqProofs only [Res.bind_ok, Res.bindF_ok, lenD_l, ofO_some, ltB_int, List.length_map]
  by_cases h : k < row.length
  · have e : row[k]? = some (row.getD k 0) := by simp [List.getD_eq_getElem?_getD, h]
    have h1 : ((k : Int) < (row.length : Int)) := by omega
    simp -implicitDefEqProofs only [h1, decide_true, if_true, item_lI e, ofO_some, Res.bind_ok, Res.bindF_ok, Fl.up_rt, Fl.res_rt]
  · have h1 : ¬ ((k : Int) < (row.length : Int)) := by omega
    have e : row.getD k 0 = 0 := by simp [List.getD_eq_getElem?_getD, Nat.le_of_not_lt h]
    simp -implicitDefEqProofs only [h1, decide_false, Bool.false_eq_true, if_false, Fl.res_rt, e]
/-- a row of draws -/
structure Row (row : List Int) : Prop where
  rng : ∀ x ∈ row, 0 ≤ x ∧ x < 1000000
  len : row.length ≤ 5000
theorem Row.at_ {row : List Int} (r : Row row) (k : Nat) : 0 ≤ row.getD k 0 ∧ row.getD k 0 < 1000000 := by
  rw [List.getD_eq_getElem?_getD]
  cases h : row[k]? with
  | none => simp
  | some x => exact r.rng x (List.mem_of_getElem? h)
theorem intD_int (i : Int) : intD (.int i) = some (.int i) := rfl
theorem p_draws (ns : List Int) (hl : ns.length ≤ 63) : ∃ row, m__law_draws [scrD ns] = .ok (.list (iL row)) ∧ Row row := by
  have main : Rt (o__law_draws (scrD ns)) fun d => ∃ row, d = .list (iL row) ∧ (∀ x ∈ row, 0 ≤ x ∧ x < 1000000) ∧ row.length ≤ 60 * ns.length := by
    unfold o__law_draws
    have hln : ofO (lenD (scrD ns)) = Res.ok (.int (ns.length : Nat)) := by simp [scrD, lenD]
    have hmin : ofO (minD (.int 63) (.int (ns.length : Nat))) = Res.ok (.int (ns.length : Nat)) := by
      have : (if (ns.length : Int) < 63 then (ns.length : Int) else 63) = (ns.length : Int) := by split <;> omega
      simp -implicitDefEqProofs only [minD, ofO_some, this]
    simp -implicitDefEqProofs only [Res.bind_ok, Res.bindF_ok, mkL_nil, ofO_some, hln, hmin, rng1_nat ns.length (by omega)]
    refine Rt.bind (Nx.loop (fun j t => ∃ row, t = iL row ∧ (∀ x ∈ row, 0 ≤ x ∧ x < 1000000) ∧ row.length ≤ 60 * j) ⟨[], rfl, by simp, by simp⟩ ?_) ?_
    rotate_left
    · rintro t ⟨row, rfl, h2, h3⟩
      exact Rt.mk ⟨row, rfl, h2, by rw [rngL_len] at h3; exact h3⟩
    · rintro j x t hx ⟨row, rfl, h2, h3⟩
      obtain ⟨hj, rfl⟩ := rng_at hx
      rw [Int.zero_add]
      have hn : ns[j]? = some ns[j] := List.getElem?_eq_getElem hj
      have hit : itemD (scrD ns) (.int (j : Nat)) = some (.int ns[j]) := at_nat (by rw [List.getElem?_map, hn]; rfl)
      generalize ns[j] = c at hit
      simp -implicitDefEqProofs only [Res.bind_ok, Res.bindF_ok, hit, ofO_some, intD, ltB_int, subD_int]
      -- the cell without its sign
      refine Nx.bind (P := fun t => ∃ c2 lo : Int, 0 ≤ c2 ∧ 0 ≤ lo ∧ lo ≤ 1 ∧ t = (.int c2, .int lo)) ?_ ?_
      · by_cases q : c < 0
        · simp -implicitDefEqProofs only [q, decide_true, if_true]
          exact Nx.mk ⟨0 - c, 1, by omega, by omega, by omega, rfl⟩
        · simp -implicitDefEqProofs only [q, decide_false, Bool.false_eq_true, if_false]
          exact Nx.mk ⟨c, 0, by omega, by omega, by omega, rfl⟩
      rintro _ ⟨c2, lo, hc2, hlo, hlo2, rfl⟩
      have hp : (10 : Int) ^ (18 : Int).toNat = 1000000000000000000 := by decide
      have hp2 : (0 ≤ (18 : Int) ∧ (18 : Int) ≤ 1000 ∧ (10 : Int).natAbs < 2 ^ 64) := by decide
      simp -implicitDefEqProofs only [Fl.bind_nx, powD_int, ofO_some, Res.bind_ok, geB_int, hp2, hp, if_true, and_self, Res.bindF_ok]
      refine Nx.bind (P := fun t => ∃ row, t.1 = iL row ∧ (∀ x ∈ row, 0 ≤ x ∧ x < 1000000) ∧ row.length ≤ 60 * (j + 1)) ?_ fun t h => Nx.mk h
      by_cases big : (1000000000000000000 : Int) ≤ c2
      · have r60 : rng1 (.int 60) = some (rngL 0 60) := rng1_nat 60 (by decide)
        simp -implicitDefEqProofs only [big, decide_true, if_true, r60, ofO_some, Res.bindF_ok]
        refine Nx.bind (Nx.loop (fun i (t : List D × D) => ∃ row c, t = (iL row, .int c) ∧ (∀ x ∈ row, 0 ≤ x ∧ x < 1000000) ∧ row.length ≤ 60 * j + i) ⟨row, c2, rfl, h2, h3⟩ ?_) ?_
        rotate_left
        · rintro t ⟨row, c, rfl, h2, h3⟩
          exact Nx.mk ⟨row, rfl, h2, by rw [rngL_len] at h3; omega⟩
        · rintro i x t hi ⟨row, c, rfl, h2, h3⟩
          have hi60 := (rng_at hi).1
          simp -implicitDefEqProofs only [gtB_int, ofO_some, Res.bindF_ok, Res.bind_ok, intD]
          refine Nx.bind (P := fun (t : List D × D) => ∃ row c, t = (iL row, .int c) ∧ (∀ x ∈ row, 0 ≤ x ∧ x < 1000000) ∧ row.length ≤ 60 * j + (i + 1)) ?_ fun t h => Nx.mk h
          by_cases q : 0 < c
          · simp -implicitDefEqProofs (disch := omega) only [q, decide_true, if_true, modD_ok, fdivD_ok, ofO_some, Res.bindF_ok, Res.bind_ok, intD]
            have hz : (iL row).length < cap := by
              rw [List.length_map]
              unfold cap
              omega
            rw [if_pos hz]
            refine Nx.mk ⟨row ++ [c % 1000000], c / 1000000, by simp, fun x hx => ?_, by simp; omega⟩
            rcases List.mem_append.mp hx with z | z
            · exact h2 x z
            · rw [List.mem_singleton.mp z]
              omega
          · simp -implicitDefEqProofs only [q, decide_false, Bool.false_eq_true, if_false]
            exact Nx.mk ⟨row, c, rfl, h2, by omega⟩
      · simp -implicitDefEqProofs only [big, decide_false, Bool.false_eq_true, if_false]
        have hk : (((j : Int) + 1) * ((j : Int) + 7)) ≤ 4480 ∧ 0 ≤ (((j : Int) + 1) * ((j : Int) + 7)) := by
          have h5 : (j + 1) * (j + 7) ≤ 64 * 70 := Nat.mul_le_mul (by omega) (by omega)
          have h6 : (((j + 1) * (j + 7) : Nat) : Int) = ((j : Int) + 1) * ((j : Int) + 7) := by push_cast; rfl
          rw [← h6]
          omega
        obtain ⟨hk1, hk2⟩ := hk
        generalize hkk : (((j : Int) + 1) * ((j : Int) + 7)) = kk at hk1 hk2
        have s1 : addD (.int (j : Nat)) (.int 1) = some (.int ((j : Int) + 1)) := rfl
        have s2 : addD (.int (j : Nat)) (.int 7) = some (.int ((j : Int) + 7)) := rfl
        have s3 : mulD (.int ((j : Int) + 1)) (.int ((j : Int) + 7)) = some (.int kk) := by
          rw [mulD_ok (by omega) (by omega) (by omega) (by omega), hkk]
        simp -implicitDefEqProofs only [s1, s2, s3, ofO_some, Res.bind_ok]
        simp -implicitDefEqProofs (disch := omega) only [addD_int, mulD_ok, modD_ok, ofO_some, Res.bind_ok, Res.bindF_ok, intD]
        have hz : (iL row).length < cap := by
          rw [List.length_map]
          unfold cap
          omega
        rw [if_pos hz]
        generalize hm : (_ % 1000000 : Int) = m
        have hm2 : 0 ≤ m ∧ m < 1000000 := by
          rw [← hm]
          omega
        refine Nx.mk ⟨row ++ [m], by simp, fun x hx => ?_, by simp; omega⟩
        rcases List.mem_append.mp hx with z | z
        · exact h2 x z
        · rw [List.mem_singleton.mp z]
          exact hm2
  obtain ⟨d, e, row, rfl, h2, h3⟩ := main.res
  exact ⟨row, e, h2, by omega⟩
def okC (c : Nat) : Bool := decide (97 ≤ c) && decide (c ≤ 122)
def okName (n : Str) : Bool := decide (1 ≤ n.length) && decide (n.length ≤ 8) && n.cps.toList.all okC
structure GoodN (names : List Str) : Prop where
  nd : names.Nodup
  ok : ∀ n ∈ names, okName n = true
theorem k_ib (i : Int) : isiT "bool" (.int i) = some false := by
  show kitB "int" "bool" = _
  decide +kernel
theorem k_ii (i : Int) : isiT "int" (.int i) = some true := by
  show kitB "int" "int" = _
  decide +kernel
theorem itemsD_l (xs : List D) : itemsD (.list xs) = some xs := rfl
theorem itemsD_t (xs : List D) : itemsD (.tuple xs) = some xs := rfl
theorem lc_map {α β : Type} {A : α → D} {B : β → D} {xs : List α} {f : D → Res D} {h : α → β} (hz : xs.length ≤ cap) (hf : ∀ x ∈ xs, f (A x) = .ok (B (h x))) : lcC (xs.map A) (fun _ => .ok true) f = .ok ((xs.map h).map B) := by
  unfold lcC
  rw [if_pos (by rw [List.length_map]; exact hz)]
  clear hz
  induction xs with
  | nil => rfl
  | cons x xs ih =>
    rw [List.map_cons, lcF]
    show (match f (A x) with
      | .ok y => (lcF (xs.map A) _ f).bind fun ys => .ok (y :: ys)
      | _ => .no) = _
    rw [hf x (by simp)]
    show (lcF (xs.map A) _ f).bind _ = _
    rw [ih fun y hy => hf y (by simp [hy])]
    rfl
theorem asB_bool (b : Bool) : asB (.bool b) = some b := rfl
theorem intD_bool (b : Bool) : intD (.bool b) = some (.int (if b = true then 1 else 0)) := rfl
theorem blO_bool (b : Bool) : blO (.bool b) = some b := rfl
/-- a comprehension, without a look at its text -/
theorem lc_ok {α β : Type} {A : α → D} {B : β → D} {xs : List α} {c : D → Res Bool} {f : D → Res D} (h : α → β) (hz : xs.length ≤ cap) (hc : ∀ x ∈ xs, c (A x) = .ok true) (hf : ∀ x ∈ xs, f (A x) = .ok (B (h x))) : Ok (lcC (xs.map A) c f) fun ys => ys = (xs.map h).map B := by
  refine ⟨_, ?_, rfl⟩
  have e := lc_all (xs := xs.map A) (c := c) (f := f) (g := fun d => match f d with
    | .ok y => y
    | _ => .none) (by rw [List.length_map]; exact hz) (fun y hy => by
      obtain ⟨x, hx, rfl⟩ := List.mem_map.mp hy
      exact hc x hx) fun y hy => by
      obtain ⟨x, hx, rfl⟩ := List.mem_map.mp hy
      rw [hf x hx]
  rw [e, List.map_map, List.map_map]
  congr 1
  refine List.map_congr_left fun x hx => ?_
  show (match f (A x) with
    | .ok y => y
    | _ => PyData.none) = _
  rw [hf x hx]
  rfl
theorem lc_rng {β : Type} {B : β → D} {n : Nat} {c : D → Res Bool} {f : D → Res D} (h : Nat → β) (hz : n ≤ cap) (hc : ∀ k, k < n → c (.int (k : Nat)) = .ok true) (hf : ∀ k, k < n → f (.int (k : Nat)) = .ok (B (h k))) : Ok (lcC (rngL 0 n) c f) fun ys => ys = ((List.range n).map h).map B := by
  have e : rngL 0 n = (List.range n).map fun k => PyData.int ((k : Nat) : Int) := by
    unfold rngL
    simp
  rw [e]
  exact lc_ok h (by rw [List.length_range]; exact hz) (fun k hk => hc k (List.mem_range.mp hk)) fun k hk => hf k (List.mem_range.mp hk)
/-- a row of ints, as a list or as a tuple -/
def IsI (d : D) (xs : List Int) : Prop := d = .list (iL xs) ∨ d = .tuple (iL xs)
theorem IsI.len {d : D} {xs : List Int} (h : IsI d xs) : lenD d = some (.int (xs.length : Nat)) := by
  rcases h with rfl | rfl <;> simp [lenD]
def rowOk (xs ys : List Int) (i : Nat) : Prop := (xs.getD i 0 = 0 → ys.getD i 0 = 0) ∧ ∀ j, j < i → xs.getD j 0 = xs.getD i 0 → ys.getD j 0 = ys.getD i 0
theorem GoodN.drop {names : List Str} (g : GoodN names) (k : Nat) : GoodN (names.drop k) := ⟨g.nd.sublist (List.drop_sublist k names), fun n h => g.ok n (List.mem_of_mem_drop h)⟩
theorem rowOk_up {other cs cs' : List Int} (h : Finer cs cs') {k : Nat} (hk : k < cs.length) (r : rowOk other cs k) : rowOk other cs' k := ⟨fun e => (h k hk).1 (r.1 e), fun j hj e => (h k hk).2 j hj (r.2 j hj e)⟩
/-- on the way to the least state above both -/
structure Cof (codes other : List Int) (i : Nat) (cs : List Int) : Prop where
  l : cs.length = codes.length
  nn : ∀ c ∈ cs, 0 ≤ c
  up : Finer codes cs
  lo : ∀ ab : List Int, ab.length = codes.length → Finer codes ab → Finer other ab → Finer cs ab
  rw_ : ∀ k, k < i → rowOk other cs k
  cn : canonP codes = codes → canonP cs = cs
theorem Cof.go {codes other cs cs' : List Int} {i : Nat} (h : Cof codes other i cs) (l : cs'.length = cs.length) (nn : ∀ c ∈ cs', 0 ≤ c) (up : Finer cs cs') (lo : ∀ ab : List Int, ab.length = cs.length → Finer cs ab → Finer other ab → Finer cs' ab) (hi : i ≤ cs.length) (cn : canonP cs' = cs') : Cof codes other i cs' :=
  ⟨l.trans h.l, nn, h.up.trans up h.l, fun ab la a b => lo ab (la.trans h.l.symm) (h.lo ab la a b) b, fun k hk => rowOk_up up (by omega) (h.rw_ k hk), fun _ => cn⟩
theorem lc_rngF {n : Nat} {c : D → Res Bool} {f : D → Res D} (p : Nat → Bool) (hz : n ≤ cap) (hc : ∀ k, k < n → c (.int (k : Nat)) = .ok (p k)) (hf : ∀ k, k < n → f (.int (k : Nat)) = .ok (.int (k : Nat))) : lcC (rngL 0 n) c f = .ok (iL (((List.range n).filter p).map fun k => ((k : Nat) : Int))) := by
  have e : rngL 0 n = (List.range n).map fun k => PyData.int ((k : Nat) : Int) := by
    unfold rngL
    simp
  have lc := lc_some (xs := rngL 0 n) (c := c) (f := f) (p := fun d => match d with
    | .int k => p k.toNat
    | _ => false) (g := fun d => d) (by rw [rngL_len]; exact hz) (fun x hx => by
      obtain ⟨i, hi⟩ := List.mem_iff_getElem?.mp hx
      obtain ⟨h1, rfl⟩ := rng_at hi
      rw [Int.zero_add, hc i h1]
      rfl) fun x hx _ => by
      obtain ⟨i, hi⟩ := List.mem_iff_getElem?.mp hx
      obtain ⟨h1, rfl⟩ := rng_at hi
      rw [Int.zero_add, hf i h1]
  rw [lc, e, List.filter_map, List.map_map]
  exact congrArg Res.ok (List.map_map (g := PyData.int) (f := fun k : Nat => ((k : Nat) : Int)) (l := (List.range n).filter p)).symm
theorem Finer.anti {xs ys : List Int} (h : Finer xs ys) (k : Finer ys xs) (l : ys.length = xs.length) : Eqv xs ys := h.good.anti k.good l
inductive Stm where
  | one (w : Str) (i : Nat)
  | two (w : Str) (i j : Nat)
  | get (i j : Nat) (r : Int)
  | call (f : Str) (js : List Nat) (o : Option Nat)
def Stm.sp : Stm → List Nat
  | .one _ i => [i]
  | .two _ i j => [i, j]
  | .get i j _ => [i, j]
  | .call _ js _ => js
/-- the datum of a heap: the parts of each object, the marks -/
def hpD (L : List (List Int)) (M : List Bool) : D := .dict [(.none, .str "Heap"), (.str "links", .list (L.map fun r => .list (iL r))), (.str "marked", .list (M.map PyData.bool))]
theorem hp_isC (L : List (List Int)) (M : List Bool) : isC "Heap" (hpD L M) = true := rfl
theorem hp_links (L : List (List Int)) (M : List Bool) : attrD (hpD L M) "links" = some (.list (L.map fun r => .list (iL r))) := rfl
theorem hp_marked (L : List (List Int)) (M : List Bool) : attrD (hpD L M) "marked" = some (.list (M.map PyData.bool)) := rfl
theorem hp_new : m_Heap [] = .ok (hpD [] []) := rfl
theorem p_hcheck (L : List (List Int)) (M : List Bool) (i : Int) : m_Heap_check [hpD L M, .int i] = if 0 ≤ i ∧ i < (L.length : Nat) then .ok .none else .ex "BadObject" [.int i] := by
  show (o_Heap_check (hpD L M) (.int i)).res = _
  unfold o_Heap_check
  have ln : lenD (.list (L.map fun r => PyData.list (iL r))) = some (.int (L.length : Nat)) := by simp [lenD]
  by_cases q0 : 0 ≤ i
  · by_cases q1 : i < (L.length : Nat)
    · rw [if_pos ⟨q0, q1⟩]
      simp -implicitDefEqProofs (maxSteps := 100000000) only [Res.bind_ok, Res.bindF_ok, Fl.bind_nx, Fl.up_rt, ofO_some, if_true, if_false, Bool.false_eq_true, Bool.not_true, Bool.not_false, decide_true, decide_false, asB_bool, intD_int, intD_bool, blO_bool, eqB_int, neB_int, eqB_bool, neB_bool, eqB_str, neB_str, ltB_int, leB_int, gtB_int, geB_int, addD_int, subD_int, lenD_l, lenD_t, List.length_map, mkL_nil, Int.toNat_natCast, Int.toNat_zero, Int.toNat_one, Int.reduceToNat, isNone, eq_self, and_self, itemsD_l, itemsD_t, hp_links, ln, q0, q1, decide_eq_true q0, decide_eq_true q1]
      rfl
    · rw [if_neg fun z => q1 z.2]
      simp -implicitDefEqProofs (maxSteps := 100000000) only [Res.bind_ok, Res.bindF_ok, Fl.bind_nx, Fl.up_rt, ofO_some, if_true, if_false, Bool.false_eq_true, Bool.not_true, Bool.not_false, decide_true, decide_false, asB_bool, intD_int, intD_bool, blO_bool, eqB_int, neB_int, eqB_bool, neB_bool, eqB_str, neB_str, ltB_int, leB_int, gtB_int, geB_int, addD_int, subD_int, lenD_l, lenD_t, List.length_map, mkL_nil, Int.toNat_natCast, Int.toNat_zero, Int.toNat_one, Int.reduceToNat, isNone, eq_self, and_self, itemsD_l, itemsD_t, hp_links, ln, q0, q1, decide_eq_true q0, decide_eq_false q1]
      rfl
  · rw [if_neg fun z => q0 z.1]
    simp -implicitDefEqProofs (maxSteps := 100000000) only [Res.bind_ok, Res.bindF_ok, Fl.bind_nx, Fl.up_rt, ofO_some, if_true, if_false, Bool.false_eq_true, Bool.not_true, Bool.not_false, decide_true, decide_false, asB_bool, intD_int, intD_bool, blO_bool, eqB_int, neB_int, eqB_bool, neB_bool, eqB_str, neB_str, ltB_int, leB_int, gtB_int, geB_int, addD_int, subD_int, lenD_l, lenD_t, List.length_map, mkL_nil, Int.toNat_natCast, Int.toNat_zero, Int.toNat_one, Int.reduceToNat, isNone, eq_self, and_self, itemsD_l, itemsD_t, q0, decide_eq_false q0]
    rfl
theorem p_hcheck_ok {L : List (List Int)} (M : List Bool) {i : Nat} (h : i < L.length) : m_Heap_check [hpD L M, .int (i : Nat)] = .ok .none := by
  rw [p_hcheck, if_pos ⟨by omega, by omega⟩]
theorem hp_row {L : List (List Int)} {i : Nat} (h : i < L.length) : itemD (.list (L.map fun r => PyData.list (iL r))) (.int (i : Nat)) = some (.list (iL (L.getD i []))) := at_nat (by
  rw [List.getElem?_map, List.getElem?_eq_getElem h, List.getD_eq_getElem?_getD, List.getElem?_eq_getElem h]
  rfl)
theorem fld_links (L : List (List Int)) (M : List Bool) : fldU (hpD L M, id) "links" = some (.list (L.map fun r => .list (iL r)), fun z => .dict [(.none, .str "Heap"), (.str "links", z), (.str "marked", .list (M.map PyData.bool))]) := rfl
theorem p_hmake (L : List (List Int)) (M : List Bool) (hL : L.length < 1000) (hM : M.length < 1000) : m_Heap_make [hpD L M] = .ok (.tuple [.int (L.length : Nat), hpD (L ++ [[]]) (M ++ [false])]) := by
  have c1 : cap = 100000 := rfl
  have a1 : appU (.list (L.map fun r => PyData.list (iL r)), fun z => .dict [(.none, .str "Heap"), (.str "links", z), (.str "marked", .list (M.map PyData.bool))]) (.list []) = some (hpD (L ++ [[]]) M) := by
    show (if (L.map fun r => PyData.list (iL r)).length < cap then some _ else none) = _
    rw [if_pos (by rw [List.length_map, c1]; omega)]
    show some (PyData.dict [(.none, .str "Heap"), (.str "links", .list ((L.map fun r => PyData.list (iL r)) ++ [.list []])), (.str "marked", .list (M.map PyData.bool))]) = _
    unfold hpD
    rw [List.map_append]
    rfl
  have a2 : ∀ z, appU (.list (M.map PyData.bool), fun y => .dict [(.none, .str "Heap"), (.str "links", z), (.str "marked", y)]) (.bool false) = some (.dict [(.none, .str "Heap"), (.str "links", z), (.str "marked", .list ((M ++ [false]).map PyData.bool))]) := fun z => by
    show (if (M.map PyData.bool).length < cap then some _ else none) = _
    rw [if_pos (by rw [List.length_map, c1]; omega), List.map_append]
    rfl
  have e0 : m_Heap_make [hpD L M] = resM 1 (o_Heap_make (hpD L M)) := rfl
  rw [e0]
  unfold o_Heap_make
  have mz : mkL ([] : List D) = some [] := rfl
  have il : ∀ xs : List D, isL (.list xs) = true := fun _ => rfl
  have ln : lenD (.list ((L ++ [[]]).map fun r => PyData.list (iL r))) = some (.int ((L.length : Nat) + 1)) := by simp [lenD]
  have fm : fldU (hpD (L ++ [[]]) M, id) "marked" = some (.list (M.map PyData.bool), fun y => .dict [(.none, .str "Heap"), (.str "links", .list ((L ++ [[]]).map fun r => .list (iL r))), (.str "marked", y)]) := rfl
  have hp2 : attrD (.dict [(.none, .str "Heap"), (.str "links", .list ((L ++ [[]]).map fun r => PyData.list (iL r))), (.str "marked", .list ((M ++ [false]).map PyData.bool))]) "links" = some (.list ((L ++ [[]]).map fun r => PyData.list (iL r))) := rfl
  have sd : ∀ {β τ : Type} (y : D) (k : D → Fl β τ), setD (some y) k = k y := fun _ _ => rfl
  have sb : subD (.int ((L.length : Nat) + 1)) (.int 1) = some (.int (L.length : Nat)) := by
    show some (PyData.int (((L.length : Nat) : Int) + 1 - 1)) = _
    rw [Int.add_sub_cancel]
  simp -implicitDefEqProofs (maxSteps := 100000000) only [Res.bind_ok, Res.bindF_ok, Fl.bind_nx, Fl.up_rt, ofO_some, if_true, if_false, Bool.false_eq_true, Bool.not_true, Bool.not_false, decide_true, decide_false, asB_bool, intD_int, intD_bool, blO_bool, eqB_int, neB_int, eqB_bool, neB_bool, eqB_str, neB_str, ltB_int, leB_int, gtB_int, geB_int, addD_int, subD_int, lenD_l, lenD_t, List.length_map, mkL_nil, Int.toNat_natCast, Int.toNat_zero, Int.toNat_one, Int.reduceToNat, isNone, eq_self, and_self, itemsD_l, itemsD_t, fld_links, il, mz, a1, sd, fm, a2, hp2, ln, sb]
  rfl
theorem p_htwin (L : List (List Int)) (M : List Bool) (hL : L.length < 1000) : m_Heap_twin [hpD L M] = .ok (.tuple [hpD L M]) := by
  have e0 : m_Heap_twin [hpD L M] = resM 0 (o_Heap_twin (hpD L M)) := rfl
  rw [e0]
  unfold o_Heap_twin
  have lc := lc_all (xs := L.map fun r => PyData.list (iL r)) (c := fun _ => Res.ok true) (f := fun v => (listR v).bind fun x => .ok (.list x)) (g := id) (by rw [List.length_map]; unfold cap; omega) (fun _ _ => rfl) fun x hx => by
    obtain ⟨r, _, rfl⟩ := List.mem_map.mp hx
    rfl
  rw [List.map_id] at lc
  have it : itemsD (.list (L.map fun r => PyData.list (iL r))) = some (L.map fun r => PyData.list (iL r)) := rfl
  have a1 : addFD (hpD [] []) "links" (.list (L.map fun r => PyData.list (iL r))) = some (hpD L []) := rfl
  have a2 : addFD (hpD L []) "marked" (.list (M.map PyData.bool)) = some (hpD L M) := rfl
  have sd : ∀ {β τ : Type} (y : D) (k : D → Fl β τ), setD (some y) k = k y := fun _ _ => rfl
  have li : ∀ xs : List D, listR (.list xs) = .ok xs := fun _ => rfl
  simp -implicitDefEqProofs (maxSteps := 100000000) only [Res.bind_ok, Res.bindF_ok, Fl.bind_nx, Fl.up_rt, ofO_some, if_true, if_false, Bool.false_eq_true, Bool.not_true, Bool.not_false, decide_true, decide_false, asB_bool, intD_int, intD_bool, blO_bool, eqB_int, neB_int, eqB_bool, neB_bool, eqB_str, neB_str, ltB_int, leB_int, gtB_int, geB_int, addD_int, subD_int, lenD_l, lenD_t, List.length_map, mkL_nil, Int.toNat_natCast, Int.toNat_zero, Int.toNat_one, Int.reduceToNat, isNone, eq_self, and_self, itemsD_l, itemsD_t, hp_new, hp_links, hp_marked, it, lc, a1, a2, sd, li]
  rfl
theorem lift_ok {m : List D → Res D} {ds : List D} (h : m ds = .ok .none) : ((liftM m ds).bind outN).bind (flR .d) = .ok .none := by
  unfold Mi.liftM
  rw [h]
  rfl
theorem fl_iL (xs : List Int) : (iL xs).all (flO .d) = true := by
  unfold iL
  rw [List.all_map]
  exact List.all_eq_true.mpr fun x _ => rfl
theorem p_hcut (L : List (List Int)) (M : List Bool) {i j : Nat} (hi : i < L.length) (hj : j < L.length) (hr : (L.getD i []).length ≤ 1000) : m_Heap_cut [hpD L M, .int (i : Nat), .int (j : Nat)] = .ok (.tuple [.none, hpD (L.set i ((L.getD i []).filter fun x => !decide (x = (j : Nat)))) M]) := by
  have e0 : m_Heap_cut [hpD L M, .int (i : Nat), .int (j : Nat)] = resM 1 (o_Heap_cut (hpD L M) (.int (i : Nat)) (.int (j : Nat))) := rfl
  rw [e0]
  unfold o_Heap_cut
  have c1 := lift_ok (p_hcheck_ok M hi)
  have c2 := lift_ok (p_hcheck_ok M hj)
  have it := hp_row hi
  generalize L.getD i [] = r at *
  have lc := lc_some (xs := iL r) (c := fun v => ofO (neB v (.int (j : Nat)))) (f := fun v => Res.ok v) (p := fun v => match v with
    | .int x => !decide (x = (j : Nat))
    | _ => false) (g := id) (by rw [List.length_map]; unfold cap; omega) (fun x hx => by
      obtain ⟨z, _, rfl⟩ := List.mem_map.mp hx
      rw [neB_int]
      rfl) fun _ _ _ => rfl
  have el : ((iL r).filter fun v => match v with
    | .int x => !decide (x = (j : Nat))
    | _ => false).map id = iL (r.filter fun x => !decide (x = (j : Nat))) := by
    rw [List.map_id]
    unfold iL
    rw [List.filter_map]
    rfl
  rw [el] at lc
  have fr : flR (.l .d) (.list (iL (r.filter fun x => !decide (x = (j : Nat))))) = .ok (.list (iL (r.filter fun x => !decide (x = (j : Nat))))) := if_pos (fl_iL _)
  have su : setU (.list (L.map fun r => PyData.list (iL r)), fun z => .dict [(.none, .str "Heap"), (.str "links", z), (.str "marked", .list (M.map PyData.bool))]) (.int (i : Nat)) (.list (iL (r.filter fun x => !decide (x = (j : Nat))))) = some (hpD (L.set i (r.filter fun x => !decide (x = (j : Nat)))) M) := by
    have ix : ixN (L.map fun r => PyData.list (iL r)).length ((i : Nat) : Int) = some i := by
      unfold ixN
      rw [List.length_map]
      rw [if_pos (by omega), if_pos (by omega)]
      rfl
    show (ixN (L.map fun r => PyData.list (iL r)).length ((i : Nat) : Int)).map _ = _
    rw [ix]
    unfold hpD
    rw [List.map_set]
    rfl
  have sd : ∀ {β τ : Type} (y : D) (k : D → Fl β τ), setD (some y) k = k y := fun _ _ => rfl
  simp -implicitDefEqProofs (maxSteps := 100000000) only [Res.bind_ok, Res.bindF_ok, Fl.bind_nx, Fl.up_rt, ofO_some, if_true, if_false, Bool.false_eq_true, Bool.not_true, Bool.not_false, decide_true, decide_false, asB_bool, intD_int, intD_bool, blO_bool, eqB_int, neB_int, eqB_bool, neB_bool, eqB_str, neB_str, ltB_int, leB_int, gtB_int, geB_int, addD_int, subD_int, lenD_l, lenD_t, List.length_map, mkL_nil, Int.toNat_natCast, Int.toNat_zero, Int.toNat_one, Int.reduceToNat, isNone, eq_self, and_self, itemsD_l, itemsD_t, hp_isC, c1, c2, hp_links, it, itemsD_l, lc, fr, fld_links, su, sd]
  rfl
theorem whil_up {β : Type} {c : D → Res Bool} {f : D → Fl D D} (p : Nat) (hc : ∀ k, k < p → c (.int (k : Nat)) = .ok true) (hf : ∀ k, k < p → f (.int (k : Nat)) = .nx (.int ((k + 1 : Nat) : Int))) (he : c (.int (p : Nat)) = .ok false) : ∀ (N k : Nat), k ≤ p → p - k < N → (whileF c f N (.int (k : Nat)) : Fl β D) = .nx (.int (p : Nat))
  | 0, _, _, h => absurd h (by omega)
  | N + 1, k, hk, h => by
    rw [whileF]
    by_cases q : k < p
    · rw [hc k q, hf k q]
      exact whil_up p hc hf he N (k + 1) (by omega) (by omega)
    · have e : k = p := by omega
      subst e
      rw [he]
theorem ins_if (ys : List D) (U : D → D) (n : Int) (d : D) : insU (.list ys, U) (.int n) d = if 0 ≤ n ∧ n < 2 ^ 62 ∧ ys.length < cap then some (U (.list (ys.take n.toNat ++ [d] ++ ys.drop n.toNat))) else none := rfl
theorem ins_at (ys : List D) (U : D → D) (n : Nat) (d : D) (h : n < 1000) (hz : ys.length < 1000) : insU (.list ys, U) (.int (n : Nat)) d = some (U (.list (ys.take n ++ [d] ++ ys.drop n))) := by
  rw [ins_if, if_pos ⟨by omega, Int.lt_of_lt_of_le (show ((n : Nat) : Int) < 1000 by omega) (by decide), by unfold cap; omega⟩]
  rfl
def posP (r : List Int) (x : Int) : Nat := (r.takeWhile fun y => decide (y < x)).length
theorem pos_le (r : List Int) (x : Int) : posP r x ≤ r.length := (List.takeWhile_sublist _).length_le
theorem pos_lt {r : List Int} {x : Int} {k : Nat} (h : k < posP r x) : ∃ y, r[k]? = some y ∧ y < x := by
  obtain ⟨y, h2⟩ : ∃ y, (r.takeWhile fun y => decide (y < x))[k]? = some y := ⟨_, List.getElem?_eq_getElem h⟩
  obtain ⟨t, e⟩ := List.takeWhile_prefix (l := r) (fun y => decide (y < x))
  refine ⟨y, ?_, of_decide_eq_true (List.all_eq_true.mp (List.all_takeWhile (p := fun y => decide (y < x)) (l := r)) _ (List.mem_of_getElem? h2))⟩
  have z : ((r.takeWhile fun y => decide (y < x)) ++ t)[k]? = some y := by
    rw [List.getElem?_append_left h]
    exact h2
  rwa [e] at z
theorem pos_at : ∀ {r : List Int} {x y : Int}, r[posP r x]? = some y → ¬ y < x
  | [], _, _, h => by simp [posP] at h
  | z :: r, x, y, h => by
    unfold posP at h
    by_cases q : z < x
    · rw [List.takeWhile_cons, if_pos (by simpa using q)] at h
      exact pos_at (r := r) (by simpa [posP] using h)
    · rw [List.takeWhile_cons, if_neg (by simpa using q)] at h
      simp at h
      rw [← h]
      exact q
def putP (r : List Int) (x : Int) : List Int := if r[posP r x]? = some x then r else r.take (posP r x) ++ [x] ++ r.drop (posP r x)
/-- a list's place, if it is a list -/
def aliN (o : Option D) (j : Nat) : Option Nat := match o with
  | some (.list _) => some j
  | _ => none
theorem al_J {L : List (List Int)} (M : List Bool) {i : Nat} (h : i < L.length) : aliJ (hpD L M) "links" (.int (i : Nat)) = some i := by
  show aliM (.list (L.map fun r => PyData.list (iL r))) (.int (i : Nat)) = _
  have ix : ixN (L.map fun r => PyData.list (iL r)).length ((i : Nat) : Int) = some i := by
    unfold ixN
    rw [List.length_map]
    rw [if_pos (by omega), if_pos (by omega)]
    rfl
  have g : (L.map fun r => PyData.list (iL r))[i]? = some (.list (iL L[i])) := by
    rw [List.getElem?_map, List.getElem?_eq_getElem h]
    rfl
  have m : aliM (.list (L.map fun r => PyData.list (iL r))) (.int (i : Nat)) = (ixN (L.map fun r => PyData.list (iL r)).length ((i : Nat) : Int)).bind fun j => aliN ((L.map fun r => PyData.list (iL r))[j]?) j := rfl
  rw [m, ix, Option.bind_some, g]
  rfl
theorem al_U {L : List (List Int)} (M : List Bool) {i : Nat} (h : i < L.length) : aliU (hpD L M) "links" i = some (.list (iL (L.getD i [])), fun w => .dict [(.none, .str "Heap"), (.str "links", .list ((L.map fun r => .list (iL r)).set i w)), (.str "marked", .list (M.map PyData.bool))]) := by
  have g : (L.map fun r => PyData.list (iL r))[i]? = some (.list (iL (L.getD i []))) := by
    rw [List.getElem?_map, List.getElem?_eq_getElem h, List.getD_eq_getElem?_getD, List.getElem?_eq_getElem h]
    rfl
  show ((L.map fun r => PyData.list (iL r))[i]?).map _ = _
  rw [g]
  rfl
theorem p_hput (L : List (List Int)) (M : List Bool) {i j : Nat} (hi : i < L.length) (hj : j < L.length) (hr : (L.getD i []).length ≤ 900) : m_Heap_put [hpD L M, .int (i : Nat), .int (j : Nat)] = .ok (.tuple [.none, hpD (L.set i (putP (L.getD i []) (j : Nat))) M]) := by
  have e0 : m_Heap_put [hpD L M, .int (i : Nat), .int (j : Nat)] = resM 1 (o_Heap_put (hpD L M) (.int (i : Nat)) (.int (j : Nat))) := rfl
  rw [e0]
  unfold o_Heap_put
  have c1 := lift_ok (p_hcheck_ok M hi)
  have c2 := lift_ok (p_hcheck_ok M hj)
  have aj := al_J M hi
  have au := al_U M hi
  have is : (fldU (hpD L M, id) "links").isSome = true := rfl
  have ak : ∀ (k : Nat → Fl Empty (List D)), aliK (some i) k = k i := fun _ => rfl
  simp -implicitDefEqProofs (maxSteps := 100000000) only [Res.bind_ok, Res.bindF_ok, Fl.bind_nx, Fl.up_rt, ofO_some, if_true, if_false, Bool.false_eq_true, Bool.not_true, Bool.not_false, decide_true, decide_false, asB_bool, intD_int, intD_bool, blO_bool, eqB_int, neB_int, eqB_bool, neB_bool, eqB_str, neB_str, ltB_int, leB_int, gtB_int, geB_int, addD_int, subD_int, lenD_l, lenD_t, List.length_map, mkL_nil, Int.toNat_natCast, Int.toNat_zero, Int.toNat_one, Int.reduceToNat, isNone, eq_self, and_self, itemsD_l, itemsD_t, hp_isC, c1, c2, is, aj, ak, au]
  have hu : ∀ w, (PyData.dict [(.none, .str "Heap"), (.str "links", .list ((L.map fun r => PyData.list (iL r)).set i (.list (iL w)))), (.str "marked", .list (M.map PyData.bool))]) = hpD (L.set i w) M := fun w => by
    unfold hpD
    rw [List.map_set]
  have hi2 : L.set i (L.getD i []) = L := List.ext_getElem? fun k => by
    by_cases q : i = k
    · subst q
      rw [List.getElem?_set_self hi, List.getD_eq_getElem?_getD, List.getElem?_eq_getElem hi]
      rfl
    · rw [List.getElem?_set_ne q]
  generalize L.getD i [] = r at *
  generalize hU : (fun w => PyData.dict [(.none, .str "Heap"), (.str "links", .list ((L.map fun r => PyData.list (iL r)).set i w)), (.str "marked", .list (M.map PyData.bool))]) = U
  have ixk : ∀ (k : Nat) (y : Int), r[k]? = some y → (ofO (ixU (.list (iL r), U) (.int (k : Nat)))).bind (fun p => Res.ok p.1) = .ok (.int y) := fun k y h => by
    have hk : k < r.length := (List.getElem?_eq_some_iff.mp h).1
    have ix : ixN (iL r).length ((k : Nat) : Int) = some k := by
      unfold ixN
      rw [List.length_map, if_pos (by omega), if_pos (by omega)]
      rfl
    have m : ixU (.list (iL r), U) (.int (k : Nat)) = (ixN (iL r).length ((k : Nat) : Int)).bind fun j => ((iL r)[j]?).map fun y => (y, fun z => U (.list ((iL r).set j z))) := rfl
    rw [m, ix, Option.bind_some, List.getElem?_map, h]
    rfl
  have pl := pos_le r (j : Nat)
  have wh := whil_up (β := Empty) (c := fun t => (ofO (ltB t (.int (r.length : Nat)))).bind fun k => if k = true then ((ofO (ixU (.list (iL r), U) t)).bind fun p => Res.ok p.1).bind fun x => ofO (ltB x (.int (j : Nat))) else .ok false) (f := fun t => (ofO (augA t (.int 1))).bindF fun v => Fl.nx v) (posP r (j : Nat)) (fun k hk => by
      obtain ⟨y, h1, h2⟩ := pos_lt hk
      have q : ((k : Nat) : Int) < (r.length : Nat) := by omega
      simp -implicitDefEqProofs (maxSteps := 100000000) only [Res.bind_ok, Res.bindF_ok, Fl.bind_nx, Fl.up_rt, ofO_some, if_true, if_false, Bool.false_eq_true, Bool.not_true, Bool.not_false, decide_true, decide_false, asB_bool, intD_int, intD_bool, blO_bool, eqB_int, neB_int, eqB_bool, neB_bool, eqB_str, neB_str, ltB_int, leB_int, gtB_int, geB_int, addD_int, subD_int, lenD_l, lenD_t, List.length_map, mkL_nil, Int.toNat_natCast, Int.toNat_zero, Int.toNat_one, Int.reduceToNat, isNone, eq_self, and_self, itemsD_l, itemsD_t, q, decide_eq_true q, ixk k y h1, h2, decide_eq_true h2]) (fun k hk => rfl) (by
      by_cases q : ((posP r (j : Nat) : Nat) : Int) < (r.length : Nat)
      · obtain ⟨y, h1⟩ : ∃ y, r[posP r (j : Nat)]? = some y := ⟨_, List.getElem?_eq_getElem (by omega)⟩
        have h2 := pos_at h1
        simp -implicitDefEqProofs (maxSteps := 100000000) only [Res.bind_ok, Res.bindF_ok, Fl.bind_nx, Fl.up_rt, ofO_some, if_true, if_false, Bool.false_eq_true, Bool.not_true, Bool.not_false, decide_true, decide_false, asB_bool, intD_int, intD_bool, blO_bool, eqB_int, neB_int, eqB_bool, neB_bool, eqB_str, neB_str, ltB_int, leB_int, gtB_int, geB_int, addD_int, subD_int, lenD_l, lenD_t, List.length_map, mkL_nil, Int.toNat_natCast, Int.toNat_zero, Int.toNat_one, Int.reduceToNat, isNone, eq_self, and_self, itemsD_l, itemsD_t, q, decide_eq_true q, ixk _ y h1, h2, decide_eq_false h2]
      · simp -implicitDefEqProofs (maxSteps := 100000000) only [Res.bind_ok, Res.bindF_ok, Fl.bind_nx, Fl.up_rt, ofO_some, if_true, if_false, Bool.false_eq_true, Bool.not_true, Bool.not_false, decide_true, decide_false, asB_bool, intD_int, intD_bool, blO_bool, eqB_int, neB_int, eqB_bool, neB_bool, eqB_str, neB_str, ltB_int, leB_int, gtB_int, geB_int, addD_int, subD_int, lenD_l, lenD_t, List.length_map, mkL_nil, Int.toNat_natCast, Int.toNat_zero, Int.toNat_one, Int.reduceToNat, isNone, eq_self, and_self, itemsD_l, itemsD_t, q, decide_eq_false q]) fuelW 0 (Nat.zero_le _) (by have : fuelW = 1000000000 := rfl; omega)
  have z0 : ((0 : Nat) : Int) = 0 := rfl
  rw [z0] at wh
  rw [wh, Fl.bind_nx]
  have il : isL (.list (iL r)) = true := rfl
  have sd : ∀ {β τ : Type} (y : D) (k : D → Fl β τ), setD (some y) k = k y := fun _ _ => rfl
  have ins : insU (.list (iL r), U) (.int (posP r (j : Nat) : Nat)) (.int (j : Nat)) = some (hpD (L.set i (r.take (posP r (j : Nat)) ++ [((j : Nat) : Int)] ++ r.drop (posP r (j : Nat)))) M) := by
    rw [ins_at _ _ _ _ (by omega) (by rw [List.length_map]; omega), ← hu]
    have el : (iL r).take (posP r (j : Nat)) ++ [PyData.int (j : Nat)] ++ (iL r).drop (posP r (j : Nat)) = iL (r.take (posP r (j : Nat)) ++ [((j : Nat) : Int)] ++ r.drop (posP r (j : Nat))) := by
      unfold iL
      rw [List.map_append, List.map_append, List.map_take, List.map_drop]
      rfl
    rw [el, ← hU]
  by_cases q : posP r (j : Nat) = r.length
  · have q2 : ((posP r (j : Nat) : Nat) : Int) = (r.length : Nat) := by omega
    have pp : putP r (j : Nat) = r.take (posP r (j : Nat)) ++ [((j : Nat) : Int)] ++ r.drop (posP r (j : Nat)) := if_neg (by rw [q, List.getElem?_eq_none (Nat.le_refl _)]; exact fun z => nomatch z)
    simp -implicitDefEqProofs (maxSteps := 100000000) only [Res.bind_ok, Res.bindF_ok, Fl.bind_nx, Fl.up_rt, ofO_some, if_true, if_false, Bool.false_eq_true, Bool.not_true, Bool.not_false, decide_true, decide_false, asB_bool, intD_int, intD_bool, blO_bool, eqB_int, neB_int, eqB_bool, neB_bool, eqB_str, neB_str, ltB_int, leB_int, gtB_int, geB_int, addD_int, subD_int, lenD_l, lenD_t, List.length_map, mkL_nil, Int.toNat_natCast, Int.toNat_zero, Int.toNat_one, Int.reduceToNat, isNone, eq_self, and_self, itemsD_l, itemsD_t, decide_eq_true q2, il, ins, sd, pp]
    rfl
  · have q2 : ¬ ((posP r (j : Nat) : Nat) : Int) = (r.length : Nat) := by omega
    obtain ⟨y, h1⟩ : ∃ y, r[posP r (j : Nat)]? = some y := ⟨_, List.getElem?_eq_getElem (by omega)⟩
    by_cases q3 : y = (j : Nat)
    · have pp : putP r (j : Nat) = r := if_pos (by rw [h1, q3])
      simp -implicitDefEqProofs (maxSteps := 100000000) only [Res.bind_ok, Res.bindF_ok, Fl.bind_nx, Fl.up_rt, ofO_some, if_true, if_false, Bool.false_eq_true, Bool.not_true, Bool.not_false, decide_true, decide_false, asB_bool, intD_int, intD_bool, blO_bool, eqB_int, neB_int, eqB_bool, neB_bool, eqB_str, neB_str, ltB_int, leB_int, gtB_int, geB_int, addD_int, subD_int, lenD_l, lenD_t, List.length_map, mkL_nil, Int.toNat_natCast, Int.toNat_zero, Int.toNat_one, Int.reduceToNat, isNone, eq_self, and_self, itemsD_l, itemsD_t, q2, decide_eq_false q2, ixk _ y h1, neB_int, q3, decide_eq_true q3, pp, hi2]
      rfl
    · have pp : putP r (j : Nat) = r.take (posP r (j : Nat)) ++ [((j : Nat) : Int)] ++ r.drop (posP r (j : Nat)) := if_neg (by rw [h1]; exact fun z => q3 (Option.some.inj z))
      simp -implicitDefEqProofs (maxSteps := 100000000) only [Res.bind_ok, Res.bindF_ok, Fl.bind_nx, Fl.up_rt, ofO_some, if_true, if_false, Bool.false_eq_true, Bool.not_true, Bool.not_false, decide_true, decide_false, asB_bool, intD_int, intD_bool, blO_bool, eqB_int, neB_int, eqB_bool, neB_bool, eqB_str, neB_str, ltB_int, leB_int, gtB_int, geB_int, addD_int, subD_int, lenD_l, lenD_t, List.length_map, mkL_nil, Int.toNat_natCast, Int.toNat_zero, Int.toNat_one, Int.reduceToNat, isNone, eq_self, and_self, itemsD_l, itemsD_t, q2, decide_eq_false q2, ixk _ y h1, neB_int, q3, decide_eq_false q3, il, ins, sd, pp]
      rfl
/-- the parts that a row of marks tells, of the first n -/
def rowOf (n : Nat) (r : List Bool) : List Int := ((List.range n).filter fun k => r.getD k false).map fun (k : Nat) => (k : Int)
def rowUp (n j : Nat) (r : List Bool) : List Int := ((List.range' j (n - j)).filter fun k => r.getD k false).map fun (k : Nat) => (k : Int)
theorem getD_set (r : List Bool) (j k : Nat) (b : Bool) : (r.set j b).getD k false = if j = k ∧ j < r.length then b else r.getD k false := by
  rw [List.getD_eq_getElem?_getD, List.getD_eq_getElem?_getD, List.getElem?_set]
  by_cases q : j = k
  · subst q
    by_cases q2 : j < r.length
    · simp [q2]
    · simp [q2, List.getElem?_eq_none (Nat.le_of_not_lt q2)]
  · simp [q]
theorem row_split {n j : Nat} (h : j < n) (r : List Bool) : rowOf n r = rowOf j r ++ ((if r.getD j false = true then [((j : Nat) : Int)] else []) ++ rowUp n (j + 1) r) := by
  unfold rowOf rowUp
  have e : List.range n = List.range j ++ (j :: List.range' (j + 1) (n - (j + 1))) := by
    obtain ⟨m, rfl⟩ : ∃ m, n = j + (m + 1) := ⟨n - j - 1, by omega⟩
    rw [List.range_eq_range', List.range_eq_range', ← List.range'_append_1, Nat.zero_add, List.range'_succ, show j + (m + 1) - (j + 1) = m by omega]
  rw [e, List.filter_append, List.map_append]
  congr 1
  by_cases q : r.getD j false = true
  · rw [List.filter_cons_of_pos (p := fun k => r.getD k false) q, if_pos q]
    rfl
  · rw [List.filter_cons_of_neg (p := fun k => r.getD k false) q, if_neg q]
    rfl
theorem row_lt {n : Nat} {r : List Bool} {x : Int} (h : x ∈ rowOf n r) : x < (n : Nat) := by
  obtain ⟨k, h1, rfl⟩ := List.mem_map.mp h
  have := List.mem_range.mp (List.mem_filter.mp h1).1
  omega
theorem row_len (n : Nat) (r : List Bool) : (rowOf n r).length ≤ n := by
  unfold rowOf
  rw [List.length_map]
  exact Nat.le_trans (List.length_filter_le _ _) (by rw [List.length_range]; exact Nat.le_refl n)
theorem up_ge {n j : Nat} {r : List Bool} {x : Int} (h : x ∈ rowUp n j r) : (j : Nat) ≤ x := by
  obtain ⟨k, h1, rfl⟩ := List.mem_map.mp h
  have := (List.mem_range'_1.mp (List.mem_filter.mp h1).1).1
  omega
theorem row_eq {n : Nat} {r s : List Bool} (h : ∀ k, k < n → r.getD k false = s.getD k false) : rowOf n r = rowOf n s := by
  unfold rowOf
  rw [List.filter_congr fun k hk => h k (List.mem_range.mp hk)]
theorem up_eq {n j : Nat} {r s : List Bool} (h : ∀ k, j ≤ k → r.getD k false = s.getD k false) : rowUp n j r = rowUp n j s := by
  unfold rowUp
  rw [List.filter_congr fun k hk => h k (List.mem_range'_1.mp hk).1]
theorem put_split (A B : List Int) (x : Int) (ha : ∀ y ∈ A, y < x) (hb : ∀ y ∈ B, ¬ y < x) : putP (A ++ B) x = if B.head? = some x then A ++ B else A ++ x :: B := by
  have tw : (B.takeWhile fun y => decide (y < x)) = [] := by
    cases B with
    | nil => rfl
    | cons b B => rw [List.takeWhile_cons, if_neg (by simpa using hb b (by simp))]
  have p : posP (A ++ B) x = A.length := by
    unfold posP
    rw [List.takeWhile_append_of_pos (fun y hy => by simpa using ha y hy), tw, List.append_nil]
  unfold putP
  rw [p, List.getElem?_append_right (Nat.le_refl _), Nat.sub_self, ← List.head?_eq_getElem?, List.take_left, List.drop_left]
  simp
theorem put_row {n j : Nat} (h : j < n) {r : List Bool} (hr : j < r.length) : putP (rowOf n r) (j : Nat) = rowOf n (r.set j true) := by
  rw [row_split h r, row_split h (r.set j true)]
  have e1 : rowOf j (r.set j true) = rowOf j r := row_eq fun k hk => by rw [getD_set, if_neg fun z => by omega]
  have e2 : rowUp n (j + 1) (r.set j true) = rowUp n (j + 1) r := up_eq fun k hk => by rw [getD_set, if_neg fun z => by omega]
  have e3 : (r.set j true).getD j false = true := by rw [getD_set, if_pos ⟨rfl, hr⟩]
  rw [e1, e2, e3, if_pos rfl, put_split _ _ _ (fun y hy => row_lt hy)]
  · by_cases q : r.getD j false = true
    · rw [if_pos q]
      exact if_pos rfl
    · rw [if_neg q, List.nil_append]
      rw [if_neg]
      · rfl
      · intro z
        have := up_ge (List.mem_of_mem_head? z)
        omega
  · intro y hy
    rcases List.mem_append.mp hy with hy | hy
    · by_cases q : r.getD j false = true
      · rw [if_pos q] at hy
        have := List.mem_singleton.mp hy
        omega
      · rw [if_neg q] at hy
        nomatch hy
    · have := up_ge hy
      omega
theorem cut_row {n : Nat} (r : List Bool) (j : Nat) : (rowOf n r).filter (fun x => !decide (x = ((j : Nat) : Int))) = rowOf n (r.set j false) := by
  unfold rowOf
  rw [List.filter_map, List.filter_filter]
  congr 1
  refine List.filter_congr fun k _ => ?_
  rw [getD_set]
  by_cases q : j = k
  · subst q
    by_cases q2 : j < r.length
    · simp [q2]
    · have g : r.getD j false = false := by
        rw [List.getD_eq_getElem?_getD, List.getElem?_eq_none (Nat.le_of_not_lt q2)]
        rfl
      simp [q2, List.getElem?_eq_none (Nat.le_of_not_lt q2)]
  · have : ¬ ((k : Nat) : Int) = (j : Nat) := by omega
    simp [q, this]
theorem row_succ {n : Nat} {r : List Bool} (h : r.getD n false = false) : rowOf (n + 1) r = rowOf n r := by
  unfold rowOf
  rw [List.range_succ, List.filter_append, List.filter_cons_of_neg (p := fun k => r.getD k false) (by rw [h]; decide), List.filter_nil, List.append_nil]
theorem row_none {n : Nat} {r : List Bool} (h : ∀ k, k < n → r.getD k false = false) : rowOf n r = [] := by
  unfold rowOf
  rw [List.filter_eq_nil_iff.mpr fun k hk => by rw [h k (List.mem_range.mp hk)]; decide]
  rfl
/-- the rows that a table of marks tells -/
def rowsOf (Hs : List (List Bool)) : List (List Int) := Hs.map (rowOf Hs.length)
def Hs2 (Hs : List (List Bool)) (i j : Nat) (b : Bool) : List (List Bool) := Hs.set i ((Hs.getD i []).set j b)
theorem hs2_len (Hs : List (List Bool)) (i j : Nat) (b : Bool) : (Hs2 Hs i j b).length = Hs.length := List.length_set
theorem rows_len (Hs : List (List Bool)) : (rowsOf Hs).length = Hs.length := List.length_map _
theorem rows_at {Hs : List (List Bool)} {i : Nat} (h : i < Hs.length) : (rowsOf Hs).getD i [] = rowOf Hs.length (Hs.getD i []) := by
  unfold rowsOf
  rw [List.getD_eq_getElem?_getD, List.getD_eq_getElem?_getD, List.getElem?_map, List.getElem?_eq_getElem h]
  rfl
theorem rows_put {Hs : List (List Bool)} {i j : Nat} (hi : i < Hs.length) (hj : j < Hs.length) (hr : j < (Hs.getD i []).length) : (rowsOf Hs).set i (putP ((rowsOf Hs).getD i []) (j : Nat)) = rowsOf (Hs2 Hs i j true) := by
  rw [rows_at hi, put_row hj hr]
  unfold rowsOf Hs2
  rw [List.length_set, List.map_set]
theorem rows_cut {Hs : List (List Bool)} {i j : Nat} (hi : i < Hs.length) : (rowsOf Hs).set i (((rowsOf Hs).getD i []).filter fun x => !decide (x = (j : Nat))) = rowsOf (Hs2 Hs i j false) := by
  rw [rows_at hi, cut_row]
  unfold rowsOf Hs2
  rw [List.length_set, List.map_set]
theorem lift_fl {m : List D → Res D} {ds : List D} {d : D} (h : m ds = .ok d) (hf : flO .d d = true) : ((liftM m ds).bind outN).bind (flR .d) = .ok d := by
  unfold Mi.liftM
  rw [h]
  exact if_pos hf
theorem outN_ok {m : List D → Res D} {ds : List D} {d : D} (h : m ds = .ok (.tuple [d])) : (m ds).bind outN = .ok d := by
  rw [h]
  rfl
theorem outM1 {m : List D → Res D} {ds : List D} {d z : D} (h : m ds = .ok (.tuple [d, z])) : (m ds).bind outM = .ok (d, [z]) := by
  rw [h]
  rfl
theorem k_ll (xs : List D) : isiT "list" (.list xs) = some true := by
  show kitB "list" "list" = _
  decide +kernel
/-- a table of marks, as data -/
def hsD (Hs : List (List Bool)) : D := .list (Hs.map fun r => .list (r.map PyData.bool))
theorem hs_row {Hs : List (List Bool)} {i : Nat} (h : i < Hs.length) : itemD (hsD Hs) (.int (i : Nat)) = some (.list ((Hs.getD i []).map PyData.bool)) := at_nat (by
  rw [List.getElem?_map, List.getElem?_eq_getElem h, List.getD_eq_getElem?_getD, List.getElem?_eq_getElem h]
  rfl)
theorem bl_at {r : List Bool} {i : Nat} (h : i < r.length) : itemD (.list (r.map PyData.bool)) (.int (i : Nat)) = some (.bool (r.getD i false)) := at_nat (by
  rw [List.getElem?_map, List.getElem?_eq_getElem h, List.getD_eq_getElem?_getD, List.getElem?_eq_getElem h]
  rfl)
theorem hs_len (Hs : List (List Bool)) : lenD (hsD Hs) = some (.int (Hs.length : Nat)) := by simp [hsD, lenD]
theorem ixN_nat {n i : Nat} (h : i < n) : ixN n ((i : Nat) : Int) = some i := by
  unfold ixN
  rw [if_pos (by omega), if_pos (by omega)]
  rfl
theorem bl_set {r : List Bool} {j : Nat} (hj : j < r.length) (b : Bool) : setU (.list (r.map PyData.bool), id) (.int (j : Nat)) (.bool b) = some (.list ((r.set j b).map PyData.bool)) := by
  show (ixN (r.map PyData.bool).length ((j : Nat) : Int)).map _ = _
  rw [ixN_nat (by rw [List.length_map]; exact hj), List.map_set]
  rfl
/-- a heap's table of parts: at most eight objects, rows of w marks, none beyond the objects -/
structure GoodH (w : Nat) (Hs : List (List Bool)) : Prop where
  few : Hs.length ≤ 100
  row : ∀ r ∈ Hs, r.length = w
  big : ∀ r ∈ Hs, ∀ k, Hs.length ≤ k → r.getD k false = false
theorem GoodH.at_ {w : Nat} {Hs : List (List Bool)} (g : GoodH w Hs) {i : Nat} (h : i < Hs.length) : (Hs.getD i []).length = w ∧ ∀ k, Hs.length ≤ k → (Hs.getD i []).getD k false = false := by
  have m : Hs.getD i [] ∈ Hs := by
    rw [List.getD_eq_getElem?_getD, List.getElem?_eq_getElem h]
    exact List.getElem_mem h
  exact ⟨g.row _ m, g.big _ m⟩
theorem GoodH.set_ {w : Nat} {Hs : List (List Bool)} (g : GoodH w Hs) {i j : Nat} (hi : i < Hs.length) (hj : j < Hs.length) (b : Bool) : GoodH w (Hs2 Hs i j b) := by
  obtain ⟨h1, h2⟩ := g.at_ hi
  refine ⟨by rw [hs2_len]; exact g.few, fun r hr => ?_, fun r hr k hk => ?_⟩
  · rcases List.mem_or_eq_of_mem_set hr with h | h
    · exact g.row r h
    · rw [h, List.length_set, h1]
  · rw [hs2_len] at hk
    rcases List.mem_or_eq_of_mem_set hr with h | h
    · exact g.big r h k hk
    · rw [h, getD_set, if_neg fun z => by omega]
      exact h2 k hk
theorem rep_getD (n k : Nat) : (List.replicate n false).getD k false = false := by
  rw [List.getD_eq_getElem?_getD, List.getElem?_replicate]
  split <;> rfl
theorem fl_bL (r : List Bool) : (r.map PyData.bool).all (flO .d) = true := by
  rw [List.all_map]
  exact List.all_eq_true.mpr fun x _ => rfl
theorem fl_hp (L : List (List Int)) (M : List Bool) : flO (.o "Heap" (.f "links" (.l (.l .d)) (.f "marked" (.l .d) .d))) (hpD L M) = true := by
  show (((L.map fun r => PyData.list (iL r)).all (flO (.l .d))) && ((M.map PyData.bool).all (flO .d) && true)) = true
  rw [fl_bL, Bool.and_self, Bool.and_true, List.all_map]
  exact List.all_eq_true.mpr fun r _ => fl_iL r
theorem fl_hs (Hs : List (List Bool)) : flO (.l (.l .d)) (hsD Hs) = true := by
  show (Hs.map fun r => PyData.list (r.map PyData.bool)).all (flO (.l .d)) = true
  rw [List.all_map]
  exact List.all_eq_true.mpr fun r _ => fl_bL r
theorem flR_ok {s : Sh} {d : D} (h : flO s d = true) : flR s d = .ok d := if_pos h
inductive Rch (R : Nat → Nat → Prop) (a : Nat) : Nat → Prop
  | refl : Rch R a a
  | step {b c : Nat} : Rch R a b → R b c → Rch R a c
theorem Rch.trans {R : Nat → Nat → Prop} {a b : Nat} (h : Rch R a b) : ∀ {c}, Rch R b c → Rch R a c := fun k => by
  induction k with
  | refl => exact h
  | step _ r ih => exact ih.step r
theorem Rch.imp {R S : Nat → Nat → Prop} (h : ∀ a b, R a b → S a b) {a b : Nat} (k : Rch R a b) : Rch S a b := by
  induction k with
  | refl => exact .refl
  | step _ r ih => exact ih.step (h _ _ r)
theorem Rch.lt {R : Nat → Nat → Prop} {n a b : Nat} (ha : a < n) (hR : ∀ x y, R x y → y < n) (k : Rch R a b) : b < n := by
  cases k with
  | refl => exact ha
  | step _ r => exact hR _ _ r
/-- what is closed and holds the first is all that is reached -/
theorem Rch.closed {R : Nat → Nat → Prop} {a : Nat} (S : Nat → Prop) (h0 : S a) (hc : ∀ x y, S x → R x y → S y) {b : Nat} (k : Rch R a b) : S b := by
  induction k with
  | refl => exact h0
  | step _ r ih => exact hc _ _ ih r
/-- paths over what lies below m -/
def Wv (R : Nat → Nat → Prop) : Nat → Nat → Nat → Prop
  | 0, j, k => j = k ∨ R j k
  | m + 1, j, k => Wv R m j k ∨ (Wv R m j m ∧ Wv R m m k)
theorem Wv.up {R : Nat → Nat → Prop} : ∀ {m n j k : Nat}, m ≤ n → Wv R m j k → Wv R n j k := by
  intro m n j k h
  induction h with
  | refl => exact id
  | step _ ih => exact fun w => .inl (ih w)
theorem Wv.trans {R : Nat → Nat → Prop} : ∀ {m j l k : Nat}, l < m → Wv R m j l → Wv R m l k → Wv R m j k
  | 0, _, _, _, h, _, _ => absurd h (Nat.not_lt_zero _)
  | m + 1, j, l, k, h, a, b => by
    have toM : ∀ {x}, Wv R (m + 1) x m → Wv R m x m := fun w => w.elim id fun z => z.1
    have frM : ∀ {x}, Wv R (m + 1) m x → Wv R m m x := fun w => w.elim id fun z => z.2
    by_cases q : l = m
    · subst q
      exact .inr ⟨toM a, frM b⟩
    · have hl : l < m := by omega
      rcases a with a | ⟨a1, a2⟩ <;> rcases b with b | ⟨b1, b2⟩
      · exact .inl (a.trans hl b)
      · exact .inr ⟨a.trans hl b1, b2⟩
      · exact .inr ⟨a1, a2.trans hl b⟩
      · exact .inr ⟨a1, b2⟩
theorem Wv.of {R : Nat → Nat → Prop} {n j k : Nat} (hR : ∀ x y, R x y → x < n) (h : Rch R j k) : Wv R n j k := by
  induction h with
  | refl => exact Wv.up (Nat.zero_le _) (.inl rfl)
  | step _ r ih => exact ih.trans (hR _ _ r) (Wv.up (Nat.zero_le _) (.inr r))
def BT (G : List (List Bool)) (j k : Nat) : Prop := (G.getD j []).getD k false = true
theorem getD_setL {α : Type} (G : List α) (j k : Nat) (r d : α) : (G.set j r).getD k d = if j = k ∧ j < G.length then r else G.getD k d := by
  rw [List.getD_eq_getElem?_getD, List.getD_eq_getElem?_getD, List.getElem?_set]
  by_cases q : j = k
  · subst q
    by_cases q2 : j < G.length
    · simp [q2]
    · simp [q2, List.getElem?_eq_none (Nat.le_of_not_lt q2)]
  · simp [q]
theorem bt_set {G : List (List Bool)} {i l : Nat} (hi : i < G.length) (hl : l < (G.getD i []).length) (j k : Nat) : BT (G.set i ((G.getD i []).set l true)) j k ↔ BT G j k ∨ (j = i ∧ k = l) := by
  unfold BT
  rw [getD_setL]
  by_cases q : i = j
  · subst q
    rw [if_pos ⟨rfl, hi⟩, getD_setL]
    by_cases q2 : l = k
    · subst q2
      rw [if_pos ⟨rfl, hl⟩]
      exact ⟨fun _ => .inr ⟨rfl, rfl⟩, fun _ => rfl⟩
    · rw [if_neg fun z => q2 z.1]
      exact ⟨.inl, fun z => z.elim id fun w => absurd w.2.symm q2⟩
  · rw [if_neg fun z => q z.1]
    exact ⟨.inl, fun z => z.elim id fun w => absurd w.1.symm q⟩
/-- a table with one row and one place for each of n -/
structure Sq (n : Nat) (G : List (List Bool)) : Prop where
  len : G.length = n
  row : ∀ j, j < n → (G.getD j []).length = n
theorem Sq.set_ {n : Nat} {G : List (List Bool)} (s : Sq n G) {i : Nat} {r : List Bool} (hi : i < n) (hr : r.length = n) : Sq n (G.set i r) := by
  refine ⟨by rw [List.length_set, s.len], fun j hj => ?_⟩
  rw [getD_setL]
  split
  · exact hr
  · exact s.row j hj
theorem Sq.sub {n : Nat} {G : List (List Bool)} (s : Sq n G) {j k : Nat} (h : BT G j k) : j < n ∧ k < n := by
  unfold BT at h
  by_cases q : j < n
  · refine ⟨q, ?_⟩
    by_cases q2 : k < n
    · exact q2
    · rw [List.getD_eq_getElem?_getD (l := G.getD j []), List.getElem?_eq_none (by rw [s.row j q]; omega)] at h
      cases h
  · rw [List.getD_eq_getElem?_getD (l := G), List.getElem?_eq_none (by rw [s.len]; omega)] at h
    cases h
/-- the first rows of a Warshall turn: up to row j, place k of it -/
def Wst (R : Nat → Nat → Prop) (n m j k : Nat) (G : List (List Bool)) : Prop := Sq n G ∧ (∀ a b, BT G a b → Rch R a b) ∧ (∀ a b, a < n → b < n → Wv R m a b → BT G a b) ∧ ∀ a b, a < n → b < n → (a < j ∨ a = j ∧ b < k) → Wv R (m + 1) a b → BT G a b
theorem Wst.stepT {R : Nat → Nat → Prop} {n m j k : Nat} {G : List (List Bool)} (h : Wst R n m j k G) (hj : j < n) (hk : k < n) (q : BT G j m ∧ BT G m k) : Wst R n m j (k + 1) (G.set j ((G.getD j []).set k true)) := by
  obtain ⟨s, h1, h2, h3⟩ := h
  have bs := bt_set (G := G) (i := j) (l := k) (by rw [s.len]; exact hj) (by rw [s.row j hj]; exact hk)
  refine ⟨s.set_ hj (by rw [List.length_set, s.row j hj]), fun a b hab => ?_, fun a b ha hb w => (bs a b).mpr (.inl (h2 a b ha hb w)), fun a b ha hb hp w => ?_⟩
  · rcases (bs a b).mp hab with z | ⟨rfl, rfl⟩
    · exact h1 a b z
    · exact (h1 _ _ q.1).trans (h1 _ _ q.2)
  · by_cases e : a = j ∧ b = k
    · exact (bs a b).mpr (.inr e)
    · exact (bs a b).mpr (.inl (h3 a b ha hb (by omega) w))
theorem Wst.stepF {R : Nat → Nat → Prop} {n m j k : Nat} {G : List (List Bool)} (h : Wst R n m j k G) (hm : m < n) (q : ¬ (BT G j m ∧ BT G m k)) : Wst R n m j (k + 1) G := by
  obtain ⟨s, h1, h2, h3⟩ := h
  refine ⟨s, h1, h2, fun a b ha hb hp w => ?_⟩
  by_cases e : a = j ∧ b = k
  · obtain ⟨rfl, rfl⟩ := e
    rcases w with w | ⟨w1, w2⟩
    · exact h2 a b ha hb w
    · exact (q ⟨h2 _ _ ha hm w1, h2 _ _ hm hb w2⟩).elim
  · exact h3 a b ha hb (by omega) w
theorem Wst.row {R : Nat → Nat → Prop} {n m j : Nat} {G : List (List Bool)} (h : Wst R n m j n G) : Wst R n m (j + 1) 0 G :=
  ⟨h.1, h.2.1, h.2.2.1, fun a b ha hb hp w => h.2.2.2 a b ha hb (by omega) w⟩
theorem Wst.turn {R : Nat → Nat → Prop} {n m : Nat} {G : List (List Bool)} (h : Wst R n m n 0 G) : Wst R n (m + 1) 0 0 G :=
  ⟨h.1, h.2.1, fun a b ha hb w => h.2.2.2 a b ha hb (.inl ha) w, fun a b ha hb hp w => by omega⟩
theorem Wst.done {R : Nat → Nat → Prop} {n : Nat} {G : List (List Bool)} (h : Wst R n n 0 0 G) (hR : ∀ x y, R x y → x < n) {a b : Nat} (ha : a < n) (hb : b < n) : BT G a b ↔ Rch R a b :=
  ⟨h.2.1 a b, fun z => h.2.2.1 a b ha hb (Wv.of hR z)⟩
def nots (f : List Bool) : Nat := f.countP (!·)
theorem nots_set {f : List Bool} {i : Nat} (h : i < f.length) (q : f.getD i false = false) : nots (f.set i true) + 1 = nots f := by
  unfold nots
  induction f generalizing i with
  | nil => cases h
  | cons x f ih =>
    cases i with
    | zero =>
      have : x = false := by simpa using q
      subst this
      simp [List.countP_cons]
    | succ i =>
      have := ih (i := i) (by simpa using h) (by simpa using q)
      rw [List.set_cons_succ, List.countP_cons, List.countP_cons, ← this]
      omega
/-- found, left: all that is found is reached, all that is left is found, the parts of all else that is found are found -/
structure Srch (R : Nat → Nat → Prop) (n a : Nat) (f : List Bool) (left : List Nat) : Prop where
  len : f.length = n
  fst : f.getD a false = true
  snd : ∀ b, f.getD b false = true → Rch R a b
  lft : ∀ b ∈ left, f.getD b false = true
  cls : ∀ b c, f.getD b false = true → b ∉ left → R b c → f.getD c false = true
theorem Srch.done {R : Nat → Nat → Prop} {n a : Nat} {f : List Bool} (h : Srch R n a f []) (b : Nat) : f.getD b false = true ↔ Rch R a b :=
  ⟨h.snd b, fun k => k.closed (fun x => f.getD x false = true) h.fst fun x y hx r => h.cls x y hx (fun z => nomatch z) r⟩
theorem Nx.whil {β τ : Type} {c : τ → Res Bool} {f : τ → Fl τ τ} {P : τ → Prop} (M : Nat → τ → Prop) (hs : ∀ m t, M m t → (∃ m', m = m' + 1 ∧ c t = .ok true ∧ Nx (f t) (M m')) ∨ (c t = .ok false ∧ P t)) :
    ∀ (N m : Nat) (t : τ), m < N → M m t → Nx (whileF c f N t : Fl β τ) P := by
  intro N
  induction N with
  | zero => exact fun m t hm _ => absurd hm (Nat.not_lt_zero _)
  | succ N ih =>
    intro m t hm h
    rw [whileF]
    rcases hs m t h with ⟨m', rfl, e, t', e2, p⟩ | ⟨e, q⟩
    · rw [e, e2]
      exact ih m' t' (by omega) p
    · rw [e]
      exact ⟨t, rfl, q⟩
/-- the parts of an object -/
def LR (L : List (List Int)) (j k : Nat) : Prop := ((k : Nat) : Int) ∈ L.getD j []
theorem LR.lt {L : List (List Int)} {j k : Nat} (h : LR L j k) : j < L.length := by
  unfold LR at h
  by_cases q : j < L.length
  · exact q
  · rw [List.getD_eq_getElem?_getD, List.getElem?_eq_none (Nat.le_of_not_lt q)] at h
    nomatch h
/-- all parts are objects -/
def OkL (L : List (List Int)) : Prop := L.length ≤ 200 ∧ ∀ j, (L.getD j []).length ≤ 200 ∧ ∀ x ∈ L.getD j [], 0 ≤ x ∧ x < (L.length : Nat)
abbrev nL (xs : List Nat) : List Int := xs.map fun (k : Nat) => (k : Int)
abbrev bL (xs : List Bool) : List D := xs.map PyData.bool
theorem p_hreach {L : List (List Int)} (hL : OkL L) (M : List Bool) {i : Nat} (hi : i < L.length) : ∃ f : List Bool, m_Heap_reach [hpD L M, .int (i : Nat)] = .ok (.tuple [.list (iL (rowOf L.length f))]) ∧ f.length = L.length ∧ ∀ b, f.getD b false = true ↔ Rch (LR L) i b := by
  have l2 := hL.1
  have e0 : m_Heap_reach [hpD L M, .int (i : Nat)] = resM 0 (o_Heap_reach (hpD L M) (.int (i : Nat))) := rfl
  rw [e0]
  have main : Rt (o_Heap_reach (hpD L M) (.int (i : Nat))) fun d => ∃ f : List Bool, d = .tuple [.list (iL (rowOf L.length f))] ∧ f.length = L.length ∧ ∀ b, f.getD b false = true ↔ Rch (LR L) i b := by
    unfold o_Heap_reach
    have c := p_hcheck_ok M hi
    obtain ⟨ys, lc, rfl⟩ := lc_ok (A := fun r : List Int => PyData.list (iL r)) (B := PyData.bool) (xs := L) (c := fun _ => Res.ok true) (f := fun _ => Res.ok (.bool false)) (fun _ => false) (by unfold cap; omega) (fun _ _ => rfl) fun _ _ => rfl
    have sd : ∀ {β τ : Type} (y : D) (k : D → Fl β τ), setD (some y) k = k y := fun _ _ => rfl
    have se := bl_set (r := L.map fun _ => false) (j := i) (by rw [List.length_map]; exact hi) true
    have mk1 : mkL [PyData.int (i : Nat)] = some [.int (i : Nat)] := rfl
    simp -implicitDefEqProofs (maxSteps := 100000000) only [Res.bind_ok, Res.bindF_ok, Fl.bind_nx, Fl.up_rt, ofO_some, if_true, if_false, Bool.false_eq_true, Bool.not_true, Bool.not_false, decide_true, decide_false, asB_bool, intD_int, intD_bool, blO_bool, eqB_int, neB_int, eqB_bool, neB_bool, eqB_str, neB_str, ltB_int, leB_int, gtB_int, geB_int, addD_int, subD_int, lenD_l, lenD_t, List.length_map, mkL_nil, Int.toNat_natCast, Int.toNat_zero, Int.toNat_one, Int.reduceToNat, isNone, eq_self, and_self, itemsD_l, itemsD_t, hp_isC, c, hp_links, itemsD_l, lc, se, sd, mk1]
    have nz : ∀ {β τ : Type} (z : D) (f : D → Fl β τ), nz1 .no [z] f = f z := fun _ _ => rfl
    have il : ∀ xs : List D, isL (.list xs) = true := fun _ => rfl
    have ff : ∀ b, (L.map fun _ => false).getD b false = false := fun b => by
      rw [List.getD_eq_getElem?_getD, List.getElem?_map]
      cases L[b]? <;> rfl
    refine Rt.bind (Nx.whil (fun m (t : D × D) => ∃ f left, t = (.list (bL f), .list (iL (nL left))) ∧ Srch (LR L) L.length i f left ∧ (∀ b ∈ left, b < L.length) ∧ nots f + left.length = m ∧ m ≤ 201) (P := fun t => ∃ f, t = (.list (bL f), .list []) ∧ Srch (LR L) L.length i f []) ?_ fuelW (nots ((L.map fun _ => false).set i true) + 1) _ (by
        have : nots ((L.map fun _ => false).set i true) ≤ ((L.map fun _ => false).set i true).length := List.countP_le_length
        rw [List.length_set, List.length_map] at this
        have : fuelW = 1000000000 := rfl
        omega) ⟨(L.map fun _ => false).set i true, [i], rfl, ⟨by rw [List.length_set, List.length_map], by rw [getD_set, if_pos ⟨rfl, by rw [List.length_map]; exact hi⟩], fun b hb => ?_, fun b hb => ?_, fun b x hb hn => ?_⟩, fun b hb => by rw [List.mem_singleton.mp hb]; exact hi, rfl, by
        have : nots ((L.map fun _ => false).set i true) ≤ ((L.map fun _ => false).set i true).length := List.countP_le_length
        rw [List.length_set, List.length_map] at this
        omega⟩) ?_
    · rintro m _ ⟨f, left, rfl, h, hl, hm, hm2⟩
      rcases List.eq_nil_or_concat left with rfl | ⟨left', b, rfl⟩
      · refine .inr ⟨?_, f, rfl, h⟩
        simp -implicitDefEqProofs (maxSteps := 100000000) only [Res.bind_ok, Res.bindF_ok, Fl.bind_nx, Fl.up_rt, ofO_some, if_true, if_false, Bool.false_eq_true, Bool.not_true, Bool.not_false, decide_true, decide_false, asB_bool, intD_int, intD_bool, blO_bool, eqB_int, neB_int, eqB_bool, neB_bool, eqB_str, neB_str, ltB_int, leB_int, gtB_int, geB_int, addD_int, subD_int, lenD_l, lenD_t, List.length_map, mkL_nil, Int.toNat_natCast, Int.toNat_zero, Int.toNat_one, Int.reduceToNat, isNone, eq_self, and_self, itemsD_l, itemsD_t]
        rfl
      · rw [List.concat_eq_append] at *
        have hb : b < L.length := hl b (by simp)
        have fb : f.getD b false = true := h.lft b (by simp)
        rw [List.length_append, List.length_singleton] at hm
        refine .inl ⟨nots f + left'.length, by omega, ?_, ?_⟩
        · have q : (0 : Int) < (((left' ++ [b]).length : Nat) : Int) := by rw [List.length_append, List.length_singleton]; omega
          simp -implicitDefEqProofs (maxSteps := 100000000) only [Res.bind_ok, Res.bindF_ok, Fl.bind_nx, Fl.up_rt, ofO_some, if_true, if_false, Bool.false_eq_true, Bool.not_true, Bool.not_false, decide_true, decide_false, asB_bool, intD_int, intD_bool, blO_bool, eqB_int, neB_int, eqB_bool, neB_bool, eqB_str, neB_str, ltB_int, leB_int, gtB_int, geB_int, addD_int, subD_int, lenD_l, lenD_t, List.length_map, mkL_nil, Int.toNat_natCast, Int.toNat_zero, Int.toNat_one, Int.reduceToNat, isNone, eq_self, and_self, itemsD_l, itemsD_t, q, decide_eq_true q]
        · have pop : popU (.list (iL (nL (left' ++ [b]))), id) = some (.int (b : Nat), .list (iL (nL left'))) := by
            show ((iL (nL (left' ++ [b]))).getLast?).map _ = _
            unfold iL nL
            rw [List.map_append, List.map_append]
            simp
          have it := hp_row (L := L) hb
          have itl : itL (.list (iL (L.getD b []))) = some (iL (L.getD b [])) := rfl
          simp -implicitDefEqProofs (maxSteps := 100000000) only [Res.bind_ok, Res.bindF_ok, Fl.bind_nx, Fl.up_rt, ofO_some, if_true, if_false, Bool.false_eq_true, Bool.not_true, Bool.not_false, decide_true, decide_false, asB_bool, intD_int, intD_bool, blO_bool, eqB_int, neB_int, eqB_bool, neB_bool, eqB_str, neB_str, ltB_int, leB_int, gtB_int, geB_int, addD_int, subD_int, lenD_l, lenD_t, List.length_map, mkL_nil, Int.toNat_natCast, Int.toNat_zero, Int.toNat_one, Int.reduceToNat, isNone, eq_self, and_self, itemsD_l, itemsD_t, pop, it, itl, nz]
          have rl := (hL.2 b).1
          have rng := (hL.2 b).2
          have lr : ∀ c, LR L b c → ∃ k : Nat, (L.getD b [])[k]? = some ((c : Nat) : Int) := fun c hc => by
            obtain ⟨k, hk⟩ := List.mem_iff_getElem?.mp hc
            exact ⟨k, hk⟩
          have lr2 : ∀ x ∈ L.getD b [], ∀ c : Nat, x = (c : Nat) → LR L b c := fun x hx c e => by
            unfold LR
            rw [← e]
            exact hx
          generalize L.getD b [] = row at *
          refine Nx.bind (Nx.loop (fun idx (t : D × D) => ∃ f left, t = (.list (bL f), .list (iL (nL left))) ∧ f.length = L.length ∧ f.getD i false = true ∧ f.getD b false = true ∧ (∀ x, f.getD x false = true → Rch (LR L) i x) ∧ (∀ x ∈ left, f.getD x false = true) ∧ (∀ x ∈ left, x < L.length) ∧ (∀ x c, f.getD x false = true → x ∉ left → x ≠ b → LR L x c → f.getD c false = true) ∧ (∀ k, k < idx → ∀ c : Nat, row[k]? = some ((c : Nat) : Int) → f.getD c false = true) ∧ nots f + left.length + 1 = m) ⟨f, left', rfl, h.len, h.fst, fb, h.snd, fun x hx => h.lft x (by simp [hx]), fun x hx => hl x (by simp [hx]), fun x c h1 h2 h3 h4 => h.cls x c h1 (by simp [h2, h3]) h4, fun k hk => absurd hk (Nat.not_lt_zero _), by omega⟩ ?_) ?_
          · rintro idx x _ hx ⟨f, left, rfl, h1, h2, hbb, h3, h4, h5, h6, h7, h8⟩
            rw [List.getElem?_map] at hx
            cases q : row[idx]? with
            | none => rw [q] at hx; cases hx
            | some y =>
              rw [q] at hx
              cases hx
              obtain ⟨y0, y1⟩ := rng y (List.mem_of_getElem? q)
              obtain ⟨c, rfl⟩ : ∃ c : Nat, y = (c : Nat) := ⟨y.toNat, by omega⟩
              have hc : c < f.length := by omega
              have ix : (ofO (ixU (.list (bL f), id) (.int (c : Nat)))).bind (fun q => Res.ok q.1) = .ok (.bool (f.getD c false)) := by
                have m : ixU (.list (bL f), id) (.int (c : Nat)) = (ixN (bL f).length ((c : Nat) : Int)).bind fun j => ((bL f)[j]?).map fun y => (y, fun z => id (PyData.list ((bL f).set j z))) := rfl
                rw [m, ixN_nat (by rw [List.length_map]; exact hc), Option.bind_some, List.getElem?_map, List.getElem?_eq_getElem hc, List.getD_eq_getElem?_getD, List.getElem?_eq_getElem hc]
                rfl
              have key : LR L b c := lr2 _ (List.mem_of_getElem? q) c rfl
              cases fc : f.getD c false with
              | true =>
                simp -implicitDefEqProofs (maxSteps := 100000000) only [Res.bind_ok, Res.bindF_ok, Fl.bind_nx, Fl.up_rt, ofO_some, if_true, if_false, Bool.false_eq_true, Bool.not_true, Bool.not_false, decide_true, decide_false, asB_bool, intD_int, intD_bool, blO_bool, eqB_int, neB_int, eqB_bool, neB_bool, eqB_str, neB_str, ltB_int, leB_int, gtB_int, geB_int, addD_int, subD_int, lenD_l, lenD_t, List.length_map, mkL_nil, Int.toNat_natCast, Int.toNat_zero, Int.toNat_one, Int.reduceToNat, isNone, eq_self, and_self, itemsD_l, itemsD_t, ix, fc]
                refine Nx.mk ⟨f, left, rfl, h1, h2, hbb, h3, h4, h5, h6, fun k hk c2 e => ?_, h8⟩
                by_cases z : k = idx
                · subst z
                  rw [q] at e
                  have : c2 = c := by
                    have := Option.some.inj e
                    omega
                  rw [this]
                  exact fc
                · exact h7 k (by omega) c2 e
              | false =>
                have se := bl_set (r := f) hc true
                have ap : appU (.list (iL (nL left)), id) (.int (c : Nat)) = some (.list (iL (nL (left ++ [c])))) := by
                  show (if (iL (nL left)).length < cap then some _ else none) = _
                  rw [if_pos (by rw [List.length_map, List.length_map]; unfold cap; omega)]
                  unfold iL nL
                  rw [List.map_append, List.map_append]
                  rfl
                have up : ∀ x, f.getD x false = true → (f.set c true).getD x false = true := fun x hx => by
                  rw [getD_set]
                  split
                  · rfl
                  · exact hx
                have here : (f.set c true).getD c false = true := by rw [getD_set, if_pos ⟨rfl, hc⟩]
                have back : ∀ x, (f.set c true).getD x false = true → x = c ∨ f.getD x false = true := fun x hx => by
                  rw [getD_set] at hx
                  by_cases z : c = x ∧ c < f.length
                  · exact .inl z.1.symm
                  · rw [if_neg z] at hx
                    exact .inr hx
                simp -implicitDefEqProofs (maxSteps := 100000000) only [Res.bind_ok, Res.bindF_ok, Fl.bind_nx, Fl.up_rt, ofO_some, if_true, if_false, Bool.false_eq_true, Bool.not_true, Bool.not_false, decide_true, decide_false, asB_bool, intD_int, intD_bool, blO_bool, eqB_int, neB_int, eqB_bool, neB_bool, eqB_str, neB_str, ltB_int, leB_int, gtB_int, geB_int, addD_int, subD_int, lenD_l, lenD_t, List.length_map, mkL_nil, Int.toNat_natCast, Int.toNat_zero, Int.toNat_one, Int.reduceToNat, isNone, eq_self, and_self, itemsD_l, itemsD_t, ix, fc, se, sd, il, ap]
                refine Nx.mk ⟨f.set c true, left ++ [c], rfl, by rw [List.length_set]; exact h1, up _ h2, up _ hbb, fun x hx => ?_, fun x hx => ?_, fun x hx => ?_, fun x c2 hx hn hxb hr => ?_, fun k hk c2 e => ?_, ?_⟩
                · rcases back x hx with rfl | hx
                  · exact (h3 b hbb).step key
                  · exact h3 x hx
                · rcases List.mem_append.mp hx with hx | hx
                  · exact up x (h4 x hx)
                  · rw [List.mem_singleton.mp hx]
                    exact here
                · rcases List.mem_append.mp hx with hx | hx
                  · exact h5 x hx
                  · rw [List.mem_singleton.mp hx]
                    omega
                · rcases back x hx with rfl | hx
                  · exact (hn (by simp)).elim
                  · exact up c2 (h6 x c2 hx (fun z => hn (by simp [z])) hxb hr)
                · by_cases z : k = idx
                  · subst z
                    rw [q] at e
                    have : c2 = c := by
                      have := Option.some.inj e
                      omega
                    rw [this]
                    exact here
                  · exact up c2 (h7 k (by omega) c2 e)
                · have := nots_set hc fc
                  rw [List.length_append, List.length_singleton]
                  omega
          · rintro _ ⟨f2, left2, rfl, h1, h2, hbb, h3, h4, h5, h6, h7, h8⟩
            refine Nx.mk ⟨f2, left2, rfl, ⟨h1, h2, h3, h4, fun x c hx hn hr => ?_⟩, h5, by omega, by omega⟩
            by_cases z : x = b
            · subst z
              obtain ⟨k, hk⟩ := lr c hr
              have kl : k < row.length := (List.getElem?_eq_some_iff.mp hk).1
              rw [List.length_map] at h7
              exact h7 k kl c hk
            · exact h6 x c hx hn z hr
    · rw [getD_set] at hb
      by_cases z : i = b ∧ i < (L.map fun _ => false).length
      · rw [← z.1]
        exact .refl
      · rw [if_neg z, ff] at hb
        cases hb
    · rw [List.mem_singleton.mp hb, getD_set, if_pos ⟨rfl, by rw [List.length_map]; exact hi⟩]
    · rw [getD_set] at hb
      by_cases z : i = b ∧ i < (L.map fun _ => false).length
      · exact (hn (by rw [z.1]; exact List.mem_singleton_self _)).elim
      · rw [if_neg z, ff] at hb
        cases hb
    · rintro _ ⟨f, rfl, h⟩
      have fl := h.len
      have rR : rng1 (.int (f.length : Nat)) = some (rngL 0 f.length) := rng1_nat _ (by omega)
      have lc := lc_rngF (n := f.length) (c := fun v => ((ofO (ixU (.list (bL f), id) v)).bind fun q => Res.ok q.1).bind fun x => ofO (asB x)) (f := fun v => Res.ok v) (fun k => f.getD k false) (by unfold cap; omega) (fun k hk => by
        have m : ixU (.list (bL f), id) (.int (k : Nat)) = (ixN (bL f).length ((k : Nat) : Int)).bind fun j => ((bL f)[j]?).map fun y => (y, fun z => id (PyData.list ((bL f).set j z))) := rfl
        rw [m, ixN_nat (by rw [List.length_map]; exact hk), Option.bind_some, List.getElem?_map, List.getElem?_eq_getElem hk, List.getD_eq_getElem?_getD, List.getElem?_eq_getElem hk]
        rfl) fun k _ => rfl
      change _ = Res.ok (iL (rowOf f.length f)) at lc
      rw [fl] at rR lc
      simp -implicitDefEqProofs (maxSteps := 100000000) only [Res.bind_ok, Res.bindF_ok, Fl.bind_nx, Fl.up_rt, ofO_some, if_true, if_false, Bool.false_eq_true, Bool.not_true, Bool.not_false, decide_true, decide_false, asB_bool, intD_int, intD_bool, blO_bool, eqB_int, neB_int, eqB_bool, neB_bool, eqB_str, neB_str, ltB_int, leB_int, gtB_int, geB_int, addD_int, subD_int, lenD_l, lenD_t, List.length_map, mkL_nil, Int.toNat_natCast, Int.toNat_zero, Int.toNat_one, Int.reduceToNat, isNone, eq_self, and_self, itemsD_l, itemsD_t, fl, rR, lc]
      exact Rt.mk ⟨f, rfl, fl, h.done⟩
  obtain ⟨d, e, f, rfl, h1, h2⟩ := main
  exact ⟨f, by rw [e]; rfl, h1, h2⟩
theorem mem_row {n k : Nat} {r : List Bool} : ((k : Nat) : Int) ∈ rowOf n r ↔ k < n ∧ r.getD k false = true := by
  unfold rowOf
  rw [List.mem_map]
  constructor
  · rintro ⟨j, hj, e⟩
    have : j = k := by omega
    subst this
    exact ⟨List.mem_range.mp (List.mem_filter.mp hj).1, (List.mem_filter.mp hj).2⟩
  · rintro ⟨h1, h2⟩
    exact ⟨k, List.mem_filter.mpr ⟨List.mem_range.mpr h1, h2⟩, rfl⟩
theorem row_ge {n : Nat} {r : List Bool} {x : Int} (h : x ∈ rowOf n r) : ∃ k : Nat, x = (k : Nat) ∧ k < n ∧ r.getD k false = true := by
  obtain ⟨k, hk, rfl⟩ := List.mem_map.mp h
  exact ⟨k, rfl, List.mem_range.mp (List.mem_filter.mp hk).1, (List.mem_filter.mp hk).2⟩
/-- the rows are plain: n, with n marks each -/
def ixP (G : List (List Bool)) (i : Nat) : D × (D → D) := (.list ((G.getD i []).map PyData.bool), fun z => .list ((G.map fun r => PyData.list (r.map PyData.bool)).set i z))
theorem hs_ix {G : List (List Bool)} {i : Nat} (hi : i < G.length) : ixU (hsD G, id) (.int (i : Nat)) = some (ixP G i) := by
  show (ixN (G.map fun r => PyData.list (r.map PyData.bool)).length ((i : Nat) : Int)).bind (fun j => ((G.map fun r => PyData.list (r.map PyData.bool))[j]?).map fun y => (y, fun z => id (PyData.list ((G.map fun r => PyData.list (r.map PyData.bool)).set j z)))) = _
  rw [ixN_nat (by rw [List.length_map]; exact hi), Option.bind_some, List.getElem?_map, List.getElem?_eq_getElem hi]
  unfold ixP
  rw [List.getD_eq_getElem?_getD, List.getElem?_eq_getElem hi]
  rfl
theorem ixP_set {G : List (List Bool)} {i l : Nat} (hl : l < (G.getD i []).length) (b : Bool) : setU (ixP G i) (.int (l : Nat)) (.bool b) = some (hsD (Hs2 G i l b)) := by
  show (ixN ((G.getD i []).map PyData.bool).length ((l : Nat) : Int)).map _ = _
  rw [ixN_nat (by rw [List.length_map]; exact hl)]
  unfold hsD Hs2
  rw [List.map_set, List.map_set]
  rfl
theorem lr_bt (Hs : List (List Bool)) (j k : Nat) : LR (rowsOf Hs) j k ↔ j < Hs.length ∧ k < Hs.length ∧ BT Hs j k := by
  unfold LR BT
  by_cases q : j < Hs.length
  · rw [rows_at q, mem_row]
    simp [q]
  · rw [List.getD_eq_getElem?_getD, List.getElem?_eq_none (by rw [rows_len]; omega)]
    simp [q]
theorem okl_rows {w : Nat} {Hs : List (List Bool)} (g : GoodH w Hs) : OkL (rowsOf Hs) := by
  have := g.few
  refine ⟨by rw [rows_len]; omega, fun j => ?_⟩
  by_cases q : j < Hs.length
  · rw [rows_at q]
    have := row_len Hs.length (Hs.getD j [])
    refine ⟨by omega, fun x hx => ?_⟩
    obtain ⟨k, rfl, hk, _⟩ := row_ge hx
    rw [rows_len]
    omega
  · rw [List.getD_eq_getElem?_getD, List.getElem?_eq_none (by rw [rows_len]; omega)]
    exact ⟨Nat.zero_le _, fun x hx => nomatch hx⟩
theorem loop_find {β : Type} {f : D → Unit → Fl Unit Unit} {cn : Str} {p : Int → Bool} : ∀ {xs : List Int}, (∀ x ∈ xs, f (.int x) () = if p x = true then .ex cn [.int x] else .nx ()) → (loopF (iL xs) () f : Fl β Unit) = match xs.find? p with
    | some x => .ex cn [.int x]
    | none => .nx ()
  | [], _ => rfl
  | x :: xs, h => by
    rw [show iL (x :: xs) = PyData.int x :: iL xs from rfl, loopF, h x (by simp), List.find?_cons]
    cases q : p x with
    | true => rfl
    | false => exact loop_find fun y hy => h y (by simp [hy])
/-- the least marked one of a row -/
def fstM (M : List Bool) (xs : List Int) : Option Int := xs.find? fun x => M.getD x.toNat false
theorem p_htouch {L : List (List Int)} {M : List Bool} {i : Nat} {f : List Bool} (hr : m_Heap_reach [hpD L M, .int (i : Nat)] = .ok (.tuple [.list (iL (rowOf L.length f))])) (hM : M.length = L.length) : m_Heap_touch [hpD L M, .int (i : Nat)] = match fstM M (rowOf L.length f) with
    | some x => .ex "Fault" [.int x]
    | none => .ok .none := by
  show (o_Heap_touch (hpD L M) (.int (i : Nat))).res = _
  unfold o_Heap_touch
  have hd : md_Heap_reach [hpD L M, .int (i : Nat)] = .ok (.list (iL (rowOf L.length f))) := outN_ok hr
  simp -implicitDefEqProofs (maxSteps := 100000000) only [Res.bind_ok, Res.bindF_ok, Fl.bind_nx, Fl.up_rt, ofO_some, if_true, if_false, Bool.false_eq_true, Bool.not_true, Bool.not_false, decide_true, decide_false, asB_bool, intD_int, intD_bool, blO_bool, eqB_int, neB_int, eqB_bool, neB_bool, eqB_str, neB_str, ltB_int, leB_int, gtB_int, geB_int, addD_int, subD_int, lenD_l, lenD_t, List.length_map, mkL_nil, Int.toNat_natCast, Int.toNat_zero, Int.toNat_one, Int.reduceToNat, isNone, eq_self, and_self, itemsD_l, itemsD_t, hp_isC, hd]
  rw [loop_find (cn := "Fault") (p := fun x => M.getD x.toNat false)]
  · unfold fstM
    cases (rowOf L.length f).find? fun x => M.getD x.toNat false <;> rfl
  · intro x hx
    obtain ⟨k, rfl, hk, _⟩ := row_ge hx
    have it := bl_at (r := M) (i := k) (by omega)
    simp -implicitDefEqProofs (maxSteps := 100000000) only [Res.bind_ok, Res.bindF_ok, Fl.bind_nx, Fl.up_rt, ofO_some, if_true, if_false, Bool.false_eq_true, Bool.not_true, Bool.not_false, decide_true, decide_false, asB_bool, intD_int, intD_bool, blO_bool, eqB_int, neB_int, eqB_bool, neB_bool, eqB_str, neB_str, ltB_int, leB_int, gtB_int, geB_int, addD_int, subD_int, lenD_l, lenD_t, List.length_map, mkL_nil, Int.toNat_natCast, Int.toNat_zero, Int.toNat_one, Int.reduceToNat, isNone, eq_self, and_self, itemsD_l, itemsD_t, hp_marked, it]
    cases q : M.getD k false with
    | true => rfl
    | false => rfl
theorem fld_marked0 (L : List (List Int)) (M : List Bool) : fldU (hpD L M, id) "marked" = some (.list (M.map PyData.bool), fun y => .dict [(.none, .str "Heap"), (.str "links", .list (L.map fun r => .list (iL r))), (.str "marked", y)]) := rfl
theorem p_hhand {L : List (List Int)} {M : List Bool} {i : Nat} {f : List Bool} (hr : m_Heap_reach [hpD L M, .int (i : Nat)] = .ok (.tuple [.list (iL (rowOf L.length f))])) (hM : M.length = L.length) (hl : L.length ≤ 200) (hn : fstM M (rowOf L.length f) = none) : ∃ M' : List Bool, m_Heap_hand [hpD L M, .int (i : Nat)] = .ok (.tuple [.none, hpD L M']) ∧ M'.length = L.length ∧ ∀ k, k < L.length → M'.getD k false = (M.getD k false || f.getD k false) := by
  have e0 : m_Heap_hand [hpD L M, .int (i : Nat)] = resM 1 (o_Heap_hand (hpD L M) (.int (i : Nat))) := rfl
  rw [e0]
  have t := p_htouch hr hM
  rw [hn] at t
  have c1 := lift_ok t
  have hd : ((m_Heap_reach [hpD L M, .int (i : Nat)]).bind outN).bind (flR (.l .d)) = .ok (.list (iL (rowOf L.length f))) := by
    rw [outN_ok hr]
    exact flR_ok (fl_iL _)
  have main : Nx (o_Heap_hand (hpD L M) (.int (i : Nat))) fun t => ∃ M' : List Bool, t = [hpD L M'] ∧ M'.length = L.length ∧ ∀ k, k < L.length → M'.getD k false = (M.getD k false || f.getD k false) := by
    unfold o_Heap_hand
    simp -implicitDefEqProofs (maxSteps := 100000000) only [Res.bind_ok, Res.bindF_ok, Fl.bind_nx, Fl.up_rt, ofO_some, if_true, if_false, Bool.false_eq_true, Bool.not_true, Bool.not_false, decide_true, decide_false, asB_bool, intD_int, intD_bool, blO_bool, eqB_int, neB_int, eqB_bool, neB_bool, eqB_str, neB_str, ltB_int, leB_int, gtB_int, geB_int, addD_int, subD_int, lenD_l, lenD_t, List.length_map, mkL_nil, Int.toNat_natCast, Int.toNat_zero, Int.toNat_one, Int.reduceToNat, isNone, eq_self, and_self, itemsD_l, itemsD_t, hp_isC, c1, hd]
    refine Nx.bind (Nx.loop (fun idx (t : D) => ∃ M' : List Bool, t = hpD L M' ∧ M'.length = L.length ∧ (∀ k, M.getD k false = true → M'.getD k false = true) ∧ (∀ k, M'.getD k false = true → M.getD k false = true ∨ f.getD k false = true) ∧ ∀ j, j < idx → ∀ k : Nat, (rowOf L.length f)[j]? = some ((k : Nat) : Int) → M'.getD k false = true) ⟨M, rfl, hM, fun _ h => h, fun _ h => .inl h, fun j hj => absurd hj (Nat.not_lt_zero _)⟩ ?_) ?_
    · rintro idx x _ hx ⟨M', rfl, h1, h2, h3, h4⟩
      rw [List.getElem?_map] at hx
      cases q : (rowOf L.length f)[idx]? with
      | none => rw [q] at hx; cases hx
      | some y =>
        rw [q] at hx
        cases hx
        obtain ⟨k, rfl, hk, fk⟩ := row_ge (List.mem_of_getElem? q)
        have su : setU (.list (M'.map PyData.bool), fun y => .dict [(.none, .str "Heap"), (.str "links", .list (L.map fun r => .list (iL r))), (.str "marked", y)]) (.int (k : Nat)) (.bool true) = some (hpD L (M'.set k true)) := by
          show (ixN (M'.map PyData.bool).length ((k : Nat) : Int)).map _ = _
          rw [ixN_nat (by rw [List.length_map]; omega)]
          unfold hpD
          rw [List.map_set]
          rfl
        have sd : ∀ {β τ : Type} (y : D) (k : D → Fl β τ), setD (some y) k = k y := fun _ _ => rfl
        simp -implicitDefEqProofs (maxSteps := 100000000) only [Res.bind_ok, Res.bindF_ok, Fl.bind_nx, Fl.up_rt, ofO_some, if_true, if_false, Bool.false_eq_true, Bool.not_true, Bool.not_false, decide_true, decide_false, asB_bool, intD_int, intD_bool, blO_bool, eqB_int, neB_int, eqB_bool, neB_bool, eqB_str, neB_str, ltB_int, leB_int, gtB_int, geB_int, addD_int, subD_int, lenD_l, lenD_t, List.length_map, mkL_nil, Int.toNat_natCast, Int.toNat_zero, Int.toNat_one, Int.reduceToNat, isNone, eq_self, and_self, itemsD_l, itemsD_t, fld_marked0, su, sd]
        refine Nx.mk ⟨M'.set k true, rfl, by rw [List.length_set]; exact h1, fun j hj => ?_, fun j hj => ?_, fun j hj c e => ?_⟩
        · rw [getD_set]
          split
          · rfl
          · exact h2 j hj
        · rw [getD_set] at hj
          by_cases z : k = j ∧ k < M'.length
          · rw [← z.1]
            exact .inr fk
          · rw [if_neg z] at hj
            exact h3 j hj
        · rw [getD_set]
          by_cases z : k = c ∧ k < M'.length
          · rw [if_pos z]
          · rw [if_neg z]
            refine h4 j ?_ c e
            by_cases w : j = idx
            · subst w
              rw [q] at e
              have := Option.some.inj e
              exact (z ⟨by omega, by omega⟩).elim
            · omega
    · rintro _ ⟨M', rfl, h1, h2, h3, h4⟩
      refine Nx.mk ⟨M', rfl, h1, fun k hk => ?_⟩
      rw [List.length_map] at h4
      cases q : f.getD k false with
      | true =>
        obtain ⟨j, hj⟩ := List.mem_iff_getElem?.mp (mem_row.mpr ⟨hk, q⟩)
        rw [Bool.or_true]
        exact h4 j (List.getElem?_eq_some_iff.mp hj).1 k hj
      | false =>
        rw [Bool.or_false]
        cases q2 : M.getD k false with
        | true => exact h2 k q2
        | false =>
          cases q3 : M'.getD k false with
          | false => rfl
          | true =>
            rcases h3 k q3 with z | z
            · rw [q2] at z
              cases z
            · rw [q] at z
              cases z
  obtain ⟨t, e, M', rfl, h1, h2⟩ := main
  exact ⟨M', by rw [e]; rfl, h1, h2⟩
theorem gput {w : Nat} {Hs : List (List Bool)} (g : GoodH w Hs) (hw : Hs.length ≤ w) (M : List Bool) {i j : Nat} (hi : i < Hs.length) (hj : j < Hs.length) : (m_Heap_put [hpD (rowsOf Hs) M, .int (i : Nat), .int (j : Nat)]).bind outM = .ok (.none, [hpD (rowsOf (Hs2 Hs i j true)) M]) := by
  have rl := row_len Hs.length (Hs.getD i [])
  have few := g.few
  have pp := outM1 (p_hput (rowsOf Hs) M (i := i) (j := j) (by rw [rows_len]; exact hi) (by rw [rows_len]; exact hj) (by rw [rows_at hi]; omega))
  rw [rows_put hi hj (by rw [(g.at_ hi).1]; omega)] at pp
  exact pp
theorem gcut {w : Nat} {Hs : List (List Bool)} (g : GoodH w Hs) (M : List Bool) {i j : Nat} (hi : i < Hs.length) (hj : j < Hs.length) : (m_Heap_cut [hpD (rowsOf Hs) M, .int (i : Nat), .int (j : Nat)]).bind outM = .ok (.none, [hpD (rowsOf (Hs2 Hs i j false)) M]) := by
  have rl := row_len Hs.length (Hs.getD i [])
  have few := g.few
  have pp := outM1 (p_hcut (rowsOf Hs) M (i := i) (j := j) (by rw [rows_len]; exact hi) (by rw [rows_len]; exact hj) (by rw [rows_at hi]; omega))
  rw [rows_cut hi] at pp
  exact pp
theorem lc_fls {n : Nat} (h : n ≤ 1000) : lcC (rngL 0 n) (fun _ => Res.ok true) (fun _ => Res.ok (.bool false)) = .ok ((List.replicate n false).map PyData.bool) := by
  obtain ⟨ys, e, rfl⟩ := lc_rng (B := PyData.bool) (n := n) (c := fun _ => Res.ok true) (f := fun _ => Res.ok (.bool false)) (fun _ => false) (by unfold cap; omega) (fun _ _ => rfl) fun _ _ => rfl
  rw [e]
  congr 2
  rw [List.map_const', List.length_range]
theorem rep_up {α : Type} (n : Nat) (a : α) : List.replicate n a ++ [a] = List.replicate (n + 1) a := (List.replicate_succ' ..).symm
theorem nd_len : ∀ {n : Nat} {l : List Nat}, l.Nodup → (∀ x ∈ l, x < n) → l.length ≤ n
  | 0, [], _, _ => Nat.le_refl _
  | 0, x :: _, _, h => absurd (h x (by simp)) (Nat.not_lt_zero _)
  | n + 1, l, nd, h => by
    by_cases q : n ∈ l
    · have e := List.length_erase_of_mem q
      have ih := nd_len (n := n) (l := l.erase n) (nd.erase n) fun x hx => by
        have := (nd.mem_erase_iff).mp hx
        have := h x this.2
        have : x ≠ n := by simp_all
        omega
      have : 0 < l.length := List.length_pos_of_mem q
      omega
    · have ih := nd_len (n := n) nd fun x hx => by
        have := h x hx
        have : x ≠ n := fun z => q (z ▸ hx)
        omega
      omega
def ClL (R : Nat → Nat → Prop) (l : List Nat) : Prop := ∀ j i, j ∈ l → R j i → i ∈ l
structure RdB (R : Nat → Nat → Prop) (n a : Nat) (l : List Nat) : Prop where
  fst : a ∈ l
  snd : ∀ x ∈ l, Rch R a x
  nd : l.Nodup
  lt : ∀ x ∈ l, x < n
/-- within a turn that began with l0: all pairs up to (j, i) are looked at -/
structure Rd (R : Nat → Nat → Prop) (n a : Nat) (l0 : List Nat) (j i : Nat) (l : List Nat) : Prop where
  b : RdB R n a l
  len : l0.length ≤ l.length
  alt : (l = l0 ∧ ∀ x y, (x < j ∨ x = j ∧ y < i) → R x y → x ∈ l0 → y ∈ l0) ∨ l0.length < l.length
  fix : ClL R l0 → l = l0
theorem Rd.stepT {R : Nat → Nat → Prop} {n a j i : Nat} {l0 l : List Nat} (h : Rd R n a l0 j i l) (hi : i < n) (r : R j i) (hj : j ∈ l) (hn : i ∉ l) : Rd R n a l0 j (i + 1) (l ++ [i]) := by
  refine ⟨⟨by simp [h.b.fst], fun x hx => ?_, ?_, fun x hx => ?_⟩, by have := h.len; rw [List.length_append]; omega, .inr (by have := h.len; rw [List.length_append, List.length_singleton]; omega), fun c => ?_⟩
  · rcases List.mem_append.mp hx with hx | hx
    · exact h.b.snd x hx
    · rw [List.mem_singleton.mp hx]
      exact (h.b.snd j hj).step r
  · exact List.nodup_append.mpr ⟨h.b.nd, by simp, fun x hx y hy => by rw [List.mem_singleton.mp hy]; exact fun z => hn (z ▸ hx)⟩
  · rcases List.mem_append.mp hx with hx | hx
    · exact h.b.lt x hx
    · rw [List.mem_singleton.mp hx]
      exact hi
  · have e := h.fix c
    subst e
    exact (hn (c j i hj r)).elim
theorem Rd.stepF {R : Nat → Nat → Prop} {n a j i : Nat} {l0 l : List Nat} (h : Rd R n a l0 j i l) (q : ¬ (R j i ∧ j ∈ l ∧ i ∉ l)) : Rd R n a l0 j (i + 1) l := by
  refine ⟨h.b, h.len, ?_, h.fix⟩
  rcases h.alt with ⟨rfl, h2⟩ | h2
  · refine .inl ⟨rfl, fun x y hp r hx => ?_⟩
    by_cases e : x = j ∧ y = i
    · obtain ⟨rfl, rfl⟩ := e
      by_cases m : y ∈ l
      · exact m
      · exact (q ⟨r, hx, m⟩).elim
    · exact h2 x y (by omega) r hx
  · exact .inr h2
theorem Rd.row {R : Nat → Nat → Prop} {n a j : Nat} {l0 l : List Nat} (h : Rd R n a l0 j n l) (hR : ∀ x y, R x y → x < n ∧ y < n) : Rd R n a l0 (j + 1) 0 l := by
  refine ⟨h.b, h.len, ?_, h.fix⟩
  rcases h.alt with ⟨rfl, h2⟩ | h2
  · exact .inl ⟨rfl, fun x y hp r hx => h2 x y (by have := (hR x y r).2; omega) r hx⟩
  · exact .inr h2
theorem Rd.start {R : Nat → Nat → Prop} {n a : Nat} {l : List Nat} (h : RdB R n a l) : Rd R n a l 0 0 l := ⟨h, Nat.le_refl _, .inl ⟨rfl, fun x y hp => by omega⟩, fun _ => rfl⟩
/-- behind k turns -/
def RdN (R : Nat → Nat → Prop) (n a k : Nat) (l : List Nat) : Prop := RdB R n a l ∧ (ClL R l ∨ k + 1 ≤ l.length)
theorem Rd.turn {R : Nat → Nat → Prop} {n a k : Nat} {l0 l : List Nat} (h0 : RdN R n a k l0) (h : Rd R n a l0 n 0 l) (hR : ∀ x y, R x y → x < n ∧ y < n) : RdN R n a (k + 1) l := by
  refine ⟨h.b, ?_⟩
  rcases h.alt with ⟨rfl, h2⟩ | h2
  · exact .inl fun j i hj r => h2 j i (.inl (hR j i r).1) r hj
  · rcases h0.2 with c | c
    · have := h.fix c
      rw [this] at h2
      omega
    · exact .inr (by omega)
theorem RdN.done {R : Nat → Nat → Prop} {n a : Nat} {l : List Nat} (h : RdN R n a n l) (x : Nat) : x ∈ l ↔ Rch R a x := by
  refine ⟨h.1.snd x, fun k => ?_⟩
  rcases h.2 with c | c
  · exact k.closed (fun y => y ∈ l) h.1.fst fun y z hy r => c y z hy r
  · have := nd_len h.1.nd h.1.lt
    omega
def Stp (R : Nat → Nat → Prop) (v : Nat) : Nat → Nat → Prop
  | 0, j => v = j
  | t + 1, j => Stp R v t j ∨ ∃ u, Stp R v t u ∧ R u j
theorem Stp.up {R : Nat → Nat → Prop} {v : Nat} : ∀ {s t j : Nat}, s ≤ t → Stp R v s j → Stp R v t j := by
  intro s t j h
  induction h with
  | refl => exact id
  | step _ ih => exact fun w => .inl (ih w)
open Classical in
theorem countP_lt {p q : Nat → Bool} : ∀ (n : Nat), (∀ k, k < n → p k = true → q k = true) → (List.range n).countP p ≤ (List.range n).countP q ∧ ((∃ k, k < n ∧ q k = true ∧ p k = false) → (List.range n).countP p < (List.range n).countP q)
  | 0, _ => ⟨Nat.le_refl _, fun ⟨k, h, _⟩ => absurd h (Nat.not_lt_zero _)⟩
  | n + 1, h => by
    obtain ⟨h1, h2⟩ := countP_lt (p := p) (q := q) n fun k hk => h k (by omega)
    have hn := h n (Nat.lt_succ_self n)
    have e : ∀ r : Nat → Bool, (List.range (n + 1)).countP r = (List.range n).countP r + if r n = true then 1 else 0 := fun r => by
      rw [List.range_succ, List.countP_append, List.countP_singleton]
    rw [e p, e q]
    refine ⟨?_, ?_⟩
    · by_cases z : p n = true
      · rw [if_pos z, if_pos (hn z)]
        omega
      · rw [if_neg z]
        omega
    · rintro ⟨k, hk, a, b⟩
      by_cases e : k = n
      · subst e
        rw [if_pos a, if_neg (by rw [b]; decide)]
        omega
      · have := h2 ⟨k, by omega, a, b⟩
        by_cases z : p n = true
        · rw [if_pos z, if_pos (hn z)]
          omega
        · rw [if_neg z]
          omega
open Classical in
theorem Stp.grow {R : Nat → Nat → Prop} {n v : Nat} (hv : v < n) (hR : ∀ x y, R x y → y < n) (t : Nat) : (∃ s, s < t ∧ ∀ j, Stp R v (s + 1) j → Stp R v s j) ∨ t + 1 ≤ (List.range n).countP fun j => decide (Stp R v t j) := by
  induction t with
  | zero =>
    refine .inr ?_
    have := (countP_lt (p := fun _ => false) (q := fun j => decide (Stp R v 0 j)) n (fun k _ h => nomatch h)).2 ⟨v, hv, by simp [Stp], rfl⟩
    omega
  | succ t ih =>
    rcases ih with ⟨s, h1, h2⟩ | ih
    · exact .inl ⟨s, by omega, h2⟩
    · by_cases q : ∀ j, Stp R v (t + 1) j → Stp R v t j
      · exact .inl ⟨t, Nat.lt_succ_self t, q⟩
      · obtain ⟨j, hj⟩ := Classical.not_forall.mp q
        have h1 : Stp R v (t + 1) j := Classical.byContradiction fun z => hj fun y => (z y).elim
        have h2 : ¬ Stp R v t j := fun z => hj fun _ => z
        have lt : j < n := by
          rcases h1 with w | ⟨u, _, r⟩
          · exact (h2 w).elim
          · exact hR _ _ r
        have := (countP_lt (p := fun j => decide (Stp R v t j)) (q := fun j => decide (Stp R v (t + 1) j)) n (fun k _ h => decide_eq_true (.inl (of_decide_eq_true h)))).2 ⟨j, lt, decide_eq_true h1, decide_eq_false h2⟩
        exact .inr (by omega)
theorem Stp.of {R : Nat → Nat → Prop} {n v j : Nat} (hv : v < n) (hR : ∀ x y, R x y → y < n) (h : Rch R v j) : Stp R v n j := by
  rcases Stp.grow hv hR n with ⟨s, h1, h2⟩ | h1
  · refine Stp.up (Nat.le_of_lt h1) (h.closed (Stp R v s) (Stp.up (Nat.zero_le _) rfl) fun x y hx r => h2 y (.inr ⟨x, hx, r⟩))
  · have : (List.range n).countP (fun j => @decide (Stp R v n j) (Classical.propDecidable _)) ≤ (List.range n).length := List.countP_le_length
    rw [List.length_range] at this
    omega
theorem Rch.symm {R : Nat → Nat → Prop} (hs : ∀ x y, R x y → R y x) {a b : Nat} (h : Rch R a b) : Rch R b a := by
  induction h with
  | refl => exact .refl
  | step _ r ih => exact (Rch.refl.step (hs _ _ r)).trans ih
noncomputable section
open Classical
def ldr (R : Nat → Nat → Prop) (b : Nat) : Nat := ((List.range (b + 1)).find? fun a => decide (Rch R a b)).getD b
theorem ldr_spec {R : Nat → Nat → Prop} (b : Nat) : Rch R (ldr R b) b ∧ ldr R b ≤ b ∧ ∀ c, c < ldr R b → ¬ Rch R c b := by
  have h : ((List.range (b + 1)).find? fun a => decide (Rch R a b)) = some (ldr R b) := by
    unfold ldr
    cases q : (List.range (b + 1)).find? fun a => decide (Rch R a b) with
    | some a => rfl
    | none =>
      have := List.find?_eq_none.mp q b (List.mem_range.mpr (Nat.lt_succ_self b))
      exact (this (decide_eq_true .refl)).elim
  refine ⟨of_decide_eq_true (List.find?_some (p := fun a => decide (Rch R a b)) h), ?_, fun c hc r => ?_⟩
  · have := List.mem_range.mp (List.mem_of_find?_eq_some h)
    omega
  · obtain ⟨h1, l1, l2, e, h2⟩ := List.find?_eq_some_iff_append.mp h
    have : c ∈ l1 := by
      have el : l1.length = ldr R b := by
        have e2 : (List.range (b + 1))[l1.length]? = some (ldr R b) := by
          rw [e, List.getElem?_append_right (Nat.le_refl _), Nat.sub_self]
          rfl
        have := (List.getElem?_eq_some_iff.mp e2)
        obtain ⟨_, z⟩ := this
        rw [List.getElem_range] at z
        exact z
      have e3 : (List.range (b + 1))[c]? = l1[c]? := by
        rw [e, List.getElem?_append_left (by omega)]
      have : c < b + 1 := by
        have := List.mem_range.mp (List.mem_of_find?_eq_some h)
        omega
      rw [List.getElem?_range this] at e3
      exact List.mem_of_getElem? e3.symm
    have := h2 c this
    simp [r] at this
def isLd (R : Nat → Nat → Prop) (a : Nat) : Prop := ldr R a = a
theorem ldr_eq {R : Nat → Nat → Prop} (hs : ∀ x y, R x y → R y x) {a b : Nat} (h : Rch R a b) : ldr R a = ldr R b := by
  obtain ⟨a1, a2, a3⟩ := ldr_spec (R := R) a
  obtain ⟨b1, b2, b3⟩ := ldr_spec (R := R) b
  rcases Nat.lt_trichotomy (ldr R a) (ldr R b) with q | q | q
  · exact (b3 _ q (a1.trans h)).elim
  · exact q
  · exact (a3 _ q (b1.trans (h.symm hs))).elim
theorem ldr_isLd {R : Nat → Nat → Prop} (hs : ∀ x y, R x y → R y x) (b : Nat) : isLd R (ldr R b) := ldr_eq hs (ldr_spec b).1
/-- the leaders below n -/
def ldrs (R : Nat → Nat → Prop) (n : Nat) : List Nat := (List.range n).filter fun a => decide (isLd R a)
theorem ldrs_succ (R : Nat → Nat → Prop) (n : Nat) : ldrs R (n + 1) = ldrs R n ++ if isLd R n then [n] else [] := by
  unfold ldrs
  rw [List.range_succ, List.filter_append]
  congr 1
  by_cases q : isLd R n
  · rw [if_pos q, List.filter_cons_of_pos (by simpa using q)]
    rfl
  · rw [if_neg q, List.filter_cons_of_neg (by simpa using q)]
    rfl
theorem ldrs_mem {R : Nat → Nat → Prop} {n a : Nat} : a ∈ ldrs R n ↔ a < n ∧ isLd R a := by
  unfold ldrs
  rw [List.mem_filter, List.mem_range, decide_eq_true_eq]
theorem ldrs_idx {R : Nat → Nat → Prop} {a : Nat} (h : isLd R a) : ∀ {n : Nat}, a < n → (ldrs R n).idxOf a = (ldrs R a).length
  | 0, hn => absurd hn (Nat.not_lt_zero _)
  | n + 1, hn => by
    rw [ldrs_succ]
    by_cases q : a < n
    · rw [List.idxOf_append, if_pos (ldrs_mem.mpr ⟨q, h⟩)]
      exact ldrs_idx h q
    · have e : a = n := by omega
      subst e
      rw [if_pos h, List.idxOf_append, if_neg fun z => absurd (ldrs_mem.mp z).1 (Nat.lt_irrefl _), List.idxOf_cons]
      simp
/-- the number of an island -/
def inum (R : Nat → Nat → Prop) (b : Nat) : Nat := (ldrs R (ldr R b)).length
end
theorem ixI_at {c : List Int} {U : D → D} {k : Nat} (h : k < c.length) : (ofO (ixU (.list (iL c), U) (.int (k : Nat)))).bind (fun q => Res.ok q.1) = .ok (.int (c.getD k 0)) := by
  have m : ixU (.list (iL c), U) (.int (k : Nat)) = (ixN (iL c).length ((k : Nat) : Int)).bind fun j => ((iL c)[j]?).map fun y => (y, fun z => U (PyData.list ((iL c).set j z))) := rfl
  rw [m, ixN_nat (by rw [List.length_map]; exact h), Option.bind_some, List.getElem?_map, List.getElem?_eq_getElem h, List.getD_eq_getElem?_getD, List.getElem?_eq_getElem h]
  rfl
theorem setI_at {c : List Int} {k : Nat} (h : k < c.length) (x : Int) : setU (.list (iL c), id) (.int (k : Nat)) (.int x) = some (.list (iL (c.set k x))) := by
  show (ixN (iL c).length ((k : Nat) : Int)).map _ = _
  rw [ixN_nat (by rw [List.length_map]; exact h)]
  unfold iL
  rw [List.map_set]
  rfl
theorem getD_setI (r : List Int) (j k : Nat) (b : Int) : (r.set j b).getD k 0 = if j = k ∧ j < r.length then b else r.getD k 0 := by
  rw [List.getD_eq_getElem?_getD, List.getD_eq_getElem?_getD, List.getElem?_set]
  by_cases q : j = k
  · subst q
    by_cases q2 : j < r.length
    · simp [q2]
    · simp [q2, List.getElem?_eq_none (Nat.le_of_not_lt q2)]
  · simp [q]
/-- a near list, as data -/
def nrD (N : List (List Int)) : D := .list (N.map fun r => .list (iL r))
theorem rep_set (n i k : Nat) (hi : i < n) : ((List.replicate n false).set i true).getD k false = decide (i = k) := by
  rw [getD_set, List.length_replicate, rep_getD]
  by_cases q : i = k
  · rw [if_pos ⟨q, hi⟩, decide_eq_true q]
  · rw [if_neg fun z => q z.1, decide_eq_false q]
theorem p_spread {N : List (List Int)} {n : Nat} (hN : N.length = n) (hn : n ≤ 200) (hx : ∀ j, ∀ x ∈ N.getD j [], 0 ≤ x ∧ x < (n : Nat)) {c : List Int} (hc : c.length = n) {i num : Nat} (hi : i < n) (hfree : ∀ b, Rch (LR N) i b → c.getD b 0 < 0) :
    ∃ c' : List Int, m_spread [nrD N, .list (iL c), .int (i : Nat), .int (num : Nat)] = .ok (.tuple [.none, .list (iL c')]) ∧ c'.length = n ∧ ∀ b, (Rch (LR N) i b → c'.getD b 0 = (num : Nat)) ∧ (¬ Rch (LR N) i b → c'.getD b 0 = c.getD b 0) := by
  have sh : m_spread [nrD N, .list (iL c), .int (i : Nat), .int (num : Nat)] = resM 1 (o_spread (nrD N) (.list (iL c)) (.int (i : Nat)) (.int (num : Nat))) := by
    unfold m_spread
    exact if_pos rfl
  rw [sh]
  have main : Nx (o_spread (nrD N) (.list (iL c)) (.int (i : Nat)) (.int (num : Nat))) fun t => ∃ c' : List Int, t = [.list (iL c')] ∧ c'.length = n ∧ ∀ b, (Rch (LR N) i b → c'.getD b 0 = (num : Nat)) ∧ (¬ Rch (LR N) i b → c'.getD b 0 = c.getD b 0) := by
    unfold o_spread
    have sd : ∀ {β τ : Type} (y : D) (k : D → Fl β τ), setD (some y) k = k y := fun _ _ => rfl
    have se := setI_at (c := c) (k := i) (by omega) (num : Nat)
    have mk1 : mkL [PyData.int (i : Nat)] = some [.int (i : Nat)] := rfl
    simp -implicitDefEqProofs (maxSteps := 100000000) only [Res.bind_ok, Res.bindF_ok, Fl.bind_nx, Fl.up_rt, ofO_some, if_true, if_false, Bool.false_eq_true, Bool.not_true, Bool.not_false, decide_true, decide_false, asB_bool, intD_int, intD_bool, blO_bool, eqB_int, neB_int, eqB_bool, neB_bool, eqB_str, neB_str, ltB_int, leB_int, gtB_int, geB_int, addD_int, subD_int, lenD_l, lenD_t, List.length_map, mkL_nil, Int.toNat_natCast, Int.toNat_zero, Int.toNat_one, Int.reduceToNat, isNone, eq_self, and_self, itemsD_l, itemsD_t, se, sd, mk1]
    have nz : ∀ {β τ : Type} (z : D) (f : D → Fl β τ), nz1 .no [z] f = f z := fun _ _ => rfl
    have il : ∀ xs : List D, isL (.list xs) = true := fun _ => rfl
    let Cn : List Bool → List Int → Prop := fun f c' => c'.length = n ∧ ∀ b, c'.getD b 0 = if f.getD b false = true then ((num : Nat) : Int) else c.getD b 0
    have cup : ∀ {f c' b}, Cn f c' → f.length = n → b < n → Cn (f.set b true) (c'.set b (num : Nat)) := fun {f c' b} h hf hb => by
      refine ⟨by rw [List.length_set]; exact h.1, fun k => ?_⟩
      rw [getD_setI, getD_set, h.1, hf]
      by_cases q : b = k ∧ b < n
      · rw [if_pos q, if_pos q, if_pos rfl]
      · rw [if_neg q, if_neg q]
        exact h.2 k
    have rs := rep_set n i
    refine Nx.bind (Nx.whil (fun m (t : D × D) => ∃ f left c', t = (.list (iL c'), .list (iL (nL left))) ∧ Cn f c' ∧ Srch (LR N) n i f left ∧ (∀ b ∈ left, b < n) ∧ nots f + left.length = m ∧ m ≤ 201) (P := fun t => ∃ f c', t = (.list (iL c'), .list []) ∧ Cn f c' ∧ Srch (LR N) n i f []) ?_ fuelW (nots ((List.replicate n false).set i true) + 1) _ (by
        have : nots ((List.replicate n false).set i true) ≤ ((List.replicate n false).set i true).length := List.countP_le_length
        rw [List.length_set, List.length_replicate] at this
        have : fuelW = 1000000000 := rfl
        omega) ⟨(List.replicate n false).set i true, [i], c.set i (num : Nat), rfl, cup ⟨hc, fun b => by rw [rep_getD]; rfl⟩ List.length_replicate hi, ⟨by rw [List.length_set, List.length_replicate], by rw [rs i hi, decide_eq_true rfl], fun b hb => ?_, fun b hb => ?_, fun b x hb hn => ?_⟩, fun b hb => by rw [List.mem_singleton.mp hb]; exact hi, rfl, by
        have : nots ((List.replicate n false).set i true) ≤ ((List.replicate n false).set i true).length := List.countP_le_length
        rw [List.length_set, List.length_replicate] at this
        omega⟩) ?_
    · rintro m _ ⟨f, left, c1, rfl, hcn, h, hl, hm, hm2⟩
      rcases List.eq_nil_or_concat left with rfl | ⟨left', b, rfl⟩
      · refine .inr ⟨?_, f, c1, rfl, hcn, h⟩
        simp -implicitDefEqProofs (maxSteps := 100000000) only [Res.bind_ok, Res.bindF_ok, Fl.bind_nx, Fl.up_rt, ofO_some, if_true, if_false, Bool.false_eq_true, Bool.not_true, Bool.not_false, decide_true, decide_false, asB_bool, intD_int, intD_bool, blO_bool, eqB_int, neB_int, eqB_bool, neB_bool, eqB_str, neB_str, ltB_int, leB_int, gtB_int, geB_int, addD_int, subD_int, lenD_l, lenD_t, List.length_map, mkL_nil, Int.toNat_natCast, Int.toNat_zero, Int.toNat_one, Int.reduceToNat, isNone, eq_self, and_self, itemsD_l, itemsD_t]
        rfl
      · rw [List.concat_eq_append] at *
        have hb : b < n := hl b (by simp)
        have fb : f.getD b false = true := h.lft b (by simp)
        rw [List.length_append, List.length_singleton] at hm
        refine .inl ⟨nots f + left'.length, by omega, ?_, ?_⟩
        · have q : (0 : Int) < (((left' ++ [b]).length : Nat) : Int) := by rw [List.length_append, List.length_singleton]; omega
          simp -implicitDefEqProofs (maxSteps := 100000000) only [Res.bind_ok, Res.bindF_ok, Fl.bind_nx, Fl.up_rt, ofO_some, if_true, if_false, Bool.false_eq_true, Bool.not_true, Bool.not_false, decide_true, decide_false, asB_bool, intD_int, intD_bool, blO_bool, eqB_int, neB_int, eqB_bool, neB_bool, eqB_str, neB_str, ltB_int, leB_int, gtB_int, geB_int, addD_int, subD_int, lenD_l, lenD_t, List.length_map, mkL_nil, Int.toNat_natCast, Int.toNat_zero, Int.toNat_one, Int.reduceToNat, isNone, eq_self, and_self, itemsD_l, itemsD_t, q, decide_eq_true q]
        · have pop : popU (.list (iL (nL (left' ++ [b]))), id) = some (.int (b : Nat), .list (iL (nL left'))) := by
            show ((iL (nL (left' ++ [b]))).getLast?).map _ = _
            unfold iL nL
            rw [List.map_append, List.map_append]
            simp
          have it : itemD (nrD N) (.int (b : Nat)) = some (.list (iL (N.getD b []))) := hp_row (L := N) (by omega)
          have itl : itL (.list (iL (N.getD b []))) = some (iL (N.getD b [])) := rfl
          simp -implicitDefEqProofs (maxSteps := 100000000) only [Res.bind_ok, Res.bindF_ok, Fl.bind_nx, Fl.up_rt, ofO_some, if_true, if_false, Bool.false_eq_true, Bool.not_true, Bool.not_false, decide_true, decide_false, asB_bool, intD_int, intD_bool, blO_bool, eqB_int, neB_int, eqB_bool, neB_bool, eqB_str, neB_str, ltB_int, leB_int, gtB_int, geB_int, addD_int, subD_int, lenD_l, lenD_t, List.length_map, mkL_nil, Int.toNat_natCast, Int.toNat_zero, Int.toNat_one, Int.reduceToNat, isNone, eq_self, and_self, itemsD_l, itemsD_t, pop, it, itl, nz]
          have rng := hx b
          have lr : ∀ c, LR N b c → ∃ k : Nat, (N.getD b [])[k]? = some ((c : Nat) : Int) := fun c hc => by
            obtain ⟨k, hk⟩ := List.mem_iff_getElem?.mp hc
            exact ⟨k, hk⟩
          have lr2 : ∀ x ∈ N.getD b [], ∀ c : Nat, x = (c : Nat) → LR N b c := fun x hx c e => by
            unfold LR
            rw [← e]
            exact hx
          generalize N.getD b [] = row at *
          refine Nx.bind (Nx.loop (fun idx (t : D × D) => ∃ f left c1, t = (.list (iL c1), .list (iL (nL left))) ∧ Cn f c1 ∧ f.length = n ∧ f.getD i false = true ∧ f.getD b false = true ∧ (∀ x, f.getD x false = true → Rch (LR N) i x) ∧ (∀ x ∈ left, f.getD x false = true) ∧ (∀ x ∈ left, x < n) ∧ (∀ x c, f.getD x false = true → x ∉ left → x ≠ b → LR N x c → f.getD c false = true) ∧ (∀ k, k < idx → ∀ c : Nat, row[k]? = some ((c : Nat) : Int) → f.getD c false = true) ∧ nots f + left.length + 1 = m) ⟨f, left', c1, rfl, hcn, h.len, h.fst, fb, h.snd, fun x hx => h.lft x (by simp [hx]), fun x hx => hl x (by simp [hx]), fun x c h1 h2 h3 h4 => h.cls x c h1 (by simp [h2, h3]) h4, fun k hk => absurd hk (Nat.not_lt_zero _), by omega⟩ ?_) ?_
          · rintro idx x _ hx ⟨f, left, c1, rfl, hcn, h1, h2, hbb, h3, h4, h5, h6, h7, h8⟩
            rw [List.getElem?_map] at hx
            cases q : row[idx]? with
            | none => rw [q] at hx; cases hx
            | some y =>
              rw [q] at hx
              cases hx
              obtain ⟨y0, y1⟩ := rng y (List.mem_of_getElem? q)
              obtain ⟨k, rfl⟩ : ∃ k : Nat, y = (k : Nat) := ⟨y.toNat, by omega⟩
              have hk : k < n := by omega
              have ix := ixI_at (c := c1) (U := id) (k := k) (by rw [hcn.1]; exact hk)
              have val := hcn.2 k
              have key : LR N b k := lr2 _ (List.mem_of_getElem? q) k rfl
              cases fc : f.getD k false with
              | true =>
                rw [fc, if_pos rfl] at val
                have nl : ¬ (c1.getD k 0 < 0) := by rw [val]; omega
                simp -implicitDefEqProofs (maxSteps := 100000000) only [Res.bind_ok, Res.bindF_ok, Fl.bind_nx, Fl.up_rt, ofO_some, if_true, if_false, Bool.false_eq_true, Bool.not_true, Bool.not_false, decide_true, decide_false, asB_bool, intD_int, intD_bool, blO_bool, eqB_int, neB_int, eqB_bool, neB_bool, eqB_str, neB_str, ltB_int, leB_int, gtB_int, geB_int, addD_int, subD_int, lenD_l, lenD_t, List.length_map, mkL_nil, Int.toNat_natCast, Int.toNat_zero, Int.toNat_one, Int.reduceToNat, isNone, eq_self, and_self, itemsD_l, itemsD_t, ix, nl, decide_eq_false nl]
                refine Nx.mk ⟨f, left, c1, rfl, hcn, h1, h2, hbb, h3, h4, h5, h6, fun k2 hk2 c2 e => ?_, h8⟩
                by_cases z : k2 = idx
                · subst z
                  rw [q] at e
                  have : c2 = k := by
                    have := Option.some.inj e
                    omega
                  rw [this]
                  exact fc
                · exact h7 k2 (by omega) c2 e
              | false =>
                rw [fc, if_neg (by decide)] at val
                have lt0 : c1.getD k 0 < 0 := by
                  rw [val]
                  exact hfree k ((h3 b hbb).step key)
                have se := setI_at (c := c1) (k := k) (by rw [hcn.1]; exact hk) (num : Nat)
                have ap : appU (.list (iL (nL left)), id) (.int (k : Nat)) = some (.list (iL (nL (left ++ [k])))) := by
                  show (if (iL (nL left)).length < cap then some _ else none) = _
                  rw [if_pos (by rw [List.length_map, List.length_map]; unfold cap; omega)]
                  unfold iL nL
                  rw [List.map_append, List.map_append]
                  rfl
                have up : ∀ x, f.getD x false = true → (f.set k true).getD x false = true := fun x hx => by
                  rw [getD_set]
                  split
                  · rfl
                  · exact hx
                have here : (f.set k true).getD k false = true := by rw [getD_set, if_pos ⟨rfl, by omega⟩]
                have back : ∀ x, (f.set k true).getD x false = true → x = k ∨ f.getD x false = true := fun x hx => by
                  rw [getD_set] at hx
                  by_cases z : k = x ∧ k < f.length
                  · exact .inl z.1.symm
                  · rw [if_neg z] at hx
                    exact .inr hx
                simp -implicitDefEqProofs (maxSteps := 100000000) only [Res.bind_ok, Res.bindF_ok, Fl.bind_nx, Fl.up_rt, ofO_some, if_true, if_false, Bool.false_eq_true, Bool.not_true, Bool.not_false, decide_true, decide_false, asB_bool, intD_int, intD_bool, blO_bool, eqB_int, neB_int, eqB_bool, neB_bool, eqB_str, neB_str, ltB_int, leB_int, gtB_int, geB_int, addD_int, subD_int, lenD_l, lenD_t, List.length_map, mkL_nil, Int.toNat_natCast, Int.toNat_zero, Int.toNat_one, Int.reduceToNat, isNone, eq_self, and_self, itemsD_l, itemsD_t, ix, lt0, decide_eq_true lt0, se, sd, il, ap]
                refine Nx.mk ⟨f.set k true, left ++ [k], c1.set k (num : Nat), rfl, cup hcn h1 hk, by rw [List.length_set]; exact h1, up _ h2, up _ hbb, fun x hx => ?_, fun x hx => ?_, fun x hx => ?_, fun x c2 hx hn hxb hr => ?_, fun k2 hk2 c2 e => ?_, ?_⟩
                · rcases back x hx with rfl | hx
                  · exact (h3 b hbb).step key
                  · exact h3 x hx
                · rcases List.mem_append.mp hx with hx | hx
                  · exact up x (h4 x hx)
                  · rw [List.mem_singleton.mp hx]
                    exact here
                · rcases List.mem_append.mp hx with hx | hx
                  · exact h5 x hx
                  · rw [List.mem_singleton.mp hx]
                    exact hk
                · rcases back x hx with rfl | hx
                  · exact (hn (by simp)).elim
                  · exact up c2 (h6 x c2 hx (fun z => hn (by simp [z])) hxb hr)
                · by_cases z : k2 = idx
                  · subst z
                    rw [q] at e
                    have : c2 = k := by
                      have := Option.some.inj e
                      omega
                    rw [this]
                    exact here
                  · exact up c2 (h7 k2 (by omega) c2 e)
                · have := nots_set (by omega : k < f.length) fc
                  rw [List.length_append, List.length_singleton]
                  omega
          · rintro _ ⟨f2, left2, c2, rfl, hcn, h1, h2, hbb, h3, h4, h5, h6, h7, h8⟩
            refine Nx.mk ⟨f2, left2, c2, rfl, hcn, ⟨h1, h2, h3, h4, fun x c hx hn hr => ?_⟩, h5, by omega, by omega⟩
            by_cases z : x = b
            · subst z
              obtain ⟨k, hk⟩ := lr c hr
              have kl : k < row.length := (List.getElem?_eq_some_iff.mp hk).1
              rw [List.length_map] at h7
              exact h7 k kl c hk
            · exact h6 x c hx hn z hr
    · have := rs b hi
      rw [this] at hb
      rw [← of_decide_eq_true hb]
      exact .refl
    · rw [List.mem_singleton.mp hb, rs i hi, decide_eq_true rfl]
    · have := rs b hi
      rw [this] at hb
      exact (hn (by rw [of_decide_eq_true hb]; exact List.mem_singleton_self _)).elim
    · rintro _ ⟨f, c1, rfl, hcn, h⟩
      have dn := h.done
      refine Nx.mk ⟨c1, rfl, hcn.1, fun b => ⟨fun r => ?_, fun r => ?_⟩⟩
      · rw [hcn.2 b, if_pos ((dn b).mpr r)]
      · rw [hcn.2 b, if_neg fun z => r ((dn b).mp z)]
  obtain ⟨t, e, c', rfl, h1, h2⟩ := main
  exact ⟨c', by rw [e]; rfl, h1, h2⟩
/-- the near list on the way: all holders below h are in, and of h's parts the first idx -/
structure NrI (L : List (List Int)) (h idx : Nat) (N : List (List Int)) : Prop where
  len : N.length = L.length
  mem : ∀ a b, LR N a b ↔ LR L a b ∨ (LR L b a ∧ b < h) ∨ (b = h ∧ ∃ j, j < idx ∧ (L.getD h [])[j]? = some ((a : Nat) : Int))
  rng : ∀ j, ∀ x ∈ N.getD j [], 0 ≤ x ∧ x < (L.length : Nat)
  few : ∀ j, (N.getD j []).length ≤ 200 + h * 200 + idx
theorem NrI.step {L : List (List Int)} {h idx : Nat} {N : List (List Int)} (I : NrI L h idx N) (hh : h < L.length) {a : Nat} (ha : a < L.length) (e : (L.getD h [])[idx]? = some ((a : Nat) : Int)) : NrI L h (idx + 1) (N.set a (N.getD a [] ++ [((h : Nat) : Int)])) := by
  have an : a < N.length := by rw [I.len]; exact ha
  refine ⟨by rw [List.length_set]; exact I.len, fun x b => ?_, fun j x hx => ?_, fun j => ?_⟩
  · have m := I.mem x b
    unfold LR at *
    rw [getD_setL]
    by_cases q : a = x
    · subst q
      rw [if_pos ⟨rfl, an⟩, List.mem_append, m, List.mem_singleton]
      constructor
      · rintro ((w | w | ⟨w1, j, w2, w3⟩) | w)
        · exact .inl w
        · exact .inr (.inl w)
        · exact .inr (.inr ⟨w1, j, by omega, w3⟩)
        · exact .inr (.inr ⟨by omega, idx, by omega, e⟩)
      · rintro (w | w | ⟨w1, j, w2, w3⟩)
        · exact .inl (.inl w)
        · exact .inl (.inr (.inl w))
        · by_cases z : j = idx
          · exact .inr (by omega)
          · exact .inl (.inr (.inr ⟨w1, j, by omega, w3⟩))
    · rw [if_neg fun z => q z.1, m]
      constructor
      · rintro (w | w | ⟨w1, j, w2, w3⟩)
        · exact .inl w
        · exact .inr (.inl w)
        · exact .inr (.inr ⟨w1, j, by omega, w3⟩)
      · rintro (w | w | ⟨w1, j, w2, w3⟩)
        · exact .inl w
        · exact .inr (.inl w)
        · by_cases z : j = idx
          · subst z
            rw [e] at w3
            have := Option.some.inj w3
            exact (q (by omega)).elim
          · exact .inr (.inr ⟨w1, j, by omega, w3⟩)
  · rw [getD_setL] at hx
    split at hx
    · rcases List.mem_append.mp hx with hx | hx
      · exact I.rng a x hx
      · rw [List.mem_singleton.mp hx]
        omega
    · exact I.rng j x hx
  · rw [getD_setL]
    split
    · have := I.few a
      rw [List.length_append, List.length_singleton]
      omega
    · have := I.few j
      omega
theorem NrI.next {L : List (List Int)} {h : Nat} {N : List (List Int)} (I : NrI L h (L.getD h []).length N) (hl : (L.getD h []).length ≤ 200) : NrI L (h + 1) 0 N := by
  refine ⟨I.len, fun a b => ?_, I.rng, fun j => by have := I.few j; omega⟩
  rw [I.mem a b]
  constructor
  · rintro (w | w | ⟨rfl, j, w2, w3⟩)
    · exact .inl w
    · exact .inr (.inl ⟨w.1, by omega⟩)
    · exact .inr (.inl ⟨List.mem_of_getElem? w3, by omega⟩)
  · rintro (w | ⟨w1, w2⟩ | ⟨_, j, w2, _⟩)
    · exact .inl w
    · by_cases q : b = h
      · subst q
        obtain ⟨j, hj⟩ := List.mem_iff_getElem?.mp w1
        exact .inr (.inr ⟨rfl, j, (List.getElem?_eq_some_iff.mp hj).1, hj⟩)
      · exact .inr (.inl ⟨w1, by omega⟩)
    · omega
/-- connected by a part -/
def AdL (L : List (List Int)) (a b : Nat) : Prop := LR L a b ∨ LR L b a
theorem AdL.symm {L : List (List Int)} (x y : Nat) (h : AdL L x y) : AdL L y x := h.elim .inr .inl
theorem LR.rlt {L : List (List Int)} (ok : OkL L) {j k : Nat} (h : LR L j k) : k < L.length := by
  have := (ok.2 j).2 _ h
  omega
theorem p_hislands {L : List (List Int)} (ok : OkL L) (M : List Bool) : m_Heap_islands [hpD L M] = .ok (.tuple [.list (iL ((List.range L.length).map fun b => ((inum (AdL L) b : Nat) : Int)))]) := by
  have sh : m_Heap_islands [hpD L M] = resM 0 (o_Heap_islands (hpD L M)) := rfl
  rw [sh]
  have l2 := ok.1
  have main : Rt (o_Heap_islands (hpD L M)) fun d => d = .tuple [.list (iL ((List.range L.length).map fun b => ((inum (AdL L) b : Nat) : Int)))] := by
    unfold o_Heap_islands
    have lc := lc_all (xs := L.map fun r => PyData.list (iL r)) (c := fun _ => Res.ok true) (f := fun v => (listR v).bind fun x => .ok (.list x)) (g := id) (by rw [List.length_map]; unfold cap; omega) (fun _ _ => rfl) fun x hx => by
      obtain ⟨r, _, rfl⟩ := List.mem_map.mp hx
      rfl
    rw [List.map_id] at lc
    have rR : rng1 (.int (L.length : Nat)) = some (rngL 0 L.length) := rng1_nat _ (by omega)
    have sd : ∀ {β τ : Type} (y : D) (k : D → Fl β τ), setD (some y) k = k y := fun _ _ => rfl
    have il : ∀ xs : List D, isL (.list xs) = true := fun _ => rfl
    simp -implicitDefEqProofs (maxSteps := 100000000) only [Res.bind_ok, Res.bindF_ok, Fl.bind_nx, Fl.up_rt, ofO_some, if_true, if_false, Bool.false_eq_true, Bool.not_true, Bool.not_false, decide_true, decide_false, asB_bool, intD_int, intD_bool, blO_bool, eqB_int, neB_int, eqB_bool, neB_bool, eqB_str, neB_str, ltB_int, leB_int, gtB_int, geB_int, addD_int, subD_int, lenD_l, lenD_t, List.length_map, mkL_nil, Int.toNat_natCast, Int.toNat_zero, Int.toNat_one, Int.reduceToNat, isNone, eq_self, and_self, itemsD_l, itemsD_t, hp_links, lc, rR]
    refine Rt.bind (Nx.loop (fun h (t : D) => ∃ N, t = nrD N ∧ NrI L h 0 N) ⟨L, rfl, rfl, fun a b => ⟨.inl, fun w => ?_⟩, fun j => (ok.2 j).2, fun j => by have := (ok.2 j).1; omega⟩ ?_) ?_
    · rcases w with w | ⟨_, w⟩ | ⟨_, _, w, _⟩
      · exact w
      · omega
      · omega
    · rintro h x _ hx ⟨N, rfl, I⟩
      obtain ⟨hh, rfl⟩ := rng_at hx
      rw [Int.zero_add]
      have it := hp_row (L := L) hh
      simp -implicitDefEqProofs (maxSteps := 100000000) only [Res.bind_ok, Res.bindF_ok, Fl.bind_nx, Fl.up_rt, ofO_some, if_true, if_false, Bool.false_eq_true, Bool.not_true, Bool.not_false, decide_true, decide_false, asB_bool, intD_int, intD_bool, blO_bool, eqB_int, neB_int, eqB_bool, neB_bool, eqB_str, neB_str, ltB_int, leB_int, gtB_int, geB_int, addD_int, subD_int, lenD_l, lenD_t, List.length_map, mkL_nil, Int.toNat_natCast, Int.toNat_zero, Int.toNat_one, Int.reduceToNat, isNone, eq_self, and_self, itemsD_l, itemsD_t, it]
      refine Nx.bind (Nx.loop (fun idx (t : D) => ∃ N, t = nrD N ∧ NrI L h idx N) ⟨N, rfl, I⟩ ?_) ?_
      · rintro idx x _ hx ⟨N, rfl, I⟩
        rw [List.getElem?_map] at hx
        cases q : (L.getD h [])[idx]? with
        | none => rw [q] at hx; cases hx
        | some y =>
          rw [q] at hx
          cases hx
          obtain ⟨y0, y1⟩ := (ok.2 h).2 y (List.mem_of_getElem? q)
          obtain ⟨a, rfl⟩ : ∃ a : Nat, y = (a : Nat) := ⟨y.toNat, by omega⟩
          have ha : a < L.length := by omega
          have an : a < N.length := by rw [I.len]; exact ha
          have idl : idx < (L.getD h []).length := (List.getElem?_eq_some_iff.mp q).1
          have rl := (ok.2 h).1
          have few := I.few a
          have ix : ixU (nrD N, id) (.int (a : Nat)) = some (.list (iL (N.getD a [])), fun z => .list ((N.map fun r => PyData.list (iL r)).set a z)) := by
            show (ixN (N.map fun r => PyData.list (iL r)).length ((a : Nat) : Int)).bind (fun j => ((N.map fun r => PyData.list (iL r))[j]?).map fun y => (y, fun z => id (PyData.list ((N.map fun r => PyData.list (iL r)).set j z)))) = _
            rw [ixN_nat (by rw [List.length_map]; exact an), Option.bind_some, List.getElem?_map, List.getElem?_eq_getElem an, List.getD_eq_getElem?_getD, List.getElem?_eq_getElem an]
            rfl
          have h200 : h * 200 ≤ 200 * 200 := Nat.mul_le_mul_right _ (by omega)
          have ap : appU (.list (iL (N.getD a [])), fun z => .list ((N.map fun r => PyData.list (iL r)).set a z)) (.int (h : Nat)) = some (nrD (N.set a (N.getD a [] ++ [((h : Nat) : Int)]))) := by
            show (if (iL (N.getD a [])).length < cap then some _ else none) = _
            rw [if_pos (by rw [List.length_map]; unfold cap; omega)]
            unfold nrD
            rw [List.map_set]
            unfold iL
            rw [List.map_append]
            rfl
          simp -implicitDefEqProofs (maxSteps := 100000000) only [Res.bind_ok, Res.bindF_ok, Fl.bind_nx, Fl.up_rt, ofO_some, if_true, if_false, Bool.false_eq_true, Bool.not_true, Bool.not_false, decide_true, decide_false, asB_bool, intD_int, intD_bool, blO_bool, eqB_int, neB_int, eqB_bool, neB_bool, eqB_str, neB_str, ltB_int, leB_int, gtB_int, geB_int, addD_int, subD_int, lenD_l, lenD_t, List.length_map, mkL_nil, Int.toNat_natCast, Int.toNat_zero, Int.toNat_one, Int.reduceToNat, isNone, eq_self, and_self, itemsD_l, itemsD_t, ix, il, ap, sd]
          exact Nx.mk ⟨_, rfl, I.step hh ha q⟩
      · rintro _ ⟨N, rfl, I⟩
        rw [List.length_map] at I
        exact Nx.mk ⟨N, rfl, I.next (ok.2 h).1⟩
    rintro _ ⟨N, rfl, I⟩
    rw [rngL_len] at I
    have nl := I.len
    have mem : ∀ a b, LR N a b ↔ AdL L a b := fun a b => by
      rw [I.mem a b]
      constructor
      · rintro (w | ⟨w, _⟩ | ⟨e, j, w, w3⟩)
        · exact .inl w
        · exact .inr w
        · rw [List.getD_eq_getElem?_getD, List.getElem?_eq_none (Nat.le_refl _)] at w3
          cases w3
      · rintro (w | w)
        · exact .inl w
        · exact .inr (.inl ⟨w, w.lt⟩)
    have rch : ∀ a b, Rch (LR N) a b ↔ Rch (AdL L) a b := fun a b => ⟨Rch.imp fun x y => (mem x y).mp, Rch.imp fun x y => (mem x y).mpr⟩
    have itN : itemsD (nrD N) = some (N.map fun r => .list (iL r)) := rfl
    have lnN : lenD (nrD N) = some (.int (N.length : Nat)) := by simp [nrD, lenD]
    obtain ⟨ys, lc2, rfl⟩ := lc_ok (A := fun r : List Int => PyData.list (iL r)) (B := PyData.int) (xs := N) (c := fun _ => Res.ok true) (f := fun _ => ofO (negD (.int 1))) (fun _ => (-1 : Int)) (by unfold cap; omega) (fun _ _ => rfl) fun _ _ => rfl
    have e1 : (N.map fun _ => (-1 : Int)).map PyData.int = iL (List.replicate L.length (-1)) := by rw [List.map_const', nl]
    rw [e1] at lc2
    rw [nl] at lnN
    have cu : ∀ {β τ : Type} (f : D → List D → Fl β τ) (a : D) (b : List D), curry2 f (a, b) = f a b := fun _ _ _ => rfl
    have nz : ∀ {β τ : Type} (z : D) (f : D → Fl β τ), nz1 .no [z] f = f z := fun _ _ => rfl
    simp -implicitDefEqProofs (maxSteps := 100000000) only [Res.bind_ok, Res.bindF_ok, Fl.bind_nx, Fl.up_rt, ofO_some, if_true, if_false, Bool.false_eq_true, Bool.not_true, Bool.not_false, decide_true, decide_false, asB_bool, intD_int, intD_bool, blO_bool, eqB_int, neB_int, eqB_bool, neB_bool, eqB_str, neB_str, ltB_int, leB_int, gtB_int, geB_int, addD_int, subD_int, lenD_l, lenD_t, List.length_map, mkL_nil, Int.toNat_natCast, Int.toNat_zero, Int.toNat_one, Int.reduceToNat, isNone, eq_self, and_self, itemsD_l, itemsD_t, itN, lc2, lnN, rR]
    have sy : ∀ x y, AdL L x y → AdL L y x := AdL.symm
    refine Rt.bind (Nx.loop (fun i (t : D × D) => ∃ c : List Int, t = (.list (iL c), .int ((ldrs (AdL L) i).length : Nat)) ∧ c.length = L.length ∧ ∀ b, b < L.length → (ldr (AdL L) b < i → c.getD b 0 = (inum (AdL L) b : Nat)) ∧ (¬ ldr (AdL L) b < i → c.getD b 0 = -1)) ⟨List.replicate L.length (-1), rfl, List.length_replicate, fun b hb => ⟨fun z => absurd z (Nat.not_lt_zero _), fun _ => by rw [List.getD_eq_getElem?_getD, List.getElem?_replicate, if_pos hb]; rfl⟩⟩ ?_) ?_
    · rintro i x _ hx ⟨c, rfl, hc, hv⟩
      obtain ⟨hi, rfl⟩ := rng_at hx
      rw [Int.zero_add]
      have ix := ixI_at (c := c) (U := id) (k := i) (by omega)
      obtain ⟨s1, s2, s3⟩ := ldr_spec (R := AdL L) i
      by_cases q : ldr (AdL L) i < i
      · have v := (hv i hi).1 q
        have n0 : ¬ c.getD i 0 < 0 := by rw [v]; omega
        have nld : ¬ isLd (AdL L) i := fun z => by
          have : ldr (AdL L) i = i := z
          omega
        simp -implicitDefEqProofs (maxSteps := 100000000) only [Res.bind_ok, Res.bindF_ok, Fl.bind_nx, Fl.up_rt, ofO_some, if_true, if_false, Bool.false_eq_true, Bool.not_true, Bool.not_false, decide_true, decide_false, asB_bool, intD_int, intD_bool, blO_bool, eqB_int, neB_int, eqB_bool, neB_bool, eqB_str, neB_str, ltB_int, leB_int, gtB_int, geB_int, addD_int, subD_int, lenD_l, lenD_t, List.length_map, mkL_nil, Int.toNat_natCast, Int.toNat_zero, Int.toNat_one, Int.reduceToNat, isNone, eq_self, and_self, itemsD_l, itemsD_t, ix, n0, decide_eq_false n0]
        refine Nx.mk ⟨c, ?_, hc, fun b hb => ⟨fun z => (hv b hb).1 ?_, fun z => (hv b hb).2 (by omega)⟩⟩
        · rw [ldrs_succ, if_neg nld, List.append_nil]
        · have : ldr (AdL L) b ≠ i := fun w => nld (w ▸ ldr_isLd sy b)
          omega
      · have ld : isLd (AdL L) i := by
          unfold isLd
          omega
        have v := (hv i hi).2 q
        have n0 : c.getD i 0 < 0 := by rw [v]; decide
        have lb : ∀ b, Rch (AdL L) i b → ldr (AdL L) b = i := fun b r => (ldr_eq sy r).symm.trans ld
        have blt : ∀ b, Rch (AdL L) i b → b < L.length := fun b r => r.lt hi fun x y a => a.elim (fun z => z.rlt ok) fun z => z.lt
        obtain ⟨c', sp, hc', hv'⟩ := p_spread nl l2 I.rng hc (num := (ldrs (AdL L) i).length) hi fun b r => by
          have r := (rch i b).mp r
          rw [(hv b (blt b r)).2 (by rw [lb b r]; omega)]
          decide
        have sp2 := outM1 sp
        have au : augA (.int ((ldrs (AdL L) i).length : Nat)) (.int 1) = some (.int ((ldrs (AdL L) (i + 1)).length : Nat)) := by
          rw [ldrs_succ, if_pos ld, List.length_append, List.length_singleton]
          rfl
        simp -implicitDefEqProofs (maxSteps := 100000000) only [Res.bind_ok, Res.bindF_ok, Fl.bind_nx, Fl.up_rt, ofO_some, if_true, if_false, Bool.false_eq_true, Bool.not_true, Bool.not_false, decide_true, decide_false, asB_bool, intD_int, intD_bool, blO_bool, eqB_int, neB_int, eqB_bool, neB_bool, eqB_str, neB_str, ltB_int, leB_int, gtB_int, geB_int, addD_int, subD_int, lenD_l, lenD_t, List.length_map, mkL_nil, Int.toNat_natCast, Int.toNat_zero, Int.toNat_one, Int.reduceToNat, isNone, eq_self, and_self, itemsD_l, itemsD_t, ix, n0, decide_eq_true n0, sp2, cu, nz, au]
        refine Nx.mk ⟨c', rfl, hc', fun b hb => ?_⟩
        by_cases r : Rch (AdL L) i b
        · have e := lb b r
          refine ⟨fun _ => ?_, fun z => by omega⟩
          rw [(hv' b).1 ((rch i b).mpr r)]
          unfold inum
          rw [e]
        · have e := (hv' b).2 fun z => r ((rch i b).mp z)
          have ne : ldr (AdL L) b ≠ i := fun w => r (w ▸ (ldr_spec (R := AdL L) b).1)
          rw [e]
          exact ⟨fun z => (hv b hb).1 (by omega), fun z => (hv b hb).2 (by omega)⟩
    · rintro _ ⟨c, rfl, hc, hv⟩
      rw [rngL_len] at hv
      have : c = (List.range L.length).map fun b => ((inum (AdL L) b : Nat) : Int) := by
        refine List.ext_getElem (by rw [hc, List.length_map, List.length_range]) fun k h1 h2 => ?_
        rw [List.getElem_map, List.getElem_range]
        have := (hv k (by omega)).1 (by have := (ldr_spec (R := AdL L) k).2.1; omega)
        rw [List.getD_eq_getElem?_getD, List.getElem?_eq_getElem h1] at this
        exact this
      rw [this]
      exact Rt.mk rfl
  obtain ⟨d, e, rfl⟩ := main
  rw [e]
  rfl
abbrev RB (Hs : List (List Bool)) (j k : Nat) : Prop := j < Hs.length ∧ k < Hs.length ∧ BT Hs j k
def AdB (Hs : List (List Bool)) (a b : Nat) : Prop := RB Hs a b ∨ RB Hs b a
theorem AdB.symm {Hs : List (List Bool)} (x y : Nat) (h : AdB Hs x y) : AdB Hs y x := h.elim .inr .inl
theorem AdB.lt {Hs : List (List Bool)} (x y : Nat) (h : AdB Hs x y) : x < Hs.length ∧ y < Hs.length := h.elim (fun z => ⟨z.1, z.2.1⟩) fun z => ⟨z.2.1, z.1⟩
/-- the least numbers on the way: t turns done, of the next one all pairs below (j, k) -/
structure Lst (Hs : List (List Bool)) (t j k : Nat) (c : List Nat) : Prop where
  len : c.length = Hs.length
  in_ : ∀ a, a < Hs.length → Rch (AdB Hs) (c.getD a 0) a
  old : ∀ v a, a < Hs.length → Stp (AdB Hs) v t a → c.getD a 0 ≤ v
  new : ∀ v x y, (x < j ∨ x = j ∧ y < k) → RB Hs x y → (Stp (AdB Hs) v t x → c.getD y 0 ≤ v) ∧ (Stp (AdB Hs) v t y → c.getD x 0 ≤ v)
theorem getD_setN (r : List Nat) (j k : Nat) (b : Nat) : (r.set j b).getD k 0 = if j = k ∧ j < r.length then b else r.getD k 0 := getD_setL r j k b 0
theorem Lst.stepT {Hs : List (List Bool)} {t j k : Nat} {c : List Nat} (h : Lst Hs t j k c) (r : RB Hs j k) : Lst Hs t j (k + 1) ((c.set j (min (c.getD j 0) (c.getD k 0))).set k (min (c.getD j 0) (c.getD k 0))) := by
  have jl : j < c.length := by rw [h.len]; exact r.1
  have kl : k < c.length := by rw [h.len]; exact r.2.1
  have val : ∀ a, ((c.set j (min (c.getD j 0) (c.getD k 0))).set k (min (c.getD j 0) (c.getD k 0))).getD a 0 = if a = j ∨ a = k then min (c.getD j 0) (c.getD k 0) else c.getD a 0 := fun a => by
    rw [getD_setN, getD_setN, List.length_set]
    by_cases q : k = a
    · rw [if_pos ⟨q, kl⟩, if_pos (.inr q.symm)]
    · rw [if_neg fun z => q z.1]
      by_cases q2 : j = a
      · rw [if_pos ⟨q2, jl⟩, if_pos (.inl q2.symm)]
      · rw [if_neg fun z => q2 z.1, if_neg fun z => z.elim (fun w => q2 w.symm) fun w => q w.symm]
  have le : ∀ a, ((c.set j (min (c.getD j 0) (c.getD k 0))).set k (min (c.getD j 0) (c.getD k 0))).getD a 0 ≤ c.getD a 0 := fun a => by
    rw [val]
    split
    · rename_i q
      rcases q with rfl | rfl
      · exact Nat.min_le_left _ _
      · exact Nat.min_le_right _ _
    · exact Nat.le_refl _
  have jk : Rch (AdB Hs) j k := Rch.refl.step (.inl r)
  refine ⟨by rw [List.length_set, List.length_set]; exact h.len, fun a ha => ?_, fun v a ha s => Nat.le_trans (le a) (h.old v a ha s), fun v x y hp rxy => ?_⟩
  · rw [val]
    split
    · rename_i q
      have e : min (c.getD j 0) (c.getD k 0) = c.getD j 0 ∨ min (c.getD j 0) (c.getD k 0) = c.getD k 0 := by omega
      have two : Rch (AdB Hs) (min (c.getD j 0) (c.getD k 0)) j := by
        rcases e with e | e <;> rw [e]
        · exact h.in_ j r.1
        · exact (h.in_ k r.2.1).trans (jk.symm AdB.symm)
      rcases q with rfl | rfl
      · exact two
      · exact two.trans jk
    · exact h.in_ a ha
  · by_cases e : x = j ∧ y = k
    · obtain ⟨rfl, rfl⟩ := e
      rw [val, val, if_pos (.inr rfl), if_pos (.inl rfl)]
      exact ⟨fun s => Nat.le_trans (Nat.min_le_left _ _) (h.old v x r.1 s), fun s => Nat.le_trans (Nat.min_le_right _ _) (h.old v y r.2.1 s)⟩
    · obtain ⟨a, b⟩ := h.new v x y (by omega) rxy
      exact ⟨fun s => Nat.le_trans (le y) (a s), fun s => Nat.le_trans (le x) (b s)⟩
theorem Lst.stepF {Hs : List (List Bool)} {t j k : Nat} {c : List Nat} (h : Lst Hs t j k c) (q : ¬ RB Hs j k) : Lst Hs t j (k + 1) c := by
  refine ⟨h.len, h.in_, h.old, fun v x y hp rxy => ?_⟩
  by_cases e : x = j ∧ y = k
  · obtain ⟨rfl, rfl⟩ := e
    exact (q rxy).elim
  · exact h.new v x y (by omega) rxy
theorem Lst.row {Hs : List (List Bool)} {t j : Nat} {c : List Nat} (h : Lst Hs t j Hs.length c) : Lst Hs t (j + 1) 0 c :=
  ⟨h.len, h.in_, h.old, fun v x y hp r => h.new v x y (by have := r.2.1; omega) r⟩
theorem Lst.turn {Hs : List (List Bool)} {t : Nat} {c : List Nat} (h : Lst Hs t Hs.length 0 c) : Lst Hs (t + 1) 0 0 c := by
  refine ⟨h.len, h.in_, fun v a ha s => ?_, fun v x y hp => by omega⟩
  rcases s with s | ⟨u, s, r⟩
  · exact h.old v a ha s
  · rcases r with r | r
    · exact (h.new v u a (.inl r.1) r).1 s
    · exact (h.new v a u (.inl r.1) r).2 s
theorem Lst.done {Hs : List (List Bool)} {c : List Nat} (h : Lst Hs Hs.length 0 0 c) {a : Nat} (ha : a < Hs.length) : c.getD a 0 = ldr (AdB Hs) a := by
  obtain ⟨s1, s2, s3⟩ := ldr_spec (R := AdB Hs) a
  have h1 := h.old _ a ha (Stp.of (n := Hs.length) (by omega) (fun x y r => (AdB.lt x y r).2) s1)
  have h2 : ¬ c.getD a 0 < ldr (AdB Hs) a := fun z => s3 _ z (h.in_ a ha)
  omega
theorem min_nat (a b : Nat) : minD (.int (a : Nat)) (.int (b : Nat)) = some (.int ((min a b : Nat) : Int)) := by
  show some (PyData.int (if (b : Int) < (a : Int) then (b : Int) else (a : Int))) = _
  split
  · congr 2
    omega
  · congr 2
    omega
theorem ixN_at {c : List Nat} {U : D → D} {k : Nat} (h : k < c.length) : (ofO (ixU (.list (iL (nL c)), U) (.int (k : Nat)))).bind (fun q => Res.ok q.1) = .ok (.int ((c.getD k 0 : Nat) : Int)) := by
  have e := ixI_at (c := nL c) (U := U) (k := k) (by rw [List.length_map]; exact h)
  rw [e]
  congr 2
  unfold nL
  rw [List.getD_eq_getElem?_getD, List.getElem?_map, List.getElem?_eq_getElem h, List.getD_eq_getElem?_getD, List.getElem?_eq_getElem h]
  rfl
theorem setN_at {c : List Nat} {k : Nat} (h : k < c.length) (x : Nat) : setU (.list (iL (nL c)), id) (.int (k : Nat)) (.int (x : Nat)) = some (.list (iL (nL (c.set k x)))) := by
  rw [setI_at (by rw [List.length_map]; exact h)]
  unfold nL
  rw [List.map_set]
theorem idxN {k : Nat} : ∀ {l : List Nat}, (nL l).idxOf ((k : Nat) : Int) = l.idxOf k
  | [] => rfl
  | x :: l => by
    show (((x : Nat) : Int) :: nL l).idxOf ((k : Nat) : Int) = _
    rw [List.idxOf_cons, List.idxOf_cons, idxN (l := l)]
    by_cases q : x = k
    · subst q
      simp
    · have : ¬ ((x : Nat) : Int) = (k : Nat) := by omega
      have b1 : (((x : Nat) : Int) == ((k : Nat) : Int)) = false := by simpa using this
      have b2 : (x == k) = false := by simpa using q
      rw [b1, b2]
theorem ldrs_len (R : Nat → Nat → Prop) (n : Nat) : (ldrs R n).length ≤ n := by
  unfold ldrs
  exact Nat.le_trans (List.length_filter_le _ _) (by rw [List.length_range]; exact Nat.le_refl n)
theorem p_numbers {Hs : List (List Bool)} (hl : Hs.length ≤ 100) (hw : ∀ j, j < Hs.length → (Hs.getD j []).length = Hs.length) : m__law_numbers [hsD Hs] = .ok (.tuple [.list (iL ((List.range Hs.length).map fun b => ((inum (AdB Hs) b : Nat) : Int)))]) := by
  have sh : m__law_numbers [hsD Hs] = resM 0 (o__law_numbers (hsD Hs)) := by
    unfold m__law_numbers
    exact if_pos rfl
  rw [sh]
  have main : Rt (o__law_numbers (hsD Hs)) fun d => d = .tuple [.list (iL ((List.range Hs.length).map fun b => ((inum (AdB Hs) b : Nat) : Int)))] := by
    unfold o__law_numbers
    have hn := hs_len Hs
    have rR : rng1 (.int (Hs.length : Nat)) = some (rngL 0 Hs.length) := rng1_nat _ (by omega)
    obtain ⟨ys, lc, rfl⟩ := lc_rng (B := PyData.int) (n := Hs.length) (c := fun _ => Res.ok true) (f := fun v => Res.ok v) (fun k => ((k : Nat) : Int)) (by unfold cap; omega) (fun _ _ => rfl) fun _ _ => rfl
    have e0 : ((List.range Hs.length).map fun k => ((k : Nat) : Int)).map PyData.int = iL (nL (List.range Hs.length)) := rfl
    rw [e0] at lc
    have sd : ∀ {β τ : Type} (y : D) (k : D → Fl β τ), setD (some y) k = k y := fun _ _ => rfl
    simp -implicitDefEqProofs (maxSteps := 100000000) only [Res.bind_ok, Res.bindF_ok, Fl.bind_nx, Fl.up_rt, ofO_some, if_true, if_false, Bool.false_eq_true, Bool.not_true, Bool.not_false, decide_true, decide_false, asB_bool, intD_int, intD_bool, blO_bool, eqB_int, neB_int, eqB_bool, neB_bool, eqB_str, neB_str, ltB_int, leB_int, gtB_int, geB_int, addD_int, subD_int, lenD_l, lenD_t, List.length_map, mkL_nil, Int.toNat_natCast, Int.toNat_zero, Int.toNat_one, Int.reduceToNat, isNone, eq_self, and_self, itemsD_l, itemsD_t, hn, rR, lc]
    have rg : ∀ a, a < Hs.length → (List.range Hs.length).getD a 0 = a := fun a ha => by
      rw [List.getD_eq_getElem?_getD, List.getElem?_range ha]
      rfl
    have L0 : Lst Hs 0 0 0 (List.range Hs.length) := ⟨List.length_range, fun a ha => by rw [rg a ha]; exact .refl, fun v a ha s => by
      have s : v = a := s
      rw [rg a ha, s]
      exact Nat.le_refl _, fun v x y hp => by omega⟩
    refine Rt.bind (Nx.loop (fun t (d : D) => ∃ c, d = .list (iL (nL c)) ∧ Lst Hs t 0 0 c) ⟨_, rfl, L0⟩ ?_) ?_
    · rintro t x _ hx ⟨c, rfl, W⟩
      refine Nx.bind (Nx.loop (fun j (d : D) => ∃ c, d = .list (iL (nL c)) ∧ Lst Hs t j 0 c) ⟨c, rfl, W⟩ ?_) ?_
      · rintro j x _ hx ⟨c, rfl, W⟩
        obtain ⟨hj, rfl⟩ := rng_at hx
        rw [Int.zero_add]
        refine Nx.bind (Nx.loop (fun k (d : D) => ∃ c, d = .list (iL (nL c)) ∧ Lst Hs t j k c) ⟨c, rfl, W⟩ ?_) ?_
        · rintro k x _ hx ⟨c, rfl, W⟩
          obtain ⟨hk, rfl⟩ := rng_at hx
          rw [Int.zero_add]
          have it := hs_row (Hs := Hs) (i := j) hj
          have it2 := bl_at (r := Hs.getD j []) (i := k) (by rw [hw j hj]; exact hk)
          cases q : (Hs.getD j []).getD k false with
          | false =>
            simp -implicitDefEqProofs (maxSteps := 100000000) only [Res.bind_ok, Res.bindF_ok, Fl.bind_nx, Fl.up_rt, ofO_some, if_true, if_false, Bool.false_eq_true, Bool.not_true, Bool.not_false, decide_true, decide_false, asB_bool, intD_int, intD_bool, blO_bool, eqB_int, neB_int, eqB_bool, neB_bool, eqB_str, neB_str, ltB_int, leB_int, gtB_int, geB_int, addD_int, subD_int, lenD_l, lenD_t, List.length_map, mkL_nil, Int.toNat_natCast, Int.toNat_zero, Int.toNat_one, Int.reduceToNat, isNone, eq_self, and_self, itemsD_l, itemsD_t, it, it2, q]
            refine Nx.mk ⟨c, rfl, W.stepF fun z => ?_⟩
            have := z.2.2
            unfold BT at this
            rw [q] at this
            cases this
          | true =>
            have jl : j < c.length := by rw [W.len]; exact hj
            have kl : k < c.length := by rw [W.len]; exact hk
            have i1 := ixN_at (c := c) (U := id) jl
            have i2 := ixN_at (c := c) (U := id) kl
            have s1 := setN_at (c := c) jl (min (c.getD j 0) (c.getD k 0))
            have s2 := setN_at (c := c.set j (min (c.getD j 0) (c.getD k 0))) (by rw [List.length_set]; exact kl) (min (c.getD j 0) (c.getD k 0))
            simp -implicitDefEqProofs (maxSteps := 100000000) only [Res.bind_ok, Res.bindF_ok, Fl.bind_nx, Fl.up_rt, ofO_some, if_true, if_false, Bool.false_eq_true, Bool.not_true, Bool.not_false, decide_true, decide_false, asB_bool, intD_int, intD_bool, blO_bool, eqB_int, neB_int, eqB_bool, neB_bool, eqB_str, neB_str, ltB_int, leB_int, gtB_int, geB_int, addD_int, subD_int, lenD_l, lenD_t, List.length_map, mkL_nil, Int.toNat_natCast, Int.toNat_zero, Int.toNat_one, Int.reduceToNat, isNone, eq_self, and_self, itemsD_l, itemsD_t, it, it2, q, i1, i2, min_nat, s1, s2, sd]
            exact Nx.mk ⟨_, rfl, W.stepT ⟨hj, hk, q⟩⟩
        · rintro _ ⟨c, rfl, W⟩
          rw [rngL_len] at W
          exact Nx.mk ⟨c, rfl, W.row⟩
      · rintro _ ⟨c, rfl, W⟩
        rw [rngL_len] at W
        exact Nx.mk ⟨c, rfl, W.turn⟩
    rintro _ ⟨c, rfl, W⟩
    rw [rngL_len] at W
    have ce : c = (List.range Hs.length).map (ldr (AdB Hs)) := by
      refine List.ext_getElem (by rw [W.len, List.length_map, List.length_range]) fun k h1 h2 => ?_
      have := W.done (a := k) (by rw [← W.len]; exact h1)
      rw [List.getD_eq_getElem?_getD, List.getElem?_eq_getElem h1] at this
      rw [List.getElem_map, List.getElem_range]
      exact this
    subst ce
    refine Rt.bind (Nx.loop (fun j (s : List D) => s = iL (nL (ldrs (AdB Hs) j))) rfl ?_) ?_
    · rintro j x _ hx rfl
      rw [List.getElem?_map, List.getElem?_map, List.getElem?_map] at hx
      by_cases hj : j < Hs.length
      · rw [List.getElem?_range hj] at hx
        cases hx
        obtain ⟨s1, s2, s3⟩ := ldr_spec (R := AdB Hs) j
        have ll := ldrs_len (AdB Hs) j
        by_cases q : isLd (AdB Hs) j
        · have e : ldr (AdB Hs) j = j := q
          have m : ¬ ((ldr (AdB Hs) j : Nat) : Int) ∈ nL (ldrs (AdB Hs) j) := fun z => by
            obtain ⟨y, hy, e2⟩ := List.mem_map.mp z
            have := (ldrs_mem.mp hy).1
            omega
          have lc : (iL (nL (ldrs (AdB Hs) j))).length < cap := by rw [List.length_map, List.length_map]; unfold cap; omega
          have fin : iL (nL (ldrs (AdB Hs) j)) ++ [PyData.int ((ldr (AdB Hs) j : Nat) : Int)] = iL (nL (ldrs (AdB Hs) (j + 1))) := by
            rw [ldrs_succ, if_pos q, e]
            unfold iL nL
            rw [List.map_append, List.map_append]
            rfl
          have lc' : (ldrs (AdB Hs) j).length < cap := by unfold cap; omega
          simp -implicitDefEqProofs (maxSteps := 100000000) only [Res.bind_ok, Res.bindF_ok, Fl.bind_nx, Fl.up_rt, ofO_some, if_true, if_false, Bool.false_eq_true, Bool.not_true, Bool.not_false, decide_true, decide_false, asB_bool, intD_int, intD_bool, blO_bool, eqB_int, neB_int, eqB_bool, neB_bool, eqB_str, neB_str, ltB_int, leB_int, gtB_int, geB_int, addD_int, subD_int, lenD_l, lenD_t, List.length_map, mkL_nil, Int.toNat_natCast, Int.toNat_zero, Int.toNat_one, Int.reduceToNat, isNone, eq_self, and_self, itemsD_l, itemsD_t, ninB_lI, m, decide_eq_false m, lc']
          exact Nx.mk fin
        · have m : ((ldr (AdB Hs) j : Nat) : Int) ∈ nL (ldrs (AdB Hs) j) := List.mem_map.mpr ⟨ldr (AdB Hs) j, ldrs_mem.mpr ⟨by
            have : ldr (AdB Hs) j ≠ j := q
            omega, ldr_isLd AdB.symm j⟩, rfl⟩
          have fin : iL (nL (ldrs (AdB Hs) j)) = iL (nL (ldrs (AdB Hs) (j + 1))) := by
            rw [ldrs_succ, if_neg q, List.append_nil]
          simp -implicitDefEqProofs (maxSteps := 100000000) only [Res.bind_ok, Res.bindF_ok, Fl.bind_nx, Fl.up_rt, ofO_some, if_true, if_false, Bool.false_eq_true, Bool.not_true, Bool.not_false, decide_true, decide_false, asB_bool, intD_int, intD_bool, blO_bool, eqB_int, neB_int, eqB_bool, neB_bool, eqB_str, neB_str, ltB_int, leB_int, gtB_int, geB_int, addD_int, subD_int, lenD_l, lenD_t, List.length_map, mkL_nil, Int.toNat_natCast, Int.toNat_zero, Int.toNat_one, Int.reduceToNat, isNone, eq_self, and_self, itemsD_l, itemsD_t, ninB_lI, m, decide_eq_true m]
          exact Nx.mk fin
      · rw [List.getElem?_eq_none (by rw [List.length_range]; omega)] at hx
        cases hx
    · rintro _ rfl
      rw [List.length_map, List.length_map, List.length_map, List.length_range]
      have ll := ldrs_len (AdB Hs) Hs.length
      have tyl : ∀ xs : List D, tyB (.list xs) = "list" := fun _ => rfl
      have lc2 := lc_map (A := fun a : Nat => PyData.int ((ldr (AdB Hs) a : Nat) : Int)) (B := PyData.int) (xs := List.range Hs.length) (f := fun v => if tyB (.list (iL (nL (ldrs (AdB Hs) Hs.length)))) = "list" then ofO (indexD (.list (iL (nL (ldrs (AdB Hs) Hs.length)))) v) else .no) (h := fun b => ((inum (AdB Hs) b : Nat) : Int)) (by rw [List.length_range]; unfold cap; omega) fun a ha => by
        have ha := List.mem_range.mp ha
        have mm : ldr (AdB Hs) a ∈ ldrs (AdB Hs) Hs.length := ldrs_mem.mpr ⟨by have := (ldr_spec (R := AdB Hs) a).2.1; omega, ldr_isLd AdB.symm a⟩
        rw [if_pos (tyl _), index_lI _ _ (List.mem_map.mpr ⟨_, mm, rfl⟩) (by rw [List.length_map]; unfold cap; omega), idxN, ldrs_idx (ldr_isLd AdB.symm a) (ldrs_mem.mp mm).1]
        rfl
      have e1 : iL (nL ((List.range Hs.length).map (ldr (AdB Hs)))) = (List.range Hs.length).map fun a : Nat => PyData.int ((ldr (AdB Hs) a : Nat) : Int) := by
        unfold iL nL
        rw [List.map_map, List.map_map]
        rfl
      rw [e1] at *
      simp -implicitDefEqProofs (maxSteps := 100000000) only [Res.bind_ok, Res.bindF_ok, Fl.bind_nx, Fl.up_rt, ofO_some, if_true, if_false, Bool.false_eq_true, Bool.not_true, Bool.not_false, decide_true, decide_false, asB_bool, intD_int, intD_bool, blO_bool, eqB_int, neB_int, eqB_bool, neB_bool, eqB_str, neB_str, ltB_int, leB_int, gtB_int, geB_int, addD_int, subD_int, lenD_l, lenD_t, List.length_map, mkL_nil, Int.toNat_natCast, Int.toNat_zero, Int.toNat_one, Int.reduceToNat, isNone, eq_self, and_self, itemsD_l, itemsD_t, lc2]
      exact Rt.mk rfl
  obtain ⟨d, e, rfl⟩ := main
  rw [e]
  rfl
theorem ad_eq (Hs : List (List Bool)) : AdL (rowsOf Hs) = AdB Hs := by
  funext a b
  refine propext ?_
  unfold AdL AdB
  rw [lr_bt, lr_bt]
noncomputable def isleI (Hs : List (List Bool)) : List Int := (List.range Hs.length).map fun b => ((inum (AdB Hs) b : Nat) : Int)
theorem isle_len (Hs : List (List Bool)) : (isleI Hs).length = Hs.length := by
  unfold isleI
  rw [List.length_map, List.length_range]
theorem p_as_due {Hs : List (List Bool)} (g : GoodH Hs.length Hs) (M : List Bool) : m__law_as_due [hpD (rowsOf Hs) M, hsD Hs] = .ok (.bool true) := by
  have few := g.few
  have main : Rt (o__law_as_due (hpD (rowsOf Hs) M) (hsD Hs)) fun d => d = .bool true := by
    unfold o__law_as_due
    have nu := p_numbers few fun j hj => (g.at_ hj).1
    have is := p_hislands (okl_rows g) M
    rw [ad_eq, rows_len] at is
    change _ = Res.ok (PyData.tuple [.list (iL (isleI Hs))]) at nu is
    have nu2 : md__law_numbers [hsD Hs] = .ok (.list (iL (isleI Hs))) := outN_ok nu
    have is2 := outN_ok is
    have is3 : md_Heap_islands [hpD (rowsOf Hs) M] = .ok (.list (iL (isleI Hs))) := is2
    have il0 := isle_len Hs
    generalize isleI Hs = r at *
    have il : ∀ xs : List D, isL (.list xs) = true := fun _ => rfl
    have itl : ∀ (k : List D → Fl Empty Unit), itL2 (.list (iL r)) k = k (iL r) := fun _ => rfl
    simp -implicitDefEqProofs (maxSteps := 100000000) only [Res.bind_ok, Res.bindF_ok, Fl.bind_nx, Fl.up_rt, ofO_some, if_true, if_false, Bool.false_eq_true, Bool.not_true, Bool.not_false, decide_true, decide_false, asB_bool, intD_int, intD_bool, blO_bool, eqB_int, neB_int, eqB_bool, neB_bool, eqB_str, neB_str, ltB_int, leB_int, gtB_int, geB_int, addD_int, subD_int, lenD_l, lenD_t, List.length_map, mkL_nil, Int.toNat_natCast, Int.toNat_zero, Int.toNat_one, Int.reduceToNat, isNone, eq_self, and_self, itemsD_l, itemsD_t, nu2, is2, hp_isC, k_ll, neB_lI, il, itl]
    refine Rt.bind (Nx.loop (fun j (t : Unit) => True) trivial ?_) fun t _ => ?_
    · intro i x t hx _
      rw [List.getElem?_map] at hx
      cases q : r[i]? with
      | none => rw [q] at hx; cases hx
      | some y =>
        rw [q] at hx
        cases hx
        simp -implicitDefEqProofs (maxSteps := 100000000) only [Res.bind_ok, Res.bindF_ok, Fl.bind_nx, Fl.up_rt, ofO_some, if_true, if_false, Bool.false_eq_true, Bool.not_true, Bool.not_false, decide_true, decide_false, asB_bool, intD_int, intD_bool, blO_bool, eqB_int, neB_int, eqB_bool, neB_bool, eqB_str, neB_str, ltB_int, leB_int, gtB_int, geB_int, addD_int, subD_int, lenD_l, lenD_t, List.length_map, mkL_nil, Int.toNat_natCast, Int.toNat_zero, Int.toNat_one, Int.reduceToNat, isNone, eq_self, and_self, itemsD_l, itemsD_t, k_ii, k_ib]
        exact Nx.mk trivial
    · have a1 : appU (.list (iL r), id) (.int 7) = some (.list (iL (r ++ [7]))) := by
        show (if (iL r).length < cap then some _ else none) = _
        rw [if_pos (by rw [List.length_map]; unfold cap; omega)]
        unfold iL
        rw [List.map_append]
        rfl
      have sd : ∀ {β τ : Type} (y : D) (k : D → Fl β τ), setD (some y) k = k y := fun _ _ => rfl
      simp -implicitDefEqProofs (maxSteps := 100000000) only [Res.bind_ok, Res.bindF_ok, Fl.bind_nx, Fl.up_rt, ofO_some, if_true, if_false, Bool.false_eq_true, Bool.not_true, Bool.not_false, decide_true, decide_false, asB_bool, intD_int, intD_bool, blO_bool, eqB_int, neB_int, eqB_bool, neB_bool, eqB_str, neB_str, ltB_int, leB_int, gtB_int, geB_int, addD_int, subD_int, lenD_l, lenD_t, List.length_map, mkL_nil, Int.toNat_natCast, Int.toNat_zero, Int.toNat_one, Int.reduceToNat, isNone, eq_self, and_self, itemsD_l, itemsD_t, a1, sd]
      refine Rt.bind (P := fun _ => True) ?_ fun t _ => ?_
      · by_cases q : (0 : Int) < (r.length : Nat)
        · have s1 := setI_at (c := r ++ [7]) (k := 0) (by rw [List.length_append, List.length_singleton]; omega) 5
          have z : ((0 : Nat) : Int) = 0 := rfl
          rw [z] at s1
          simp -implicitDefEqProofs (maxSteps := 100000000) only [Res.bind_ok, Res.bindF_ok, Fl.bind_nx, Fl.up_rt, ofO_some, if_true, if_false, Bool.false_eq_true, Bool.not_true, Bool.not_false, decide_true, decide_false, asB_bool, intD_int, intD_bool, blO_bool, eqB_int, neB_int, eqB_bool, neB_bool, eqB_str, neB_str, ltB_int, leB_int, gtB_int, geB_int, addD_int, subD_int, lenD_l, lenD_t, List.length_map, mkL_nil, Int.toNat_natCast, Int.toNat_zero, Int.toNat_one, Int.reduceToNat, isNone, eq_self, and_self, itemsD_l, itemsD_t, q, decide_eq_true q, s1, sd]
          exact Nx.mk trivial
        · simp -implicitDefEqProofs (maxSteps := 100000000) only [Res.bind_ok, Res.bindF_ok, Fl.bind_nx, Fl.up_rt, ofO_some, if_true, if_false, Bool.false_eq_true, Bool.not_true, Bool.not_false, decide_true, decide_false, asB_bool, intD_int, intD_bool, blO_bool, eqB_int, neB_int, eqB_bool, neB_bool, eqB_str, neB_str, ltB_int, leB_int, gtB_int, geB_int, addD_int, subD_int, lenD_l, lenD_t, List.length_map, mkL_nil, Int.toNat_natCast, Int.toNat_zero, Int.toNat_one, Int.reduceToNat, isNone, eq_self, and_self, itemsD_l, itemsD_t, q, decide_eq_false q]
          exact Nx.mk trivial
      · simp -implicitDefEqProofs (maxSteps := 100000000) only [Res.bind_ok, Res.bindF_ok, Fl.bind_nx, Fl.up_rt, ofO_some, if_true, if_false, Bool.false_eq_true, Bool.not_true, Bool.not_false, decide_true, decide_false, asB_bool, intD_int, intD_bool, blO_bool, eqB_int, neB_int, eqB_bool, neB_bool, eqB_str, neB_str, ltB_int, leB_int, gtB_int, geB_int, addD_int, subD_int, lenD_l, lenD_t, List.length_map, mkL_nil, Int.toNat_natCast, Int.toNat_zero, Int.toNat_one, Int.reduceToNat, isNone, eq_self, and_self, itemsD_l, itemsD_t, hp_isC, is3, eqB_lI]
        exact Rt.mk rfl
  obtain ⟨d, e, rfl⟩ := main.res
  exact e
/-- one object more -/
def grownH (Hs : List (List Bool)) : List (List Bool) := Hs.map (fun r => r ++ [false]) ++ [List.replicate (Hs.length + 1) false]
theorem grown_len (Hs : List (List Bool)) : (grownH Hs).length = Hs.length + 1 := by
  unfold grownH
  rw [List.length_append, List.length_map, List.length_singleton]
theorem getD_app (r : List Bool) (k : Nat) : (r ++ [false]).getD k false = r.getD k false := by
  rw [List.getD_eq_getElem?_getD, List.getD_eq_getElem?_getD]
  by_cases q : k < r.length
  · rw [List.getElem?_append_left q]
  · rw [List.getElem?_append_right (by omega), List.getElem?_eq_none (l := r) (by omega)]
    cases k - r.length <;> rfl
theorem grown_good {Hs : List (List Bool)} (g : GoodH Hs.length Hs) (h : Hs.length < 100) : GoodH (grownH Hs).length (grownH Hs) := by
  rw [grown_len]
  refine ⟨by rw [grown_len]; omega, fun r hr => ?_, fun r hr k hk => ?_⟩
  · rcases List.mem_append.mp hr with hr | hr
    · obtain ⟨s, hs, rfl⟩ := List.mem_map.mp hr
      rw [List.length_append, List.length_singleton, g.row s hs]
    · rw [List.mem_singleton.mp hr, List.length_replicate]
  · rw [grown_len] at hk
    rcases List.mem_append.mp hr with hr | hr
    · obtain ⟨s, hs, rfl⟩ := List.mem_map.mp hr
      rw [getD_app]
      exact g.big s hs k (by omega)
    · rw [List.mem_singleton.mp hr]
      exact rep_getD _ k
theorem grown_rows {Hs : List (List Bool)} (g : GoodH Hs.length Hs) : rowsOf Hs ++ [[]] = rowsOf (grownH Hs) := by
  unfold rowsOf
  rw [grown_len]
  unfold grownH
  rw [List.map_append, List.map_singleton, row_none fun k _ => rep_getD _ k, List.map_map]
  congr 1
  refine List.map_congr_left fun r hr => ?_
  show rowOf Hs.length r = rowOf (Hs.length + 1) (r ++ [false])
  rw [row_succ (by rw [getD_app]; exact g.big r hr _ (Nat.le_refl _))]
  exact row_eq fun k _ => (getD_app r k).symm
theorem p_grown {Hs : List (List Bool)} (g : GoodH Hs.length Hs) : ((m__law_grown [hsD Hs]).bind outN).bind (flR (.l (.l .d))) = .ok (hsD (grownH Hs)) := by
  have few := g.few
  have sh : m__law_grown [hsD Hs] = resM 0 (o__law_grown (hsD Hs)) := by
    unfold m__law_grown
    exact if_pos rfl
  have e : m__law_grown [hsD Hs] = .ok (.tuple [hsD (grownH Hs)]) := by
    rw [sh]
    unfold o__law_grown
    have it : itemsD (hsD Hs) = some (Hs.map fun r => PyData.list (r.map PyData.bool)) := rfl
    have mk1 : mkL [PyData.bool false] = some [.bool false] := rfl
    have lc := lc_map (A := fun r : List Bool => PyData.list (r.map PyData.bool)) (B := fun r : List Bool => PyData.list (r.map PyData.bool)) (xs := Hs) (f := fun v => (addR v (.list [.bool false])).bind fun x => .ok (.list x)) (h := fun r => r ++ [false]) (by unfold cap; omega) fun r hr => by
      have am : addR (.list (r.map PyData.bool)) (.list [.bool false]) = .ok ((r ++ [false]).map PyData.bool) := by
        show (if (r.map PyData.bool).length + [PyData.bool false].length ≤ cap then _ else _) = _
        rw [if_pos (by have := g.row r hr; rw [List.length_map, List.length_singleton]; unfold cap; omega), List.map_append]
        rfl
      rw [am]
      rfl
    have hl := hs_len Hs
    have rR : rng1 (.int ((Hs.length : Nat) + 1)) = some (rngL 0 (Hs.length + 1)) := rng1_nat (Hs.length + 1) (by omega)
    have lf := lc_fls (n := Hs.length + 1) (by omega)
    have il : ∀ xs : List D, isL (.list xs) = true := fun _ => rfl
    have sd : ∀ {β τ : Type} (y : D) (k : D → Fl β τ), setD (some y) k = k y := fun _ _ => rfl
    have ap : appU (.list ((Hs.map fun r => r ++ [false]).map fun r : List Bool => PyData.list (r.map PyData.bool)), id) (.list ((List.replicate (Hs.length + 1) false).map PyData.bool)) = some (hsD (grownH Hs)) := by
      show (if ((Hs.map fun r => r ++ [false]).map fun r : List Bool => PyData.list (r.map PyData.bool)).length < cap then some _ else none) = _
      rw [if_pos (by rw [List.length_map, List.length_map]; unfold cap; omega)]
      unfold hsD grownH
      rw [List.map_append]
      rfl
    simp -implicitDefEqProofs (maxSteps := 100000000) only [Res.bind_ok, Res.bindF_ok, Fl.bind_nx, Fl.up_rt, ofO_some, if_true, if_false, Bool.false_eq_true, Bool.not_true, Bool.not_false, decide_true, decide_false, asB_bool, intD_int, intD_bool, blO_bool, eqB_int, neB_int, eqB_bool, neB_bool, eqB_str, neB_str, ltB_int, leB_int, gtB_int, geB_int, addD_int, subD_int, lenD_l, lenD_t, List.length_map, mkL_nil, Int.toNat_natCast, Int.toNat_zero, Int.toNat_one, Int.reduceToNat, isNone, eq_self, and_self, itemsD_l, itemsD_t, it, mk1, lc, hl, rR, lf, il, ap, sd]
    rfl
  rw [outN_ok e]
  exact flR_ok (fl_hs _)
theorem ggrow {Hs : List (List Bool)} (g : GoodH Hs.length Hs) (h : Hs.length < 100) : (m_Heap_make [hpD (rowsOf Hs) (List.replicate Hs.length false)]).bind outM = .ok (.int (Hs.length : Nat), [hpD (rowsOf (grownH Hs)) (List.replicate (grownH Hs).length false)]) := by
  have mk := outM1 (p_hmake (rowsOf Hs) (List.replicate Hs.length false) (by rw [rows_len]; omega) (by rw [List.length_replicate]; omega))
  rw [grown_rows g, rep_up, rows_len] at mk
  rw [grown_len]
  exact mk
theorem law_true (ns : List Int) (hl : ns.length ≤ 63) : m_law [scrD ns] = .ok (.bool true) := by
  have main : Rt (o_law (scrD ns)) fun d => d = .bool true := by
    unfold o_law
    obtain ⟨row, hrow, R⟩ := p_draws ns hl
    have at_ : ∀ k : Nat, ∃ v : Nat, m__law_at [.list (iL row), .int (k : Nat)] = .ok (.int (v : Nat)) := fun k => by
      obtain ⟨a1, _⟩ := R.at_ k
      refine ⟨(row.getD k 0).toNat, ?_⟩
      rw [p_at]
      exact congrArg (fun z => Res.ok (PyData.int z)) (by omega)
    obtain ⟨A, hA⟩ := at_ 0
    obtain ⟨B, hB⟩ := at_ 1
    obtain ⟨C, hC⟩ := at_ 21
    have z0 : ((0 : Nat) : Int) = 0 := rfl
    have z1 : ((1 : Nat) : Int) = 1 := rfl
    have z21 : ((21 : Nat) : Int) = 21 := rfl
    rw [z0] at hA
    rw [z1] at hB
    rw [z21] at hC
    have m9 : modD (.int (A : Nat)) (.int 9) = some (.int ((A % 9 : Nat) : Int)) := modD_ok (by decide)
    have hn : A % 9 < 9 := Nat.mod_lt _ (by decide)
    have rR : rng1 (.int ((A % 9 : Nat) : Int)) = some (rngL 0 (A % 9)) := rng1_nat _ (by omega)
    have m13 : modD (.int (B : Nat)) (.int 13) = some (.int ((B % 13 : Nat) : Int)) := modD_ok (by decide)
    have h13 : B % 13 < 13 := Nat.mod_lt _ (by decide)
    have r13 : rng1 (.int ((B % 13 : Nat) : Int)) = some (rngL 0 (B % 13)) := rng1_nat _ (by omega)
    have e0 : hpD [] [] = hpD (rowsOf []) (List.replicate ([] : List (List Bool)).length false) := rfl
    have e1 : PyData.list [] = hsD [] := rfl
    simp -implicitDefEqProofs (maxSteps := 100000000) only [Res.bind_ok, Res.bindF_ok, Fl.bind_nx, Fl.up_rt, ofO_some, if_true, if_false, Bool.false_eq_true, Bool.not_true, Bool.not_false, decide_true, decide_false, asB_bool, intD_int, intD_bool, blO_bool, eqB_int, neB_int, eqB_bool, neB_bool, eqB_str, neB_str, ltB_int, leB_int, gtB_int, geB_int, addD_int, subD_int, lenD_l, lenD_t, List.length_map, mkL_nil, Int.toNat_natCast, Int.toNat_zero, Int.toNat_one, Int.reduceToNat, isNone, eq_self, and_self, itemsD_l, itemsD_t, hrow, hA, intD_int, m9, hp_new, rR, hB, m13, r13, e0, e1]
    generalize A % 9 = n at *
    generalize B % 13 = n13 at *
    have sd : ∀ {β τ : Type} (y : D) (k : D → Fl β τ), setD (some y) k = k y := fun _ _ => rfl
    have cu : ∀ {β τ : Type} (f : D → List D → Fl β τ) (a : D) (b : List D), curry2 f (a, b) = f a b := fun _ _ _ => rfl
    have nz : ∀ {β τ : Type} (z : D) (f : D → Fl β τ), nz1 .no [z] f = f z := fun _ _ => rfl
    have due : ∀ {Hs : List (List Bool)}, GoodH Hs.length Hs → ∀ M, ((liftM m__law_as_due [hpD (rowsOf Hs) M, hsD Hs]).bind outN).bind (flR .d) = .ok (.bool true) := fun {Hs} g M => lift_fl (p_as_due g M) rfl
    refine Rt.bind (Nx.loop (fun k (t : D × D) => ∃ Hs : List (List Bool), t = (hpD (rowsOf Hs) (List.replicate Hs.length false), hsD Hs) ∧ GoodH Hs.length Hs ∧ Hs.length = k) ⟨[], rfl, ⟨by decide, (fun r h => nomatch h), (fun r h => nomatch h)⟩, rfl⟩ ?_) ?_
    · rintro j x _ hx ⟨Hs, rfl, g, hlen⟩
      obtain ⟨hj, rfl⟩ := rng_at hx
      have mk := ggrow g (by omega)
      have gr := p_grown g
      simp -implicitDefEqProofs (maxSteps := 100000000) only [Res.bind_ok, Res.bindF_ok, Fl.bind_nx, Fl.up_rt, ofO_some, if_true, if_false, Bool.false_eq_true, Bool.not_true, Bool.not_false, decide_true, decide_false, asB_bool, intD_int, intD_bool, blO_bool, eqB_int, neB_int, eqB_bool, neB_bool, eqB_str, neB_str, ltB_int, leB_int, gtB_int, geB_int, addD_int, subD_int, lenD_l, lenD_t, List.length_map, mkL_nil, Int.toNat_natCast, Int.toNat_zero, Int.toNat_one, Int.reduceToNat, isNone, eq_self, and_self, itemsD_l, itemsD_t, hp_isC, mk, cu, nz, gr]
      exact Nx.mk ⟨grownH Hs, rfl, grown_good g (by omega), by rw [grown_len]; omega⟩
    rintro _ ⟨Hs, rfl, g, hlen⟩
    rw [rngL_len] at hlen
    refine Rt.bind (Nx.loop (fun k (t : D × D) => ∃ Hs : List (List Bool), t = (hpD (rowsOf Hs) (List.replicate Hs.length false), hsD Hs) ∧ GoodH Hs.length Hs ∧ Hs.length = n) ⟨Hs, rfl, g, hlen⟩ ?_) ?_
    · rintro j x _ hx ⟨Hs, rfl, g, hlen⟩
      obtain ⟨hj, rfl⟩ := rng_at hx
      rw [Int.zero_add]
      obtain ⟨w, hv⟩ := at_ (2 + j)
      have e2 : (((2 + j : Nat) : Nat) : Int) = 2 + (j : Nat) := by omega
      rw [e2] at hv
      simp -implicitDefEqProofs (maxSteps := 100000000) only [Res.bind_ok, Res.bindF_ok, Fl.bind_nx, Fl.up_rt, ofO_some, if_true, if_false, Bool.false_eq_true, Bool.not_true, Bool.not_false, decide_true, decide_false, asB_bool, intD_int, intD_bool, blO_bool, eqB_int, neB_int, eqB_bool, neB_bool, eqB_str, neB_str, ltB_int, leB_int, gtB_int, geB_int, addD_int, subD_int, lenD_l, lenD_t, List.length_map, mkL_nil, Int.toNat_natCast, Int.toNat_zero, Int.toNat_one, Int.reduceToNat, isNone, eq_self, and_self, itemsD_l, itemsD_t, hv, intD_int]
      by_cases q : (0 : Int) < (n : Nat)
      · have m1 : modD (.int (w : Nat)) (.int (n : Nat)) = some (.int ((w % n : Nat) : Int)) := modD_ok q
        have d10 : fdivD (.int (w : Nat)) (.int 10) = some (.int ((w / 10 : Nat) : Int)) := fdivD_ok (by decide) (by decide)
        have m3 : modD (.int ((w / 10 : Nat) : Int)) (.int (n : Nat)) = some (.int ((w / 10 % n : Nat) : Int)) := modD_ok q
        have ha : w % n < n := Nat.mod_lt _ (by omega)
        have hb : w / 10 % n < n := Nat.mod_lt _ (by omega)
        have s1 := hs_ix (G := Hs) (i := w % n) (by omega)
        have s2 := ixP_set (G := Hs) (i := w % n) (l := w / 10 % n) (by rw [(g.at_ (by omega)).1]; omega) true
        have pp := gput g (Nat.le_refl _) (List.replicate Hs.length false) (i := w % n) (j := w / 10 % n) (by omega) (by omega)
        simp -implicitDefEqProofs (maxSteps := 100000000) only [Res.bind_ok, Res.bindF_ok, Fl.bind_nx, Fl.up_rt, ofO_some, if_true, if_false, Bool.false_eq_true, Bool.not_true, Bool.not_false, decide_true, decide_false, asB_bool, intD_int, intD_bool, blO_bool, eqB_int, neB_int, eqB_bool, neB_bool, eqB_str, neB_str, ltB_int, leB_int, gtB_int, geB_int, addD_int, subD_int, lenD_l, lenD_t, List.length_map, mkL_nil, Int.toNat_natCast, Int.toNat_zero, Int.toNat_one, Int.reduceToNat, isNone, eq_self, and_self, itemsD_l, itemsD_t, q, decide_eq_true q, m1, d10, m3, s1, s2, sd, hp_isC, pp, cu, nz]
        refine Nx.mk ⟨Hs2 Hs (w % n) (w / 10 % n) true, ?_, ?_, by rw [hs2_len]; exact hlen⟩
        · rw [hs2_len]
        · rw [hs2_len]
          exact g.set_ (by omega) (by omega) true
      · simp -implicitDefEqProofs (maxSteps := 100000000) only [Res.bind_ok, Res.bindF_ok, Fl.bind_nx, Fl.up_rt, ofO_some, if_true, if_false, Bool.false_eq_true, Bool.not_true, Bool.not_false, decide_true, decide_false, asB_bool, intD_int, intD_bool, blO_bool, eqB_int, neB_int, eqB_bool, neB_bool, eqB_str, neB_str, ltB_int, leB_int, gtB_int, geB_int, addD_int, subD_int, lenD_l, lenD_t, List.length_map, mkL_nil, Int.toNat_natCast, Int.toNat_zero, Int.toNat_one, Int.reduceToNat, isNone, eq_self, and_self, itemsD_l, itemsD_t, q, decide_eq_false q]
        exact Nx.mk ⟨Hs, rfl, g, hlen⟩
    rintro _ ⟨Hs, rfl, g, hlen⟩
    have du := due g (List.replicate Hs.length false)
    have r6 : rng1 (.int 6) = some (rngL 0 6) := rng1_nat 6 (by decide)
    simp -implicitDefEqProofs (maxSteps := 100000000) only [Res.bind_ok, Res.bindF_ok, Fl.bind_nx, Fl.up_rt, ofO_some, if_true, if_false, Bool.false_eq_true, Bool.not_true, Bool.not_false, decide_true, decide_false, asB_bool, intD_int, intD_bool, blO_bool, eqB_int, neB_int, eqB_bool, neB_bool, eqB_str, neB_str, ltB_int, leB_int, gtB_int, geB_int, addD_int, subD_int, lenD_l, lenD_t, List.length_map, mkL_nil, Int.toNat_natCast, Int.toNat_zero, Int.toNat_one, Int.reduceToNat, isNone, eq_self, and_self, itemsD_l, itemsD_t, du, r6]
    refine Rt.bind (Nx.loop (fun k (t : D × D × D) => ∃ Hs : List (List Bool), t.2.1 = hpD (rowsOf Hs) (List.replicate Hs.length false) ∧ t.2.2 = hsD Hs ∧ GoodH Hs.length Hs ∧ Hs.length ≤ n + k ∧ (0 < k → 0 < Hs.length)) ⟨Hs, rfl, rfl, g, by omega, fun z => by omega⟩ ?_) ?_
    · rintro j x ⟨t1, t2, t3⟩ hx ⟨Hs, ea, eb, g, hlen, hpos⟩
      have ea : t2 = hpD (rowsOf Hs) (List.replicate Hs.length false) := ea
      have eb : t3 = hsD Hs := eb
      subst ea eb
      obtain ⟨hj, rfl⟩ := rng_at hx
      rw [Int.zero_add]
      obtain ⟨w, hv⟩ := at_ (15 + j)
      have e2 : (((15 + j : Nat) : Nat) : Int) = 15 + (j : Nat) := by omega
      rw [e2] at hv
      have hl2 := hs_len Hs
      have m5 : modD (.int (w : Nat)) (.int 5) = some (.int ((w % 5 : Nat) : Int)) := modD_ok (by decide)
      simp -implicitDefEqProofs (maxSteps := 100000000) only [Res.bind_ok, Res.bindF_ok, Fl.bind_nx, Fl.up_rt, ofO_some, if_true, if_false, Bool.false_eq_true, Bool.not_true, Bool.not_false, decide_true, decide_false, asB_bool, intD_int, intD_bool, blO_bool, eqB_int, neB_int, eqB_bool, neB_bool, eqB_str, neB_str, ltB_int, leB_int, gtB_int, geB_int, addD_int, subD_int, lenD_l, lenD_t, List.length_map, mkL_nil, Int.toNat_natCast, Int.toNat_zero, Int.toNat_one, Int.reduceToNat, isNone, eq_self, and_self, itemsD_l, itemsD_t, hv, intD_int, hl2]
      have grow : ∀ (P : Prop), (∀ h hs, (h, hs) = (hpD (rowsOf (grownH Hs)) (List.replicate (grownH Hs).length false), hsD (grownH Hs)) → P) → P := fun P k => k _ _ rfl
      have mk := ggrow g (by omega)
      have gr := p_grown g
      have gg := grown_good g (by omega)
      have dg := due gg (List.replicate (grownH Hs).length false)
      have gl := grown_len Hs
      by_cases q0 : ((Hs.length : Nat) : Int) = 0
      · simp -implicitDefEqProofs (maxSteps := 100000000) only [Res.bind_ok, Res.bindF_ok, Fl.bind_nx, Fl.up_rt, ofO_some, if_true, if_false, Bool.false_eq_true, Bool.not_true, Bool.not_false, decide_true, decide_false, asB_bool, intD_int, intD_bool, blO_bool, eqB_int, neB_int, eqB_bool, neB_bool, eqB_str, neB_str, ltB_int, leB_int, gtB_int, geB_int, addD_int, subD_int, lenD_l, lenD_t, List.length_map, mkL_nil, Int.toNat_natCast, Int.toNat_zero, Int.toNat_one, Int.reduceToNat, isNone, eq_self, and_self, itemsD_l, itemsD_t, q0, hp_isC, mk, cu, nz, gr, dg]
        exact ⟨(_, hpD (rowsOf (grownH Hs)) (List.replicate (grownH Hs).length false), hsD (grownH Hs)), rfl, grownH Hs, rfl, rfl, gg, by omega, fun _ => by omega⟩
      by_cases q5 : ((w % 5 : Nat) : Int) = 0
      · simp -implicitDefEqProofs (maxSteps := 100000000) only [Res.bind_ok, Res.bindF_ok, Fl.bind_nx, Fl.up_rt, ofO_some, if_true, if_false, Bool.false_eq_true, Bool.not_true, Bool.not_false, decide_true, decide_false, asB_bool, intD_int, intD_bool, blO_bool, eqB_int, neB_int, eqB_bool, neB_bool, eqB_str, neB_str, ltB_int, leB_int, gtB_int, geB_int, addD_int, subD_int, lenD_l, lenD_t, List.length_map, mkL_nil, Int.toNat_natCast, Int.toNat_zero, Int.toNat_one, Int.reduceToNat, isNone, eq_self, and_self, itemsD_l, itemsD_t, q0, decide_eq_false q0, m5, q5, hp_isC, mk, cu, nz, gr, dg]
        exact ⟨(_, hpD (rowsOf (grownH Hs)) (List.replicate (grownH Hs).length false), hsD (grownH Hs)), rfl, grownH Hs, rfl, rfl, gg, by omega, fun _ => by omega⟩
      · have q : (0 : Int) < (Hs.length : Nat) := by omega
        have d5 : fdivD (.int (w : Nat)) (.int 5) = some (.int ((w / 5 : Nat) : Int)) := fdivD_ok (by decide) (by decide)
        have d50 : fdivD (.int (w : Nat)) (.int 50) = some (.int ((w / 50 : Nat) : Int)) := fdivD_ok (by decide) (by decide)
        have m1 : modD (.int ((w / 5 : Nat) : Int)) (.int (Hs.length : Nat)) = some (.int ((w / 5 % Hs.length : Nat) : Int)) := modD_ok q
        have m3 : modD (.int ((w / 50 : Nat) : Int)) (.int (Hs.length : Nat)) = some (.int ((w / 50 % Hs.length : Nat) : Int)) := modD_ok q
        have ha : w / 5 % Hs.length < Hs.length := Nat.mod_lt _ (by omega)
        have hb : w / 50 % Hs.length < Hs.length := Nat.mod_lt _ (by omega)
        generalize w / 5 % Hs.length = a at *
        generalize w / 50 % Hs.length = b at *
        have s1 := hs_ix (G := Hs) (i := a) ha
        have s2 := fun v => ixP_set (G := Hs) (i := a) (l := b) (by rw [(g.at_ ha).1]; exact hb) v
        have pp := gput g (Nat.le_refl _) (List.replicate Hs.length false) (i := a) (j := b) ha hb
        have pc := gcut g (List.replicate Hs.length false) (i := a) (j := b) ha hb
        have gs := fun v => g.set_ (i := a) (j := b) ha hb v
        have ls := fun v => hs2_len Hs a b v
        have gs2 : ∀ v, GoodH (Hs2 Hs a b v).length (Hs2 Hs a b v) := fun v => by rw [ls v]; exact gs v
        have dT := due (gs2 true) (List.replicate Hs.length false)
        have dF := due (gs2 false) (List.replicate Hs.length false)
        by_cases q3 : ((w % 5 : Nat) : Int) < 3
        · have s3 := s2 true
          simp -implicitDefEqProofs (maxSteps := 100000000) only [Res.bind_ok, Res.bindF_ok, Fl.bind_nx, Fl.up_rt, ofO_some, if_true, if_false, Bool.false_eq_true, Bool.not_true, Bool.not_false, decide_true, decide_false, asB_bool, intD_int, intD_bool, blO_bool, eqB_int, neB_int, eqB_bool, neB_bool, eqB_str, neB_str, ltB_int, leB_int, gtB_int, geB_int, addD_int, subD_int, lenD_l, lenD_t, List.length_map, mkL_nil, Int.toNat_natCast, Int.toNat_zero, Int.toNat_one, Int.reduceToNat, isNone, eq_self, and_self, itemsD_l, itemsD_t, q0, decide_eq_false q0, m5, q5, decide_eq_false q5, q3, decide_eq_true q3, d5, d50, m1, m3, s1, s3, sd, hp_isC, pp, cu, nz, dT]
          exact ⟨(_, hpD (rowsOf (Hs2 Hs a b true)) (List.replicate Hs.length false), hsD (Hs2 Hs a b true)), rfl, Hs2 Hs a b true, by rw [ls], rfl, gs2 true, by rw [ls]; omega, fun _ => by rw [ls]; omega⟩
        · have s3 := s2 false
          simp -implicitDefEqProofs (maxSteps := 100000000) only [Res.bind_ok, Res.bindF_ok, Fl.bind_nx, Fl.up_rt, ofO_some, if_true, if_false, Bool.false_eq_true, Bool.not_true, Bool.not_false, decide_true, decide_false, asB_bool, intD_int, intD_bool, blO_bool, eqB_int, neB_int, eqB_bool, neB_bool, eqB_str, neB_str, ltB_int, leB_int, gtB_int, geB_int, addD_int, subD_int, lenD_l, lenD_t, List.length_map, mkL_nil, Int.toNat_natCast, Int.toNat_zero, Int.toNat_one, Int.reduceToNat, isNone, eq_self, and_self, itemsD_l, itemsD_t, q0, decide_eq_false q0, m5, q5, decide_eq_false q5, q3, decide_eq_false q3, d5, d50, m1, m3, s1, s3, sd, hp_isC, pc, cu, nz, dF]
          exact ⟨(_, hpD (rowsOf (Hs2 Hs a b false)) (List.replicate Hs.length false), hsD (Hs2 Hs a b false)), rfl, Hs2 Hs a b false, by rw [ls], rfl, gs2 false, by rw [ls]; omega, fun _ => by rw [ls]; omega⟩
    · rintro ⟨t1, t2, t3⟩ ⟨Hs, ea, eb, g, hlen, hpos⟩
      have ea : t2 = hpD (rowsOf Hs) (List.replicate Hs.length false) := ea
      have eb : t3 = hsD Hs := eb
      subst ea eb
      rw [rngL_len] at hpos
      have pos := hpos (by decide)
      have hl2 := hs_len Hs
      have m1 : modD (.int (C : Nat)) (.int (Hs.length : Nat)) = some (.int ((C % Hs.length : Nat) : Int)) := modD_ok (by omega)
      have ha : C % Hs.length < Hs.length := Nat.mod_lt _ pos
      obtain ⟨f, e, hf, h⟩ := p_hreach (okl_rows g) (List.replicate Hs.length false) (i := C % Hs.length) (by rw [rows_len]; exact ha)
      obtain ⟨M', hh, _⟩ := p_hhand e (by rw [List.length_replicate, rows_len]) (okl_rows g).1 (List.find?_eq_none.mpr fun x _ => by rw [rep_getD]; decide)
      have hh2 := outM1 hh
      have du := due g M'
      have fin := p_as_due g M'
      have tw := outN_ok (p_htwin (rowsOf Hs) M' (by rw [rows_len]; have := g.few; omega))
      have fh := flR_ok (fl_hp (rowsOf Hs) M')
      simp -implicitDefEqProofs (maxSteps := 100000000) only [Res.bind_ok, Res.bindF_ok, Fl.bind_nx, Fl.up_rt, ofO_some, if_true, if_false, Bool.false_eq_true, Bool.not_true, Bool.not_false, decide_true, decide_false, asB_bool, intD_int, intD_bool, blO_bool, eqB_int, neB_int, eqB_bool, neB_bool, eqB_str, neB_str, ltB_int, leB_int, gtB_int, geB_int, addD_int, subD_int, lenD_l, lenD_t, List.length_map, mkL_nil, Int.toNat_natCast, Int.toNat_zero, Int.toNat_one, Int.reduceToNat, isNone, eq_self, and_self, itemsD_l, itemsD_t, hl2, hC, intD_int, m1, hp_isC, hh2, cu, nz, du, tw, fh, fin]
      exact Rt.mk rfl
  obtain ⟨d, e, rfl⟩ := main.res
  exact e
end NS
namespace NS
open L2 Mi PySem PySem.Spec PyProof.Rows
theorem tx_of {w : World} {K : PySem.W.Frag} {h : Heap} {mg : Str → Option Value} (X : K.In h) (G : h.Ns mainGlobals mg) (c : SaysMX exB fns fxs tabs w K) : TX (PySem.Challenge.rw_onehandparts_k54_islands).prog w K mg := by
  have c0 := c.more
  obtain ⟨c1, c2⟩ := He.ba c0
  obtain ⟨c2, c3⟩ := He.ba c2
  have at_ : ∀ f ∈ fa, f.ok K = true := fun f hf => List.all_eq_true.mp c1 f hf
  exact ⟨He.free_ok X G (at_ (.free "bool") (List.mem_of_getElem? (i := 0) rfl)),
    He.free_ok X G (at_ (.free "int") (List.mem_of_getElem? (i := 1) rfl)),
    He.free_ok X G (at_ (.free "isinstance") (List.mem_of_getElem? (i := 2) rfl)),
    He.free_ok X G (at_ (.free "len") (List.mem_of_getElem? (i := 3) rfl)),
    He.free_ok X G (at_ (.free "list") (List.mem_of_getElem? (i := 4) rfl)),
    He.free_ok X G (at_ (.free "min") (List.mem_of_getElem? (i := 5) rfl)),
    He.free_ok X G (at_ (.free "range") (List.mem_of_getElem? (i := 6) rfl)),
    He.free_ok X G (at_ (.free "super") (List.mem_of_getElem? (i := 7) rfl)),
    He.glo_ok X G (at_ (.glo "BadObject") (List.mem_of_getElem? (i := 26) rfl)),
    c.defS 0,
    xe_ok c3 (List.mem_of_getElem? (i := 0) rfl),
    He.glo_ok X G (at_ (.glo "Fault") (List.mem_of_getElem? (i := 27) rfl)),
    c.defS 1,
    xe_ok c3 (List.mem_of_getElem? (i := 1) rfl),
    ⟨by kernel_rfl, by kernel_rfl⟩,
    xf_ok c3,
    cis_ok c2,
    ⟨He.glo_ok X G (at_ (.glo "Heap") (List.mem_of_getElem? (i := 15) rfl)), He.mkr_ok (at_ (.mkr "Heap") (List.mem_of_getElem? (i := 16) rfl))⟩,
    c.def_ 0,
    He.glo_ok X G (at_ (.glo "_law_draws") (List.mem_of_getElem? (i := 8) rfl)),
    c.def_ 1,
    He.meth_ok (at_ (.meth "Heap" "check") (List.mem_of_getElem? (i := 17) rfl)),
    c.def_ 2,
    He.meth_ok (at_ (.meth "Heap" "reach") (List.mem_of_getElem? (i := 18) rfl)),
    c.def_ 3,
    He.meth_ok (at_ (.meth "Heap" "touch") (List.mem_of_getElem? (i := 19) rfl)),
    c.def_ 4,
    He.meth_ok (at_ (.meth "Heap" "hand") (List.mem_of_getElem? (i := 20) rfl)),
    c.def_ 5,
    He.meth_ok (at_ (.meth "Heap" "make") (List.mem_of_getElem? (i := 21) rfl)),
    c.def_ 6,
    He.glo_ok X G (at_ (.glo "_law_grown") (List.mem_of_getElem? (i := 9) rfl)),
    c.def_ 7,
    He.glo_ok X G (at_ (.glo "_law_numbers") (List.mem_of_getElem? (i := 10) rfl)),
    c.def_ 8,
    He.glo_ok X G (at_ (.glo "spread") (List.mem_of_getElem? (i := 11) rfl)),
    c.def_ 9,
    He.meth_ok (at_ (.meth "Heap" "islands") (List.mem_of_getElem? (i := 22) rfl)),
    c.def_ 10,
    He.glo_ok X G (at_ (.glo "_law_as_due") (List.mem_of_getElem? (i := 12) rfl)),
    c.def_ 11,
    He.glo_ok X G (at_ (.glo "_law_at") (List.mem_of_getElem? (i := 13) rfl)),
    c.def_ 12,
    He.meth_ok (at_ (.meth "Heap" "put") (List.mem_of_getElem? (i := 23) rfl)),
    c.def_ 13,
    He.meth_ok (at_ (.meth "Heap" "twin") (List.mem_of_getElem? (i := 24) rfl)),
    c.def_ 14,
    He.meth_ok (at_ (.meth "Heap" "cut") (List.mem_of_getElem? (i := 25) rfl)),
    c.def_ 15,
    He.glo_ok X G (at_ (.glo "law") (List.mem_of_getElem? (i := 14) rfl)),
    c.def_ 16⟩
end NS
open PyProof.Rows PySem.Calls PySem.W PySem
theorem PySem.Challenge.cw_onehandparts_k54_islands_holds : PySem.Challenge.rw_onehandparts_k54_islands.Holds := by
  w_on; o_law
  refine HandSHeadRun.head_any (r := PySem.W.OpenLaw.row PySem.Challenge.rw_onehandparts_k54_islands) (q := PySem.W.view (PySem.W.OpenLaw.row PySem.Challenge.rw_onehandparts_k54_islands).prog [14]) (H := NS.hk) (ob := NS.ob) (M := 20000) (loose := NS.loose) (d := HandSHeadRun.topDef (PySem.W.OpenLaw.row PySem.Challenge.rw_onehandparts_k54_islands).prog 14) (kwd := []) NS.ob_eq
    (by kernel_rfl) (fun s => by kernel_rfl) NS.run (by kernel_rfl) (by kernel_rfl) (by kernel_rfl) (by rfl) (by first | assumption | decide +kernel) (by decide +kernel) ⟨rfl, rfl, rfl, rfl, rfl, by decide +kernel⟩ ?hw ?hc
  case hw => w_witness2
  case hc =>
    refine L2.walk_ofE (l := PySem.Challenge.rw_onehandparts_k54_islands) (n := 63) (k := 7) (x := "_law_script") (CX := L2.CX0) rfl (by decide) (by kernel_rfl) ⟨rfl, by decide, by decide⟩ ?F (fun _ _ _ _ z => z)
    intro w mg fa h Y G hmg0
    obtain ⟨K, KX, c⟩ := Y
    have hmg : mg ("law" : PySem.Str) = some (.ref fa) := by
      have e : (HandSHeadRun.topDef (PySem.W.OpenLaw.row PySem.Challenge.rw_onehandparts_k54_islands).prog 14).name = ("law" : PySem.Str) := by kernel_rfl
      rw [← e]
      exact hmg0
    have T := NS.tx_of (w := w) KX G c
    have e1 := hmg.symm.trans T.g_law
    cases e1
    obtain ⟨fd, F⟩ := T.f_law
    have hF : ∀ base : PySem.Heap, L2.FnOk (PySem.Challenge.rw_onehandparts_k54_islands).prog w K mg base L2.CX0 7 (He.ga K "law") fd ["_law_script"] (fun vs H Q _ => Mi.spD (NS.gm K w) NS.m_law vs H Q fun _ _ _ => False) := fun base => Mi.calm_of (NS.okf_law (w := w) (P := (PySem.Challenge.rw_onehandparts_k54_islands).prog) (base := base) T F)
    exact ⟨K, fd, fun vs H Q _ => Mi.spD (NS.gm K w) NS.m_law vs H Q fun _ _ _ => False, KX, fun s u => (L2.FunD.bindsA (ps := ["_law_script"]) F fun _ _ _ _ _ _ us hl => match us, hl with | [_], _ => rfl) s [u] rfl, fun H a ns hl _ hS => Mi.law_sp hS (NS.law_true ns hl), fun base _ _ => hF base⟩
